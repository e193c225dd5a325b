import PyProof.Rows.All
import Wide.All
import OpenK.AllK
import Wide.FinOn
import HandS.ForMost
import HandS.ForExc
import HandS.Deep
import HandS.Wide
import HandS.IsInst
import HandS.SetFor
import HandS.Conv
import HandS.SortInts
import HandS.Style
import HandS.WideBits
import PySem.Challenge.RW_holdfast_k18_held_beside
set_option Elab.async false
set_option linter.all false
set_option maxRecDepth 100000
set_option autoImplicit false
/-! A middle level over the hand layer: values as data, mutable things as numbered cells, a run as a total function. -/
namespace Md
open PySem PySem.Spec PyProof.Rows L2

/-- data; hnd k: the k-th mutable thing; scr: the law's script -/
inductive D where
  | non | bl (b : Bool) | int (i : Int) | str (x : Str) | lst (xs : List D) | tup (xs : List D) | scr (ns : List Int) | hnd (k : Nat)
/-- what is raised: the class's name, its value place -/
structure Exn where
  c : Str
  pl : Option D
inductive Cell where
  | lst (xs : List D)
  | dK (kvs : List (Key × D))
  | dT (kvs : List (List Key × D))
  | ins (c : Str) (fs : List (Str × D))
abbrev Mem := List (Option Cell)
inductive Res (α : Type) where
  | ok (a : α) (μ : Mem)
  | exc (x : Exn) (μ : Mem)
  | bad
def Res.bind {α β : Type} (r : Res α) (f : α → Mem → Res β) : Res β := match r with
  | .ok a μ => f a μ
  | .exc x μ => .exc x μ
  | .bad => .bad
theorem Res.bind_ok {α β : Type} {a : α} {μ : Mem} {f : α → Mem → Res β} : (Res.ok a μ).bind f = f a μ := rfl
theorem Res.bind_exc {α β : Type} {x : Exn} {μ : Mem} {f : α → Mem → Res β} : (Res.exc x μ : Res α).bind f = .exc x μ := rfl
theorem Res.bind_bad {α β : Type} {f : α → Mem → Res β} : (Res.bad : Res α).bind f = .bad := rfl
abbrev DEnv := List (Option D)
abbrev EM := DEnv → Mem → Res D
abbrev AM := DEnv → Mem → Res (List D)
abbrev TM := DEnv → Mem → Res Bool
abbrev GM := D → DEnv → Mem → Res DEnv
inductive Fl where
  | nx (ρ : DEnv) | rt (d : D) | bk (ρ : DEnv) | ct (ρ : DEnv)
abbrev SM := DEnv → Mem → Res Fl

/-! ### what stands for what -/
mutual
def RepV (K : PySem.W.Frag) (G : Hp) (ι : List Addr) : V → D → Prop
  | v, .non => v = .non
  | v, .bl b => v = .bl b
  | v, .int i => v = .int i
  | v, .str x => v = .str x
  | v, .lst ds => ∃ a vs, v = .ref a ∧ G a = some (.lst vs) ∧ RepVs K G ι vs ds
  | v, .tup ds => ∃ a vs, v = .ref a ∧ SqT K G a vs ∧ RepVs K G ι vs ds
  | v, .scr ns => ∃ a, v = .ref a ∧ SqL K G a (ns.map V.int)
  | v, .hnd k => ∃ a, v = .ref a ∧ ι[k]? = some a
def RepVs (K : PySem.W.Frag) (G : Hp) (ι : List Addr) : List V → List D → Prop
  | vs, [] => vs = []
  | vs, d :: ds => ∃ v r, vs = v :: r ∧ RepV K G ι v d ∧ RepVs K G ι r ds
end
section
variable {K : PySem.W.Frag} {G G' : Hp} {ι ι' : List Addr}
theorem Same.sqT {H H' : Hp} {a : Addr} {xs : List V} (e : Same H H') (h : SqT K H a xs) : SqT K H' a xs := by
  rcases h with (h | ⟨o, h⟩) | h
  · exact .inl (.inl (e _ _ h))
  · exact .inl (.inr ⟨o, e _ _ h⟩)
  · exact .inr h
/-- more is known -/
structure Ext (G : Hp) (ι : List Addr) (G' : Hp) (ι' : List Addr) : Prop where
  g : Same G G'
  i : ι <+: ι'
theorem Ext.refl (G : Hp) (ι : List Addr) : Ext G ι G ι := ⟨Same.refl G, List.prefix_refl ι⟩
theorem Ext.trans {G1 G2 G3 : Hp} {i1 i2 i3 : List Addr} (a : Ext G1 i1 G2 i2) (b : Ext G2 i2 G3 i3) : Ext G1 i1 G3 i3 := ⟨a.g.trans b.g, a.i.trans b.i⟩
theorem pre_get {l l' : List Addr} (h : l <+: l') {k : Nat} {a : Addr} (e : l[k]? = some a) : l'[k]? = some a := by
  obtain ⟨t, rfl⟩ := h
  rw [List.getElem?_append_left (List.getElem?_eq_some_iff.mp e).1]
  exact e
mutual
theorem RepV.mono (x : Ext G ι G' ι') : ∀ (v : V) (d : D), RepV K G ι v d → RepV K G' ι' v d
  | v, .non, h => h
  | v, .bl b, h => h
  | v, .int i, h => h
  | v, .str z, h => h
  | v, .lst ds, h => by
    obtain ⟨a, vs, e, hg, r⟩ := h
    exact ⟨a, vs, e, x.g _ _ hg, RepVs.mono x vs ds r⟩
  | v, .tup ds, h => by
    obtain ⟨a, vs, e, hg, r⟩ := h
    exact ⟨a, vs, e, Same.sqT x.g hg, RepVs.mono x vs ds r⟩
  | v, .scr ns, h => by
    obtain ⟨a, e, hg⟩ := h
    exact ⟨a, e, x.g.seq hg⟩
  | v, .hnd k, h => by
    obtain ⟨a, e, hg⟩ := h
    exact ⟨a, e, pre_get x.i hg⟩
theorem RepVs.mono (x : Ext G ι G' ι') : ∀ (vs : List V) (ds : List D), RepVs K G ι vs ds → RepVs K G' ι' vs ds
  | vs, [], h => h
  | vs, d :: ds, h => by
    obtain ⟨v, r, e, h1, h2⟩ := h
    exact ⟨v, r, e, RepV.mono x v d h1, RepVs.mono x r ds h2⟩
end
theorem RepVs.length : ∀ {vs : List V} {ds : List D}, RepVs K G ι vs ds → vs.length = ds.length
  | vs, [], h => by cases h; rfl
  | vs, d :: ds, h => by
    obtain ⟨v, r, rfl, h1, h2⟩ := h
    simp [RepVs.length h2]
theorem RepVs.get : ∀ {vs : List V} {ds : List D} {i : Nat} {d : D}, RepVs K G ι vs ds → ds[i]? = some d → ∃ v, vs[i]? = some v ∧ RepV K G ι v d
  | vs, [], i, d, h, e => by simp at e
  | vs, c :: ds, i, d, h, e => by
    obtain ⟨v, r, rfl, h1, h2⟩ := h
    cases i with
    | zero => simp at e; subst e; exact ⟨v, rfl, h1⟩
    | succ i => simpa using RepVs.get (i := i) h2 (by simpa using e)
theorem RepVs.append : ∀ {vs : List V} {ds : List D} {vs' : List V} {ds' : List D}, RepVs K G ι vs ds → RepVs K G ι vs' ds' → RepVs K G ι (vs ++ vs') (ds ++ ds')
  | vs, [], vs', ds', h, h' => by cases h; exact h'
  | vs, d :: ds, vs', ds', h, h' => by
    obtain ⟨v, r, rfl, h1, h2⟩ := h
    exact ⟨v, r ++ vs', rfl, h1, RepVs.append h2 h'⟩
theorem RepVs.set : ∀ {vs : List V} {ds : List D} {v : V} {d : D} (i : Nat), RepVs K G ι vs ds → RepV K G ι v d → RepVs K G ι (vs.set i v) (ds.set i d)
  | vs, [], v, d, i, h, h' => by cases h; exact rfl
  | vs, c :: ds, v, d, i, h, h' => by
    obtain ⟨x, r, rfl, h1, h2⟩ := h
    cases i with
    | zero => exact ⟨v, r, rfl, h', h2⟩
    | succ i => exact ⟨x, r.set i v, rfl, h1, RepVs.set i h2 h'⟩
theorem RepVs.take : ∀ {vs : List V} {ds : List D} (n : Nat), RepVs K G ι vs ds → RepVs K G ι (vs.take n) (ds.take n)
  | vs, [], n, h => by cases h; simp [RepVs]
  | vs, c :: ds, n, h => by
    obtain ⟨x, r, rfl, h1, h2⟩ := h
    cases n with
    | zero => exact rfl
    | succ n => exact ⟨x, r.take n, rfl, h1, RepVs.take n h2⟩
theorem RepVs.drop : ∀ {vs : List V} {ds : List D} (n : Nat), RepVs K G ι vs ds → RepVs K G ι (vs.drop n) (ds.drop n)
  | vs, [], n, h => by cases h; simp [RepVs]
  | vs, c :: ds, n, h => by
    obtain ⟨x, r, rfl, h1, h2⟩ := h
    cases n with
    | zero => exact ⟨x, r, rfl, h1, h2⟩
    | succ n => exact RepVs.drop n h2
theorem RepVs.reverse : ∀ {vs : List V} {ds : List D}, RepVs K G ι vs ds → RepVs K G ι vs.reverse ds.reverse
  | vs, [], h => by cases h; exact rfl
  | vs, c :: ds, h => by
    obtain ⟨x, r, rfl, h1, h2⟩ := h
    rw [List.reverse_cons, List.reverse_cons]
    exact RepVs.append (RepVs.reverse h2) ⟨x, [], rfl, h1, rfl⟩
theorem RepVs.ints : ∀ (ns : List Int), RepVs K G ι (ns.map V.int) (ns.map D.int)
  | [] => rfl
  | n :: ns => ⟨.int n, _, rfl, rfl, RepVs.ints ns⟩

/-! ### what stands in a cell -/
def RepF (K : PySem.W.Frag) (G : Hp) (ι : List Addr) {κ : Type} : List (κ × V) → List (κ × D) → Prop
  | vs, [] => vs = []
  | vs, (f, d) :: ds => ∃ v r, vs = (f, v) :: r ∧ RepV K G ι v d ∧ RepF K G ι r ds
theorem RepF.mono (x : Ext G ι G' ι') {κ : Type} : ∀ {vs : List (κ × V)} {ds : List (κ × D)}, RepF K G ι vs ds → RepF K G' ι' vs ds
  | vs, [], h => h
  | vs, (f, d) :: ds, h => by
    obtain ⟨v, r, e, h1, h2⟩ := h
    exact ⟨v, r, e, RepV.mono x v d h1, RepF.mono x h2⟩
def RepC (K : PySem.W.Frag) (mg : Str → Option Value) (G : Hp) (ι : List Addr) (o : HO) : Cell → Prop
  | .lst ds => ∃ vs, o = .lst vs ∧ RepVs K G ι vs ds
  | .dK ds => ∃ vs, o = .dK vs ∧ RepF K G ι vs ds
  | .dT ds => ∃ vs, o = .dT vs ∧ RepF K G ι vs ds
  | .ins c ds => ∃ C dx vs, o = .ins C dx vs ∧ mg c = some (.ref C) ∧ RepF K G ι vs ds
theorem RepC.mono {mg : Str → Option Value} {o : HO} (x : Ext G ι G' ι') : ∀ {c : Cell}, RepC K mg G ι o c → RepC K mg G' ι' o c
  | .lst ds, ⟨vs, e, r⟩ => ⟨vs, e, RepVs.mono x _ _ r⟩
  | .dK ds, ⟨vs, e, r⟩ => ⟨vs, e, RepF.mono x r⟩
  | .dT ds, ⟨vs, e, r⟩ => ⟨vs, e, RepF.mono x r⟩
  | .ins c ds, ⟨C, dx, vs, e, m, r⟩ => ⟨C, dx, vs, e, m, RepF.mono x r⟩
end

/-- F: what stays as it is whatever the def does; G0: the data ahead; G: the data now; ι: where the cells stand -/
structure Rep (K : PySem.W.Frag) (mg : Str → Option Value) (F G0 G : Hp) (ι : List Addr) (μ : Mem) (H : Hp) : Prop where
  g0 : Same G0 G
  g : Same G H
  f : Same F H
  nw : ∀ a, F a ≠ none → G a ≠ none → G0 a ≠ none
  len : ι.length = μ.length
  live : ∀ (k : Nat) (c : Cell) (a : Addr), μ[k]? = some (some c) → ι[k]? = some a → G a = none ∧ F a = none ∧ ∃ o, H a = some o ∧ RepC K mg G ι o c
  inj : ∀ (j k : Nat) (c c' : Cell) (a : Addr), μ[j]? = some (some c) → μ[k]? = some (some c') → ι[j]? = some a → ι[k]? = some a → j = k
section
variable {K : PySem.W.Frag} {mg : Str → Option Value} {F G0 G : Hp} {ι : List Addr} {μ : Mem} {H : Hp}
theorem Rep.at (r : Rep K mg F G0 G ι μ H) {k : Nat} {c : Cell} (h : μ[k]? = some (some c)) : ∃ a, ι[k]? = some a ∧ G a = none ∧ F a = none ∧ ∃ o, H a = some o ∧ RepC K mg G ι o c := by
  have hk : k < ι.length := by rw [r.len]; exact (List.getElem?_eq_some_iff.mp h).1
  exact ⟨ι[k], List.getElem?_eq_getElem hk, r.live k c _ h (List.getElem?_eq_getElem hk)⟩
theorem Rep.newF (r : Rep K mg F G0 G ι μ H) {p : Addr} (hp : H p = none) : F p = none := r.f.free hp
theorem Rep.newG (r : Rep K mg F G0 G ι μ H) {p : Addr} (hp : H p = none) : G p = none := r.g.free hp
theorem same_upd {H : Hp} {p : Addr} {o : HO} (h : H p = none) : Same H (upd H p o) := fun b x e => by
  rw [upd_ne (ne_of_none e h)]
  exact e
theorem upd_mono {G H : Hp} {p : Addr} {o : HO} (h : Same G H) : Same (upd G p o) (upd H p o) := fun b x e => by
  by_cases hb : b = p
  · subst hb; rw [upd_same] at e ⊢; exact e
  · rw [upd_ne hb] at e ⊢; exact h b x e
/-- a new thing that never changes -/
theorem Rep.datum (r : Rep K mg F G0 G ι μ H) {p : Addr} (hp : H p = none) (o : HO) : Rep K mg F G0 (upd G p o) ι μ (upd H p o) ∧ Ext G ι (upd G p o) ι := by
  have hG := r.newG hp
  have hF := r.newF hp
  have x : Ext G ι (upd G p o) ι := ⟨same_upd hG, List.prefix_refl ι⟩
  refine ⟨⟨r.g0.trans x.g, upd_mono r.g, r.f.trans (same_upd hp), fun a ha hg => ?_, r.len, fun k c a hk ha => ?_, r.inj⟩, x⟩
  · by_cases hb : a = p
    · subst hb; exact absurd hF ha
    · rw [upd_ne hb] at hg; exact r.nw a ha hg
  · obtain ⟨h1, h2, o', h3, h4⟩ := r.live k c a hk ha
    have hb : a ≠ p := ne_of_none h3 hp
    exact ⟨by rw [upd_ne hb]; exact h1, h2, o', by rw [upd_ne hb]; exact h3, h4.mono x⟩
/-- a new cell -/
theorem Rep.cell (r : Rep K mg F G0 G ι μ H) {p : Addr} (hp : H p = none) {o : HO} {c : Cell} (hc : RepC K mg G ι o c) : Rep K mg F G0 G (ι ++ [p]) (μ ++ [some c]) (upd H p o) ∧ Ext G ι G (ι ++ [p]) := by
  have hG := r.newG hp
  have hF := r.newF hp
  have x : Ext G ι G (ι ++ [p]) := ⟨Same.refl G, List.prefix_append ι [p]⟩
  have hl := r.len
  have old : ∀ {k : Nat} {c' : Cell} {a : Addr}, (μ ++ [some c])[k]? = some (some c') → (ι ++ [p])[k]? = some a → (k < μ.length ∧ μ[k]? = some (some c') ∧ ι[k]? = some a) ∨ (k = μ.length ∧ c' = c ∧ a = p) := fun {k c' a} h1 h2 => by
    by_cases hk : k < μ.length
    · rw [List.getElem?_append_left hk] at h1
      rw [List.getElem?_append_left (by omega)] at h2
      exact .inl ⟨hk, h1, h2⟩
    · have hk' : k < (μ ++ [some c]).length := (List.getElem?_eq_some_iff.mp h1).1
      rw [List.length_append, List.length_singleton] at hk'
      have ek : k = μ.length := by omega
      subst ek
      rw [List.getElem?_append_right (Nat.le_refl _), Nat.sub_self] at h1
      rw [List.getElem?_append_right (by omega), hl, Nat.sub_self] at h2
      simp at h1 h2
      exact .inr ⟨rfl, h1.symm, h2.symm⟩
  refine ⟨⟨r.g0, r.g.trans (same_upd hp), r.f.trans (same_upd hp), r.nw, by simp [hl], fun k c' a hk ha => ?_, fun j k c1 c2 a h1 h2 h3 h4 => ?_⟩, x⟩
  · rcases old hk ha with ⟨_, h1, h2⟩ | ⟨_, rfl, rfl⟩
    · obtain ⟨q1, q2, o', q3, q4⟩ := r.live k c' a h1 h2
      exact ⟨q1, q2, o', by rw [upd_ne (ne_of_none q3 hp)]; exact q3, q4.mono x⟩
    · exact ⟨hG, hF, o, upd_same, hc.mono x⟩
  · rcases old h1 h3 with ⟨_, a1, a2⟩ | ⟨e1, _, rfl⟩
    · rcases old h2 h4 with ⟨_, b1, b2⟩ | ⟨e2, _, rfl⟩
      · exact r.inj j k c1 c2 a a1 b1 a2 b2
      · obtain ⟨_, _, o', q3, _⟩ := r.live j c1 a a1 a2
        rw [hp] at q3; cases q3
    · rcases old h2 h4 with ⟨_, b1, b2⟩ | ⟨e2, _, _⟩
      · obtain ⟨_, _, o', q3, _⟩ := r.live k c2 a b1 b2
        rw [hp] at q3; cases q3
      · omega
/-- a cell is changed -/
theorem Rep.put (r : Rep K mg F G0 G ι μ H) {k : Nat} {c0 c : Cell} {a : Addr} {o : HO} (hk : μ[k]? = some (some c0)) (ha : ι[k]? = some a) (hc : RepC K mg G ι o c) : Rep K mg F G0 G ι (μ.set k (some c)) (upd H a o) := by
  obtain ⟨h1, h2, o0, h3, _⟩ := r.live k c0 a hk ha
  have hkl : k < μ.length := (List.getElem?_eq_some_iff.mp hk).1
  have ne : ∀ b u, G b = some u → b ≠ a := fun b u e z => by subst z; rw [h1] at e; cases e
  have neF : ∀ b u, F b = some u → b ≠ a := fun b u e z => by subst z; rw [h2] at e; cases e
  have get : ∀ {j : Nat} {c' : Cell}, (μ.set k (some c))[j]? = some (some c') → (j = k ∧ c' = c) ∨ (j ≠ k ∧ μ[j]? = some (some c')) := fun {j c'} h => by
    by_cases hj : j = k
    · subst hj
      rw [List.getElem?_set_self hkl] at h
      exact .inl ⟨rfl, (Option.some.inj (Option.some.inj h)).symm⟩
    · rw [List.getElem?_set_ne (fun z => hj z.symm)] at h
      exact .inr ⟨hj, h⟩
  refine ⟨r.g0, fun b u e => by rw [upd_ne (ne b u e)]; exact r.g b u e, fun b u e => by rw [upd_ne (neF b u e)]; exact r.f b u e, r.nw, by rw [List.length_set]; exact r.len, fun j c' b hj hb => ?_, fun i j c1 c2 b e1 e2 e3 e4 => ?_⟩
  · rcases get hj with ⟨rfl, rfl⟩ | ⟨hne, hj⟩
    · rw [ha] at hb; cases hb
      exact ⟨h1, h2, o, upd_same, hc⟩
    · obtain ⟨q1, q2, o', q3, q4⟩ := r.live j c' b hj hb
      have hba : b ≠ a := fun z => by subst z; exact hne (r.inj j k c' c0 b hj hk hb ha)
      exact ⟨q1, q2, o', by rw [upd_ne hba]; exact q3, q4⟩
  · have m : ∀ {j : Nat} {c' : Cell}, (μ.set k (some c))[j]? = some (some c') → ∃ c2, μ[j]? = some (some c2) := fun {j c'} h => by
      rcases get h with ⟨rfl, _⟩ | ⟨_, h⟩
      · exact ⟨c0, hk⟩
      · exact ⟨c', h⟩
    obtain ⟨c1', e1⟩ := m e1
    obtain ⟨c2', e2⟩ := m e2
    exact r.inj i j _ _ b e1 e2 e3 e4
/-- a cell becomes data -/
theorem Rep.freeze (r : Rep K mg F G0 G ι μ H) {k : Nat} {c0 : Cell} {a : Addr} {o : HO} (hk : μ[k]? = some (some c0)) (ha : ι[k]? = some a) (ho : H a = some o) : Rep K mg F G0 (upd G a o) ι (μ.set k none) H ∧ Ext G ι (upd G a o) ι := by
  obtain ⟨h1, h2, o0, h3, _⟩ := r.live k c0 a hk ha
  have hkl : k < μ.length := (List.getElem?_eq_some_iff.mp hk).1
  have x : Ext G ι (upd G a o) ι := ⟨same_upd h1, List.prefix_refl ι⟩
  have get : ∀ {j : Nat} {c' : Cell}, (μ.set k none)[j]? = some (some c') → j ≠ k ∧ μ[j]? = some (some c') := fun {j c'} h => by
    by_cases hj : j = k
    · subst hj
      rw [List.getElem?_set_self hkl] at h
      cases h
    · rw [List.getElem?_set_ne (fun z => hj z.symm)] at h
      exact ⟨hj, h⟩
  refine ⟨⟨r.g0.trans x.g, fun b u e => ?_, r.f, fun b hb hg => ?_, by rw [List.length_set]; exact r.len, fun j c' b hj hb => ?_, fun i j c1 c2 b e1 e2 e3 e4 => r.inj i j c1 c2 b (get e1).2 (get e2).2 e3 e4⟩, x⟩
  · by_cases hb : b = a
    · subst hb; rw [upd_same] at e; rw [← e]; exact ho
    · rw [upd_ne hb] at e; exact r.g b u e
  · by_cases hba : b = a
    · subst hba; exact absurd h2 hb
    · rw [upd_ne hba] at hg; exact r.nw b hb hg
  · obtain ⟨hne, hj⟩ := get hj
    obtain ⟨q1, q2, o', q3, q4⟩ := r.live j c' b hj hb
    have hba : b ≠ a := fun z => by subst z; exact hne (r.inj j k c' c0 b hj hk hb ha)
    exact ⟨by rw [upd_ne hba]; exact q1, q2, o', q3, q4.mono x⟩
end
/-- the slots -/
def RepE (K : PySem.W.Frag) (G : Hp) (ι : List Addr) (σ : L2.St) (ρ : DEnv) : Prop := σ.length = ρ.length ∧ ∀ (i : Nat) (d : D), ρ[i]? = some (some d) → ∃ v, σ[i]? = some (some v) ∧ RepV K G ι v d
section
variable {K : PySem.W.Frag} {G G' : Hp} {ι ι' : List Addr} {σ : L2.St} {ρ : DEnv}
theorem RepE.mono (x : Ext G ι G' ι') (h : RepE K G ι σ ρ) : RepE K G' ι' σ ρ := ⟨h.1, fun i d e => by
  obtain ⟨v, e1, r⟩ := h.2 i d e
  exact ⟨v, e1, r.mono x⟩⟩
theorem RepE.set {v : V} {d : D} (i : Nat) (h : RepE K G ι σ ρ) (r : RepV K G ι v d) : RepE K G ι (σ.set i (some v)) (ρ.set i (some d)) := by
  refine ⟨by rw [List.length_set, List.length_set]; exact h.1, fun j c e => ?_⟩
  by_cases hj : j = i
  · subst hj
    have hl : j < ρ.length := by
      have := (List.getElem?_eq_some_iff.mp e).1
      rwa [List.length_set] at this
    rw [List.getElem?_set_self hl] at e
    cases e
    exact ⟨v, List.getElem?_set_self (by rw [h.1]; exact hl), r⟩
  · rw [List.getElem?_set_ne (fun z => hj z.symm)] at e
    obtain ⟨u, e1, q⟩ := h.2 j c e
    exact ⟨u, by rw [List.getElem?_set_ne (fun z => hj z.symm)]; exact e1, q⟩
end
/-- an exception -/
def RepX (K : PySem.W.Frag) (mg : Str → Option Value) (G : Hp) (ι : List Addr) (x : Exn) (cls : Value) (d : Option Addr) (H : Hp) : Prop :=
  ∃ C, mg x.c = some (.ref C) ∧ cls = .ref C ∧ match x.pl with
    | none => d = none
    | some p => ∃ dd v, d = some dd ∧ H dd = some (.xd [("place", v)]) ∧ RepV K G ι v p

/-- a run's end, as it is wanted -/
def Post (K : PySem.W.Frag) (mg : Str → Option Value) (F G0 : Hp) {α : Type} (G : Hp) (ι : List Addr) (r : Res α) (Qx : Value → Option Addr → Hp → Prop) (Q : α → Hp → List Addr → Mem → Hp → Prop) : Prop := match r with
  | .ok a μ => ∀ G' ι' H', Ext G ι G' ι' → Rep K mg F G0 G' ι' μ H' → Q a G' ι' μ H'
  | .exc x μ => ∀ G' ι' H' cls d, Ext G ι G' ι' → Rep K mg F G0 G' ι' μ H' → RepX K mg G' ι' x cls d H' → Qx cls d H'
  | .bad => False
end Md

/-! The readings of the middle level, and the rules: names, operators, tests, blocks. -/
namespace Md
open PySem PySem.Spec PyProof.Rows L2

section
variable {K : PySem.W.Frag} {mg : Str → Option Value} {F G0 G G1 : Hp} {ι ι1 : List Addr} {μ : Mem} {H : Hp} {α β : Type}
theorem Post.mono {r : Res α} {Qx : Value → Option Addr → Hp → Prop} {Q : α → Hp → List Addr → Mem → Hp → Prop} (x : Ext G ι G1 ι1) (h : Post K mg F G0 G ι r Qx Q) : Post K mg F G0 G1 ι1 r Qx Q := by
  cases r with
  | ok a μ => exact fun G' ι' H' y q => h G' ι' H' (x.trans y) q
  | exc e μ => exact fun G' ι' H' cls d y q => h G' ι' H' cls d (x.trans y) q
  | bad => exact h
theorem Post.bind {r : Res α} {f : α → Mem → Res β} {Qx : Value → Option Addr → Hp → Prop} {Q : β → Hp → List Addr → Mem → Hp → Prop} (h : Post K mg F G0 G ι (r.bind f) Qx Q) :
    Post K mg F G0 G ι r Qx (fun a G1 ι1 μ1 _ => Post K mg F G0 G1 ι1 (f a μ1) Qx Q) := by
  cases r with
  | ok a μ => exact fun G' ι' H' x _ => Post.mono x h
  | exc e μ => exact h
  | bad => exact h
theorem Post.imp {r : Res α} {Qx : Value → Option Addr → Hp → Prop} {Q Q' : α → Hp → List Addr → Mem → Hp → Prop} (h : Post K mg F G0 G ι r Qx Q) (i : ∀ a G' ι' μ' H', Ext G ι G' ι' → Rep K mg F G0 G' ι' μ' H' → Q a G' ι' μ' H' → Q' a G' ι' μ' H') :
    Post K mg F G0 G ι r Qx Q' := by
  cases r with
  | ok a μ => exact fun G' ι' H' x q => i a G' ι' μ H' x q (h G' ι' H' x q)
  | exc e μ => exact h
  | bad => exact h
theorem Post.impX {r : Res α} {Qx Qx' : Value → Option Addr → Hp → Prop} {Q : α → Hp → List Addr → Mem → Hp → Prop} (h : Post K mg F G0 G ι r Qx Q) (i : ∀ cls d H', Qx cls d H' → Qx' cls d H') :
    Post K mg F G0 G ι r Qx' Q := by
  cases r with
  | ok a μ => exact h
  | exc e μ => exact fun G' ι' H' cls d x q r => i _ _ _ (h G' ι' H' cls d x q r)
  | bad => exact h
theorem Post.now {a : α} {Qx : Value → Option Addr → Hp → Prop} {Q : α → Hp → List Addr → Mem → Hp → Prop} (r : Rep K mg F G0 G ι μ H) (h : Post K mg F G0 G ι (.ok a μ) Qx Q) : Q a G ι μ H := h G ι H (Ext.refl G ι) r
end

/-! ### readings -/
def tE (X : Cx) (W : WX) (ε : EM) : TE := fun σ H Q => ∃ F G0 G ι μ ρ, Rep X.K X.mg F G0 G ι μ H ∧ RepE X.K G ι σ ρ ∧
  Post X.K X.mg F G0 G ι (ε ρ μ) (fun cls d H' => W cls d σ H') fun d G' ι' _ H' => ∀ v, RepV X.K G' ι' v d → Q v H'
def tA (X : Cx) (W : WX) (ε : AM) : TA := fun σ H Q => ∃ F G0 G ι μ ρ, Rep X.K X.mg F G0 G ι μ H ∧ RepE X.K G ι σ ρ ∧
  Post X.K X.mg F G0 G ι (ε ρ μ) (fun cls d H' => W cls d σ H') fun ds G' ι' _ H' => ∀ vs, RepVs X.K G' ι' vs ds → Q vs H'
def tM (X : Cx) (W : WX) (ε : TM) : TT := fun σ H Q => ∃ F G0 G ι μ ρ, Rep X.K X.mg F G0 G ι μ H ∧ RepE X.K G ι σ ρ ∧
  Post X.K X.mg F G0 G ι (ε ρ μ) (fun cls d H' => W cls d σ H') fun b _ _ _ H' => Q b H'
/-- what is wanted of a statement's end -/
def FlQ (K : PySem.W.Frag) (N : Ends) : Fl → Hp → List Addr → Mem → Hp → Prop
  | .nx ρ, G, ι, _, H => ∀ σ, RepE K G ι σ ρ → N.nx σ H
  | .bk ρ, G, ι, _, H => ∀ σ, RepE K G ι σ ρ → N.bk σ H
  | .ct ρ, G, ι, _, H => ∀ σ, RepE K G ι σ ρ → N.ct σ H
  | .rt d, G, ι, _, H => ∀ v, RepV K G ι v d → N.rt v H
/-- exceptions of statements are wanted whatever the slots -/
def tS (X : Cx) (W : WX) (β : SM) : TS := fun N σ H => ∃ F G0 G ι μ ρ, Rep X.K X.mg F G0 G ι μ H ∧ RepE X.K G ι σ ρ ∧
  Post X.K X.mg F G0 G ι (β ρ μ) (fun cls d H' => ∀ σ', W cls d σ' H') (FlQ X.K N)
def tG (X : Cx) (W : WX) (γ : GM) : TG := fun v σ H Q => ∃ F G0 G ι μ ρ d, Rep X.K X.mg F G0 G ι μ H ∧ RepE X.K G ι σ ρ ∧ RepV X.K G ι v d ∧
  Post X.K X.mg F G0 G ι (γ d ρ μ) (fun cls d H' => ∀ σ', W cls d σ' H') fun ρ' G' ι' _ H' => ∀ σ', RepE X.K G' ι' σ' ρ' → Q σ' H'
def tGs (X : Cx) (W : WX) (γ : List D → DEnv → Mem → Res DEnv) : TGs := fun vs σ H Q => ∃ F G0 G ι μ ρ ds, Rep X.K X.mg F G0 G ι μ H ∧ RepE X.K G ι σ ρ ∧ RepVs X.K G ι vs ds ∧
  Post X.K X.mg F G0 G ι (γ ds ρ μ) (fun cls d H' => ∀ σ', W cls d σ' H') fun ρ' G' ι' _ H' => ∀ σ', RepE X.K G' ι' σ' ρ' → Q σ' H'

section
variable {X : Cx} {W : WX}
theorem pe_imp {e : Expr} {t t' : TE} (h : PE X e t) (i : ∀ σ H Q, t' σ H Q → t σ H Q) : PE X e t' := ⟨fun pins s σ H Q I q => h.run pins s σ H Q I (i _ _ _ q)⟩
theorem pt_imp {e : Expr} {t t' : TT} (h : PT X e t) (i : ∀ σ H Q, t' σ H Q → t σ H Q) : PT X e t' := ⟨fun pins s σ H Q I q => h.run pins s σ H Q I (i _ _ _ q)⟩
theorem pw_imp {e : Expr} {t t' : TT} (h : PW X e t) (i : ∀ σ H Q, t' σ H Q → t σ H Q) : PW X e t' := ⟨fun whole pins s σ H Q I q => h.run whole pins s σ H Q I (i _ _ _ q)⟩
theorem pa_imp {es : List Expr} {t t' : TA} (h : PA X es t) (i : ∀ σ H Q, t' σ H Q → t σ H Q) : PA X es t' := ⟨fun pos pins s σ H Q I q => h.run pos pins s σ H Q I (i _ _ _ q)⟩
theorem ps_imp {st : Stmt} {t t' : TS} (h : PS X st t) (i : ∀ N σ H, t' N σ H → t N σ H) : PS X st t' := ⟨fun pins s σ H N I q => h.run pins s σ H N I (i _ _ _ q)⟩
theorem pss_imp {st : List Stmt} {t t' : TS} (h : PSs X st t) (i : ∀ N σ H, t' N σ H → t N σ H) : PSs X st t' := ⟨fun pins s σ H N I q => h.run pins s σ H N I (i _ _ _ q)⟩
theorem pg_imp {tg : Expr} {t t' : TG} (h : PG X tg t) (i : ∀ v σ H Q, t' v σ H Q → t v σ H Q) : PG X tg t' := ⟨fun pins s σ H v u Q I r q => h.run pins s σ H v u Q I r (i _ _ _ _ q)⟩
theorem pgs_imp {tg : List Expr} {t t' : TGs} (h : PGs X tg t) (i : ∀ v σ H Q, t' v σ H Q → t v σ H Q) : PGs X tg t' := ⟨fun pins s σ H v u Q I r q => h.run pins s σ H v u Q I r (i _ _ _ _ q)⟩

/-- go into a part -/
theorem tE.go {F G0 G : Hp} {ι : List Addr} {μ : Mem} {ρ : DEnv} {σ : L2.St} {H : Hp} {ε : EM} {Q' : D → Hp → List Addr → Mem → Hp → Prop} {R : V → Hp → Prop} (r : Rep X.K X.mg F G0 G ι μ H) (e : RepE X.K G ι σ ρ)
    (h : Post X.K X.mg F G0 G ι (ε ρ μ) (fun cls d H' => W cls d σ H') Q')
    (hQ : ∀ d G' ι' μ' H', Ext G ι G' ι' → Rep X.K X.mg F G0 G' ι' μ' H' → RepE X.K G' ι' σ ρ → Q' d G' ι' μ' H' → ∀ v, RepV X.K G' ι' v d → R v H') : tE X W ε σ H R :=
  ⟨F, G0, G, ι, μ, ρ, r, e, h.imp fun d G' ι' μ' H' x q z v rv => hQ d G' ι' μ' H' x q (e.mono x) z v rv⟩
theorem tM.go {F G0 G : Hp} {ι : List Addr} {μ : Mem} {ρ : DEnv} {σ : L2.St} {H : Hp} {ε : TM} {Q' : Bool → Hp → List Addr → Mem → Hp → Prop} {R : Bool → Hp → Prop} (r : Rep X.K X.mg F G0 G ι μ H) (e : RepE X.K G ι σ ρ)
    (h : Post X.K X.mg F G0 G ι (ε ρ μ) (fun cls d H' => W cls d σ H') Q')
    (hQ : ∀ d G' ι' μ' H', Ext G ι G' ι' → Rep X.K X.mg F G0 G' ι' μ' H' → RepE X.K G' ι' σ ρ → Q' d G' ι' μ' H' → R d H') : tM X W ε σ H R :=
  ⟨F, G0, G, ι, μ, ρ, r, e, h.imp fun d G' ι' μ' H' x q z => hQ d G' ι' μ' H' x q (e.mono x) z⟩
theorem tA.go {F G0 G : Hp} {ι : List Addr} {μ : Mem} {ρ : DEnv} {σ : L2.St} {H : Hp} {ε : AM} {Q' : List D → Hp → List Addr → Mem → Hp → Prop} {R : List V → Hp → Prop} (r : Rep X.K X.mg F G0 G ι μ H) (e : RepE X.K G ι σ ρ)
    (h : Post X.K X.mg F G0 G ι (ε ρ μ) (fun cls d H' => W cls d σ H') Q')
    (hQ : ∀ d G' ι' μ' H', Ext G ι G' ι' → Rep X.K X.mg F G0 G' ι' μ' H' → RepE X.K G' ι' σ ρ → Q' d G' ι' μ' H' → ∀ v, RepVs X.K G' ι' v d → R v H') : tA X W ε σ H R :=
  ⟨F, G0, G, ι, μ, ρ, r, e, h.imp fun d G' ι' μ' H' x q z v rv => hQ d G' ι' μ' H' x q (e.mono x) z v rv⟩

/-! ### names, constants -/
def eVar (i : Nat) : EM := fun ρ μ => match ρ[i]? with
  | some (some d) => .ok d μ
  | _ => .bad
theorem qv (i : Nat) {x : Str} {pos : Pos} (hN : X.N[i]? = some x := by rfl) (hv : Vis X.env.scope x := by first | exact Or.inl rfl | exact Or.inr (Or.inl rfl) | exact Or.inr (Or.inr rfl)) (hd : (x == ("__debug__" : Str)) = false := by decide)
    (hcd : (x == ("__classdict__" : Str)) = false := by decide) : PE X (.Name x pos) (tE X W (eVar i)) := pe_imp (pe_var hN hv hd hcd) fun σ H Q h => by
  obtain ⟨F, G0, G, ι, μ, ρ, r, e, h⟩ := h
  unfold eVar at h
  split at h
  · rename_i d hd
    obtain ⟨v, e1, rv⟩ := e.2 i d hd
    exact ⟨v, e1, h.now r v rv⟩
  · exact h.elim
def eC (d : D) : EM := fun _ μ => .ok d μ
theorem q_c {e : Expr} {v : V} {d : D} (hp : PE X e (tC v)) (rv : ∀ G ι, RepV X.K G ι v d := by intro _ _; rfl) : PE X e (tE X W (eC d)) := pe_imp hp fun σ H Q h => by
  obtain ⟨F, G0, G, ι, μ, ρ, r, e, h⟩ := h
  exact h.now r v (rv G ι)
theorem q_int {i j pos} : PE X (.Constant (.int i) j pos) (tE X W (eC (.int i))) := q_c pe_int
theorem q_bl {b j pos} : PE X (.Constant (.bool b) j pos) (tE X W (eC (.bl b))) := q_c pe_bl
theorem q_non {j pos} : PE X (.Constant .none j pos) (tE X W (eC .non)) := q_c pe_non
theorem q_str {x j pos} : PE X (.Constant (.str x) j pos) (tE X W (eC (.str x))) := q_c pe_str

/-! ### operators of two values -/
/-- an operator's values -/
def OpM (K : PySem.W.Frag) (mg : Str → Option Value) (r : R2) (op : D → D → Mem → Res D) : Prop :=
  ∀ (F G0 G : Hp) (ι : List Addr) (μ : Mem) (H : Hp) (x y : V) (dx dy : D) (Qx : Value → Option Addr → Hp → Prop) (Q : VK), Rep K mg F G0 G ι μ H → RepV K G ι x dx → RepV K G ι y dy →
    Post K mg F G0 G ι (op dx dy μ) Qx (fun d G' ι' _ H' => ∀ v, RepV K G' ι' v d → Q v H') → r x y H Q
def eBin (op : D → D → Mem → Res D) (α β : EM) : EM := fun ρ μ => (α ρ μ).bind fun x μ1 => (β ρ μ1).bind fun y μ2 => op x y μ2
theorem tOp_go {r : R2} {op : D → D → Mem → Res D} {α β : EM} (hm : OpM X.K X.mg r op) {σ : L2.St} {H : Hp} {Q : VK} (h : tE X W (eBin op α β) σ H Q) : tOp r (tE X W α) (tE X W β) σ H Q := by
  obtain ⟨F, G0, G, ι, μ, ρ, rp, e, h⟩ := h
  refine tE.go rp e h.bind fun dx G1 ι1 μ1 H1 x1 r1 e1 h1 x rx => ?_
  refine tE.go r1 e1 h1.bind fun dy G2 ι2 μ2 H2 x2 r2 e2 h2 y ry => ?_
  exact hm F G0 G2 ι2 μ2 H2 x y dx dy _ _ r2 (rx.mono x2) ry h2
theorem q_op {op : Operator} {r : R2} {om : D → D → Mem → Res D} {a b : Expr} {α β : EM} {pos : Pos} (ho : OpR X (binaryOp op) r) (hm : OpM X.K X.mg r om) (ha : PE X a (tE X W α)) (hb : PE X b (tE X W β)) :
    PE X (.BinOp a op b pos) (tE X W (eBin om α β)) := pe_imp (pe_op ho ha hb) fun _ _ _ h => tOp_go hm h
theorem q_cmp {op : CmpOp} {r : R2} {om : D → D → Mem → Res D} {a b : Expr} {α β : EM} {pos : Pos} (ho : OpR X (compareOp op) r) (hm : OpM X.K X.mg r om) (ha : PE X a (tE X W α)) (hb : PE X b (tE X W β)) (hk : behindInMarks op b = false) :
    PE X (.Compare a [op] [b] pos) (tE X W (eBin om α β)) := pe_imp (pe_cmpR ho ha hb hk) fun _ _ _ h => tOp_go hm h
theorem opR_or {f : Value → Value → Sem Value} {r r' : R2} (h : OpR X f r) (h' : OpR X f r') : OpR X f (fun x y H Q => r x y H Q ∨ r' x y H Q) := by
  intro pins s σ H x y v u Q I rx ry q
  rcases q with q | q
  · exact h pins s σ H x y v u Q I rx ry q
  · exact h' pins s σ H x y v u Q I rx ry q

section
noncomputable local instance (priority := 100000) (p : Prop) : Decidable p := Classical.propDecidable p
noncomputable def mI (C : Int → Int → Prop) (g : Int → Int → D) (x y : D) (μ : Mem) : Res D := match x, y with
  | .int i, .int j => if C i j then .ok (g i j) μ else .bad
  | _, _ => .bad
end
def mI0 (g : Int → Int → D) (x y : D) (μ : Mem) : Res D := match x, y with
  | .int i, .int j => .ok (g i j) μ
  | _, _ => .bad
theorem int2 {K : PySem.W.Frag} {G : Hp} {ι : List Addr} {x y : V} {i j : Int} (rx : RepV K G ι x (.int i)) (ry : RepV K G ι y (.int j)) : x = .int i ∧ y = .int j := ⟨rx, ry⟩
theorem om_I {K : PySem.W.Frag} {mg : Str → Option Value} {C : Int → Int → Prop} {g : Int → Int → D} {gv : Int → Int → V} (hg : ∀ G ι i j, RepV K G ι (gv i j) (g i j)) : OpM K mg (rI C gv) (mI C g) := by
  intro F G0 G ι μ H x y dx dy Qx Q rp rx ry h
  unfold mI at h
  split at h
  · split at h
    · rename_i i j hc
      exact ⟨i, j, rx, ry, hc, h.now rp _ (hg G ι i j)⟩
    · exact h.elim
  · exact h.elim
theorem om_I0 {K : PySem.W.Frag} {mg : Str → Option Value} {g : Int → Int → D} {gv : Int → Int → V} (hg : ∀ G ι i j, RepV K G ι (gv i j) (g i j)) : OpM K mg (rI0 gv) (mI0 g) := by
  intro F G0 G ι μ H x y dx dy Qx Q rp rx ry h
  unfold mI0 at h
  split at h
  · rename_i i j
    exact ⟨i, j, rx, ry, h.now rp _ (hg G ι i j)⟩
  · exact h.elim
end

/-! ### blocks, returns, ifs -/
section
variable {X : Cx} {W : WX}
def tst (α : EM) : TM := fun ρ μ => (α ρ μ).bind fun d μ1 => match d with
  | .bl b => .ok b μ1
  | _ => .bad
theorem tTest_go {α : EM} {σ : L2.St} {H : Hp} {Q : Bool → Hp → Prop} (h : tM X W (tst α) σ H Q) : tE X W α σ H (fun x H' => ∃ k, x = .bl k ∧ Q k H') := by
  obtain ⟨F, G0, G, ι, μ, ρ, rp, e, h⟩ := h
  refine tE.go rp e h.bind fun d G1 ι1 μ1 H1 x1 r1 e1 h1 v rv => ?_
  cases d with
  | bl b => exact ⟨b, rv, h1.now r1⟩
  | _ => exact h1.elim
theorem t_val {e : Expr} {α : EM} (h : PE X e (tE X W α)) (he : ∀ whole, isTrue e X.env whole = (do let v ← whole; standAt e.pos; holding [v] (truthy v)) := by intro _; rfl) : PT X e (tM X W (tst α)) := pt_imp (pt_val h he) fun _ _ _ h => tTest_go h
theorem t_cmp {op : CmpOp} {r : R2} {om : D → D → Mem → Res D} {a b : Expr} {α β : EM} {pos : Pos} (ho : OpR X (compareOp op) r) (hm : OpM X.K X.mg r om) (ha : PE X a (tE X W α)) (hb : PE X b (tE X W β)) (hk : behindInMarks op b = false) :
    PT X (.Compare a [op] [b] pos) (tM X W (tst (eBin om α β))) := pt_imp (pt_cmpR ho ha hb hk) fun σ H Q h => tOp_go hm (tTest_go h)
def tAndM (a b : TM) : TM := fun ρ μ => (a ρ μ).bind fun c μ1 => if c = true then b ρ μ1 else .ok false μ1
def tOrM (a b : TM) : TM := fun ρ μ => (a ρ μ).bind fun c μ1 => if c = true then .ok true μ1 else b ρ μ1
def tNotM (a : TM) : TM := fun ρ μ => (a ρ μ).bind fun c μ1 => .ok (!c) μ1
theorem w_and {a b : Expr} {rest : List Expr} {pos : Pos} {α β : TM} (ha : PT X a (tM X W α)) (hb : PW X (.BoolOp .And (b :: rest) pos) (tM X W β)) : PW X (.BoolOp .And (a :: b :: rest) pos) (tM X W (tAndM α β)) := pw_imp (pw_and ha hb) fun σ H Q h => by
  obtain ⟨F, G0, G, ι, μ, ρ, rp, e, h⟩ := h
  refine tM.go rp e h.bind fun c G1 ι1 μ1 H1 x1 r1 e1 h1 => ?_
  cases c with
  | true => exact ⟨F, G0, G1, ι1, μ1, ρ, r1, e1, h1⟩
  | false => exact h1.now r1
theorem w_or {a b : Expr} {rest : List Expr} {pos : Pos} {α β : TM} (ha : PT X a (tM X W α)) (hb : PW X (.BoolOp .Or (b :: rest) pos) (tM X W β)) : PW X (.BoolOp .Or (a :: b :: rest) pos) (tM X W (tOrM α β)) := pw_imp (pw_or ha hb) fun σ H Q h => by
  obtain ⟨F, G0, G, ι, μ, ρ, rp, e, h⟩ := h
  refine tM.go rp e h.bind fun c G1 ι1 μ1 H1 x1 r1 e1 h1 => ?_
  cases c with
  | true => exact h1.now r1
  | false => exact ⟨F, G0, G1, ι1, μ1, ρ, r1, e1, h1⟩
theorem w_and1 {a : Expr} {pos : Pos} {α : TM} (ha : PT X a (tM X W α)) : PW X (.BoolOp .And [a] pos) (tM X W α) := pw_and1 ha
theorem w_or1 {a : Expr} {pos : Pos} {α : TM} (ha : PT X a (tM X W α)) : PW X (.BoolOp .Or [a] pos) (tM X W α) := pw_or1 ha
theorem t_not {a : Expr} {pos : Pos} {α : TM} (ha : PT X a (tM X W α)) : PT X (.UnaryOp .Not a pos) (tM X W (tNotM α)) := pt_imp (pt_not ha) fun σ H Q h => by
  obtain ⟨F, G0, G, ι, μ, ρ, rp, e, h⟩ := h
  exact tM.go rp e h.bind fun c G1 ι1 μ1 H1 x1 r1 e1 h1 => h1.now r1
/-- and, or, not as values of truths -/
def eAnd (α β : EM) : EM := fun ρ μ => (α ρ μ).bind fun d μ1 => match d with
  | .bl true => β ρ μ1
  | .bl false => .ok (.bl false) μ1
  | _ => .bad
def eOr (α β : EM) : EM := fun ρ μ => (α ρ μ).bind fun d μ1 => match d with
  | .bl true => .ok (.bl true) μ1
  | .bl false => β ρ μ1
  | _ => .bad
def eNot (α : EM) : EM := fun ρ μ => (α ρ μ).bind fun d μ1 => match d with
  | .bl b => .ok (.bl (!b)) μ1
  | _ => .bad
theorem q_and {a b : Expr} {rest : List Expr} {pos : Pos} {α β : EM} (ha : PE X a (tE X W α)) (hb : PE X (.BoolOp .And (b :: rest) pos) (tE X W β)) : PE X (.BoolOp .And (a :: b :: rest) pos) (tE X W (eAnd α β)) := pe_imp (pe_and ha hb) fun σ H Q h => by
  obtain ⟨F, G0, G, ι, μ, ρ, rp, e, h⟩ := h
  refine tE.go rp e h.bind fun d G1 ι1 μ1 H1 x1 r1 e1 h1 v rv => ?_
  cases d with
  | bl b =>
    cases b with
    | true => exact ⟨true, rv, by rw [if_pos rfl]; exact ⟨F, G0, G1, ι1, μ1, ρ, r1, e1, h1⟩⟩
    | false => exact ⟨false, rv, by rw [if_neg Bool.false_ne_true]; exact h1.now r1 _ rfl⟩
  | _ => exact h1.elim
theorem q_or {a b : Expr} {rest : List Expr} {pos : Pos} {α β : EM} (ha : PE X a (tE X W α)) (hb : PE X (.BoolOp .Or (b :: rest) pos) (tE X W β)) : PE X (.BoolOp .Or (a :: b :: rest) pos) (tE X W (eOr α β)) := pe_imp (pe_or ha hb) fun σ H Q h => by
  obtain ⟨F, G0, G, ι, μ, ρ, rp, e, h⟩ := h
  refine tE.go rp e h.bind fun d G1 ι1 μ1 H1 x1 r1 e1 h1 v rv => ?_
  cases d with
  | bl b =>
    cases b with
    | true => exact ⟨true, rv, by rw [if_pos rfl]; exact h1.now r1 _ rfl⟩
    | false => exact ⟨false, rv, by rw [if_neg Bool.false_ne_true]; exact ⟨F, G0, G1, ι1, μ1, ρ, r1, e1, h1⟩⟩
  | _ => exact h1.elim
theorem q_one {op : BoolOp} {a : Expr} {pos : Pos} {α : EM} (ha : PE X a (tE X W α)) : PE X (.BoolOp op [a] pos) (tE X W α) := pe_one ha
theorem q_not {a : Expr} {pos : Pos} {α : EM} (ha : PE X a (tE X W α)) : PE X (.UnaryOp .Not a pos) (tE X W (eNot α)) := pe_imp (pe_not ha) fun σ H Q h => by
  obtain ⟨F, G0, G, ι, μ, ρ, rp, e, h⟩ := h
  refine tE.go rp e h.bind fun d G1 ι1 μ1 H1 x1 r1 e1 h1 v rv => ?_
  cases d with
  | bl b => exact ⟨b, rv, h1.now r1 _ rfl⟩
  | _ => exact h1.elim
def eIf (t : TM) (α β : EM) : EM := fun ρ μ => (t ρ μ).bind fun c μ1 => if c = true then α ρ μ1 else β ρ μ1
theorem q_if {c a b : Expr} {pos : Pos} {t : TM} {α β : EM} (hc : PT X c (tM X W t)) (ha : PE X a (tE X W α)) (hb : PE X b (tE X W β)) : PE X (.IfExp c a b pos) (tE X W (eIf t α β)) := pe_imp (pe_ifExp hc ha hb) fun σ H Q h => by
  obtain ⟨F, G0, G, ι, μ, ρ, rp, e, h⟩ := h
  refine tM.go rp e h.bind fun c G1 ι1 μ1 H1 x1 r1 e1 h1 => ?_
  cases c with
  | true => exact ⟨F, G0, G1, ι1, μ1, ρ, r1, e1, h1⟩
  | false => exact ⟨F, G0, G1, ι1, μ1, ρ, r1, e1, h1⟩
/-- a R b R' c -/
def eChain (op op' : D → D → Mem → Res D) (α β γ : EM) : EM := fun ρ μ => (α ρ μ).bind fun x μ1 => (β ρ μ1).bind fun y μ2 => (op x y μ2).bind fun z μ3 => match z with
  | .bl true => (γ ρ μ3).bind fun w μ4 => op' y w μ4
  | .bl false => .ok (.bl false) μ3
  | _ => .bad

def sNil : SM := fun ρ μ => .ok (.nx ρ) μ
def sSeq (s t : SM) : SM := fun ρ μ => (s ρ μ).bind fun f μ1 => match f with
  | .nx ρ1 => t ρ1 μ1
  | .rt d => .ok (.rt d) μ1
  | .bk ρ1 => .ok (.bk ρ1) μ1
  | .ct ρ1 => .ok (.ct ρ1) μ1
theorem s_nil : PSs X [] (tS X W sNil) := pss_imp pss_nil fun N σ H h => by
  obtain ⟨F, G0, G, ι, μ, ρ, rp, e, h⟩ := h
  exact h.now rp σ e
theorem tS.go {F G0 G : Hp} {ι : List Addr} {μ : Mem} {ρ : DEnv} {σ : L2.St} {H : Hp} {β : SM} {Q' : Fl → Hp → List Addr → Mem → Hp → Prop} {N : Ends} (r : Rep X.K X.mg F G0 G ι μ H) (e : RepE X.K G ι σ ρ)
    (h : Post X.K X.mg F G0 G ι (β ρ μ) (fun cls d H' => ∀ σ', W cls d σ' H') Q')
    (hQ : ∀ f G' ι' μ' H', Ext G ι G' ι' → Rep X.K X.mg F G0 G' ι' μ' H' → Q' f G' ι' μ' H' → FlQ X.K N f G' ι' μ' H') : tS X W β N σ H :=
  ⟨F, G0, G, ι, μ, ρ, r, e, h.imp fun f G' ι' μ' H' x q z => hQ f G' ι' μ' H' x q z⟩
theorem s_cons {st : Stmt} {rest : List Stmt} {s t : SM} (h1 : PS X st (tS X W s)) (h2 : PSs X rest (tS X W t)) : PSs X (st :: rest) (tS X W (sSeq s t)) := pss_imp (pss_cons h1 h2) fun N σ H h => by
  obtain ⟨F, G0, G, ι, μ, ρ, rp, e, h⟩ := h
  refine tS.go rp e h.bind fun f G1 ι1 μ1 H1 x1 r1 h1 => ?_
  cases f with
  | nx ρ1 => exact fun σ' e' => ⟨F, G0, G1, ι1, μ1, ρ1, r1, e', h1⟩
  | rt d => exact fun v rv => Post.now (a := Fl.rt d) (Q := FlQ X.K N) r1 h1 v rv
  | bk ρ1 => exact fun v rv => Post.now (a := Fl.bk ρ1) (Q := FlQ X.K N) r1 h1 v rv
  | ct ρ1 => exact fun v rv => Post.now (a := Fl.ct ρ1) (Q := FlQ X.K N) r1 h1 v rv
theorem s_one {st : Stmt} {s : SM} (h1 : PS X st (tS X W s)) : PSs X [st] (tS X W s) := pss_one h1
def sPass : SM := sNil
theorem s_pass {pos : Pos} : PS X (.Pass pos) (tS X W sPass) := ps_imp ps_pass fun N σ H h => by
  obtain ⟨F, G0, G, ι, μ, ρ, rp, e, h⟩ := h
  exact h.now rp σ e
def sBrk : SM := fun ρ μ => .ok (.bk ρ) μ
theorem s_brk {pos : Pos} : PS X (.Break pos) (tS X W sBrk) := ps_imp ps_break fun N σ H h => by
  obtain ⟨F, G0, G, ι, μ, ρ, rp, e, h⟩ := h
  exact h.now rp σ e
def sCont : SM := fun ρ μ => .ok (.ct ρ) μ
theorem s_cont {pos : Pos} : PS X (.Continue pos) (tS X W sCont) := ps_imp ps_continue fun N σ H h => by
  obtain ⟨F, G0, G, ι, μ, ρ, rp, e, h⟩ := h
  exact h.now rp σ e
def sBad : SM := fun _ _ => .bad
theorem s_never {st : Stmt} : PS X st (tS X W sBad) := ps_imp ps_never fun N σ H h => by
  obtain ⟨F, G0, G, ι, μ, ρ, rp, e, h⟩ := h
  exact h.elim

/-- exceptions of expressions pass whatever the slots -/
def WAll (W : WX) : Prop := ∀ cls d σ σ' H, W cls d σ H → W cls d σ' H
theorem eX {σ : L2.St} {K : PySem.W.Frag} {mg : Str → Option Value} {F G0 G : Hp} {ι : List Addr} {α : Type} {r : Res α} {Q : α → Hp → List Addr → Mem → Hp → Prop} (h : Post K mg F G0 G ι r (fun cls d H' => ∀ σ', W cls d σ' H') Q) :
    Post K mg F G0 G ι r (fun cls d H' => W cls d σ H') Q := h.impX fun cls d H' q => q σ
def sRet (α : EM) : SM := fun ρ μ => (α ρ μ).bind fun d μ1 => .ok (.rt d) μ1
theorem s_ret {e : Expr} {pos : Pos} {α : EM} (he : PE X e (tE X W α)) : PS X (.Return (some e) pos) (tS X W (sRet α)) := ps_imp (ps_ret he) fun N σ H h => by
  obtain ⟨F, G0, G, ι, μ, ρ, rp, e, h⟩ := h
  exact tE.go rp e (eX h.bind) fun d G1 ι1 μ1 H1 x1 r1 e1 h1 v rv => (eX (σ := σ) h1).now r1 v rv
def sRetN : SM := fun _ μ => .ok (.rt .non) μ
theorem s_retN {pos : Pos} : PS X (.Return none pos) (tS X W sRetN) := ps_imp ps_retN fun N σ H h => by
  obtain ⟨F, G0, G, ι, μ, ρ, rp, e, h⟩ := h
  exact h.now rp _ rfl
def sExpr (α : EM) : SM := fun ρ μ => (α ρ μ).bind fun _ μ1 => .ok (.nx ρ) μ1
theorem s_expr {e : Expr} {pos : Pos} {α : EM} (he : PE X e (tE X W α)) (hs : swapsWith e none pos.line X.env = pure false := by rfl) : PS X (.Expr e pos) (tS X W (sExpr α)) := ps_imp (ps_expr he hs) fun N σ H h => by
  obtain ⟨F, G0, G, ι, μ, ρ, rp, e, h⟩ := h
  exact tE.go rp e (eX h.bind) fun d G1 ι1 μ1 H1 x1 r1 e1 h1 v rv => h1.now r1 σ e1
def sIf (t : TM) (s u : SM) : SM := fun ρ μ => (t ρ μ).bind fun c μ1 => if c = true then s ρ μ1 else u ρ μ1
theorem s_if {c : Expr} {a b : List Stmt} {pos : Pos} {t : TM} {s u : SM} (hc : PT X c (tM X W t)) (ha : PSs X a (tS X W s)) (hb : PSs X b (tS X W u)) : PS X (.If c a b pos) (tS X W (sIf t s u)) := ps_imp (ps_if hc ha hb) fun N σ H h => by
  obtain ⟨F, G0, G, ι, μ, ρ, rp, e, h⟩ := h
  refine tM.go rp e (eX h.bind) fun c G1 ι1 μ1 H1 x1 r1 e1 h1 => ?_
  cases c with
  | true => exact ⟨F, G0, G1, ι1, μ1, ρ, r1, e1, h1⟩
  | false => exact ⟨F, G0, G1, ι1, μ1, ρ, r1, e1, h1⟩

/-! ### targets, assignments -/
def gNm (i : Nat) : GM := fun d ρ μ => .ok (ρ.set i (some d)) μ
theorem g_name {i : Nat} {x : Str} {pos : Pos} (hN : X.N.Nodup) (hi : X.N[i]? = some x) (hx : Loc X.env.scope x) (hf : X.fn x = true ∨ X.env.scope.names.lookup x = some .local := by first | exact .inl rfl | exact .inr rfl | assumption) : PG X (.Name x pos) (tG X W (gNm i)) :=
  pg_imp (pg_name hN hi hx hf) fun v σ H Q h => by
  obtain ⟨F, G0, G, ι, μ, ρ, d, rp, e, rv, h⟩ := h
  exact h.now rp _ (e.set i rv)
def gsNil : List D → DEnv → Mem → Res DEnv := fun ds ρ μ => match ds with
  | [] => .ok ρ μ
  | _ => .bad
def gsCons (g : GM) (gs : List D → DEnv → Mem → Res DEnv) : List D → DEnv → Mem → Res DEnv := fun ds ρ μ => match ds with
  | d :: r => (g d ρ μ).bind fun ρ1 μ1 => gs r ρ1 μ1
  | [] => .bad
theorem gs_nil : PGs X [] (tGs X W gsNil) := pgs_imp pgs_nil fun vs σ H Q h => by
  obtain ⟨F, G0, G, ι, μ, ρ, ds, rp, e, rv, h⟩ := h
  cases ds with
  | nil => exact ⟨rv, h.now rp σ e⟩
  | cons d ds => exact h.elim
theorem gs_cons {t : Expr} {ts : List Expr} {g : GM} {gs : List D → DEnv → Mem → Res DEnv} (h1 : PG X t (tG X W g)) (h2 : PGs X ts (tGs X W gs))
    (hs : (assignEach (t :: ts) X.env).map (·.2) = assign t X.env :: (assignEach ts X.env).map (·.2) := by rfl) : PGs X (t :: ts) (tGs X W (gsCons g gs)) := pgs_imp (pgs_cons h1 h2 hs) fun vs σ H Q h => by
  obtain ⟨F, G0, G, ι, μ, ρ, ds, rp, e, rv, h⟩ := h
  cases ds with
  | nil => exact h.elim
  | cons d ds =>
    obtain ⟨v, r, rfl, rv1, rv2⟩ := rv
    exact ⟨v, r, rfl, F, G0, G, ι, μ, ρ, d, rp, e, rv1, h.bind.imp fun ρ1 G1 ι1 μ1 H1 x1 r1 h1 σ1 e1 => ⟨F, G0, G1, ι1, μ1, ρ1, ds, r1, e1, rv2.mono x1, h1⟩⟩
def gTp (n : Nat) (gs : List D → DEnv → Mem → Res DEnv) : GM := fun d ρ μ => match d with
  | .tup ds => if ds.length = n then gs ds ρ μ else .bad
  | _ => .bad
theorem g_tup {es : List Expr} {k n : Nat} {pos : Pos} {gs : List D → DEnv → Mem → Res DEnv} (hc : X.calm = true) (h : PGs X es (tGs X W gs))
    (hn : (assignEach es X.env).length = n := by rfl) (hst : (assignEach es X.env).findIdx? (·.1) = none := by rfl) : PG X (.Tuple es k pos) (tG X W (gTp n gs)) := pg_imp (pg_tup hc h hn hst) fun v σ H Q h => by
  obtain ⟨F, G0, G, ι, μ, ρ, d, rp, e, rv, h⟩ := h
  cases d with
  | tup ds =>
    obtain ⟨a, vs, rfl, hg, rvs⟩ := rv
    show ∃ a xs, _
    have h' : Post X.K X.mg F G0 G ι (if ds.length = n then gs ds ρ μ else .bad) (fun cls d H' => ∀ σ', W cls d σ' H') fun ρ' G' ι' _ H' => ∀ σ', RepE X.K G' ι' σ' ρ' → Q σ' H' := h
    by_cases hl : ds.length = n
    · rw [if_pos hl] at h'
      exact ⟨a, vs, rfl, Same.sqT rp.g hg, rvs.length.trans hl, F, G0, G, ι, μ, ρ, ds, rp, e, rvs, h'⟩
    · rw [if_neg hl] at h'
      exact h'.elim
  | _ => exact h.elim
def sAsg (g : GM) (α : EM) : SM := fun ρ μ => (α ρ μ).bind fun d μ1 => (g d ρ μ1).bind fun ρ1 μ2 => .ok (.nx ρ1) μ2
theorem asg_go {g : GM} {α : EM} {N : Ends} {σ : L2.St} {H : Hp} (h : tS X W (sAsg g α) N σ H) : tE X W α σ H fun x H1 => tG X W g x σ H1 N.nx := by
  obtain ⟨F, G0, G, ι, μ, ρ, rp, e, h⟩ := h
  refine tE.go rp e (eX h.bind) fun d G1 ι1 μ1 H1 x1 r1 e1 h1 v rv => ?_
  exact ⟨F, G0, G1, ι1, μ1, ρ, d, r1, e1, rv, h1.bind.imp fun ρ1 G2 ι2 μ2 H2 x2 r2 h2 σ2 e2 => h2.now r2 σ2 e2⟩
theorem s_asg {tg e : Expr} {pos : Pos} {α : EM} {g : GM} (he : PE X e (tE X W α)) (hg : PG X tg (tG X W g)) (hs : swapsWithSole [tg] e pos.line X.env = pure false := by rfl) (hw : swappedStores [tg] e X.env = pure none := by rfl)
    (h1 : (assignEach [tg] X.env).map (·.2) = [assign tg X.env] := by rfl) : PS X (.Assign [tg] e pos) (tS X W (sAsg g α)) := ps_imp (ps_asg he hg hs hw h1) fun N σ H h => asg_go h
theorem s_set {i : Nat} {x : Str} {e : Expr} {pos pos' : Pos} {α : EM} (hN : X.N.Nodup) (hi : X.N[i]? = some x) (hx : Loc X.env.scope x) (he : PE X e (tE X W α)) (hs : swapsWith e (some (.Name x pos')) pos.line X.env = pure false := by rfl)
    (hf : X.fn x = true ∨ X.env.scope.names.lookup x = some .local := by first | exact .inl rfl | exact .inr rfl | assumption) : PS X (.Assign [.Name x pos'] e pos) (tS X W (sAsg (gNm i) α)) := ps_imp (ps_set hN hi hx he hs hf) fun N σ H h => by
  obtain ⟨F, G0, G, ι, μ, ρ, rp, e, h⟩ := h
  refine tE.go rp e (eX h.bind) fun d G1 ι1 μ1 H1 x1 r1 e1 h1 v rv => ?_
  exact h1.now r1 _ (e1.set i rv)
/-- a, b = x, y -/
def sPar (i j : Nat) (α : AM) : SM := fun ρ μ => (α ρ μ).bind fun ds μ1 => match ds with
  | [x, y] => .ok (.nx ((ρ.set i (some x)).set j (some y))) μ1
  | _ => .bad
theorem s_par {i j : Nat} {x y : Str} {a b : Expr} {px py pt pos : Pos} {kt k2 : Nat} {pt2 : Pos} {α : AM} (hc : X.calm = true) (hN : X.N.Nodup) (hi : X.N[i]? = some x) (hj : X.N[j]? = some y) (hij : i ≠ j)
    (hx : X.env.scope.names.lookup x = some .local) (hy : X.env.scope.names.lookup y = some .local) (ha : PA X [a, b] (tA X W α))
    (hw : swappedStores [.Tuple [.Name x px, .Name y py] kt pt] (.Tuple [a, b] k2 pt2) X.env = pure (some [x, y]))
    (hs : swapsWithSole [.Tuple [.Name x px, .Name y py] kt pt] (.Tuple [a, b] k2 pt2) pos.line X.env = pure false := by rfl) :
    PS X (.Assign [.Tuple [.Name x px, .Name y py] kt pt] (.Tuple [a, b] k2 pt2) pos) (tS X W (sPar i j α)) := ps_imp (ps_par hc hN hi hj hij hx hy ha hw hs) fun N σ H h => by
  obtain ⟨F, G0, G, ι, μ, ρ, rp, e, h⟩ := h
  refine tA.go rp e (eX h.bind) fun ds G1 ι1 μ1 H1 x1 r1 e1 h1 vs rvs => ?_
  match ds, vs, rvs, h1 with
  | [d1, d2], _, ⟨v1, _, rfl, rv1, v2, _, rfl, rv2, rfl⟩, h1 => exact ⟨v1, v2, rfl, h1.now r1 _ ((e1.set i rv1).set j rv2)⟩
  | [], _, _, h1 => exact h1.elim
  | [_], _, _, h1 => exact h1.elim
  | _ :: _ :: _ :: _, _, _, h1 => exact h1.elim
/-- name op= e -/
def IpM (K : PySem.W.Frag) (mg : Str → Option Value) (r : TIp) (op : D → D → Mem → Res D) : Prop := OpM K mg r op
def sAug (i : Nat) (α : EM) (op : D → D → Mem → Res D) : SM := fun ρ μ => match ρ[i]? with
  | some (some x) => (α ρ μ).bind fun y μ1 => (op x y μ1).bind fun z μ2 => .ok (.nx (ρ.set i (some z))) μ2
  | _ => .bad
theorem s_aug {i : Nat} {x : Str} {e : Expr} {op : Operator} {ti : TIp} {om : D → D → Mem → Res D} {α : EM} {pos pos' : Pos} (hN : X.N.Nodup) (hi : X.N[i]? = some x) (hx : Loc X.env.scope x) (he : PE X e (tE X W α)) (ho : PIp X op ti) (hm : IpM X.K X.mg ti om)
    (hf : X.fn x = true ∨ X.env.scope.names.lookup x = some .local := by first | exact .inl rfl | exact .inr rfl | assumption) : PS X (.AugAssign (.Name x pos') op e pos) (tS X W (sAug i α om)) := ps_imp (ps_aug hN hi hx he ho hf) fun N σ H h => by
  obtain ⟨F, G0, G, ι, μ, ρ, rp, e, h⟩ := h
  unfold sAug at h
  split at h
  · rename_i dx hd
    obtain ⟨v, e1, rv⟩ := e.2 i dx hd
    refine ⟨v, e1, tE.go rp e (eX h.bind) fun dy G1 ι1 μ1 H1 x1 r1 e1 h1 u ru => ?_⟩
    refine hm F G0 G1 ι1 μ1 H1 v u dx dy (fun _ _ _ => True) _ r1 (rv.mono x1) ru ((h1.bind.impX fun _ _ _ _ => trivial).imp fun dz G2 ι2 μ2 H2 x2 r2 h2 z rz => ?_)
    exact h2.now r2 _ ((e1.mono x2).set i rz)
  · exact h.elim

/-! ### arguments, displays -/
def aNil : AM := fun _ μ => .ok [] μ
def aCons (α : EM) (r : AM) : AM := fun ρ μ => (α ρ μ).bind fun d μ1 => (r ρ μ1).bind fun ds μ2 => .ok (d :: ds) μ2
theorem a_nil : PA X [] (tA X W aNil) := pa_imp pa_nil fun σ H Q h => by
  obtain ⟨F, G0, G, ι, μ, ρ, rp, e, h⟩ := h
  exact h.now rp _ rfl
theorem a_cons {e : Expr} {es : List Expr} {α : EM} {r : AM} (ha : PE X e (tE X W α)) (hr : PA X es (tA X W r)) (hs : starEach (e :: es) X.env = (false, eval e X.env) :: starEach es X.env := by rfl) : PA X (e :: es) (tA X W (aCons α r)) := pa_imp (pa_cons ha hr hs) fun σ H Q h => by
  obtain ⟨F, G0, G, ι, μ, ρ, rp, e, h⟩ := h
  refine tE.go rp e h.bind fun d G1 ι1 μ1 H1 x1 r1 e1 h1 v rv => ?_
  refine tA.go r1 e1 h1.bind fun ds G2 ι2 μ2 H2 x2 r2 e2 h2 vs rvs => ?_
  exact h2.now r2 _ ⟨v, vs, rfl, rv.mono x2, rvs⟩

section
noncomputable local instance (priority := 100000) (p : Prop) : Decidable p := Classical.propDecidable p
noncomputable def mkF (ds : List D) (μ : Mem) : Res D := if ds.length ≤ sizeLine then .ok (.lst ds) μ else .bad
end
section
noncomputable local instance (priority := 100000) (p : Prop) : Decidable p := Classical.propDecidable p
noncomputable def mkH (ds : List D) (μ : Mem) : Res D := if ds.length ≤ sizeLine then .ok (.hnd μ.length) (μ ++ [some (.lst ds)]) else .bad
end
/-- a new list's maker -/
def MkL (mk : List D → Mem → Res D) : Prop := ∀ {K : PySem.W.Frag} {mg : Str → Option Value} {F G0 G : Hp} {ι : List Addr} {μ : Mem} {H : Hp} {vs : List V} {ds : List D} {Qx : Value → Option Addr → Hp → Prop} {Q : VK},
  Rep K mg F G0 G ι μ H → RepVs K G ι vs ds → Post K mg F G0 G ι (mk ds μ) Qx (fun d G' ι' _ H' => ∀ v, RepV K G' ι' v d → Q v H') → vs.length ≤ sizeLine ∧ ∀ p, H p = none → Q (.ref p) (upd H p (.lst vs))
theorem mk_F : MkL mkF := by
  intro K mg F G0 G ι μ H vs ds Qx Q rp rvs h
  unfold mkF at h
  split at h
  · rename_i hl
    refine ⟨by rw [rvs.length]; exact hl, fun p hp => ?_⟩
    obtain ⟨r', x⟩ := rp.datum hp (.lst vs)
    exact h _ _ _ x r' _ ⟨p, vs, rfl, upd_same, rvs.mono x⟩
  · exact h.elim
theorem mk_H : MkL mkH := by
  intro K mg F G0 G ι μ H vs ds Qx Q rp rvs h
  unfold mkH at h
  split at h
  · rename_i hl
    refine ⟨by rw [rvs.length]; exact hl, fun p hp => ?_⟩
    obtain ⟨r', x⟩ := rp.cell hp (o := .lst vs) (c := .lst ds) ⟨vs, rfl, rvs⟩
    refine h _ _ _ x r' _ ⟨p, rfl, ?_⟩
    rw [← rp.len]
    simp
  · exact h.elim
def eLst (mk : List D → Mem → Res D) (α : AM) : EM := fun ρ μ => (α ρ μ).bind mk
theorem q_lst {es : List Expr} {pos : Pos} {α : AM} {mk : List D → Mem → Res D} (hk : MkL mk) (h : PA X es (tA X W α)) : PE X (.List es pos) (tE X W (eLst mk α)) := pe_imp (pe_lst h) fun σ H Q h => by
  obtain ⟨F, G0, G, ι, μ, ρ, rp, e, h⟩ := h
  exact tA.go rp e h.bind fun ds G1 ι1 μ1 H1 x1 r1 e1 h1 vs rvs => hk r1 rvs h1
section
noncomputable local instance (priority := 100000) (p : Prop) : Decidable p := Classical.propDecidable p
noncomputable def mkT (ds : List D) (μ : Mem) : Res D := if ds.length ≤ sizeLine then .ok (.tup ds) μ else .bad
end
noncomputable def eTup (α : AM) : EM := fun ρ μ => (α ρ μ).bind mkT
theorem q_tup {es : List Expr} {k : Nat} {pos : Pos} {α : AM} (h : PA X es (tA X W α)) : PE X (.Tuple es k pos) (tE X W (eTup α)) := pe_imp (pe_tup h) fun σ H Q h => by
  obtain ⟨F, G0, G, ι, μ, ρ, rp, e, h⟩ := h
  refine tA.go rp e h.bind fun ds G1 ι1 μ1 H1 x1 r1 e1 h1 vs rvs => ?_
  unfold mkT at h1
  split at h1
  · rename_i hl
    refine ⟨by rw [rvs.length]; exact hl, fun p hp => ?_⟩
    obtain ⟨r', x⟩ := r1.datum hp (.tup vs)
    exact h1 _ _ _ x r' _ ⟨p, vs, rfl, .inl (.inl upd_same), rvs.mono x⟩
  · exact h1.elim
end
end Md

/-! Loops, comprehensions, calls. -/
namespace Md
open PySem PySem.Spec PyProof.Rows L2
open Classical in
section

/-! ### what is read as a sequence -/
def seqL (μ : Mem) : D → Option (List D)
  | .lst ds => some ds
  | .scr ns => some (ns.map .int)
  | .hnd k => match μ[k]? with
    | some (some (.lst ds)) => some ds
    | _ => none
  | _ => none
def seqT : D → Option (List D)
  | .tup ds => some ds
  | _ => none
section
variable {K : PySem.W.Frag} {mg : Str → Option Value} {F G0 G : Hp} {ι : List Addr} {μ : Mem} {H : Hp} {v : V} {d : D} {ds : List D}
theorem seqL_ok (rp : Rep K mg F G0 G ι μ H) (rv : RepV K G ι v d) (h : seqL μ d = some ds) : ∃ a vs, v = .ref a ∧ SqL K H a vs ∧ RepVs K G ι vs ds := by
  cases d with
  | lst es =>
    cases h
    obtain ⟨a, vs, rfl, hg, r⟩ := rv
    exact ⟨a, vs, rfl, .inl (.inl (rp.g _ _ hg)), r⟩
  | scr ns =>
    cases h
    obtain ⟨a, rfl, hg⟩ := rv
    exact ⟨a, _, rfl, rp.g.seq hg, RepVs.ints ns⟩
  | hnd k =>
    obtain ⟨a, rfl, ha⟩ := rv
    unfold seqL at h
    dsimp only at h
    split at h
    · rename_i es hk
      cases h
      obtain ⟨_, _, o, ho, vs, rfl, r⟩ := rp.live k _ a hk ha
      exact ⟨a, vs, rfl, .inl (.inl ho), r⟩
    · cases h
  | _ => cases h
theorem seqT_ok (rp : Rep K mg F G0 G ι μ H) (rv : RepV K G ι v d) (h : seqT d = some ds) : ∃ a vs, v = .ref a ∧ SqT K H a vs ∧ RepVs K G ι vs ds := by
  cases d with
  | tup es =>
    cases h
    obtain ⟨a, vs, rfl, hg, r⟩ := rv
    exact ⟨a, vs, rfl, Same.sqT rp.g hg, r⟩
  | _ => cases h
theorem RepVs.toInts : ∀ {vs : List V} {ns : List Int}, RepVs K G ι vs (ns.map D.int) → vs = ns.map V.int
  | vs, [], h => h
  | vs, n :: ns, h => by
    obtain ⟨v, r, rfl, h1, h2⟩ := h
    rw [show v = V.int n from h1, RepVs.toInts h2]
    rfl
end

/-! ### the for loop -/
structure Wk where
  items : List D
  chk : Mem → Prop
def IterOf (K : PySem.W.Frag) (mg : Str → Option Value) (J : It) (it : Wk) (G : Hp) (ι : List Addr) : Prop :=
  ∀ (i : Nat) (F G0 G' : Hp) (ι' : List Addr) (μ' : Mem) (H' : Hp), Ext G ι G' ι' → Rep K mg F G0 G' ι' μ' H' → it.chk μ' →
    (∀ d, it.items[i]? = some d → J.go i H' ∧ ∀ x H2, J.yld i H' x H2 → ∃ G2, Ext G' ι' G2 ι' ∧ Rep K mg F G0 G2 ι' μ' H2 ∧ RepV K G2 ι' x d) ∧ (it.items.length ≤ i → J.stop i H')
abbrev IM := DEnv → Mem → Res Wk
def tI (X : Cx) (W : WX) (ε : IM) : TI := fun σ H R => ∃ F G0 G ι μ ρ, Rep X.K X.mg F G0 G ι μ H ∧ RepE X.K G ι σ ρ ∧
  Post X.K X.mg F G0 G ι (ε ρ μ) (fun cls d H' => W cls d σ H') fun it G' ι' _ H' => ∀ J, IterOf X.K X.mg J it G' ι' → R J H'
noncomputable def forL (chk : Mem → Prop) (g : GM) (body : SM) : List D → DEnv → Mem → Res Fl
  | [], ρ, μ => if chk μ then .ok (.nx ρ) μ else .bad
  | x :: xs, ρ, μ => if chk μ then (g x ρ μ).bind fun ρ1 μ1 => (body ρ1 μ1).bind fun f μ2 => match f with
      | .nx ρ2 => forL chk g body xs ρ2 μ2
      | .ct ρ2 => forL chk g body xs ρ2 μ2
      | .bk ρ2 => .ok (.nx ρ2) μ2
      | .rt d => .ok (.rt d) μ2
    else .bad
noncomputable def sFor (ε : IM) (g : GM) (body : SM) : SM := fun ρ μ => (ε ρ μ).bind fun it μ1 => forL it.chk g body it.items ρ μ1
section
variable {X : Cx} {W : WX}
theorem s_for {tg iter : Expr} {body : List Stmt} {pos : Pos} {ε : IM} {g : GM} {b : SM} (hp : PassesOwn (model X.prog X.w) X.A X.env X.xe) (hc : X.calm = true) (hi : PI X tg iter (tI X W ε)) (hg : PG X tg (tG X W g)) (hb : PSs X body (tS X W b))
    (hs : ∀ x, foldedSetIterable iter X.env x = pure x := by intro _; rfl) : PS X (.For tg iter body [] pos) (tS X W (sFor ε g b)) := ps_imp (ps_for hp hc hi hg hb hs) fun N σ H h => by
  obtain ⟨F, G0, G, ι, μ, ρ, rp, e, h⟩ := h
  refine ⟨F, G0, G, ι, μ, ρ, rp, e, (eX h.bind).imp fun it G1 ι1 μ1 H1 x1 r1 h1 J hJ => ?_⟩
  refine ⟨fun i m σ' H' => m = it.items.length - i ∧ i ≤ it.items.length ∧ ∃ G' ι' μ' ρ', Ext G1 ι1 G' ι' ∧ Rep X.K X.mg F G0 G' ι' μ' H' ∧ RepE X.K G' ι' σ' ρ' ∧
    Post X.K X.mg F G0 G' ι' (forL it.chk g b (it.items.drop i) ρ' μ') (fun cls d H' => ∀ σ', W cls d σ' H') (FlQ X.K N), ⟨_, rfl, Nat.zero_le _, G1, ι1, μ1, ρ, Ext.refl _ _, r1, e.mono x1, h1⟩, ?_⟩
  rintro i m σ2 H2 ⟨rfl, hi, G2, ι2, μ2, ρ2, x2, r2, e2, h2⟩
  by_cases hlt : i < it.items.length
  · rw [List.drop_eq_getElem_cons hlt] at h2
    unfold forL at h2
    by_cases hck : it.chk μ2
    · rw [if_pos hck] at h2
      obtain ⟨go, yl⟩ := (hJ i F G0 G2 ι2 μ2 H2 x2 r2 hck).1 _ (List.getElem?_eq_getElem hlt)
      refine .inr ⟨go, fun σ' H' => ∃ G' ι' μ' ρ', Ext G1 ι1 G' ι' ∧ Rep X.K X.mg F G0 G' ι' μ' H' ∧ RepE X.K G' ι' σ' ρ' ∧
        Post X.K X.mg F G0 G' ι' (forL it.chk g b (it.items.drop (i + 1)) ρ' μ') (fun cls d H' => ∀ σ', W cls d σ' H') (FlQ X.K N), fun σ' H' q => ⟨_, by omega, rfl, hlt, q⟩, fun v H3 hy => ?_⟩
      obtain ⟨G3, x3, r3, rv⟩ := yl v H3 hy
      refine ⟨F, G0, G3, ι2, μ2, ρ2, _, r3, e2.mono x3, rv, (Post.mono x3 h2.bind).imp fun ρ4 G4 ι4 μ4 H4 x4 r4 h4 σ4 e4 => ?_⟩
      refine tS.go r4 e4 h4.bind fun f G5 ι5 μ5 H5 x5 r5 h5 => ?_
      cases f with
      | nx ρ5 => exact fun σ5 e5 => ⟨G5, ι5, μ5, ρ5, ((x2.trans x3).trans x4).trans x5, r5, e5, h5⟩
      | ct ρ5 => exact fun σ5 e5 => ⟨G5, ι5, μ5, ρ5, ((x2.trans x3).trans x4).trans x5, r5, e5, h5⟩
      | bk ρ5 => exact fun σ5 e5 => Post.now (a := Fl.nx ρ5) (Q := FlQ X.K N) r5 h5 σ5 e5
      | rt d => exact fun v rv => Post.now (a := Fl.rt d) (Q := FlQ X.K N) r5 h5 v rv
    · rw [if_neg hck] at h2
      exact h2.elim
  · have ei : i = it.items.length := by omega
    subst ei
    rw [List.drop_length] at h2
    unfold forL at h2
    by_cases hck : it.chk μ2
    · rw [if_pos hck] at h2
      exact .inl ⟨(hJ _ F G0 G2 ι2 μ2 H2 x2 r2 hck).2 (Nat.le_refl _), Post.now (a := Fl.nx ρ2) (Q := FlQ X.K N) r2 h2 σ2 e2⟩
    · rw [if_neg hck] at h2
      exact h2.elim

/-! ### the while loop -/
end
def whileF (t : TM) (body : SM) : Nat → DEnv → Mem → Res Fl
  | 0, _, _ => .bad
  | n + 1, ρ, μ => (t ρ μ).bind fun c μ1 => if c = true then (body ρ μ1).bind fun f μ2 => match f with
      | .nx ρ2 => whileF t body n ρ2 μ2
      | .ct ρ2 => whileF t body n ρ2 μ2
      | .bk ρ2 => .ok (.nx ρ2) μ2
      | .rt d => .ok (.rt d) μ2
    else .ok (.nx ρ) μ1
noncomputable def sWhile (t : TM) (body : SM) : SM := fun ρ μ => if h : ∃ n, whileF t body n ρ μ ≠ .bad then whileF t body h.choose ρ μ else .bad
theorem whileF_succ {t : TM} {body : SM} : ∀ {n : Nat} {ρ : DEnv} {μ : Mem}, whileF t body n ρ μ ≠ .bad → whileF t body (n + 1) ρ μ = whileF t body n ρ μ := by
  intro n
  induction n with
  | zero => intro ρ μ h; exact absurd rfl h
  | succ n ih =>
    intro ρ μ h
    rw [whileF] at h ⊢
    rw [whileF]
    cases e1 : t ρ μ with
    | ok c μ1 =>
      rw [e1] at h
      simp only [Res.bind] at h ⊢
      cases c with
      | false => rfl
      | true =>
        simp only [if_true] at h ⊢
        cases e2 : body ρ μ1 with
        | ok f μ2 =>
          rw [e2] at h
          simp only [Res.bind] at h ⊢
          cases f with
          | nx ρ2 => exact ih h
          | ct ρ2 => exact ih h
          | bk ρ2 => rfl
          | rt d => rfl
        | exc x μ2 => rfl
        | bad => rfl
    | exc x μ1 => rfl
    | bad => rfl
theorem whileF_le {t : TM} {body : SM} {n m : Nat} {ρ : DEnv} {μ : Mem} (hnm : n ≤ m) (h : whileF t body n ρ μ ≠ .bad) : whileF t body m ρ μ = whileF t body n ρ μ := by
  induction hnm with
  | refl => rfl
  | step hm ih => rw [whileF_succ (by rw [ih]; exact h), ih]
theorem sWhile_of {t : TM} {body : SM} {n : Nat} {ρ : DEnv} {μ : Mem} {r : Res Fl} (h : whileF t body n ρ μ = r) (hr : r ≠ .bad) : sWhile t body ρ μ = r := by
  unfold sWhile
  have ex : ∃ n, whileF t body n ρ μ ≠ .bad := ⟨n, by rw [h]; exact hr⟩
  rw [dif_pos ex]
  have h1 := whileF_le (Nat.le_max_left n ex.choose) (show whileF t body n ρ μ ≠ .bad by rw [h]; exact hr)
  have h2 := whileF_le (Nat.le_max_right n ex.choose) ex.choose_spec
  rw [← h2, h1, h]
theorem sWhile_bad {t : TM} {body : SM} {ρ : DEnv} {μ : Mem} (h : ∀ n, whileF t body n ρ μ = .bad) : sWhile t body ρ μ = .bad := by
  unfold sWhile
  rw [dif_neg (fun ⟨n, q⟩ => q (h n))]
/-- one turn -/
theorem sWhile_eq (t : TM) (body : SM) (ρ : DEnv) (μ : Mem) : sWhile t body ρ μ = (t ρ μ).bind fun c μ1 => if c = true then (body ρ μ1).bind fun f μ2 => match f with
      | .nx ρ2 => sWhile t body ρ2 μ2
      | .ct ρ2 => sWhile t body ρ2 μ2
      | .bk ρ2 => .ok (.nx ρ2) μ2
      | .rt d => .ok (.rt d) μ2
    else .ok (.nx ρ) μ1 := by
  have again : ∀ ρ2 μ2, (∀ n, whileF t body (n + 1) ρ μ = whileF t body n ρ2 μ2) → sWhile t body ρ μ = sWhile t body ρ2 μ2 := fun ρ2 μ2 q => by
    by_cases ex : ∃ n, whileF t body n ρ2 μ2 ≠ .bad
    · obtain ⟨n, hn⟩ := ex
      rw [sWhile_of (n := n + 1) (q n) hn, sWhile_of (n := n) rfl hn]
    · have all : ∀ n, whileF t body n ρ2 μ2 = .bad := fun n => Classical.byContradiction fun z => ex ⟨n, z⟩
      rw [sWhile_bad all, sWhile_bad fun n => ?_]
      cases n with
      | zero => rfl
      | succ n => rw [q n]; exact all n
  have once : ∀ r : Res Fl, (∀ n, whileF t body (n + 1) ρ μ = r) → sWhile t body ρ μ = r := fun r q => by
    by_cases hr : r = .bad
    · subst hr
      refine sWhile_bad fun n => ?_
      cases n with
      | zero => rfl
      | succ n => exact q n
    · exact sWhile_of (n := 1) (q 0) hr
  cases e1 : t ρ μ with
  | ok c μ1 =>
    simp only [Res.bind]
    cases c with
    | false => exact once _ fun n => by rw [whileF, e1]; rfl
    | true =>
      simp only [if_true]
      cases e2 : body ρ μ1 with
      | ok f μ2 =>
        simp only
        cases f with
        | nx ρ2 => exact again ρ2 μ2 fun n => by rw [whileF, e1]; simp only [Res.bind, if_true]; rw [e2]
        | ct ρ2 => exact again ρ2 μ2 fun n => by rw [whileF, e1]; simp only [Res.bind, if_true]; rw [e2]
        | bk ρ2 => exact once _ fun n => by rw [whileF, e1]; simp only [Res.bind, if_true]; rw [e2]
        | rt d => exact once _ fun n => by rw [whileF, e1]; simp only [Res.bind, if_true]; rw [e2]
      | exc x μ2 => exact once _ fun n => by rw [whileF, e1]; simp only [Res.bind, if_true]; rw [e2]
      | bad => exact once _ fun n => by rw [whileF, e1]; simp only [Res.bind, if_true]; rw [e2]
  | exc x μ1 => exact once _ fun n => by rw [whileF, e1]; rfl
  | bad => exact once _ fun n => by rw [whileF, e1]; rfl
section
variable {X : Cx} {W : WX}
theorem s_while {c : Expr} {body : List Stmt} {pos : Pos} {t : TM} {b : SM} (hp : PassesOwn (model X.prog X.w) X.A X.env X.xe) (hc : PT X c (tM X W t)) (hb : PSs X body (tS X W b)) : PS X (.While c body [] pos) (tS X W (sWhile t b)) := ps_imp (ps_while hp hc hb) fun N σ H h => by
  obtain ⟨F, G0, G, ι, μ, ρ, rp, e, h⟩ := h
  have hx : ∃ n, Post X.K X.mg F G0 G ι (whileF t b n ρ μ) (fun cls d H' => ∀ σ', W cls d σ' H') (FlQ X.K N) := by
    unfold sWhile at h
    split at h
    · rename_i ex
      exact ⟨_, h⟩
    · exact h.elim
  obtain ⟨n, hn⟩ := hx
  refine ⟨fun m σ' H' => ∃ G' ι' μ' ρ', Rep X.K X.mg F G0 G' ι' μ' H' ∧ RepE X.K G' ι' σ' ρ' ∧ Post X.K X.mg F G0 G' ι' (whileF t b m ρ' μ') (fun cls d H' => ∀ σ', W cls d σ' H') (FlQ X.K N), ⟨n, G, ι, μ, ρ, rp, e, hn⟩, ?_⟩
  rintro m σ1 H1 ⟨G1, ι1, μ1, ρ1, r1, e1, h1⟩
  cases m with
  | zero => exact h1.elim
  | succ m =>
    rw [whileF] at h1
    refine tM.go r1 e1 (eX h1.bind) fun c G2 ι2 μ2 H2 x2 r2 e2 h2 => ?_
    cases c with
    | false =>
      rw [if_neg Bool.false_ne_true] at h2 ⊢
      exact Post.now (a := Fl.nx ρ1) (Q := FlQ X.K N) r2 h2 σ1 e2
    | true =>
      rw [if_pos rfl] at h2 ⊢
      refine ⟨fun σ' H' => ∃ G' ι' μ' ρ', Rep X.K X.mg F G0 G' ι' μ' H' ∧ RepE X.K G' ι' σ' ρ' ∧ Post X.K X.mg F G0 G' ι' (whileF t b m ρ' μ') (fun cls d H' => ∀ σ', W cls d σ' H') (FlQ X.K N), fun σ' H' q => ⟨m, Nat.lt_succ_self m, q⟩, ?_⟩
      refine tS.go r2 e2 h2.bind fun f G3 ι3 μ3 H3 x3 r3 h3 => ?_
      cases f with
      | nx ρ3 => exact fun σ3 e3 => ⟨G3, ι3, μ3, ρ3, r3, e3, h3⟩
      | ct ρ3 => exact fun σ3 e3 => ⟨G3, ι3, μ3, ρ3, r3, e3, h3⟩
      | bk ρ3 => exact fun σ3 e3 => Post.now (a := Fl.nx ρ3) (Q := FlQ X.K N) r3 h3 σ3 e3
      | rt d => exact fun v rv => Post.now (a := Fl.rt d) (Q := FlQ X.K N) r3 h3 v rv

/-! ### what a for walks -/
def iSeq (α : EM) : IM := fun ρ μ => (α ρ μ).bind fun d μ1 => match seqL μ1 d with
  | some ds => .ok ⟨ds, fun μ' => seqL μ' d = some ds⟩ μ1
  | none => .bad
theorem i_list {tg e : Expr} {α : EM} (he : PE X e (tE X W α)) : PI X tg e (tI X W (iSeq α)) := ⟨fun pins s σ H R I h => (pi_list (tg := tg) he).run pins s σ H R I (by
  obtain ⟨F, G0, G, ι, μ, ρ, rp, e, h⟩ := h
  refine tE.go rp e h.bind fun d G1 ι1 μ1 H1 x1 r1 e1 h1 v rv => ?_
  split at h1
  · rename_i ds hs
    obtain ⟨a, vs, rfl, sq, rvs⟩ := seqL_ok r1 rv hs
    refine ⟨a, rfl, ⟨vs, sq⟩, h1.now r1 _ fun i F' G0' G' ι' μ' H' x' r' hck => ?_⟩
    obtain ⟨a', vs', ea, sq', rvs'⟩ := seqL_ok r' (rv.mono x') hck
    cases ea
    refine ⟨fun d' hd => ?_, fun hl => ⟨vs', sq', by rw [rvs'.length]; exact hl⟩⟩
    obtain ⟨w, hw, rw'⟩ := rvs'.get hd
    refine ⟨⟨vs', w, sq', hw⟩, fun x H2 hy => ?_⟩
    obtain ⟨rfl, hx⟩ := hy
    have := hx vs' sq'
    rw [hw] at this; cases this
    exact ⟨G', Ext.refl _ _, r', rw'⟩
  · exact h1.elim)⟩
def iTpl (α : EM) : IM := fun ρ μ => (α ρ μ).bind fun d μ1 => match seqT d with
  | some ds => .ok ⟨ds, fun _ => True⟩ μ1
  | none => .bad
theorem i_tup {tg e : Expr} {α : EM} (he : PE X e (tE X W α)) : PI X tg e (tI X W (iTpl α)) := ⟨fun pins s σ H R I h => (pi_tup (tg := tg) he).run pins s σ H R I (by
  obtain ⟨F, G0, G, ι, μ, ρ, rp, e, h⟩ := h
  refine tE.go rp e h.bind fun d G1 ι1 μ1 H1 x1 r1 e1 h1 v rv => ?_
  split at h1
  · rename_i ds hs
    obtain ⟨a, vs, rfl, sq, rvs⟩ := seqT_ok r1 rv hs
    refine ⟨a, rfl, ⟨vs, sq⟩, h1.now r1 _ fun i F' G0' G' ι' μ' H' x' r' hck => ?_⟩
    obtain ⟨a', vs', ea, sq', rvs'⟩ := seqT_ok r' (rv.mono x') hs
    cases ea
    refine ⟨fun d' hd => ?_, fun hl => ⟨vs', sq', by rw [rvs'.length]; exact hl⟩⟩
    obtain ⟨w, hw, rw'⟩ := rvs'.get hd
    refine ⟨⟨vs', w, sq', hw⟩, fun x H2 hy => ?_⟩
    obtain ⟨rfl, hx⟩ := hy
    have := hx vs' sq'
    rw [hw] at this; cases this
    exact ⟨G', Ext.refl _ _, r', rw'⟩
  · exact h1.elim)⟩
def rngD (lo : Int) (n : Nat) : List D := (List.range n).map fun i => .int (lo + (i : Nat))
theorem rng_iter {K : PySem.W.Frag} {mg : Str → Option Value} {G : Hp} {ι : List Addr} (lo : Int) (n : Nat) : IterOf K mg (Itr lo n) ⟨rngD lo n, fun _ => True⟩ G ι := by
  intro i F G0 G' ι' μ' H' x' r' _
  have hl : (rngD lo n).length = n := by simp [rngD]
  refine ⟨fun d hd => ?_, fun q => by rw [show (Wk.mk (rngD lo n) fun _ => True).items = rngD lo n from rfl, hl] at q; exact q⟩
  have hi : i < n := by
    have := (List.getElem?_eq_some_iff.mp hd).1
    rw [hl] at this
    exact this
  refine ⟨hi, fun x H2 hy => ?_⟩
  obtain ⟨rfl, rfl⟩ := hy
  have e : (rngD lo n)[i]? = some (.int (lo + (i : Nat))) := by
    unfold rngD
    rw [List.getElem?_map, List.getElem?_range hi]
    rfl
  rw [show (Wk.mk (rngD lo n) fun _ => True).items = rngD lo n from rfl, e] at hd
  cases hd
  exact ⟨G', Ext.refl _ _, r', rfl⟩
section
noncomputable local instance (priority := 100000) (p : Prop) : Decidable p := Classical.propDecidable p
noncomputable def iRange1 (α : AM) : IM := fun ρ μ => (α ρ μ).bind fun ds μ1 => match ds with
  | [.int j] => if -(2 ^ 62) ≤ j ∧ j < 2 ^ 62 then .ok ⟨rngD 0 j.toNat, fun _ => True⟩ μ1 else .bad
  | _ => .bad
end
theorem i_range1 {tg a : Expr} {p pos : Pos} {α : AM} (hg : Gl X "range") (hm : X.mg "range" = none) (ha : PA X [a] (tA X W α)) (hs : starEach [a] X.env = [(false, eval a X.env)] := by rfl) : PI X tg (.Call (.Name "range" p) [a] [] pos) (tI X W (iRange1 α)) :=
  ⟨fun pins s σ H R I h => (pi_range1 (tg := tg) hg hm ha hs).run pins s σ H R I (by
  obtain ⟨F, G0, G, ι, μ, ρ, rp, e, h⟩ := h
  refine tA.go rp e h.bind fun ds G1 ι1 μ1 H1 x1 r1 e1 h1 vs rvs => ?_
  split at h1
  · rename_i j
    split at h1
    · rename_i hj
      obtain ⟨v, r, rfl, rv, rfl⟩ := rvs
      exact ⟨j, by rw [show v = V.int j from rv], hj.1, hj.2, h1.now r1 _ (rng_iter 0 _)⟩
    · exact h1.elim
  · exact h1.elim)⟩
section
noncomputable local instance (priority := 100000) (p : Prop) : Decidable p := Classical.propDecidable p
noncomputable def iRange2 (α : AM) : IM := fun ρ μ => (α ρ μ).bind fun ds μ1 => match ds with
  | [.int i, .int j] => if -(2 ^ 62) ≤ i ∧ i < 2 ^ 62 ∧ -(2 ^ 62) ≤ j ∧ j < 2 ^ 62 then .ok ⟨rngD i (j - i).toNat, fun _ => True⟩ μ1 else .bad
  | _ => .bad
end
theorem i_range2 {tg a b : Expr} {p pos : Pos} {α : AM} (hg : Gl X "range") (hm : X.mg "range" = none) (ha : PA X [a, b] (tA X W α)) (hs : starEach [a, b] X.env = [(false, eval a X.env), (false, eval b X.env)] := by rfl) (hs2 : starEach [b] X.env = [(false, eval b X.env)] := by rfl) : PI X tg (.Call (.Name "range" p) [a, b] [] pos) (tI X W (iRange2 α)) :=
  ⟨fun pins s σ H R I h => (pi_range2 (tg := tg) hg hm ha hs hs2).run pins s σ H R I (by
  obtain ⟨F, G0, G, ι, μ, ρ, rp, e, h⟩ := h
  refine tA.go rp e h.bind fun ds G1 ι1 μ1 H1 x1 r1 e1 h1 vs rvs => ?_
  split at h1
  · rename_i i j
    split at h1
    · rename_i hj
      obtain ⟨v, r, rfl, rv, w, r', rfl, rw', rfl⟩ := rvs
      exact ⟨i, j, by rw [show v = V.int i from rv, show w = V.int j from rw'], hj, h1.now r1 _ (rng_iter i _)⟩
    · exact h1.elim
  · exact h1.elim)⟩
open Builtin.Range in
instance (i j c : Int) (n : Nat) : Decidable (RgC i j c n) := by unfold RgC; infer_instance
def rngC (lo c : Int) (n : Nat) : List D := (List.range n).map fun i => .int (lo + (i : Nat) * c)
section
noncomputable local instance (priority := 100000) (p : Prop) : Decidable p := Classical.propDecidable p
noncomputable def iRange3 (α : AM) : IM := fun ρ μ => (α ρ μ).bind fun ds μ1 => match ds with
  | [.int i, .int j, .int c] => if RgC i j c (Builtin.Range.rangeSize i j c).toNat then .ok ⟨rngC i c (Builtin.Range.rangeSize i j c).toNat, fun _ => True⟩ μ1 else .bad
  | _ => .bad
end
theorem i_range3 {tg a b c : Expr} {p pos : Pos} {α : AM} (hp : ∀ {ta : TA}, PA X [a, b, c] ta → PI X tg (.Call (.Name "range" p) [a, b, c] [] pos) (iRng3 ta)) (ha : PA X [a, b, c] (tA X W α)) : PI X tg (.Call (.Name "range" p) [a, b, c] [] pos) (tI X W (iRange3 α)) :=
  ⟨fun pins s σ H R I h => (hp ha).run pins s σ H R I (by
  obtain ⟨F, G0, G, ι, μ, ρ, rp, e, h⟩ := h
  refine tA.go rp e h.bind fun ds G1 ι1 μ1 H1 x1 r1 e1 h1 vs rvs => ?_
  split at h1
  · rename_i i j c
    split at h1
    · rename_i hj
      obtain ⟨v, r, rfl, rv, w, r', rfl, rw', z, r'', rfl, rz, rfl⟩ := rvs
      refine ⟨i, j, c, _, by rw [show v = V.int i from rv, show w = V.int j from rw', show z = V.int c from rz], hj, h1.now r1 _ ?_⟩
      generalize (Builtin.Range.rangeSize i j c).toNat = n
      intro k F' G0' G' ι' μ' H' x' r' _
      have hl : (rngC i c n).length = n := by simp [rngC]
      refine ⟨fun d hd => ?_, fun q => by rw [show (Wk.mk (rngC i c n) fun _ => True).items = rngC i c n from rfl, hl] at q; exact q⟩
      have hi : k < n := by
        have := (List.getElem?_eq_some_iff.mp hd).1
        rw [hl] at this
        exact this
      refine ⟨hi, fun x H2 hy => ?_⟩
      obtain ⟨rfl, rfl⟩ := hy
      have e : (rngC i c n)[k]? = some (.int (i + (k : Nat) * c)) := by
        unfold rngC
        rw [List.getElem?_map, List.getElem?_range hi]
        rfl
      rw [show (Wk.mk (rngC i c n) fun _ => True).items = rngC i c n from rfl, e] at hd
      cases hd
      exact ⟨G', Ext.refl _ _, r', rfl⟩
    · exact h1.elim
  · exact h1.elim)⟩
def enumD : Nat → List D → List D
  | _, [] => []
  | i, d :: ds => .tup [.int (i : Nat), d] :: enumD (i + 1) ds
theorem enumD_len : ∀ (i : Nat) (ds : List D), (enumD i ds).length = ds.length
  | _, [] => rfl
  | i, d :: ds => by simp [enumD, enumD_len (i + 1) ds]
theorem enumD_get : ∀ (i j : Nat) (ds : List D) (e : D), (enumD i ds)[j]? = some e → ∃ d, ds[j]? = some d ∧ e = .tup [.int ((i + j : Nat) : Int), d]
  | i, j, [], e, h => by simp [enumD] at h
  | i, 0, d :: ds, e, h => by simp [enumD] at h; exact ⟨d, rfl, by rw [← h]; rfl⟩
  | i, j + 1, d :: ds, e, h => by
    obtain ⟨d', h1, h2⟩ := enumD_get (i + 1) j ds e (by simpa [enumD] using h)
    exact ⟨d', by simpa using h1, by rw [h2, show i + 1 + j = i + (j + 1) by omega]⟩
def iEnumM (α : AM) : IM := fun ρ μ => (α ρ μ).bind fun xs μ1 => match xs with
  | [d] => match seqL μ1 d with
    | some ds => .ok ⟨enumD 0 ds, fun μ' => seqL μ' d = some ds⟩ μ1
    | none => .bad
  | _ => .bad
theorem i_enum {e : Expr} {p pos tpos : Pos} {elts : List Expr} {kk : Nat} {α : AM} (hg : Gl X "enumerate") (hm : X.mg "enumerate" = none) (ha : PA X [e] (tA X W α)) (hs : starEach [e] X.env = [(false, eval e X.env)] := by rfl) :
    PI X (.Tuple elts kk tpos) (.Call (.Name "enumerate" p) [e] [] pos) (tI X W (iEnumM α)) :=
  ⟨fun pins s σ H R I h => (pi_enum (elts := elts) (kk := kk) (tpos := tpos) hg hm ha hs).run pins s σ H R I (by
  obtain ⟨F, G0, G, ι, μ, ρ, rp, e, h⟩ := h
  refine tA.go rp e h.bind fun xs G1 ι1 μ1 H1 x1 r1 e1 h1 vs rvs => ?_
  split at h1
  · rename_i d
    split at h1
    · rename_i ds hs
      obtain ⟨v, r, rfl, rv, rfl⟩ := rvs
      obtain ⟨a, vs, rfl, sq, rvs⟩ := seqL_ok r1 rv hs
      refine ⟨a, vs, rfl, sq, h1.now r1 _ fun i F' G0' G' ι' μ' H' x' r' hck => ?_⟩
      obtain ⟨a', vs', ea, sq', rvs'⟩ := seqL_ok r' (rv.mono x') hck
      cases ea
      refine ⟨fun d' hd => ?_, fun hl => ⟨vs', sq', by rw [rvs'.length]; rw [show (Wk.mk (enumD 0 ds) _).items = enumD 0 ds from rfl, enumD_len] at hl; exact hl⟩⟩
      obtain ⟨c, hc, rfl⟩ := enumD_get 0 i ds d' hd
      obtain ⟨w, hw, rw'⟩ := rvs'.get hc
      refine ⟨⟨vs', w, sq', hw⟩, fun x H2 hy => ?_⟩
      obtain ⟨T, y, rfl, hT, rfl, hx⟩ := hy
      have := hx vs' sq'
      rw [hw] at this; cases this
      obtain ⟨r2, x2⟩ := r'.datum hT (.tup [.int (i : Nat), w])
      exact ⟨_, x2, r2, T, _, rfl, .inl (.inl upd_same), V.int _, _, rfl, by show V.int _ = V.int _; rw [Nat.zero_add], w, [], rfl, rw'.mono x2, rfl⟩
    · exact h1.elim
  · exact h1.elim)⟩
def zipD : List D → List D → List D
  | a :: as, b :: bs => .tup [a, b] :: zipD as bs
  | _, _ => []
theorem zipD_len : ∀ (as bs : List D), (zipD as bs).length = min as.length bs.length
  | [], _ => by simp [zipD]
  | _ :: _, [] => by simp [zipD]
  | a :: as, b :: bs => by simp [zipD, zipD_len as bs]
theorem zipD_get : ∀ (j : Nat) (as bs : List D) (e : D), (zipD as bs)[j]? = some e → ∃ a b, as[j]? = some a ∧ bs[j]? = some b ∧ e = .tup [a, b]
  | j, [], _, e, h => by simp [zipD] at h
  | j, _ :: _, [], e, h => by simp [zipD] at h
  | 0, a :: as, b :: bs, e, h => by simp [zipD] at h; exact ⟨a, b, rfl, rfl, h.symm⟩
  | j + 1, a :: as, b :: bs, e, h => by
    obtain ⟨a', b', h1, h2, h3⟩ := zipD_get j as bs e (by simpa [zipD] using h)
    exact ⟨a', b', by simpa using h1, by simpa using h2, h3⟩
def iZipM (α : AM) : IM := fun ρ μ => (α ρ μ).bind fun xs μ1 => match xs with
  | [d, e] => match seqL μ1 d, seqL μ1 e with
    | some ds, some es => .ok ⟨zipD ds es, fun μ' => seqL μ' d = some ds ∧ seqL μ' e = some es⟩ μ1
    | _, _ => .bad
  | _ => .bad
theorem i_zip {e e2 : Expr} {p pos tpos : Pos} {elts : List Expr} {kk : Nat} {α : AM} (hg : Gl X "zip") (hm : X.mg "zip" = none) (ha : PA X [e, e2] (tA X W α))
    (hs : starEach [e, e2] X.env = (false, eval e X.env) :: starEach [e2] X.env := by rfl) (hpl : (backTo pos (starEach [e2] X.env)).any (·.1) = false := by rfl) : PI X (.Tuple elts kk tpos) (.Call (.Name "zip" p) [e, e2] [] pos) (tI X W (iZipM α)) :=
  ⟨fun pins s σ H R I h => (pi_zip (elts := elts) (kk := kk) (tpos := tpos) hg hm ha hs hpl).run pins s σ H R I (by
  obtain ⟨F, G0, G, ι, μ, ρ, rp, e, h⟩ := h
  refine tA.go rp e h.bind fun xs G1 ι1 μ1 H1 x1 r1 e1 h1 vs rvs => ?_
  split at h1
  · rename_i d1 d2
    split at h1
    · rename_i ds1 ds2 hs1 hs2
      obtain ⟨v, r, rfl, rv, w, r', rfl, rw', rfl⟩ := rvs
      obtain ⟨a, vs, rfl, sq, rvs⟩ := seqL_ok r1 rv hs1
      obtain ⟨b, ws, rfl, sq2, rws⟩ := seqL_ok r1 rw' hs2
      refine ⟨a, b, vs, ws, rfl, sq, sq2, h1.now r1 _ fun i F' G0' G' ι' μ' H' x' r' hck => ?_⟩
      obtain ⟨a', vs', ea, sq', rvs'⟩ := seqL_ok r' (rv.mono x') hck.1
      obtain ⟨b', ws', eb, sq2', rws'⟩ := seqL_ok r' (rw'.mono x') hck.2
      cases ea
      cases eb
      refine ⟨fun d' hd => ?_, fun hl => ⟨vs', ws', sq', sq2', ?_⟩⟩
      · obtain ⟨c1, c2, hc1, hc2, rfl⟩ := zipD_get i ds1 ds2 d' hd
        obtain ⟨w1, hw1, rw1⟩ := rvs'.get hc1
        obtain ⟨w2, hw2, rw2⟩ := rws'.get hc2
        refine ⟨⟨vs', ws', w1, w2, sq', sq2', hw1, hw2⟩, fun x H2 hy => ?_⟩
        obtain ⟨T, y, z, rfl, hT, rfl, hx, hy⟩ := hy
        have q1 := hx vs' sq'
        rw [hw1] at q1; cases q1
        have q2 := hy ws' sq2'
        rw [hw2] at q2; cases q2
        obtain ⟨r2, x2⟩ := r'.datum hT (.tup [w1, w2])
        exact ⟨_, x2, r2, T, _, rfl, .inl (.inl upd_same), w1, _, rfl, rw1.mono x2, w2, [], rfl, rw2.mono x2, rfl⟩
      · rw [show (Wk.mk (zipD ds1 ds2) _).items = zipD ds1 ds2 from rfl, zipD_len] at hl
        rw [rvs'.length, rws'.length]
        omega
    · exact h1.elim
  · exact h1.elim)⟩
end
end
end Md

/-! Operators, subscripts, comparisons, built-in functions and methods. -/
namespace Md
open PySem PySem.Spec PyProof.Rows L2
open Classical in
section

/-! ### data as the library's data -/
mutual
def toPyL (L : Nat → Option (List PyData)) : D → Option PyData
  | .non => some .none
  | .bl b => some (.bool b)
  | .int i => some (.int i)
  | .str x => some (.str x)
  | .lst ds => (toPyLs L ds).map .list
  | .tup ds => (toPyLs L ds).map .tuple
  | .scr ns => some (.list (ns.map .int))
  | .hnd k => (L k).map .list
def toPyLs (L : Nat → Option (List PyData)) : List D → Option (List PyData)
  | [] => some []
  | d :: ds => match toPyL L d, toPyLs L ds with
    | some p, some ps => some (p :: ps)
    | _, _ => none
end
def cellPy (μ : Mem) (k : Nat) : Option (List PyData) := match μ[k]? with
  | some (some (.lst ds)) => toPyLs (fun _ => none) ds
  | _ => none
def toPy (μ : Mem) (d : D) : Option PyData := toPyL (cellPy μ) d
section
variable {K : PySem.W.Frag} {mg : Str → Option Value} {F G0 G : Hp} {ι : List Addr} {μ : Mem} {H : Hp}
theorem dp_ints {H : Hp} : ∀ ns : List Int, DpAll K H (ns.map V.int) (ns.map PyData.int)
  | [] => .nil
  | n :: ns => .cons (.int n) (dp_ints ns)
mutual
theorem toPyL_ok {L : Nat → Option (List PyData)} (hg : Same G H) (hL : ∀ k a ps, L k = some ps → ι[k]? = some a → ∃ vs, SqL K H a vs ∧ DpAll K H vs ps) : ∀ (d : D) (v : V) (p : PyData), RepV K G ι v d → toPyL L d = some p → Dp K H v p
  | .non, v, p, r, h => by cases h; rw [show v = V.non from r]; exact .non
  | .bl b, v, p, r, h => by cases h; rw [show v = V.bl b from r]; exact .bl b
  | .int i, v, p, r, h => by cases h; rw [show v = V.int i from r]; exact .int i
  | .str x, v, p, r, h => by cases h; rw [show v = V.str x from r]; exact .str x
  | .lst ds, v, p, r, h => by
    obtain ⟨a, vs, rfl, e, rs⟩ := r
    rw [toPyL] at h
    cases q : toPyLs L ds with
    | none => rw [q] at h; cases h
    | some ps => rw [q] at h; cases h; exact .lst (.inl (.inl (hg _ _ e))) (toPyLs_ok hg hL ds vs ps rs q)
  | .tup ds, v, p, r, h => by
    obtain ⟨a, vs, rfl, e, rs⟩ := r
    rw [toPyL] at h
    cases q : toPyLs L ds with
    | none => rw [q] at h; cases h
    | some ps => rw [q] at h; cases h; exact .tup (Same.sqT hg e) (toPyLs_ok hg hL ds vs ps rs q)
  | .scr ns, v, p, r, h => by
    obtain ⟨a, rfl, e⟩ := r
    cases h
    exact .lst (hg.seq e) (dp_ints ns)
  | .hnd k, v, p, r, h => by
    obtain ⟨a, rfl, e⟩ := r
    rw [toPyL] at h
    cases q : L k with
    | none => rw [q] at h; cases h
    | some ps =>
      rw [q] at h; cases h
      obtain ⟨vs, s, x⟩ := hL k a ps q e
      exact .lst s x
theorem toPyLs_ok {L : Nat → Option (List PyData)} (hg : Same G H) (hL : ∀ k a ps, L k = some ps → ι[k]? = some a → ∃ vs, SqL K H a vs ∧ DpAll K H vs ps) : ∀ (ds : List D) (vs : List V) (ps : List PyData), RepVs K G ι vs ds → toPyLs L ds = some ps → DpAll K H vs ps
  | [], vs, ps, r, h => by cases h; rw [show vs = [] from r]; exact .nil
  | d :: ds, vs, ps, r, h => by
    obtain ⟨v, w, rfl, r1, r2⟩ := r
    rw [toPyLs] at h
    cases q1 : toPyL L d with
    | none => rw [q1] at h; cases h
    | some p =>
      cases q2 : toPyLs L ds with
      | none => rw [q1, q2] at h; cases h
      | some qs => rw [q1, q2] at h; cases h; exact .cons (toPyL_ok hg hL d v p r1 q1) (toPyLs_ok hg hL ds w qs r2 q2)
end
theorem toPy_ok (rp : Rep K mg F G0 G ι μ H) {v : V} {d : D} {p : PyData} (rv : RepV K G ι v d) (h : toPy μ d = some p) : Dp K H v p := by
  refine toPyL_ok rp.g (fun k a ps hk ha => ?_) d v p rv h
  unfold cellPy at hk
  split at hk
  · rename_i ds hc
    obtain ⟨_, _, o, ho, vs, rfl, r⟩ := rp.live k _ a hc ha
    exact ⟨vs, .inl (.inl ho), toPyLs_ok rp.g (fun _ _ _ z => by cases z) ds vs ps r hk⟩
  · cases hk
end

section
noncomputable local instance (priority := 100000) (p : Prop) : Decidable p := Classical.propDecidable p
noncomputable def mEq (x y : D) (μ : Mem) : Res D := match toPy μ x, toPy μ y with
  | some p, some q => if SeqAt.shaped p = true ∧ SeqAt.shaped q = true then .ok (.bl (PyData.eqv p q)) μ else .bad
  | _, _ => .bad
end
section
noncomputable local instance (priority := 100000) (p : Prop) : Decidable p := Classical.propDecidable p
noncomputable def mNe (x y : D) (μ : Mem) : Res D := match toPy μ x, toPy μ y with
  | some p, some q => if SeqAt.shaped p = true ∧ SeqAt.shaped q = true then .ok (.bl (!PyData.eqv p q)) μ else .bad
  | _, _ => .bad
end
section
variable {K : PySem.W.Frag} {mg : Str → Option Value}
theorem om_eq : OpM K mg (rEqD K) mEq := by
  intro F G0 G ι μ H x y dx dy Qx Q rp rx ry h
  unfold mEq at h
  split at h
  · rename_i p q hp hq
    split at h
    · rename_i hs
      exact ⟨p, q, toPy_ok rp rx hp, toPy_ok rp ry hq, hs.1, hs.2, h.now rp _ rfl⟩
    · exact h.elim
  · exact h.elim
theorem om_ne : OpM K mg (rNeD K) mNe := by
  intro F G0 G ι μ H x y dx dy Qx Q rp rx ry h
  unfold mNe at h
  split at h
  · rename_i p q hp hq
    split at h
    · rename_i hs
      exact ⟨p, q, toPy_ok rp rx hp, toPy_ok rp ry hq, hs.1, hs.2, h.now rp _ rfl⟩
    · exact h.elim
  · exact h.elim
end

/-- in, not in -/
def flatP : PyData → Bool
  | .none => true
  | .bool _ => true
  | .int _ => true
  | .str _ => true
  | _ => false
theorem dp_flat {K : PySem.W.Frag} {H : Hp} {v : V} {p : PyData} (h : Dp K H v p) (f : flatP p = true) : flatV v = true := by
  cases h <;> first | rfl | (exact absurd f Bool.false_ne_true)
theorem dp_eqv {K : PySem.W.Frag} {H : Hp} {v w : V} {p q : PyData} (h : Dp K H v p) (h' : Dp K H w q) (f : flatP p = true) (f' : flatP q = true) : eqV v w = PyData.eqv p q := by
  cases h <;> cases h' <;> first | rfl | (simp only [eqV, PyData.eqv]; done) | (exact absurd f Bool.false_ne_true) | (exact absurd f' Bool.false_ne_true)
theorem dpAll_flat {K : PySem.W.Frag} {H : Hp} : ∀ {vs : List V} {ps : List PyData}, DpAll K H vs ps → ps.all flatP = true → vs.all flatV = true
  | _, _, .nil, _ => rfl
  | _, _, .cons h t, f => by
    rw [List.all_cons, Bool.and_eq_true] at f ⊢
    exact ⟨dp_flat h f.1, dpAll_flat t f.2⟩
theorem dpAll_any {K : PySem.W.Frag} {H : Hp} {v : V} {p : PyData} (h : Dp K H v p) (f : flatP p = true) : ∀ {vs : List V} {ps : List PyData}, DpAll K H vs ps → ps.all flatP = true → inV v vs = ps.any fun z => PyData.eqv z p
  | _, _, .nil, _ => rfl
  | _, _, .cons (v := w) (d := q) h1 t, f1 => by
    rw [List.all_cons, Bool.and_eq_true] at f1
    have ih := dpAll_any h f t f1.2
    unfold inV at ih ⊢
    rw [List.any_cons, List.any_cons, ih, dp_eqv h1 h f1.1 f]
section
noncomputable local instance (priority := 100000) (p : Prop) : Decidable p := Classical.propDecidable p
noncomputable def mInG (neg : Bool) (x y : D) (μ : Mem) : Res D := match toPy μ x, toPy μ y with
  | some p, some (.list qs) => if (flatP p = true ∧ qs.all flatP = true) ∨ (SeqAt.shaped p = true ∧ SeqAt.shaped (.list qs) = true) then .ok (.bl (bif neg then !(qs.any fun z => PyData.eqv z p) else (qs.any fun z => PyData.eqv z p))) μ else .bad
  | some p, some (.tuple qs) => if flatP p = true ∧ qs.all flatP = true then .ok (.bl (bif neg then !(qs.any fun z => PyData.eqv z p) else (qs.any fun z => PyData.eqv z p))) μ else .bad
  | _, _ => .bad
end
noncomputable def mIn : D → D → Mem → Res D := mInG false
noncomputable def mNotIn : D → D → Mem → Res D := mInG true
section
variable {K : PySem.W.Frag} {mg : Str → Option Value}
def rInA (K : PySem.W.Frag) : R2 := fun x y H Q => rIn K false x y H Q ∨ rInD K x y H Q
def rNotInA (K : PySem.W.Frag) : R2 := fun x y H Q => rIn K true x y H Q ∨ rNotInD K x y H Q
theorem op_inA {X : Cx} (hu : X.A.units + 65 < cLine) : OpR X (compareOp .In) (rInA X.K) := opR_or op_in_seq (op_inD hu)
theorem op_notInA {X : Cx} (hu : X.A.units + 65 < cLine) : OpR X (compareOp .NotIn) (rNotInA X.K) := opR_or op_notIn_seq (op_notInD hu)
theorem om_in : OpM K mg (rInA K) mIn := by
  intro F G0 G ι μ H x y dx dy Qx Q rp rx ry h
  unfold mIn mInG at h
  split at h
  · rename_i p qs hp hq
    have d1 := toPy_ok rp rx hp
    have d2 := toPy_ok rp ry hq
    split at h
    · rename_i hs
      have q := h.now rp _ rfl
      simp only [cond_false] at q
      rcases hs with ⟨f1, f2⟩ | ⟨s1, s2⟩
      · cases d2 with
        | lst hsq hall => exact .inl ⟨_, _, rfl, .inl hsq, dp_flat d1 f1, dpAll_flat hall f2, by rw [if_neg Bool.false_ne_true, dpAll_any d1 f1 hall f2]; exact q⟩
      · exact .inr ⟨p, qs, d1, d2, s1, s2, q⟩
    · exact h.elim
  · rename_i p qs hp hq
    have d1 := toPy_ok rp rx hp
    have d2 := toPy_ok rp ry hq
    split at h
    · rename_i hs
      have q := h.now rp _ rfl
      simp only [cond_false] at q
      cases d2 with
      | tup hsq hall => exact .inl ⟨_, _, rfl, .inr hsq, dp_flat d1 hs.1, dpAll_flat hall hs.2, by rw [if_neg Bool.false_ne_true, dpAll_any d1 hs.1 hall hs.2]; exact q⟩
    · exact h.elim
  · exact h.elim
theorem om_notIn : OpM K mg (rNotInA K) mNotIn := by
  intro F G0 G ι μ H x y dx dy Qx Q rp rx ry h
  unfold mNotIn mInG at h
  split at h
  · rename_i p qs hp hq
    have d1 := toPy_ok rp rx hp
    have d2 := toPy_ok rp ry hq
    split at h
    · rename_i hs
      have q := h.now rp _ rfl
      simp only [cond_true] at q
      rcases hs with ⟨f1, f2⟩ | ⟨s1, s2⟩
      · cases d2 with
        | lst hsq hall => exact .inl ⟨_, _, rfl, .inl hsq, dp_flat d1 f1, dpAll_flat hall f2, by rw [if_pos rfl, dpAll_any d1 f1 hall f2]; exact q⟩
      · exact .inr ⟨p, qs, d1, d2, s1, s2, q⟩
    · exact h.elim
  · rename_i p qs hp hq
    have d1 := toPy_ok rp rx hp
    have d2 := toPy_ok rp ry hq
    split at h
    · rename_i hs
      have q := h.now rp _ rfl
      simp only [cond_true] at q
      cases d2 with
      | tup hsq hall => exact .inl ⟨_, _, rfl, .inr hsq, dp_flat d1 hs.1, dpAll_flat hall hs.2, by rw [if_pos rfl, dpAll_any d1 hs.1 hall hs.2]; exact q⟩
    · exact h.elim
  · exact h.elim
end

/-! ### a list that stands in the heap as such -/
def seqM (μ : Mem) : D → Option (List D)
  | .lst ds => some ds
  | .hnd k => match μ[k]? with
    | some (some (.lst ds)) => some ds
    | _ => none
  | _ => none
section
variable {K : PySem.W.Frag} {mg : Str → Option Value} {F G0 G : Hp} {ι : List Addr} {μ : Mem} {H : Hp} {v : V} {d : D} {ds : List D}
theorem seqM_ok (rp : Rep K mg F G0 G ι μ H) (rv : RepV K G ι v d) (h : seqM μ d = some ds) : ∃ a vs, v = .ref a ∧ H a = some (.lst vs) ∧ RepVs K G ι vs ds := by
  cases d with
  | lst es =>
    cases h
    obtain ⟨a, vs, rfl, hg, r⟩ := rv
    exact ⟨a, vs, rfl, rp.g _ _ hg, r⟩
  | hnd k =>
    obtain ⟨a, rfl, ha⟩ := rv
    unfold seqM at h
    dsimp only at h
    split at h
    · rename_i es hk
      cases h
      obtain ⟨_, _, o, ho, vs, rfl, r⟩ := rp.live k _ a hk ha
      exact ⟨a, vs, rfl, ho, r⟩
    · cases h
  | _ => cases h
end

/-! ### + - * -/
section
noncomputable local instance (priority := 100000) (p : Prop) : Decidable p := Classical.propDecidable p
noncomputable def mAdd (mk : List D → Mem → Res D) (x y : D) (μ : Mem) : Res D := match x, y with
  | .int i, .int j => .ok (.int (i + j)) μ
  | .str a, .str b => if a.length + b.length ≤ sizeLine then .ok (.str (a ++ b)) μ else .bad
  | x, y => match seqM μ x, seqM μ y with
    | some a, some b => mk (a ++ b) μ
    | _, _ => .bad
end
def rAddA : R2 := fun x y H Q => rI0 (fun i j => .int (i + j)) x y H Q ∨ ((∃ i j, x = .str i ∧ y = .str j ∧ i.length + j.length ≤ sizeLine ∧ Q (.str (i ++ j)) H) ∨ rCat x y H Q)
theorem op_addA {X : Cx} : OpR X (binaryOp .Add) rAddA := opR_or op_add (opR_or op_add_str op_cat)
theorem om_add {K : PySem.W.Frag} {mg : Str → Option Value} {mk : List D → Mem → Res D} (hk : MkL mk) : OpM K mg rAddA (mAdd mk) := by
  intro F G0 G ι μ H x y dx dy Qx Q rp rx ry h
  unfold mAdd at h
  split at h
  · rename_i i j
    exact .inl ⟨i, j, rx, ry, h.now rp _ rfl⟩
  · rename_i a b
    split at h
    · rename_i hz
      exact .inr (.inl ⟨a, b, rx, ry, hz, h.now rp _ rfl⟩)
    · exact h.elim
  · split at h
    · rename_i a b ha hb
      obtain ⟨p, vs, rfl, hp, r1⟩ := seqM_ok rp rx ha
      obtain ⟨q, ws, rfl, hq, r2⟩ := seqM_ok rp ry hb
      obtain ⟨z, fin⟩ := hk rp (r1.append r2) h
      exact .inr (.inr ⟨p, q, vs, ws, rfl, rfl, hp, hq, by rw [← List.length_append]; exact z, fin⟩)
    · exact h.elim
abbrev mSub : D → D → Mem → Res D := mI0 fun i j => .int (i - j)
theorem om_sub {K : PySem.W.Frag} {mg : Str → Option Value} : OpM K mg (rI0 fun i j => .int (i - j)) mSub := om_I0 fun _ _ _ _ => rfl
def MulOk (i j : Int) : Prop := CMul i j ∨ CMulW i j
instance (i j : Int) : Decidable (MulOk i j) := by unfold MulOk CMul CMulW; infer_instance
section
noncomputable local instance (priority := 100000) (p : Prop) : Decidable p := Classical.propDecidable p
noncomputable def mMul (mk : List D → Mem → Res D) (x y : D) (μ : Mem) : Res D := match x, y with
  | .int i, .int j => if MulOk i j then .ok (.int (i * j)) μ else .bad
  | x, .int k => match seqM μ x with
    | some a => if -(2 ^ 63) ≤ k ∧ k < 2 ^ 63 ∧ a.length * k.toNat ≤ sizeLine then mk (List.replicate k.toNat a).flatten μ else .bad
    | _ => .bad
  | _, _ => .bad
end
def rMulA : R2 := fun x y H Q => rI CMul (fun i j => .int (i * j)) x y H Q ∨ (rI CMulW (fun i j => .int (i * j)) x y H Q ∨ rRep x y H Q)
theorem repVs_rep {K : PySem.W.Frag} {G : Hp} {ι : List Addr} {vs : List V} {ds : List D} (h : RepVs K G ι vs ds) : ∀ n : Nat, RepVs K G ι (List.replicate n vs).flatten (List.replicate n ds).flatten
  | 0 => rfl
  | n + 1 => by
    rw [List.replicate_succ, List.replicate_succ, List.flatten_cons, List.flatten_cons]
    exact h.append (repVs_rep h n)
theorem op_mulA {X : Cx} : OpR X (binaryOp .Mult) rMulA := opR_or op_mul (opR_or op_mulW op_rep)
theorem om_mul {K : PySem.W.Frag} {mg : Str → Option Value} {mk : List D → Mem → Res D} (hk : MkL mk) : OpM K mg rMulA (mMul mk) := by
  intro F G0 G ι μ H x y dx dy Qx Q rp rx ry h
  unfold mMul at h
  split at h
  · rename_i i j
    split at h
    · rename_i hz
      rcases hz with hz | hz
      · exact .inl ⟨i, j, rx, ry, hz, h.now rp _ rfl⟩
      · exact .inr (.inl ⟨i, j, rx, ry, hz, h.now rp _ rfl⟩)
    · exact h.elim
  · rename_i k _
    split at h
    · rename_i a ha
      split at h
      · rename_i hz
        obtain ⟨p, vs, rfl, hp, r1⟩ := seqM_ok rp rx ha
        obtain ⟨z, fin⟩ := hk rp (repVs_rep r1 k.toNat) h
        exact .inr (.inr ⟨p, k, vs, rfl, ry, hp, hz.1, hz.2.1, by rw [r1.length]; exact hz.2.2, fin⟩)
      · exact h.elim
    · exact h.elim
  · exact h.elim
instance (i j : Int) : Decidable (CDiv i j) := by unfold CDiv; infer_instance
instance (i j : Int) : Decidable (CDivN i j) := by unfold CDivN; infer_instance
instance (i j : Int) : Decidable (CPow i j) := by unfold CPow; infer_instance
instance (i j : Int) : Decidable (CDivW i j) := by unfold CDivW; infer_instance
section
variable {K : PySem.W.Frag} {mg : Str → Option Value}
noncomputable def mDiv : D → D → Mem → Res D := mI CDivW fun i j => .int (i / j)
theorem om_div : OpM K mg (rI CDivW fun i j => .int (i / j)) mDiv := om_I fun _ _ _ _ => rfl
noncomputable def mMod : D → D → Mem → Res D := mI (fun _ j => 0 < j) fun i j => .int (i % j)
theorem om_mod : OpM K mg (rI (fun _ j => 0 < j) fun i j => .int (i % j)) mMod := om_I fun _ _ _ _ => rfl
noncomputable def mPow : D → D → Mem → Res D := mI CPow fun i j => .int (i ^ j.toNat)
theorem om_pow : OpM K mg (rI CPow fun i j => .int (i ^ j.toNat)) mPow := om_I fun _ _ _ _ => rfl
noncomputable def mShl : D → D → Mem → Res D := mI CPow fun i j => .int (i * 2 ^ j.toNat)
theorem om_shl : OpM K mg (rI CPow fun i j => .int (i * 2 ^ j.toNat)) mShl := om_I fun _ _ _ _ => rfl
noncomputable def mShr : D → D → Mem → Res D := mI (fun _ j => 0 ≤ j) fun i j => .int (i / 2 ^ j.toNat)
theorem om_shr : OpM K mg (rI (fun _ j => 0 ≤ j) fun i j => .int (i / 2 ^ j.toNat)) mShr := om_I fun _ _ _ _ => rfl
def mAnd : D → D → Mem → Res D := mI0 fun i j => .int (Builtin.bitAnd i j)
theorem om_and : OpM K mg (rI0 fun i j => .int (Builtin.bitAnd i j)) mAnd := om_I0 fun _ _ _ _ => rfl
def mOr : D → D → Mem → Res D := mI0 fun i j => .int (Builtin.bitOr i j)
theorem om_or : OpM K mg (rI0 fun i j => .int (Builtin.bitOr i j)) mOr := om_I0 fun _ _ _ _ => rfl
abbrev mLt : D → D → Mem → Res D := mI0 fun i j => .bl (decide (i < j))
theorem om_lt : OpM K mg (rI0 fun i j => .bl (decide (i < j))) mLt := om_I0 fun _ _ _ _ => rfl
abbrev mLe : D → D → Mem → Res D := mI0 fun i j => .bl (decide (i ≤ j))
theorem om_le : OpM K mg (rI0 fun i j => .bl (decide (i ≤ j))) mLe := om_I0 fun _ _ _ _ => rfl
abbrev mGt : D → D → Mem → Res D := mI0 fun i j => .bl (decide (j < i))
theorem om_gt : OpM K mg (rI0 fun i j => .bl (decide (j < i))) mGt := om_I0 fun _ _ _ _ => rfl
abbrev mGe : D → D → Mem → Res D := mI0 fun i j => .bl (decide (j ≤ i))
theorem om_ge : OpM K mg (rI0 fun i j => .bl (decide (j ≤ i))) mGe := om_I0 fun _ _ _ _ => rfl
theorem om_ipAdd : IpM K mg (ipI fun i j => i + j) (mI0 fun i j => .int (i + j)) := by
  intro F G0 G ι μ H x y dx dy Qx Q rp rx ry h
  unfold mI0 at h
  split at h
  · rename_i i j
    exact ⟨i, j, rx, ry, h.now rp _ rfl⟩
  · exact h.elim
theorem om_ipSub : IpM K mg (ipI fun i j => i - j) (mI0 fun i j => .int (i - j)) := by
  intro F G0 G ι μ H x y dx dy Qx Q rp rx ry h
  unfold mI0 at h
  split at h
  · rename_i i j
    exact ⟨i, j, rx, ry, h.now rp _ rfl⟩
  · exact h.elim
/-- is None, is not None -/
def mIsN (x y : D) (μ : Mem) : Res D := match y with
  | .non => match x with
    | .non => .ok (.bl true) μ
    | _ => .ok (.bl false) μ
  | _ => .bad
def mIsNotN (x y : D) (μ : Mem) : Res D := match y with
  | .non => match x with
    | .non => .ok (.bl false) μ
    | _ => .ok (.bl true) μ
  | _ => .bad
theorem repV_non {G : Hp} {ι : List Addr} {v : V} {d : D} (h : RepV K G ι v d) (hd : d ≠ .non) : v ≠ .non := by
  rintro rfl
  cases d with
  | non => exact hd rfl
  | bl b => cases h
  | int i => cases h
  | str x => cases h
  | lst ds => obtain ⟨_, _, e, _⟩ := h; cases e
  | tup ds => obtain ⟨_, _, e, _⟩ := h; cases e
  | scr ns => obtain ⟨_, e, _⟩ := h; cases e
  | hnd k => obtain ⟨_, e, _⟩ := h; cases e
theorem om_isN : OpM K mg (fun x y H Q => y = .non ∧ Q (.bl (decide (x = .non))) H) mIsN := by
  intro F G0 G ι μ H x y dx dy Qx Q rp rx ry h
  unfold mIsN at h
  split at h
  · refine ⟨ry, ?_⟩
    split at h
    · rw [show x = V.non from rx]
      exact h.now rp _ rfl
    · rename_i hd
      rw [decide_eq_false (repV_non rx hd)]
      exact h.now rp _ rfl
  · exact h.elim
theorem om_isNotN : OpM K mg (fun x y H Q => y = .non ∧ Q (.bl (!decide (x = .non))) H) mIsNotN := by
  intro F G0 G ι μ H x y dx dy Qx Q rp rx ry h
  unfold mIsNotN at h
  split at h
  · refine ⟨ry, ?_⟩
    split at h
    · rw [show x = V.non from rx]
      exact h.now rp _ rfl
    · rename_i hd
      rw [decide_eq_false (repV_non rx hd)]
      exact h.now rp _ rfl
  · exact h.elim
end

/-! ### unary minus -/
section
variable {X : Cx} {W : WX}
def eNeg (α : EM) : EM := fun ρ μ => (α ρ μ).bind fun d μ1 => match d with
  | .int i => .ok (.int (-i)) μ1
  | _ => .bad
theorem q_neg {a : Expr} {pos : Pos} {α : EM} (ha : PE X a (tE X W α)) : PE X (.UnaryOp .USub a pos) (tE X W (eNeg α)) := pe_imp (pe_un un_neg ha) fun σ H Q h => by
  obtain ⟨F, G0, G, ι, μ, ρ, rp, e, h⟩ := h
  refine tE.go rp e h.bind fun d G1 ι1 μ1 H1 x1 r1 e1 h1 v rv => ?_
  cases d with
  | int i => exact ⟨i, rv, h1.now r1 _ rfl⟩
  | _ => exact h1.elim

/-! ### chains of comparisons -/
theorem chain_go {r r' : R2} {op op' : D → D → Mem → Res D} {α β γ : EM} (hm : OpM X.K X.mg r op) (hm' : OpM X.K X.mg r' op') {σ : L2.St} {H : Hp} {Q : VK} (h : tE X W (eChain op op' α β γ) σ H Q) : tChain r r' (tE X W α) (tE X W β) (tE X W γ) σ H Q := by
  obtain ⟨F, G0, G, ι, μ, ρ, rp, e, h⟩ := h
  refine tE.go rp e h.bind fun dx G1 ι1 μ1 H1 x1 r1 e1 h1 x rx => ?_
  refine tE.go r1 e1 h1.bind fun dy G2 ι2 μ2 H2 x2 r2 e2 h2 y ry => ?_
  refine hm F G0 G2 ι2 μ2 H2 x y dx dy _ _ r2 (rx.mono x2) ry (h2.bind.imp fun dz G3 ι3 μ3 H3 x3 r3 h3 z rz => ?_)
  split at h3
  · refine ⟨true, rz, ?_⟩
    rw [if_pos rfl]
    refine tE.go r3 (e2.mono x3) h3.bind fun dw G4 ι4 μ4 H4 x4 r4 e4 h4 w rw' => ?_
    exact hm' F G0 G4 ι4 μ4 H4 y w dy dw _ _ r4 (ry.mono (x3.trans x4)) rw' h4
  · refine ⟨false, rz, ?_⟩
    rw [if_neg Bool.false_ne_true]
    exact h3.now r3 _ rfl
  · exact h3.elim
theorem q_chain {op op' : CmpOp} {r r' : R2} {om om' : D → D → Mem → Res D} {a b c : Expr} {α β γ : EM} {pos : Pos} (ho : OpR X (compareOp op) r) (ho' : OpR X (compareOp op') r') (hm : OpM X.K X.mg r om) (hm' : OpM X.K X.mg r' om')
    (ha : PE X a (tE X W α)) (hb : PE X b (tE X W β)) (hc : PE X c (tE X W γ)) (hk : lastMarks [op, op'] [b, c] = false := by with_unfolding_all rfl) : PE X (.Compare a [op, op'] [b, c] pos) (tE X W (eChain om om' α β γ)) :=
  pe_imp (pe_chain ho ho' ha hb hc hk) fun σ H Q h => chain_go hm hm' h
theorem t_chain {op op' : CmpOp} {r r' : R2} {om om' : D → D → Mem → Res D} {a b c : Expr} {α β γ : EM} {pos : Pos} (ho : OpR X (compareOp op) r) (ho' : OpR X (compareOp op') r') (hm : OpM X.K X.mg r om) (hm' : OpM X.K X.mg r' om')
    (ha : PE X a (tE X W α)) (hb : PE X b (tE X W β)) (hc : PE X c (tE X W γ)) (hk : lastMarks [op, op'] [b, c] = false := by with_unfolding_all rfl) : PT X (.Compare a [op, op'] [b, c] pos) (tM X W (tst (eChain om om' α β γ))) :=
  pt_imp (pt_chain ho ho' ha hb hc hk) fun σ H Q h => chain_go hm hm' (tTest_go h)

/-! ### subscripts -/
def seqA (μ : Mem) (d : D) : Option (List D) := match d with
  | .tup ds => some ds
  | d => seqL μ d
theorem seqA_ok {K : PySem.W.Frag} {mg : Str → Option Value} {F G0 G : Hp} {ι : List Addr} {μ : Mem} {H : Hp} {v : V} {d : D} {ds : List D} (rp : Rep K mg F G0 G ι μ H) (rv : RepV K G ι v d) (h : seqA μ d = some ds) :
    ∃ a vs, v = .ref a ∧ (SqL K H a vs ∨ SqT K H a vs) ∧ RepVs K G ι vs ds := by
  unfold seqA at h
  split at h
  · obtain ⟨a, vs, e, s, r⟩ := seqT_ok (ds := ds) rp rv h
    exact ⟨a, vs, e, .inr s, r⟩
  · obtain ⟨a, vs, e, s, r⟩ := seqL_ok rp rv h
    exact ⟨a, vs, e, .inl s, r⟩
theorem atI_rep {K : PySem.W.Frag} {G : Hp} {ι : List Addr} {vs : List V} {ds : List D} {i : Int} {d : D} (r : RepVs K G ι vs ds) (h : atI ds i = some d) : ∃ v, atI vs i = some v ∧ RepV K G ι v d := by
  unfold atI at h ⊢
  rw [r.length]
  cases e : ixN ds.length i with
  | none => rw [e] at h; cases h
  | some j => rw [e] at h; exact r.get h
section
noncomputable local instance (priority := 100000) (p : Prop) : Decidable p := Classical.propDecidable p
noncomputable def mIx (x y : D) (μ : Mem) : Res D := match y with
  | .int i => match x with
    | .str z => if z.length ≤ sizeLine then match atI z.cps.toList i with
      | some c => .ok (.str ⟨#[c]⟩) μ
      | none => .bad
      else .bad
    | x => match seqA μ x with
      | some ds => match atI ds i with
        | some d => .ok d μ
        | none => .bad
      | none => .bad
  | _ => .bad
end
theorem om_ix {K : PySem.W.Frag} {mg : Str → Option Value} : OpM K mg (rIx K) mIx := by
  intro F G0 G ι μ H x y dx dy Qx Q rp rx ry h
  unfold mIx at h
  split at h
  · rename_i i
    split at h
    · rename_i z
      split at h
      · rename_i hz
        split at h
        · rename_i c hc
          exact .inr (.inr ⟨z, i, c, rx, ry, hz, hc, h.now rp _ rfl⟩)
        · exact h.elim
      · exact h.elim
    · split at h
      · rename_i ds hs
        split at h
        · rename_i d hd
          obtain ⟨a, vs, rfl, s, r⟩ := seqA_ok rp rx hs
          obtain ⟨v, hv, rv⟩ := atI_rep r hd
          rcases s with s | s
          · exact .inl ⟨a, vs, i, v, rfl, ry, s, hv, h.now rp v rv⟩
          · exact .inr (.inl ⟨a, vs, i, v, rfl, ry, s, hv, h.now rp v rv⟩)
        · exact h.elim
      · exact h.elim
  · exact h.elim
theorem q_ix {a b : Expr} {pos : Pos} {α β : EM} (ha : PE X a (tE X W α)) (hb : PE X b (tE X W β)) (hs : PlainIx b := by exact fun _ _ => rfl) : PE X (.Subscript a b pos) (tE X W (eBin mIx α β)) := pe_imp (pe_ix ix_seq ha hb hs) fun _ _ _ h => tOp_go om_ix h
/-- a[lo:hi] -/
abbrev OM := DEnv → Mem → Res (Option Int)
def tO (X : Cx) (W : WX) (ε : OM) : TO := fun σ H Q => ∃ F G0 G ι μ ρ, Rep X.K X.mg F G0 G ι μ H ∧ RepE X.K G ι σ ρ ∧
  Post X.K X.mg F G0 G ι (ε ρ μ) (fun cls d H' => W cls d σ H') fun b _ _ _ H' => Q b H'
def oNone : OM := fun _ μ => .ok none μ
def oSome (α : EM) : OM := fun ρ μ => (α ρ μ).bind fun d μ1 => match d with
  | .int i => .ok (some i) μ1
  | _ => .bad
theorem o_none : PO X none (tO X W oNone) := ⟨fun pins s σ H Q I h => po_none.run pins s σ H Q I (by
  obtain ⟨F, G0, G, ι, μ, ρ, rp, e, h⟩ := h
  exact h.now rp)⟩
theorem o_some {e : Expr} {α : EM} (he : PE X e (tE X W α)) : PO X (some e) (tO X W (oSome α)) := ⟨fun pins s σ H Q I h => (po_some he).run pins s σ H Q I (by
  obtain ⟨F, G0, G, ι, μ, ρ, rp, e, h⟩ := h
  refine tE.go rp e h.bind fun d G1 ι1 μ1 H1 x1 r1 e1 h1 v rv => ?_
  cases d with
  | int i => exact ⟨i, rv, h1.now r1⟩
  | _ => exact h1.elim)⟩
theorem tO.go {F G0 G : Hp} {ι : List Addr} {μ : Mem} {ρ : DEnv} {σ : L2.St} {H : Hp} {ε : OM} {Q' : Option Int → Hp → List Addr → Mem → Hp → Prop} {R : Option Int → Hp → Prop} (r : Rep X.K X.mg F G0 G ι μ H) (e : RepE X.K G ι σ ρ)
    (h : Post X.K X.mg F G0 G ι (ε ρ μ) (fun cls d H' => W cls d σ H') Q')
    (hQ : ∀ d G' ι' μ' H', Ext G ι G' ι' → Rep X.K X.mg F G0 G' ι' μ' H' → RepE X.K G' ι' σ ρ → Q' d G' ι' μ' H' → R d H') : tO X W ε σ H R :=
  ⟨F, G0, G, ι, μ, ρ, r, e, h.imp fun d G' ι' μ' H' x q z => hQ d G' ι' μ' H' x q (e.mono x) z⟩
def cutD (xs : List D) (lo hi : Option Int) : List D := (xs.drop (HT.sIx xs.length 0 lo)).take (HT.sIx xs.length xs.length hi - HT.sIx xs.length 0 lo)
def eSl (mk : List D → Mem → Res D) (α : EM) (lo hi : OM) : EM := fun ρ μ => (α ρ μ).bind fun d μ1 => (lo ρ μ1).bind fun l μ2 => (hi ρ μ2).bind fun u μ3 => match seqL μ3 d with
  | some ds => mk (cutD ds l u) μ3
  | none => .bad
theorem q_slice {e : Expr} {lo hi : Option Expr} {pos p2 : Pos} {mk : List D → Mem → Res D} {α : EM} {l u : OM} (hk : MkL mk) (he : PE X e (tE X W α)) (hl : PO X lo (tO X W l)) (hu : PO X hi (tO X W u)) : PE X (.Subscript e (.Slice lo hi none p2) pos) (tE X W (eSl mk α l u)) :=
  pe_imp (pe_slice sl_list he hl hu) fun σ H Q h => by
  obtain ⟨F, G0, G, ι, μ, ρ, rp, e, h⟩ := h
  refine tE.go rp e h.bind fun d G1 ι1 μ1 H1 x1 r1 e1 h1 v rv => ?_
  refine tO.go r1 e1 h1.bind fun o1 G2 ι2 μ2 H2 x2 r2 e2 h2 => ?_
  refine tO.go r2 e2 h2.bind fun o2 G3 ι3 μ3 H3 x3 r3 e3 h3 => ?_
  split at h3
  · rename_i ds hs
    obtain ⟨a, vs, rfl, s, r⟩ := seqL_ok r3 (rv.mono (x2.trans x3)) hs
    have rc : RepVs X.K G3 ι3 (cutV vs o1 o2) (cutD ds o1 o2) := by
      unfold cutV cutD
      rw [r.length]
      exact (r.drop _).take _
    exact ⟨a, vs, rfl, s, (hk r3 rc h3).2⟩
  · exact h3.elim
/-- xs[i] = v -/
def mSetIx (o i v : D) (μ : Mem) : Res Unit := match o, i with
  | .hnd k, .int i => match μ[k]? with
    | some (some (.lst ds)) => match ixN ds.length i with
      | some j => .ok () (μ.set k (some (.lst (ds.set j v))))
      | none => .bad
    | _ => .bad
  | _, _ => .bad
def gSubM (α β : EM) : GM := fun d ρ μ => (α ρ μ).bind fun o μ1 => (β ρ μ1).bind fun i μ2 => (mSetIx o i d μ2).bind fun _ μ3 => .ok ρ μ3
theorem setIx_ok {K : PySem.W.Frag} {mg : Str → Option Value} {F G0 G : Hp} {ι : List Addr} {μ : Mem} {H : Hp} {o i v : V} {do_ di dv : D} {Qx : Value → Option Addr → Hp → Prop} {Q : Hp → Prop} (rp : Rep K mg F G0 G ι μ H) (ro : RepV K G ι o do_) (ri : RepV K G ι i di) (rv : RepV K G ι v dv)
    (h : Post K mg F G0 G ι (mSetIx do_ di dv μ) Qx fun _ _ _ _ H' => Q H') : rSetL o i v H Q := by
  unfold mSetIx at h
  split at h
  · rename_i k i'
    split at h
    · rename_i ds hk
      split at h
      · rename_i j hj
        obtain ⟨a, rfl, ha⟩ := ro
        obtain ⟨_, _, _, ho, vs, rfl, r⟩ := rp.live k _ a hk ha
        exact ⟨a, vs, i', j, rfl, ri, ho, by rw [r.length]; exact hj, h _ _ _ (Ext.refl _ _) (rp.put hk ha ⟨_, rfl, r.set j rv⟩)⟩
      · exact h.elim
    · exact h.elim
  · exact h.elim
theorem g_sub {o i : Expr} {pos : Pos} {α β : EM} (hW : WAll W) (ho : PE X o (tE X W α)) (hi : PE X i (tE X W β)) (ha : ∀ v, assign (.Subscript o i pos) X.env v = (do
      let ov ← holding [v] (eval o X.env)
      let iv ← holding [v, ov] (eval i X.env)
      standAt pos
      holding [v, ov, iv] (setItem ov iv v)
      release [v, ov, iv] []) := by intro _; rfl) : PG X (.Subscript o i pos) (tG X W (gSubM α β)) := pg_imp (pg_sub ho hi set_list ha) fun v σ H Q h => by
  obtain ⟨F, G0, G, ι, μ, ρ, d, rp, e, rv, h⟩ := h
  refine tE.go rp e (eX h.bind) fun do_ G1 ι1 μ1 H1 x1 r1 e1 h1 o ro => ?_
  refine tE.go r1 e1 (eX h1.bind) fun di G2 ι2 μ2 H2 x2 r2 e2 h2 i ri => ?_
  exact setIx_ok r2 (ro.mono x2) ri (rv.mono (x1.trans x2)) (h2.bind.imp fun _ G3 ι3 μ3 H3 x3 r3 h3 => h3.now r3 σ (e2.mono x3))
/-- xs[i] op= e -/
theorem ip_get {X : Cx} : PGet X (fun x y H Q => rIxL X.K x y H Q) := by
  intro pins s σ H o i ov iv Q I ro ri h
  obtain ⟨p, xs, k, v, rfl, rfl, hs, hv, q⟩ := h
  cases ro
  obtain ⟨t, rfl⟩ := ri
  obtain ⟨its, r, pl, hz⟩ := I.list hs
  obtain ⟨j, h1, h2, h3, h4, h5⟩ := atI_get hv
  obtain ⟨w, ew, rw'⟩ := r.get h2
  have hl := r.length
  have hn := line63
  have fin : EP X pins σ Q w s := ⟨v, H, I, rw', q⟩
  by_cases h0 : 0 ≤ k
  · have hj : k.toNat = j := by
      rw [seqIndex_of h0 h5] at h1
      exact Option.some.inj h1
    exact wpAny_getItem_list pl.isList h0 (by omega) (by rw [hj]; simpa using ew) fin
  · have hj : (k + (its.toArray.size : Int)).toNat = j := by
      rw [seqIndex_neg (by omega) h4] at h1
      rw [List.size_toArray, ← hl]
      exact Option.some.inj h1
    exact wpAny_getItem_list_neg pl.isList (by omega) (by rw [List.size_toArray] <;> omega) (by omega) (by rw [hj]; simpa using ew) fin
end
end
end Md

/-! Comprehensions, calls of built-in functions, methods of lists, calls of own defs, a def's promise. -/
namespace Md
open PySem PySem.Spec PyProof.Rows L2
open Classical in
section

/-! ### comprehensions -/
def Res.noX {α : Type} : Res α → Res α
  | .ok a μ => .ok a μ
  | _ => .bad
def wipeD (ρ : DEnv) : List Nat → DEnv
  | [] => ρ
  | v :: vs => (wipeD ρ vs).set v none
theorem repE_none {K : PySem.W.Frag} {G : Hp} {ι : List Addr} {σ : L2.St} {ρ : DEnv} (i : Nat) (e : RepE K G ι σ ρ) : RepE K G ι (σ.set i none) (ρ.set i none) := by
  refine ⟨by rw [List.length_set, List.length_set]; exact e.1, fun j d h => ?_⟩
  by_cases hj : j = i
  · subst hj
    have hl : j < ρ.length := by
      have := (List.getElem?_eq_some_iff.mp h).1
      rwa [List.length_set] at this
    rw [List.getElem?_set_self hl] at h
    cases h
  · rw [List.getElem?_set_ne (fun z => hj z.symm)] at h
    obtain ⟨u, e1, q⟩ := e.2 j d h
    exact ⟨u, by rw [List.getElem?_set_ne (fun z => hj z.symm)]; exact e1, q⟩
theorem repE_wipe {K : PySem.W.Frag} {G : Hp} {ι : List Addr} {σ : L2.St} {ρ : DEnv} (e : RepE K G ι σ ρ) : ∀ vs : List Nat, RepE K G ι (wipe σ vs) (wipeD ρ vs)
  | [] => e
  | v :: vs => repE_none v (repE_wipe e vs)
theorem wipe_set {σ : L2.St} {i : Nat} {o : Option V} : ∀ {vs : List Nat}, i ∈ vs → wipe (σ.set i o) vs = wipe σ vs
  | [], h => by cases h
  | v :: vs, h => by
    unfold wipe
    by_cases hv : i ∈ vs
    · rw [wipe_set hv]
    · have e : i = v := by
        rcases List.mem_cons.mp h with z | z
        · exact z
        · exact absurd z hv
      subst e
      have out : ∀ vs : List Nat, i ∉ vs → wipe (σ.set i o) vs = (wipe σ vs).set i o := fun vs => by
        induction vs with
        | nil => intro _; rfl
        | cons u us ih =>
          intro hn
          unfold wipe
          rw [ih (fun z => hn (List.mem_cons_of_mem _ z)), List.set_comm _ _ (fun z => hn (by rw [z]; exact List.mem_cons_self))]
      rw [out vs hv, List.set_set]
/-- a target within a block: what it leaves of the other slots -/
def GRel (K : PySem.W.Frag) (mg : Str → Option Value) (g : TG) (γ : GM) (vs : List Nat) : Prop :=
  ∀ (F G0 G : Hp) (ι : List Addr) (μ : Mem) (ρ : DEnv) (v : V) (d : D) (σ : L2.St) (H : Hp) (Qx : Value → Option Addr → Hp → Prop) (Q : L2.St → Hp → Prop), Rep K mg F G0 G ι μ H → RepE K G ι σ ρ → RepV K G ι v d →
    Post K mg F G0 G ι (γ d ρ μ) Qx (fun ρ' G' ι' _ H' => ∀ σ', RepE K G' ι' σ' ρ' → wipe σ' vs = wipe σ vs → Q σ' H') → g v σ H Q
def GsRel (K : PySem.W.Frag) (mg : Str → Option Value) (g : TGs) (γ : List D → DEnv → Mem → Res DEnv) (vs : List Nat) : Prop :=
  ∀ (F G0 G : Hp) (ι : List Addr) (μ : Mem) (ρ : DEnv) (v : List V) (d : List D) (σ : L2.St) (H : Hp) (Qx : Value → Option Addr → Hp → Prop) (Q : L2.St → Hp → Prop), Rep K mg F G0 G ι μ H → RepE K G ι σ ρ → RepVs K G ι v d →
    Post K mg F G0 G ι (γ d ρ μ) Qx (fun ρ' G' ι' _ H' => ∀ σ', RepE K G' ι' σ' ρ' → wipe σ' vs = wipe σ vs → Q σ' H') → g v σ H Q
section
variable {K : PySem.W.Frag} {mg : Str → Option Value} {vs : List Nat}
theorem gr_name {i : Nat} (h : i ∈ vs) : GRel K mg (gName i) (gNm i) vs := by
  intro F G0 G ι μ ρ v d σ H Qx Q rp e rv h'
  exact h'.now rp _ (e.set i rv) (wipe_set h)
theorem grs_nil : GsRel K mg gNil gsNil vs := by
  intro F G0 G ι μ ρ v d σ H Qx Q rp e rv h
  cases d with
  | nil => exact ⟨rv, h.now rp σ e rfl⟩
  | cons d ds => exact h.elim
theorem grs_cons {g : TG} {γ : GM} {gs : TGs} {γs : List D → DEnv → Mem → Res DEnv} (h1 : GRel K mg g γ vs) (h2 : GsRel K mg gs γs vs) : GsRel K mg (gCons g gs) (gsCons γ γs) vs := by
  intro F G0 G ι μ ρ v d σ H Qx Q rp e rv h
  cases d with
  | nil => exact h.elim
  | cons d ds =>
    obtain ⟨x, r, rfl, r1, r2⟩ := rv
    refine ⟨x, r, rfl, h1 F G0 G ι μ ρ x d σ H Qx _ rp e r1 (h.bind.imp fun ρ1 G1 ι1 μ1 H1 x1 rp1 q σ1 e1 w1 => ?_)⟩
    exact h2 F G0 G1 ι1 μ1 ρ1 r ds σ1 H1 Qx _ rp1 e1 (r2.mono x1) (q.imp fun ρ2 G2 ι2 μ2 H2 x2 rp2 q2 σ2 e2 w2 => q2 σ2 e2 (w2.trans w1))
theorem gr_tup {n : Nat} {gs : TGs} {γs : List D → DEnv → Mem → Res DEnv} (h : GsRel K mg gs γs vs) : GRel K mg (gTup K n gs) (gTp n γs) vs := by
  intro F G0 G ι μ ρ v d σ H Qx Q rp e rv h'
  cases d with
  | tup ds =>
    obtain ⟨a, xs, rfl, hg, rvs⟩ := rv
    have h' : Post K mg F G0 G ι (if ds.length = n then γs ds ρ μ else .bad) Qx (fun ρ' G' ι' _ H' => ∀ σ', RepE K G' ι' σ' ρ' → wipe σ' vs = wipe σ vs → Q σ' H') := h'
    by_cases hl : ds.length = n
    · rw [if_pos hl] at h'
      exact ⟨a, xs, rfl, Same.sqT rp.g hg, rvs.length.trans hl, h F G0 G ι μ ρ xs ds σ H Qx Q rp e rvs h'⟩
    · rw [if_neg hl] at h'
      exact h'.elim
  | _ => exact h'.elim
end
abbrev WF : WX := fun _ _ _ _ => False
/-- the list that a comprehension makes of the items -/
noncomputable def lcL (chk : Mem → Prop) (g : GM) (tt : TM) (elt : EM) (ρ : DEnv) : List D → Mem → Res (List D)
  | [], μ => if chk μ then .ok [] μ else .bad
  | x :: xs, μ => if chk μ then (g x ρ μ).bind fun ρ1 μ1 => (tt ρ1 μ1).bind fun c μ2 => if c = true then (elt ρ1 μ2).bind fun d μ3 => (lcL chk g tt elt ρ xs μ3).bind fun ds μ4 => .ok (d :: ds) μ4
      else lcL chk g tt elt ρ xs μ2
    else .bad
section
noncomputable local instance (priority := 100000) (p : Prop) : Decidable p := Classical.propDecidable p
noncomputable def eLc (mk : List D → Mem → Res D) (ε : IM) (g : GM) (tt : TM) (elt : EM) (own : List Nat) : EM := fun ρ μ => (ε ρ μ).bind fun it μ1 => if it.items.length ≤ 16777000 then ((lcL it.chk g tt elt (wipeD ρ own) it.items μ1).noX).bind mk else .bad
end
def tYesM : TM := fun _ μ => .ok true μ
section
variable {K : PySem.W.Frag} {mg : Str → Option Value} {F G0 G : Hp} {ι : List Addr} {μ : Mem} {H : Hp}
/-- the frame is another -/
theorem Rep.frame (r : Rep K mg F G0 G ι μ H) {F' : Hp} (f : Same F' H) (nw : ∀ a, F' a ≠ none → G a ≠ none → G0 a ≠ none) (lv : ∀ (k : Nat) (c : Cell) (a : Addr), μ[k]? = some (some c) → ι[k]? = some a → F' a = none) : Rep K mg F' G0 G ι μ H :=
  ⟨r.g0, r.g, f, nw, r.len, fun k c a h1 h2 => ⟨(r.live k c a h1 h2).1, lv k c a h1 h2, (r.live k c a h1 h2).2.2⟩, r.inj⟩
/-- the heap is another in a thing of the frame alone -/
theorem Rep.other (r : Rep K mg F G0 G ι μ H) {p : Addr} {o : HO} (hF : F p ≠ none) (hG : G0 p = none) : Rep K mg (upd F p o) G0 G ι μ (upd H p o) := by
  have hg : G p = none := Classical.byContradiction fun z => r.nw p hF z hG
  have ne : ∀ b u, G b = some u → b ≠ p := fun b u e z => by subst z; rw [hg] at e; cases e
  refine ⟨r.g0, fun b u e => by rw [upd_ne (ne b u e)]; exact r.g b u e, upd_mono r.f, fun a ha hga => ?_, r.len, fun k c a h1 h2 => ?_, r.inj⟩
  · by_cases hap : a = p
    · subst hap; exact absurd hg hga
    · rw [upd_ne hap] at ha; exact r.nw a ha hga
  · obtain ⟨q1, q2, o', q3, q4⟩ := r.live k c a h1 h2
    have hap : a ≠ p := fun z => by subst z; exact hF q2
    exact ⟨q1, by rw [upd_ne hap]; exact q2, o', by rw [upd_ne hap]; exact q3, q4⟩
end
theorem noX_ok {α β : Type} {r : Res α} {f : α → Mem → Res β} {K : PySem.W.Frag} {mg : Str → Option Value} {F G0 G : Hp} {ι : List Addr} {Qx : Value → Option Addr → Hp → Prop} {Q : β → Hp → List Addr → Mem → Hp → Prop} (h : Post K mg F G0 G ι (r.noX.bind f) Qx Q) :
    ∃ a μ, r = .ok a μ ∧ Post K mg F G0 G ι (f a μ) Qx Q := by
  cases r with
  | ok a μ => exact ⟨a, μ, rfl, h⟩
  | exc x μ => exact h.elim
  | bad => exact h.elim
theorem bind_ok_inv {α β : Type} {r : Res α} {f : α → Mem → Res β} {b : β} {μ : Mem} (h : r.bind f = .ok b μ) : ∃ a μ1, r = .ok a μ1 ∧ f a μ1 = .ok b μ := by
  cases r with
  | ok a μ1 => exact ⟨a, μ1, rfl, h⟩
  | exc x μ1 => cases h
  | bad => cases h
section
variable {X : Cx} {W : WX}
theorem lc_go {ε : IM} {g : TG} {γ : GM} {tt : TM} {elt : EM} {mk : List D → Mem → Res D} {own : List Nat} (hk : MkL mk) (hg : GRel X.K X.mg g γ own) {σ : L2.St} {H : Hp} {Q : VK} (h : tE X W (eLc mk ε γ tt elt own) σ H Q) :
    tLc (tI X W ε) g (tM X WF tt) (tE X WF elt) own σ H Q := by
  obtain ⟨F, G0, G, ι, μ, ρ, rp, e, h⟩ := h
  refine ⟨F, G0, G, ι, μ, ρ, rp, e, h.bind.imp fun it G1 ι1 μ1 H1 x1 r1 h1 J hJ Da hD => ?_⟩
  by_cases hlen : it.items.length ≤ 16777000
  rotate_left
  · rw [if_neg hlen] at h1; exact h1.elim
  rw [if_pos hlen] at h1
  obtain ⟨ds, μE, hds, hmk⟩ := noX_ok h1
  have hG1 : G1 Da = none := r1.newG hD
  have hF1 : F Da = none := r1.newF hD
  have hG0 : G0 Da = none := by
    cases q : G0 Da with
    | none => rfl
    | some o => have := r1.g0 _ _ q; rw [hG1] at this; cases this
  have e1 := e.mono x1
  -- the state of a turn: the list at Da is acc
  have start : Rep X.K X.mg (upd F Da (.lst [])) G0 G1 ι1 μ1 (upd H1 Da (.lst [])) := by
    refine ⟨r1.g0, r1.g.trans (same_upd hD), upd_mono r1.f, fun a ha hga => ?_, r1.len, fun k c a h1 h2 => ?_, r1.inj⟩
    · by_cases hap : a = Da
      · subst hap; exact absurd hG1 hga
      · rw [upd_ne hap] at ha; exact r1.nw a ha hga
    · obtain ⟨q1, q2, o', q3, q4⟩ := r1.live k c a h1 h2
      have hap : a ≠ Da := ne_of_none q3 hD
      exact ⟨q1, by rw [upd_ne hap]; exact q2, o', by rw [upd_ne hap]; exact q3, q4⟩
  refine ⟨fun i m H' => m = it.items.length - i ∧ i ≤ it.items.length ∧ ∃ G' ι' μ' acc accD rest, Ext G1 ι1 G' ι' ∧ Rep X.K X.mg (upd F Da (.lst acc)) G0 G' ι' μ' H' ∧ RepVs X.K G' ι' acc accD ∧ acc.length ≤ i ∧
    lcL it.chk γ tt elt (wipeD ρ own) (it.items.drop i) μ' = .ok rest μE ∧ accD ++ rest = ds, ⟨_, rfl, Nat.zero_le _, G1, ι1, μ1, [], [], ds, Ext.refl _ _, start, rfl, Nat.zero_le _, hds, rfl⟩, ?_⟩
  rintro i m H2 ⟨rfl, hi, G2, ι2, μ2, acc, accD, rest, x2, r2, racc, hacc, hl, hcat⟩
  by_cases hlt : i < it.items.length
  · rw [List.drop_eq_getElem_cons hlt] at hl
    unfold lcL at hl
    by_cases hck : it.chk μ2
    rotate_left
    · rw [if_neg hck] at hl; cases hl
    rw [if_pos hck] at hl
    obtain ⟨go, yl⟩ := (hJ i _ G0 G2 ι2 μ2 H2 x2 r2 hck).1 _ (List.getElem?_eq_getElem hlt)
    refine .inr ⟨go, fun H' => ∃ G' ι' μ' acc accD rest, Ext G1 ι1 G' ι' ∧ Rep X.K X.mg (upd F Da (.lst acc)) G0 G' ι' μ' H' ∧ RepVs X.K G' ι' acc accD ∧ acc.length ≤ i + 1 ∧
      lcL it.chk γ tt elt (wipeD ρ own) (it.items.drop (i + 1)) μ' = .ok rest μE ∧ accD ++ rest = ds, fun H' q => ⟨_, by omega, rfl, hlt, q⟩, fun v H3 hy => ?_⟩
    obtain ⟨G3, x3, r3, rv⟩ := yl v H3 hy
    obtain ⟨ρ4, μ4, hg4, hl⟩ := bind_ok_inv hl
    obtain ⟨c, μ5, hc5, hl⟩ := bind_ok_inv hl
    have ew : RepE X.K G3 ι2 (wipe σ own) (wipeD ρ own) := repE_wipe ((e1.mono x2).mono x3) own
    refine hg _ G0 G3 ι2 μ2 (wipeD ρ own) v _ (wipe σ own) H3 (fun _ _ _ => False) _ r3 ew rv ?_
    rw [hg4]
    intro G4 ι4 H4 x4 r4 σ4 e4 w4
    refine ⟨?_, ?_⟩
    · rw [w4]
      have idem : ∀ (l vs : List Nat), (∀ i ∈ vs, i ∈ l) → wipe (wipe σ vs) l = wipe σ l := fun l vs => by
        induction vs with
        | nil => intro _; rfl
        | cons u us ih =>
          intro hs
          show wipe ((wipe σ us).set u none) l = _
          rw [wipe_set (hs u List.mem_cons_self), ih fun i hi => hs i (List.mem_cons_of_mem _ hi)]
      exact idem own own fun _ h => h
    · refine ⟨_, G0, G4, ι4, μ4, ρ4, r4, e4, ?_⟩
      rw [hc5]
      intro G5 ι5 H5 x5 r5
      cases c with
      | false =>
        rw [if_neg Bool.false_ne_true] at hl ⊢
        have xx := (x3.trans x4).trans x5
        exact ⟨G5, ι5, μ5, acc, accD, rest, x2.trans xx, r5, racc.mono xx, by omega, hl, hcat⟩
      | true =>
        rw [if_pos rfl] at hl ⊢
        obtain ⟨d6, μ6, he6, hl⟩ := bind_ok_inv hl
        obtain ⟨ds7, μ7, hl7, hl⟩ := bind_ok_inv hl
        cases hl
        refine ⟨_, G0, G5, ι5, μ5, ρ4, r5, e4.mono x5, ?_⟩
        rw [he6]
        intro G6 ι6 H6 x6 r6 y ry
        have hDa : H6 Da = some (.lst acc) := r6.f _ _ upd_same
        have xx := ((x3.trans x4).trans x5).trans x6
        have hs := sizeLine_eq
        refine ⟨acc, hDa, by omega, G6, ι6, μ6, acc ++ [y], accD ++ [d6], ds7, x2.trans xx, ?_, (racc.mono xx).append ⟨y, [], rfl, ry, rfl⟩, by rw [List.length_append, List.length_singleton]; omega, hl7, by rw [List.append_assoc]; exact hcat⟩
        have := r6.other (p := Da) (o := .lst (acc ++ [y])) (by rw [upd_same]; exact fun z => nomatch z) hG0
        rwa [upd_upd] at this
  · have ei : i = it.items.length := by omega
    subst ei
    rw [List.drop_length] at hl
    unfold lcL at hl
    by_cases hck : it.chk μ2
    rotate_left
    · rw [if_neg hck] at hl; cases hl
    rw [if_pos hck] at hl
    cases hl
    rw [List.append_nil] at hcat
    subst hcat
    refine .inl ⟨(hJ _ _ G0 G2 ι2 μE H2 x2 r2 hck).2 (Nat.le_refl _), ?_⟩
    -- the list is told
    have hDa : H2 Da = some (.lst acc) := r2.f _ _ upd_same
    have hG2 : G2 Da = none := Classical.byContradiction fun z => r2.nw Da (by rw [upd_same]; exact fun z => nomatch z) z hG0
    -- without the list at Da
    have rH : Rep X.K X.mg F G0 G2 ι2 μE (fun b => if b = Da then none else H2 b) := by
      have hne : ∀ b u, G2 b = some u → b ≠ Da := fun b u q z => by subst z; rw [hG2] at q; cases q
      have hneF : ∀ b u, F b = some u → b ≠ Da := fun b u q z => by subst z; rw [hF1] at q; cases q
      refine ⟨r2.g0, fun b u q => ?_, fun b u q => ?_, fun a ha hga => ?_, r2.len, fun k c a h1 h2 => ?_, r2.inj⟩
      · show (if b = Da then none else H2 b) = some u
        rw [if_neg (hne b u q)]; exact r2.g b u q
      · show (if b = Da then none else H2 b) = some u
        rw [if_neg (hneF b u q)]; exact r2.f b u (by rw [upd_ne (hneF b u q)]; exact q)
      · refine r2.nw a ?_ hga
        by_cases hap : a = Da
        · subst hap; exact absurd hF1 ha
        · rw [upd_ne hap]; exact ha
      · obtain ⟨q1, q2, o', q3, q4⟩ := r2.live k c a h1 h2
        have hap : a ≠ Da := fun z => by subst z; rw [upd_same] at q2; cases q2
        refine ⟨q1, by rw [upd_ne hap] at q2; exact q2, o', ?_, q4⟩
        show (if a = Da then none else H2 a) = some o'
        rw [if_neg hap]; exact q3
    have := (hk rH racc (Post.mono x2 hmk)).2 Da (if_pos rfl)
    have eH : upd (fun b => if b = Da then none else H2 b) Da (.lst acc) = H2 := by
      funext b
      unfold upd
      by_cases hb : b = Da
      · subst hb; rw [if_pos rfl, hDa]
      · rw [if_neg hb]
        exact if_neg hb
    rwa [eH] at this
theorem ts_nil : PTs X [] (tM X W tYesM) := ⟨fun pins s σ H Q I h => pts_nil.run pins s σ H Q I (by
  obtain ⟨F, G0, G, ι, μ, ρ, rp, e, h⟩ := h
  exact h.now rp)⟩
theorem ts_one {c : Expr} {t : TM} (h : PT X c (tM X W t)) : PTs X [c] (tM X W t) := pts_one h
/-- [elt for tg in iter if ..] as a value -/
theorem q_lc {elt tg iter : Expr} {ifs : List Expr} {scope : Scope} {own : List (Str × Nat)} {pos : Pos} {ε : IM} {g : TG} {γ : GM} {tt : TM} {te : EM} {mk : List D → Mem → Res D} (hk : MkL mk) (hr : GRel X.K X.mg g γ (own.map (·.2))) (hc : X.calm = true) (hN : X.N.Nodup) (hi : PI X tg iter (tI X W ε)) (ok : BlkOk X.N X.env.scope scope own)
    (hg : ∀ (s : Shared) (H : Hp) (C : Addr) (cl : List (Str × Addr)) (fp : List Addr), PG (X.blk s H scope (compEnvC scope cl C X.env) fp) tg g) (ht : ∀ (s : Shared) (H : Hp) (C : Addr) (cl : List (Str × Addr)) (fp : List Addr), PTs (X.blk s H scope (compEnvC scope cl C X.env) fp) ifs (tM (X.blk s H scope (compEnvC scope cl C X.env) fp) WF tt))
    (he : ∀ (s : Shared) (H : Hp) (C : Addr) (cl : List (Str × Addr)) (fp : List Addr), PE (X.blk s H scope (compEnvC scope cl C X.env) fp) elt (tE (X.blk s H scope (compEnvC scope cl C X.env) fp) WF te)) (hs : ∀ x, foldedSetIterable iter X.env x = pure x := by intro _; rfl) :
    PE X (.ListComp elt [⟨tg, iter, ifs, 0⟩] scope pos) (tE X W (eLc mk ε γ tt te (own.map (·.2)))) :=
  pe_imp (pe_lc (tt := tM X WF tt) (te := tE X WF te) hc hN hi ok hg ht he hs) fun σ H Q h => lc_go hk hr h
/-- y = [..] on one line -/
theorem s_setLc {i : Nat} {y : Str} {py : Pos} {elt tg iter : Expr} {ifs : List Expr} {scope : Scope} {own : List (Str × Nat)} {pos spos : Pos} {ε : IM} {g : TG} {γ : GM} {tt : TM} {te : EM} {mk : List D → Mem → Res D} (hk : MkL mk) (hr : GRel X.K X.mg g γ (own.map (·.2))) (hc : X.calm = true) (hN : X.N.Nodup) (hy : X.N[i]? = some y) (hyl : X.env.scope.names.lookup y = some .local)
    (hsw : swapsWith (.ListComp elt [⟨tg, iter, ifs, 0⟩] scope pos) (some (.Name y py)) spos.line X.env = pure true) (hi : PI X tg iter (tI X W ε)) (ok : BlkOk X.N X.env.scope scope own)
    (hg : ∀ (s : Shared) (H : Hp) (C : Addr) (cl : List (Str × Addr)) (fp : List Addr), PG (X.blk s H scope (compEnvC scope cl C X.env) fp) tg g) (ht : ∀ (s : Shared) (H : Hp) (C : Addr) (cl : List (Str × Addr)) (fp : List Addr), PTs (X.blk s H scope (compEnvC scope cl C X.env) fp) ifs (tM (X.blk s H scope (compEnvC scope cl C X.env) fp) WF tt))
    (he : ∀ (s : Shared) (H : Hp) (C : Addr) (cl : List (Str × Addr)) (fp : List Addr), PE (X.blk s H scope (compEnvC scope cl C X.env) fp) elt (tE (X.blk s H scope (compEnvC scope cl C X.env) fp) WF te)) (hs : ∀ x, foldedSetIterable iter X.env x = pure x := by intro _; rfl) :
    PS X (.Assign [.Name y py] (.ListComp elt [⟨tg, iter, ifs, 0⟩] scope pos) spos) (tS X W (sAsg (gNm i) (eLc mk ε γ tt te (own.map (·.2))))) :=
  ps_imp (ps_setLc (i := i) (tt := tM X WF tt) (te := tE X WF te) hc hN hy hyl hsw hi ok hg ht he hs) fun N σ H h => by
  obtain ⟨F, G0, G, ι, μ, ρ, rp, e, h⟩ := h
  refine lc_go (W := W) hk hr ⟨F, G0, G, ι, μ, ρ, rp, e, (eX h.bind).imp fun d G1 ι1 μ1 H1 x1 r1 h1 v rv => ?_⟩
  exact h1.now r1 _ ((e.mono x1).set i rv)
end
end
end Md

/-! Calls: of own defs by their promises, of built-in functions, of lists' methods. -/
namespace Md
open PySem PySem.Spec PyProof.Rows L2
open Classical in
section

/-! ### data without cells -/
mutual
def hfree : D → Bool
  | .lst ds => hfrees ds
  | .tup ds => hfrees ds
  | .hnd _ => false
  | .non => true
  | .bl _ => true
  | .int _ => true
  | .str _ => true
  | .scr _ => true
def hfrees : List D → Bool
  | [] => true
  | d :: ds => hfree d && hfrees ds
end
mutual
theorem hfree_rep {K : PySem.W.Frag} {G : Hp} {ι ι' : List Addr} : ∀ (d : D) (v : V), hfree d = true → RepV K G ι v d → RepV K G ι' v d
  | .non, v, _, r => r
  | .bl _, v, _, r => r
  | .int _, v, _, r => r
  | .str _, v, _, r => r
  | .scr _, v, _, r => r
  | .hnd _, v, h, _ => by cases h
  | .lst ds, v, h, r => by
    obtain ⟨a, vs, e, hg, rs⟩ := r
    exact ⟨a, vs, e, hg, hfrees_rep ds vs (by rw [hfree] at h; exact h) rs⟩
  | .tup ds, v, h, r => by
    obtain ⟨a, vs, e, hg, rs⟩ := r
    exact ⟨a, vs, e, hg, hfrees_rep ds vs (by rw [hfree] at h; exact h) rs⟩
theorem hfrees_rep {K : PySem.W.Frag} {G : Hp} {ι ι' : List Addr} : ∀ (ds : List D) (vs : List V), hfrees ds = true → RepVs K G ι vs ds → RepVs K G ι' vs ds
  | [], vs, _, r => r
  | d :: ds, vs, h, r => by
    obtain ⟨v, w, e, r1, r2⟩ := r
    rw [hfrees, Bool.and_eq_true] at h
    exact ⟨v, w, e, hfree_rep d v h.1 r1, hfrees_rep ds w h.2 r2⟩
end
/-! the cells within read as data -/
mutual
def deref (μ : Mem) : D → Option D
  | .lst ds => (derefs μ ds).map .lst
  | .tup ds => (derefs μ ds).map .tup
  | .hnd k => match μ[k]? with
    | some (some (.lst ds)) => if hfrees ds = true then some (.lst ds) else none
    | _ => none
  | .non => some .non
  | .bl b => some (.bl b)
  | .int i => some (.int i)
  | .str x => some (.str x)
  | .scr ns => some (.scr ns)
def derefs (μ : Mem) : List D → Option (List D)
  | [] => some []
  | d :: ds => match deref μ d, derefs μ ds with
    | some e, some es => some (e :: es)
    | _, _ => none
end
section
variable {K : PySem.W.Frag} {mg : Str → Option Value} {F G0 G : Hp} {ι : List Addr} {μ : Mem} {H : Hp}
theorem Ext.heapx (rp : Rep K mg F G0 G ι μ H) : Ext G ι H ι := ⟨rp.g, List.prefix_refl ι⟩
mutual
theorem deref_ok (rp : Rep K mg F G0 G ι μ H) : ∀ (d e : D) (v : V), RepV K G ι v d → deref μ d = some e → RepV K H [] v e
  | .non, e, v, r, h => by cases h; exact r
  | .bl _, e, v, r, h => by cases h; exact r
  | .int _, e, v, r, h => by cases h; exact r
  | .str _, e, v, r, h => by cases h; exact r
  | .scr ns, e, v, r, h => by
    cases h
    obtain ⟨a, e, hg⟩ := r
    exact ⟨a, e, rp.g.seq hg⟩
  | .lst ds, e, v, r, h => by
    obtain ⟨a, vs, ev, hg, rs⟩ := r
    rw [deref] at h
    cases q : derefs μ ds with
    | none => rw [q] at h; cases h
    | some es => rw [q] at h; cases h; exact ⟨a, vs, ev, rp.g _ _ hg, derefs_ok rp ds es vs rs q⟩
  | .tup ds, e, v, r, h => by
    obtain ⟨a, vs, ev, hg, rs⟩ := r
    rw [deref] at h
    cases q : derefs μ ds with
    | none => rw [q] at h; cases h
    | some es => rw [q] at h; cases h; exact ⟨a, vs, ev, Same.sqT rp.g hg, derefs_ok rp ds es vs rs q⟩
  | .hnd k, e, v, r, h => by
    obtain ⟨a, ev, ha⟩ := r
    rw [deref] at h
    split at h
    · rename_i ds hk
      split at h
      · rename_i hf
        cases h
        obtain ⟨_, _, o, ho, vs, rfl, rs⟩ := rp.live k _ a hk ha
        exact ⟨a, vs, ev, ho, hfrees_rep ds vs hf (rs.mono (Ext.heapx rp))⟩
      · cases h
    · cases h
theorem derefs_ok (rp : Rep K mg F G0 G ι μ H) : ∀ (ds es : List D) (vs : List V), RepVs K G ι vs ds → derefs μ ds = some es → RepVs K H [] vs es
  | [], es, vs, r, h => by cases h; exact r
  | d :: ds, es, vs, r, h => by
    obtain ⟨v, w, e, r1, r2⟩ := r
    rw [derefs] at h
    cases q1 : deref μ d with
    | none => rw [q1] at h; cases h
    | some e1 =>
      cases q2 : derefs μ ds with
      | none => rw [q1, q2] at h; cases h
      | some es1 => rw [q1, q2] at h; cases h; exact ⟨v, w, e, deref_ok rp d e1 v r1 q1, derefs_ok rp ds es1 w r2 q2⟩
end
end

/-! ### promises -/
inductive PR where
  | ok (d : D) | exc (x : Exn) | bad
def xfree (x : Exn) : Bool := match x.pl with
  | none => true
  | some p => hfree p
/-- of a def that reads data and tells data -/
def spP (K : PySem.W.Frag) (mg : Str → Option Value) (n : Nat) (f : List D → PR) : Sp := fun vs H Q E => vs.length = n ∧ ∃ G ds, Same G H ∧ RepVs K G [] vs ds ∧ match f ds with
  | .ok d => ∀ G' H' v, Same H H' → Same G G' → Same G' H' → (∀ a, H a ≠ none → G' a ≠ none → G a ≠ none) → RepV K G' [] v d → Q v H'
  | .exc x => ∀ G' H' cls dd, Same H H' → Same G G' → Same G' H' → (∀ a, H a ≠ none → G' a ≠ none → G a ≠ none) → RepX K mg G' [] x cls dd H' → E cls dd H'
  | .bad => False
/-- of a def that changes cells -/
def spM (K : PySem.W.Frag) (mg : Str → Option Value) (n : Nat) (f : List D → Mem → Res D) : Sp := fun vs H Q E => vs.length = n ∧ ∃ F G0 G ι μ ds, Rep K mg F G0 G ι μ H ∧ RepVs K G ι vs ds ∧
  Post K mg F G0 G ι (f ds μ) E fun d G' ι' _ H' => ∀ v, RepV K G' ι' v d → Q v H'

/-! ### a def's run -/
def frame (n : Nat) (ds : List D) : DEnv := ds.map some ++ List.replicate (n - ds.length) none
def flD : Fl → Mem → Res D
  | .rt d, μ => .ok d μ
  | .nx _, μ => .ok .non μ
  | _, _ => .bad
def runM (n : Nat) (β : SM) (ds : List D) (μ : Mem) : Res D := (β (frame n ds) μ).bind flD
/-- cells told become data -/
def mapMR (f : D → Mem → Res D) : List D → Mem → Res (List D)
  | [], μ => .ok [] μ
  | d :: ds, μ => (f d μ).bind fun e μ1 => (mapMR f ds μ1).bind fun es μ2 => .ok (e :: es) μ2
def freeze : Nat → D → Mem → Res D
  | 0, d, μ => if hfree d = true then .ok d μ else .bad
  | n + 1, d, μ => if hfree d = true then .ok d μ else match d with
    | .lst ds => (mapMR (freeze n) ds μ).bind fun es μ' => .ok (.lst es) μ'
    | .tup ds => (mapMR (freeze n) ds μ).bind fun es μ' => .ok (.tup es) μ'
    | .hnd k => match μ[k]? with
      | some (some (.lst ds)) => (mapMR (freeze n) ds (μ.set k none)).bind fun es μ' => .ok (.lst es) μ'
      | _ => .bad
    | _ => .bad
def runP (n : Nat) (β : SM) (ds : List D) : PR := match runM n β ds [] with
  | .ok d μ => match freeze 6 d μ with
    | .ok e _ => if hfree e = true then .ok e else .bad
    | _ => .bad
  | .exc x _ => if xfree x = true then .exc x else .bad
  | .bad => .bad
section
variable {K : PySem.W.Frag} {mg : Str → Option Value} {F G0 : Hp} {H : Hp}
theorem mapMR_ok {f : D → Mem → Res D} (hf : ∀ (G : Hp) (ι : List Addr) (μ μ' : Mem) (v : V) (d e : D), Rep K mg F G0 G ι μ H → RepV K G ι v d → f d μ = .ok e μ' → ∃ G', Ext G ι G' ι ∧ Rep K mg F G0 G' ι μ' H ∧ RepV K G' ι v e) :
    ∀ (ds : List D) (G : Hp) (ι : List Addr) (μ μ' : Mem) (vs : List V) (es : List D), Rep K mg F G0 G ι μ H → RepVs K G ι vs ds → mapMR f ds μ = .ok es μ' → ∃ G', Ext G ι G' ι ∧ Rep K mg F G0 G' ι μ' H ∧ RepVs K G' ι vs es
  | [], G, ι, μ, μ', vs, es, rp, r, h => by
    cases h
    exact ⟨G, Ext.refl _ _, rp, r⟩
  | d :: ds, G, ι, μ, μ', vs, es, rp, r, h => by
    obtain ⟨v, w, rfl, r1, r2⟩ := r
    obtain ⟨e1, μ1, h1, h⟩ := bind_ok_inv h
    obtain ⟨es1, μ2, h2, h⟩ := bind_ok_inv h
    cases h
    obtain ⟨G1, x1, rp1, q1⟩ := hf G ι μ μ1 v d e1 rp r1 h1
    obtain ⟨G2, x2, rp2, q2⟩ := mapMR_ok hf ds G1 ι μ1 _ w es1 rp1 (r2.mono x1) h2
    exact ⟨G2, x1.trans x2, rp2, v, w, rfl, q1.mono x2, q2⟩
theorem freeze_ok : ∀ (n : Nat) (G : Hp) (ι : List Addr) (μ μ' : Mem) (v : V) (d e : D), Rep K mg F G0 G ι μ H → RepV K G ι v d → freeze n d μ = .ok e μ' → ∃ G', Ext G ι G' ι ∧ Rep K mg F G0 G' ι μ' H ∧ RepV K G' ι v e
  | 0, G, ι, μ, μ', v, d, e, rp, r, h => by
    unfold freeze at h
    split at h
    · cases h
      exact ⟨G, Ext.refl _ _, rp, r⟩
    · cases h
  | n + 1, G, ι, μ, μ', v, d, e, rp, r, h => by
    unfold freeze at h
    split at h
    · cases h
      exact ⟨G, Ext.refl _ _, rp, r⟩
    · split at h
      · rename_i ds _
        obtain ⟨es, μ1, h1, h⟩ := bind_ok_inv h
        cases h
        obtain ⟨a, vs, rfl, hg, rs⟩ := r
        obtain ⟨G1, x1, rp1, q1⟩ := mapMR_ok (freeze_ok n) ds G ι μ _ vs es rp rs h1
        exact ⟨G1, x1, rp1, a, vs, rfl, x1.g _ _ hg, q1⟩
      · rename_i ds _
        obtain ⟨es, μ1, h1, h⟩ := bind_ok_inv h
        cases h
        obtain ⟨a, vs, rfl, hg, rs⟩ := r
        obtain ⟨G1, x1, rp1, q1⟩ := mapMR_ok (freeze_ok n) ds G ι μ _ vs es rp rs h1
        exact ⟨G1, x1, rp1, a, vs, rfl, Same.sqT x1.g hg, q1⟩
      · rename_i k _
        split at h
        · rename_i ds hk
          obtain ⟨es, μ1, h1, h⟩ := bind_ok_inv h
          cases h
          obtain ⟨a, rfl, ha⟩ := r
          obtain ⟨_, _, o, ho, vs, rfl, rs⟩ := rp.live k _ a hk ha
          obtain ⟨rp0, x0⟩ := rp.freeze hk ha ho
          obtain ⟨G1, x1, rp1, q1⟩ := mapMR_ok (freeze_ok n) ds _ ι _ _ vs es rp0 (rs.mono x0) h1
          exact ⟨G1, x0.trans x1, rp1, a, vs, rfl, x1.g _ _ upd_same, q1⟩
        · cases h
      · cases h
end
section
variable {P : Program} {w : World} {K : PySem.W.Frag} {mg : Str → Option Value} {base : Heap}
theorem repE_start {G : Hp} {ι : List Addr} {N : List Str} {vs : List V} {ds : List D} (r : RepVs K G ι vs ds) : RepE K G ι (L2.start N vs) (frame N.length ds) := by
  have hl := r.length
  refine ⟨by simp [L2.start, frame, hl], fun i d h => ?_⟩
  unfold frame at h
  by_cases hi : i < ds.length
  · rw [List.getElem?_append_left (by simpa using hi), List.getElem?_map] at h
    cases q : ds[i]? with
    | none => rw [q] at h; cases h
    | some e =>
      rw [q] at h
      cases h
      obtain ⟨v, hv, rv⟩ := r.get q
      refine ⟨v, ?_, rv⟩
      unfold L2.start
      rw [List.getElem?_append_left (by rw [List.length_map, hl]; exact hi), List.getElem?_map, hv]
      rfl
  · rw [List.getElem?_append_right (by simpa using hi), List.getElem?_replicate] at h
    split at h <;> cases h
/-- what a body's exceptions are wanted to be -/
abbrev WE (E : XK) : WX := fun cls d _ H => E cls d H
/-- a def that changes cells, by its body -/
theorem fn_M {x qual : Str} {st : Stmt} {f : Addr} {fd : FuncData} {N ps : List Str} {k : Nat} {β : SM} (Fd : Fun K x qual st f fd) (S : FnScope N ps (defScope st))
    (hb : ∀ (cdv : Value) (A : Around) (outer : List Env) (s : Shared) (H : Hp) (E : XK), Room k (A.deeper (envOfC qual (defScope st) s.heap.objs.size f cdv)) →
      PSs (cxOf (L2.CX P w) P w K mg base N qual (defScope st) f cdv A outer s H E) (defBody st) (tS (cxOf (L2.CX P w) P w K mg base N qual (defScope st) f cdv A outer s H E) (WE E) β)) :
    FnOk P w K mg base (L2.CX P w) (k + 1) f fd ps (spM K mg ps.length (runM N.length β)) := by
  refine Fd.okX S (fun vs H Q E h => h.1) fun cdv A outer s H vs Q E hr h => ⟨_, hb cdv A outer s H E hr, ?_⟩
  obtain ⟨_, F, G0, G, ι, μ, ds, rp, rvs, h⟩ := h
  unfold runM at h
  refine ⟨F, G0, G, ι, μ, frame N.length ds, rp, repE_start rvs, (h.bind.impX fun cls d H' q σ' => q).imp fun fl G1 ι1 μ1 H1 x1 r1 h1 => ?_⟩
  cases fl with
  | nx ρ => exact fun σ _ => Post.now (a := D.non) r1 h1 V.non rfl
  | rt d => exact fun v rv => Post.now (a := d) r1 h1 v rv
  | bk ρ => exact h1.elim
  | ct ρ => exact h1.elim
/-- a def that reads and tells data -/
theorem fn_P {x qual : Str} {st : Stmt} {f : Addr} {fd : FuncData} {N ps : List Str} {k : Nat} {β : SM} (Fd : Fun K x qual st f fd) (S : FnScope N ps (defScope st))
    (hb : ∀ (cdv : Value) (A : Around) (outer : List Env) (s : Shared) (H : Hp) (E : XK), Room k (A.deeper (envOfC qual (defScope st) s.heap.objs.size f cdv)) →
      PSs (cxOf (L2.CX P w) P w K mg base N qual (defScope st) f cdv A outer s H E) (defBody st) (tS (cxOf (L2.CX P w) P w K mg base N qual (defScope st) f cdv A outer s H E) (WE E) β)) :
    FnOk P w K mg base (L2.CX P w) (k + 1) f fd ps (spP K mg ps.length (runP N.length β)) := by
  refine (fn_M Fd S hb).imp fun vs H Q E h => ?_
  obtain ⟨hl, G, ds, hg, rvs, h⟩ := h
  refine ⟨hl, H, G, G, [], [], ds, ⟨Same.refl G, hg, Same.refl H, fun _ _ z => z, rfl, fun k c a q => by simp at q, fun j k c c' a q => by simp at q⟩, rvs, ?_⟩
  unfold runP at h
  cases e : runM N.length β ds [] with
  | bad => rw [e] at h; exact h.elim
  | exc y μ =>
    rw [e] at h
    intro G' ι' H' cls d x1 r1 rx
    by_cases hx : xfree y = true
    · simp only [hx, if_true] at h
      refine h G' H' cls d r1.f x1.g r1.g r1.nw ?_
      obtain ⟨C, hm, hc, hp⟩ := rx
      refine ⟨C, hm, hc, ?_⟩
      unfold xfree at hx
      cases hpl : y.pl with
      | none => rw [hpl] at hp; exact hp
      | some p =>
        rw [hpl] at hp hx
        obtain ⟨dd, v, e1, e2, e3⟩ := hp
        exact ⟨dd, v, e1, e2, hfree_rep p v hx e3⟩
    · simp only [hx, if_false] at h
      exact h.elim
  | ok d μ =>
    rw [e] at h
    intro G' ι' H' x1 r1 v rv
    cases q : freeze 6 d μ with
    | bad => simp only [q] at h
    | exc y μ' => simp only [q] at h
    | ok d' μ' =>
      by_cases hf : hfree d' = true
      · simp only [q, hf, if_true] at h
        obtain ⟨G2, x2, r2, rv2⟩ := freeze_ok 6 G' ι' μ μ' v d d' r1 rv q
        exact h G2 H' v r2.f (x1.g.trans x2.g) r2.g r2.nw (hfree_rep d' v hf rv2)
      · simp only [q, hf, if_false] at h
        exact h.elim
end

/-! ### calls of own defs -/
def isScal : D → Bool
  | .non => true
  | .bl _ => true
  | .int _ => true
  | .str _ => true
  | _ => false
def xScal (x : Exn) : Bool := match x.pl with
  | none => true
  | some p => isScal p
theorem scal_rep {K : PySem.W.Frag} {G G' : Hp} {ι ι' : List Addr} {v : V} {d : D} (h : isScal d = true) (r : RepV K G ι v d) : RepV K G' ι' v d := by
  cases d <;> first | exact r | cases h
def callP (f : List D → PR) (ds : List D) (μ : Mem) : Res D := if hfrees ds = true then match f ds with
    | .ok d => .ok d μ
    | .exc x => .exc x μ
    | .bad => .bad
  else match derefs μ ds with
    | some es => match f es with
      | .ok d => if isScal d = true then .ok d μ else .bad
      | .exc x => if xScal x = true then .exc x μ else .bad
      | .bad => .bad
    | none => .bad
def eCall (f : List D → Mem → Res D) (α : AM) : EM := fun ρ μ => (α ρ μ).bind f
section
variable {K : PySem.W.Frag} {mg : Str → Option Value} {F G0 G : Hp} {ι : List Addr} {μ : Mem} {H : Hp}
theorem Rep.grow (rp : Rep K mg F G0 G ι μ H) {G' H' : Hp} (h1 : Same H H') (h2 : Same G G') (h3 : Same G' H') (h4 : ∀ a, H a ≠ none → G' a ≠ none → G a ≠ none) : Rep K mg F G0 G' ι μ H' := by
  refine ⟨rp.g0.trans h2, h3, rp.f.trans h1, fun a hf hg => rp.nw a hf (h4 a (fun z => ?_) hg), rp.len, fun k c a e1 e2 => ?_, rp.inj⟩
  · cases q : F a with
    | none => exact hf q
    | some o => have := rp.f _ _ q; rw [z] at this; cases this
  · obtain ⟨q1, q2, o, q3, q4⟩ := rp.live k c a e1 e2
    refine ⟨Classical.byContradiction fun z => h4 a (by rw [q3]; exact fun z => nomatch z) z q1, q2, o, h1 _ _ q3, q4.mono ⟨h2, List.prefix_refl ι⟩⟩
theorem repX_up {x : Exn} {cls : Value} {d : Option Addr} {G : Hp} {ι : List Addr} {H : Hp} (h : RepX K mg G [] x cls d H) : RepX K mg G ι x cls d H := by
  obtain ⟨C, hm, hc, hp⟩ := h
  refine ⟨C, hm, hc, ?_⟩
  cases hpl : x.pl with
  | none => rw [hpl] at hp; exact hp
  | some p =>
    rw [hpl] at hp
    obtain ⟨dd, v, e1, e2, e3⟩ := hp
    exact ⟨dd, v, e1, e2, e3.mono ⟨Same.refl G, List.nil_prefix⟩⟩
theorem repX_scal {x : Exn} {cls : Value} {d : Option Addr} {G G' : Hp} {ι ι' : List Addr} {H : Hp} (hs : xScal x = true) (h : RepX K mg G ι x cls d H) : RepX K mg G' ι' x cls d H := by
  obtain ⟨C, hm, hc, hp⟩ := h
  refine ⟨C, hm, hc, ?_⟩
  unfold xScal at hs
  cases hpl : x.pl with
  | none => rw [hpl] at hp; exact hp
  | some p =>
    rw [hpl] at hp hs
    obtain ⟨dd, v, e1, e2, e3⟩ := hp
    exact ⟨dd, v, e1, e2, scal_rep hs e3⟩
/-- a promise on data, at a call -/
theorem callP_ok {n : Nat} {f : List D → PR} {vs : List V} {ds : List D} {Qx : Value → Option Addr → Hp → Prop} {Q : VK} (hn : vs.length = n) (rp : Rep K mg F G0 G ι μ H) (rvs : RepVs K G ι vs ds)
    (h : Post K mg F G0 G ι (callP f ds μ) Qx fun d G' ι' _ H' => ∀ v, RepV K G' ι' v d → Q v H') : spP K mg n f vs H Q Qx := by
  refine ⟨hn, ?_⟩
  unfold callP at h
  split at h
  · rename_i hf
    refine ⟨G, ds, rp.g, hfrees_rep ds vs hf rvs, ?_⟩
    cases e : f ds with
    | bad => rw [e] at h; exact h.elim
    | ok d =>
      rw [e] at h
      exact fun G' H' v h1 h2 h3 h4 rv => h G' ι H' ⟨h2, List.prefix_refl ι⟩ (rp.grow h1 h2 h3 h4) v (rv.mono ⟨Same.refl G', List.nil_prefix⟩)
    | exc x =>
      rw [e] at h
      exact fun G' H' cls dd h1 h2 h3 h4 rx => h G' ι H' cls dd ⟨h2, List.prefix_refl ι⟩ (rp.grow h1 h2 h3 h4) (repX_up rx)
  · split at h
    · rename_i es hes
      refine ⟨H, es, Same.refl H, derefs_ok rp ds es vs rvs hes, ?_⟩
      cases e : f es with
      | bad => rw [e] at h; exact h.elim
      | ok d =>
        rw [e] at h
        by_cases hd : isScal d = true
        · simp only [hd, if_true] at h
          exact fun G' H' v h1 h2 h3 h4 rv => h G ι H' (Ext.refl _ _) (rp.grow h1 (Same.refl G) (rp.g.trans h1) fun _ _ z => z) v (scal_rep hd rv)
        · simp only [hd, if_false] at h
          exact h.elim
      | exc x =>
        rw [e] at h
        by_cases hd : xScal x = true
        · simp only [hd, if_true] at h
          exact fun G' H' cls dd h1 h2 h3 h4 rx => h G ι H' cls dd (Ext.refl _ _) (rp.grow h1 (Same.refl G) (rp.g.trans h1) fun _ _ z => z) (repX_scal hd rx)
        · simp only [hd, if_false] at h
          exact h.elim
    · exact h.elim
/-- .. on cells -/
theorem callM_ok {n : Nat} {f : List D → Mem → Res D} {vs : List V} {ds : List D} {Qx : Value → Option Addr → Hp → Prop} {Q : VK} (hn : vs.length = n) (rp : Rep K mg F G0 G ι μ H) (rvs : RepVs K G ι vs ds)
    (h : Post K mg F G0 G ι (f ds μ) Qx fun d G' ι' _ H' => ∀ v, RepV K G' ι' v d → Q v H') : spM K mg n f vs H Q Qx := ⟨hn, F, G0, G, ι, μ, ds, rp, rvs, h⟩
end
/-- the promise in either form -/
def SpOk (K : PySem.W.Frag) (mg : Str → Option Value) (n : Nat) (sp : Sp) (f : List D → Mem → Res D) : Prop :=
  ∀ (F G0 G : Hp) (ι : List Addr) (μ : Mem) (H : Hp) (vs : List V) (ds : List D) (Qx : Value → Option Addr → Hp → Prop) (Q : VK), vs.length = n → Rep K mg F G0 G ι μ H → RepVs K G ι vs ds →
    Post K mg F G0 G ι (f ds μ) Qx (fun d G' ι' _ H' => ∀ v, RepV K G' ι' v d → Q v H') → sp vs H Q Qx
theorem sp_P {K : PySem.W.Frag} {mg : Str → Option Value} {n : Nat} {f : List D → PR} : SpOk K mg n (spP K mg n f) (callP f) := fun _ _ _ _ _ _ _ _ _ _ hn rp rvs h => callP_ok hn rp rvs h
theorem sp_M {K : PySem.W.Frag} {mg : Str → Option Value} {n : Nat} {f : List D → Mem → Res D} : SpOk K mg n (spM K mg n f) f := fun _ _ _ _ _ _ _ _ _ _ hn rp rvs h => callM_ok hn rp rvs h
section
variable {X : Cx} {W : WX}
/-- f(e, ..) -/
theorem q_call {k n : Nat} {f : Addr} {fd : FuncData} {ps : List Str} {sp : Sp} {x : Str} {p pos : Pos} {e : Expr} {es : List Expr} {α : AM} {fM : List D → Mem → Res D} (so : SpOk X.K X.mg n sp fM) (hps : n = es.length + 1)
    (Fk : FnOk X.prog X.w X.K X.mg X.base (L2.CX X.prog X.w) k f fd ps sp) (hr : Room k X.A) (hg : Gl X x) (hm : X.mg x = some (.ref f)) (hk : PySem.W.keepIn X.K (.ref f) = true) (hb : L2.Binds X.K fd ps []) (tk : Takes X W) (ha : PA X (e :: es) (tA X W α))
    (hal : ∀ ρ μ ds μ', α ρ μ = .ok ds μ' → ds.length = es.length + 1) (hdb : (x == ("__debug__" : Str)) = false := by decide) (he : starEach (e :: es) X.env = (false, eval e X.env) :: starEach es X.env := by rfl) (hpl : (backTo pos (starEach es X.env)).any (·.1) = false := by rfl) :
    PE X (.Call (.Name x p) (e :: es) [] pos) (tE X W (eCall fM α)) :=
  pe_imp (pe_callS Fk hr hg hm hk hb (E := L2.WE W) (fun σ => passAt tk σ) ha hdb he hpl) fun σ H Q h => by
  obtain ⟨F, G0, G, ι, μ, ρ, rp, e, h⟩ := h
  cases q : α ρ μ with
  | ok ds μ1 =>
    unfold eCall at h
    have hb := h.bind
    rw [q] at hb
    refine ⟨F, G0, G, ι, μ, ρ, rp, e, ?_⟩
    rw [q]
    intro G1 ι1 H1 x1 r1 vs rvs
    exact so F G0 G1 ι1 μ1 H1 vs ds _ _ (by rw [rvs.length, hal ρ μ ds μ1 q, hps]) r1 rvs (hb G1 ι1 H1 x1 r1)
  | exc y μ1 =>
    unfold eCall at h
    refine ⟨F, G0, G, ι, μ, ρ, rp, e, ?_⟩
    rw [q] at h ⊢
    exact h
  | bad =>
    unfold eCall at h
    rw [q] at h
    exact h.elim
theorem aCons_len {α : EM} {r : AM} {n : Nat} (hr : ∀ ρ μ ds μ', r ρ μ = .ok ds μ' → ds.length = n) : ∀ ρ μ ds μ', aCons α r ρ μ = .ok ds μ' → ds.length = n + 1 := fun ρ μ ds μ' h => by
  unfold aCons at h
  obtain ⟨d, μ1, _, h⟩ := bind_ok_inv h
  obtain ⟨es, μ2, h2, h⟩ := bind_ok_inv h
  cases h
  rw [List.length_cons, hr _ _ _ _ h2]
theorem aNil_len : ∀ ρ μ ds μ', aNil ρ μ = .ok ds μ' → ds.length = 0 := fun ρ μ ds μ' h => by cases h; rfl

/-! ### calls of built-in functions -/
def CallM (K : PySem.W.Frag) (mg : Str → Option Value) (r : List V → Hp → VK → Prop) (f : List D → Mem → Res D) : Prop :=
  ∀ (F G0 G : Hp) (ι : List Addr) (μ : Mem) (H : Hp) (vs : List V) (ds : List D) (Qx : Value → Option Addr → Hp → Prop) (Q : VK), Rep K mg F G0 G ι μ H → RepVs K G ι vs ds →
    Post K mg F G0 G ι (f ds μ) Qx (fun d G' ι' _ H' => ∀ v, RepV K G' ι' v d → Q v H') → r vs H Q
theorem callB_go {r : List V → Hp → VK → Prop} {f : List D → Mem → Res D} {α : AM} (hm : CallM X.K X.mg r f) {σ : L2.St} {H : Hp} {Q : VK} (h : tE X W (eCall f α) σ H Q) : tCB r (tA X W α) σ H Q := by
  obtain ⟨F, G0, G, ι, μ, ρ, rp, e, h⟩ := h
  exact tA.go rp e h.bind fun ds G1 ι1 μ1 H1 x1 r1 e1 h1 vs rvs => hm F G0 G1 ι1 μ1 H1 vs ds _ Q r1 rvs h1
theorem q_callB {x : Str} {p pos : Pos} {e : Expr} {es : List Expr} {id : String} {r : List V → Hp → VK → Prop} {f : List D → Mem → Res D} {α : AM} (hc : CallR X (.builtin id) r) (hm : CallM X.K X.mg r f) (hg : Gl X x) (hmg : X.mg x = none) (hv : bootBuiltins x = some (.builtin id)) (ha : PA X (e :: es) (tA X W α))
    (hn : x ≠ "__name__" := by decide) (hdb : (x == ("__debug__" : Str)) = false := by decide) (he : starEach (e :: es) X.env = (false, eval e X.env) :: starEach es X.env := by rfl) (hpl : (backTo pos (starEach es X.env)).any (·.1) = false := by rfl) : PE X (.Call (.Name x p) (e :: es) [] pos) (tE X W (eCall f α)) :=
  pe_imp (pe_callB hc hg hmg hv ha hn hdb he hpl) fun _ _ _ h => callB_go hm h
theorem q_callT {x : Str} {p pos : Pos} {e : Expr} {es : List Expr} {T : String} {r : List V → Hp → VK → Prop} {f : List D → Mem → Res D} {α : AM} (hc : CallR X (.type T) r) (hm : CallM X.K X.mg r f) (hg : Gl X x) (hmg : X.mg x = none) (hv : bootBuiltins x = some (.type T)) (ha : PA X (e :: es) (tA X W α))
    (hn : x ≠ "__name__" := by decide) (hdb : (x == ("__debug__" : Str)) = false := by decide) (he : starEach (e :: es) X.env = (false, eval e X.env) :: starEach es X.env := by rfl) (hpl : (backTo pos (starEach es X.env)).any (·.1) = false := by rfl) : PE X (.Call (.Name x p) (e :: es) [] pos) (tE X W (eCall f α)) :=
  pe_imp (pe_callTy hc hg hmg hv ha hn hdb he hpl) fun _ _ _ h => callB_go hm h
end
end
end Md

/-! Built-in functions and methods, by data. -/
namespace Md
open PySem PySem.Spec PyProof.Rows L2
open Classical in
section
section
variable {K : PySem.W.Frag} {mg : Str → Option Value}
theorem rv1 {G : Hp} {ι : List Addr} {vs : List V} {d : D} (h : RepVs K G ι vs [d]) : ∃ v, vs = [v] ∧ RepV K G ι v d := by
  obtain ⟨v, r, rfl, h1, h2⟩ := h
  rw [show r = [] from h2]
  exact ⟨v, rfl, h1⟩
theorem rs1 {G : Hp} {ι : List Addr} {v : V} {d : D} (h : RepV K G ι v d) : RepVs K G ι [v] [d] := ⟨v, [], rfl, h, rfl⟩
theorem rv2 {G : Hp} {ι : List Addr} {vs : List V} {d e : D} (h : RepVs K G ι vs [d, e]) : ∃ v w, vs = [v, w] ∧ RepV K G ι v d ∧ RepV K G ι w e := by
  obtain ⟨v, r, rfl, h1, h2⟩ := h
  obtain ⟨w, rfl, h3⟩ := rv1 h2
  exact ⟨v, w, rfl, h1, h3⟩
section
noncomputable local instance (priority := 100000) (p : Prop) : Decidable p := Classical.propDecidable p
noncomputable def mLen (ds : List D) (μ : Mem) : Res D := match ds with
  | [.str z] => if z.length ≤ sizeLine then .ok (.int z.length) μ else .bad
  | [d] => match seqA μ d with
    | some es => .ok (.int es.length) μ
    | none => .bad
  | _ => .bad
end
def rLenA (K : PySem.W.Frag) : List V → Hp → VK → Prop := fun xs H Q => (∃ p ys, xs = [.ref p] ∧ (SqL K H p ys ∨ SqT K H p ys) ∧ Q (.int ys.length) H) ∨ (∃ z, xs = [.str z] ∧ z.length ≤ sizeLine ∧ Q (.int z.length) H)
theorem cr_len {X : Cx} : CallR X (.builtin "len") (rLenA X.K) := call_len_seq.or call_len_str
theorem cm_len : CallM K mg (rLenA K) mLen := by
  intro F G0 G ι μ H vs ds Qx Q rp rvs h
  unfold mLen at h
  split at h
  · rename_i z
    obtain ⟨v, rfl, rv⟩ := rv1 rvs
    split at h
    · rename_i hz
      exact .inr ⟨z, by rw [show v = V.str z from rv], hz, h.now rp _ rfl⟩
    · exact h.elim
  · rename_i d _
    obtain ⟨v, rfl, rv⟩ := rv1 rvs
    split at h
    · rename_i es hs
      obtain ⟨a, ys, rfl, s, r⟩ := seqA_ok rp rv hs
      exact .inl ⟨a, ys, rfl, s, h.now rp _ (by rw [← r.length]; rfl)⟩
    · exact h.elim
  · exact h.elim
/-- int of a truth or a whole number -/
def mInt (ds : List D) (μ : Mem) : Res D := match ds with
  | [.int i] => .ok (.int i) μ
  | [.bl b] => .ok (.int (if b = true then 1 else 0)) μ
  | _ => .bad
theorem cm_int : CallM K mg (fun xs H Q => (∃ i, xs = [.int i] ∧ Q (.int i) H) ∨ ∃ k, xs = [.bl k] ∧ Q (.int (if k then 1 else 0)) H) mInt := by
  intro F G0 G ι μ H vs ds Qx Q rp rvs h
  unfold mInt at h
  split at h
  · rename_i i
    obtain ⟨v, rfl, rv⟩ := rv1 rvs
    exact .inl ⟨i, by rw [show v = V.int i from rv], h.now rp _ rfl⟩
  · rename_i b
    obtain ⟨v, rfl, rv⟩ := rv1 rvs
    exact .inr ⟨b, by rw [show v = V.bl b from rv], h.now rp _ rfl⟩
  · exact h.elim
def mAbs (ds : List D) (μ : Mem) : Res D := match ds with
  | [.int i] => .ok (.int (if i < 0 then -i else i)) μ
  | _ => .bad
theorem cm_abs : CallM K mg (fun xs H Q => ∃ i, xs = [.int i] ∧ Q (.int (if i < 0 then -i else i)) H) mAbs := by
  intro F G0 G ι μ H vs ds Qx Q rp rvs h
  unfold mAbs at h
  split at h
  · rename_i i
    obtain ⟨v, rfl, rv⟩ := rv1 rvs
    exact ⟨i, by rw [show v = V.int i from rv], h.now rp _ rfl⟩
  · exact h.elim
def mMax2 (ds : List D) (μ : Mem) : Res D := match ds with
  | [.int i, .int j] => .ok (.int (if j > i then j else i)) μ
  | _ => .bad
theorem cm_max2 : CallM K mg (fun xs H Q => ∃ i j, xs = [.int i, .int j] ∧ Q (.int (if j > i then j else i)) H) mMax2 := by
  intro F G0 G ι μ H vs ds Qx Q rp rvs h
  unfold mMax2 at h
  split at h
  · rename_i i j
    obtain ⟨v, w, rfl, r1, r2⟩ := rv2 rvs
    exact ⟨i, j, by rw [show v = V.int i from r1, show w = V.int j from r2], h.now rp _ rfl⟩
  · exact h.elim
def mMin2 (ds : List D) (μ : Mem) : Res D := match ds with
  | [.int i, .int j] => .ok (.int (if j < i then j else i)) μ
  | _ => .bad
theorem cm_min2 : CallM K mg (fun xs H Q => ∃ i j, xs = [.int i, .int j] ∧ Q (.int (if j < i then j else i)) H) mMin2 := by
  intro F G0 G ι μ H vs ds Qx Q rp rvs h
  unfold mMin2 at h
  split at h
  · rename_i i j
    obtain ⟨v, w, rfl, r1, r2⟩ := rv2 rvs
    exact ⟨i, j, by rw [show v = V.int i from r1, show w = V.int j from r2], h.now rp _ rfl⟩
  · exact h.elim
/-- list(x) -/
def mList (mk : List D → Mem → Res D) (ds : List D) (μ : Mem) : Res D := match ds with
  | [d] => match seqA μ d with
    | some es => mk es μ
    | none => .bad
  | _ => .bad
theorem cm_list {mk : List D → Mem → Res D} (hk : MkL mk) : CallM K mg (fun xs H Q => ∃ p ys, xs = [.ref p] ∧ (SqL K H p ys ∨ SqT K H p ys) ∧ ∀ l, H l = none → Q (.ref l) (upd H l (.lst ys))) (mList mk) := by
  intro F G0 G ι μ H vs ds Qx Q rp rvs h
  unfold mList at h
  split at h
  · rename_i d
    obtain ⟨v, rfl, rv⟩ := rv1 rvs
    split at h
    · rename_i es hs
      obtain ⟨a, ys, rfl, s, r⟩ := seqA_ok rp rv hs
      exact ⟨a, ys, rfl, s, (hk rp r h).2⟩
    · exact h.elim
  · exact h.elim
/-- whole numbers alone -/
def asInts : List D → Option (List Int)
  | [] => some []
  | .int i :: ds => (asInts ds).map (i :: ·)
  | _ => none
theorem asInts_eq : ∀ {ds : List D} {ns : List Int}, asInts ds = some ns → ds = ns.map D.int
  | [], ns, h => by cases h; rfl
  | d :: ds, ns, h => by
    cases d with
    | int i =>
      rw [asInts] at h
      cases q : asInts ds with
      | none => rw [q] at h; cases h
      | some ms => rw [q] at h; cases h; rw [asInts_eq q]; rfl
    | _ => cases h
theorem asInts_map : ∀ ns : List Int, asInts (ns.map D.int) = some ns
  | [] => rfl
  | n :: ns => by rw [List.map_cons, asInts, asInts_map ns]; rfl
def asBools : List D → Option (List Bool)
  | [] => some []
  | .bl i :: ds => (asBools ds).map (i :: ·)
  | _ => none
theorem asBools_eq : ∀ {ds : List D} {ns : List Bool}, asBools ds = some ns → ds = ns.map D.bl
  | [], ns, h => by cases h; rfl
  | d :: ds, ns, h => by
    cases d with
    | bl i =>
      rw [asBools] at h
      cases q : asBools ds with
      | none => rw [q] at h; cases h
      | some ms => rw [q] at h; cases h; rw [asBools_eq q]; rfl
    | _ => cases h
theorem asBools_map : ∀ ns : List Bool, asBools (ns.map D.bl) = some ns
  | [] => rfl
  | n :: ns => by rw [List.map_cons, asBools, asBools_map ns]; rfl
theorem repVs_bools {G : Hp} {ι : List Addr} : ∀ {vs : List V} {ns : List Bool}, RepVs K G ι vs (ns.map D.bl) → vs = ns.map V.bl
  | vs, [], h => h
  | vs, n :: ns, h => by
    obtain ⟨v, r, rfl, h1, h2⟩ := h
    rw [show v = V.bl n from h1, repVs_bools h2]
    rfl
def intsOf (μ : Mem) (d : D) : Option (List Int) := (seqL μ d).bind asInts
theorem intsOf_ok {F G0 G : Hp} {ι : List Addr} {μ : Mem} {H : Hp} {v : V} {d : D} {ns : List Int} (rp : Rep K mg F G0 G ι μ H) (rv : RepV K G ι v d) (h : intsOf μ d = some ns) : ∃ a, v = .ref a ∧ SqL K H a (ns.map V.int) := by
  unfold intsOf at h
  cases q : seqL μ d with
  | none => rw [q] at h; cases h
  | some ds =>
    rw [q] at h
    have e := asInts_eq (show asInts ds = some ns from h)
    subst e
    obtain ⟨a, vs, e1, s, r⟩ := seqL_ok rp rv q
    rw [RepVs.toInts r] at s
    exact ⟨a, e1, s⟩
def boolsOf (μ : Mem) (d : D) : Option (List Bool) := (seqL μ d).bind asBools
theorem boolsOf_ok {F G0 G : Hp} {ι : List Addr} {μ : Mem} {H : Hp} {v : V} {d : D} {ns : List Bool} (rp : Rep K mg F G0 G ι μ H) (rv : RepV K G ι v d) (h : boolsOf μ d = some ns) : ∃ a, v = .ref a ∧ SqL K H a (ns.map V.bl) := by
  unfold boolsOf at h
  cases q : seqL μ d with
  | none => rw [q] at h; cases h
  | some ds =>
    rw [q] at h
    have e := asBools_eq (show asBools ds = some ns from h)
    subst e
    obtain ⟨a, vs, e1, s, r⟩ := seqL_ok rp rv q
    rw [repVs_bools r] at s
    exact ⟨a, e1, s⟩
def mSum (ds : List D) (μ : Mem) : Res D := match ds with
  | [d] => match intsOf μ d with
    | some ns => .ok (.int ns.sum) μ
    | none => .bad
  | _ => .bad
theorem cm_sum : CallM K mg (rSum K) mSum := by
  intro F G0 G ι μ H vs ds Qx Q rp rvs h
  unfold mSum at h
  split at h
  · rename_i d
    obtain ⟨v, rfl, rv⟩ := rv1 rvs
    split at h
    · rename_i ns hs
      obtain ⟨a, rfl, s⟩ := intsOf_ok rp rv hs
      exact ⟨a, ns, rfl, s, h.now rp _ rfl⟩
    · exact h.elim
  · exact h.elim
def minL : List Int → Int
  | [] => 0
  | [n] => n
  | n :: ns => min n (minL ns)
theorem minL_mem : ∀ {ns : List Int}, ns ≠ [] → minL ns ∈ ns
  | [], h => absurd rfl h
  | [n], _ => by simp [minL]
  | n :: m :: ns, _ => by
    have ih := minL_mem (ns := m :: ns) (by simp)
    rw [minL]
    · by_cases h : n ≤ minL (m :: ns)
      · rw [Int.min_eq_left h]; exact List.mem_cons_self
      · rw [Int.min_eq_right (by omega)]; exact List.mem_cons_of_mem _ ih
    · simp
theorem minL_le : ∀ {ns : List Int} {y : Int}, y ∈ ns → minL ns ≤ y
  | [n], y, h => by
    have : y = n := by simpa using h
    subst this; exact Int.le_refl _
  | n :: m :: ns, y, h => by
    rw [minL]
    · rcases List.mem_cons.mp h with rfl | h
      · exact Int.min_le_left _ _
      · exact Int.le_trans (Int.min_le_right _ _) (minL_le h)
    · simp
def maxL : List Int → Int
  | [] => 0
  | [n] => n
  | n :: ns => max n (maxL ns)
theorem maxL_mem : ∀ {ns : List Int}, ns ≠ [] → maxL ns ∈ ns
  | [], h => absurd rfl h
  | [n], _ => by simp [maxL]
  | n :: m :: ns, _ => by
    have ih := maxL_mem (ns := m :: ns) (by simp)
    rw [maxL]
    · by_cases h : maxL (m :: ns) ≤ n
      · rw [Int.max_eq_left h]; exact List.mem_cons_self
      · rw [Int.max_eq_right (by omega)]; exact List.mem_cons_of_mem _ ih
    · simp
theorem maxL_le : ∀ {ns : List Int} {y : Int}, y ∈ ns → y ≤ maxL ns
  | [n], y, h => by
    have : y = n := by simpa using h
    subst this; exact Int.le_refl _
  | n :: m :: ns, y, h => by
    rw [maxL]
    · rcases List.mem_cons.mp h with rfl | h
      · exact Int.le_max_left _ _
      · exact Int.le_trans (maxL_le h) (Int.le_max_right _ _)
    · simp
def mMin (ds : List D) (μ : Mem) : Res D := match ds with
  | [d] => match intsOf μ d with
    | some (n :: ns) => .ok (.int (minL (n :: ns))) μ
    | _ => .bad
  | _ => .bad
theorem cm_min : CallM K mg (rMin K) mMin := by
  intro F G0 G ι μ H vs ds Qx Q rp rvs h
  unfold mMin at h
  split at h
  · rename_i d
    obtain ⟨v, rfl, rv⟩ := rv1 rvs
    split at h
    · rename_i n ns hs
      obtain ⟨a, rfl, s⟩ := intsOf_ok rp rv hs
      refine ⟨a, n :: ns, rfl, s, Nat.succ_pos _, fun m h1 h2 => ?_⟩
      have e : m = minL (n :: ns) := Int.le_antisymm (h2 _ (minL_mem (by simp))) (minL_le h1)
      subst e
      exact h.now rp _ rfl
    · exact h.elim
  · exact h.elim
def mMax (ds : List D) (μ : Mem) : Res D := match ds with
  | [d] => match intsOf μ d with
    | some (n :: ns) => .ok (.int (maxL (n :: ns))) μ
    | _ => .bad
  | _ => .bad
theorem cm_max : CallM K mg (rMax K) mMax := by
  intro F G0 G ι μ H vs ds Qx Q rp rvs h
  unfold mMax at h
  split at h
  · rename_i d
    obtain ⟨v, rfl, rv⟩ := rv1 rvs
    split at h
    · rename_i n ns hs
      obtain ⟨a, rfl, s⟩ := intsOf_ok rp rv hs
      refine ⟨a, n :: ns, rfl, s, Nat.succ_pos _, fun m h1 h2 => ?_⟩
      have e : m = maxL (n :: ns) := Int.le_antisymm (maxL_le h1) (h2 _ (maxL_mem (by simp)))
      subst e
      exact h.now rp _ rfl
    · exact h.elim
  · exact h.elim
def mAny (ds : List D) (μ : Mem) : Res D := match ds with
  | [d] => match boolsOf μ d with
    | some bs => .ok (.bl (bs.any id)) μ
    | none => .bad
  | _ => .bad
theorem cm_any : CallM K mg (rAny K) mAny := by
  intro F G0 G ι μ H vs ds Qx Q rp rvs h
  unfold mAny at h
  split at h
  · rename_i d
    obtain ⟨v, rfl, rv⟩ := rv1 rvs
    split at h
    · rename_i ns hs
      obtain ⟨a, rfl, s⟩ := boolsOf_ok rp rv hs
      exact ⟨a, ns, rfl, s, h.now rp _ rfl⟩
    · exact h.elim
  · exact h.elim
def mAll (ds : List D) (μ : Mem) : Res D := match ds with
  | [d] => match boolsOf μ d with
    | some bs => .ok (.bl (bs.all id)) μ
    | none => .bad
  | _ => .bad
theorem cm_all : CallM K mg (rAll K) mAll := by
  intro F G0 G ι μ H vs ds Qx Q rp rvs h
  unfold mAll at h
  split at h
  · rename_i d
    obtain ⟨v, rfl, rv⟩ := rv1 rvs
    split at h
    · rename_i ns hs
      obtain ⟨a, rfl, s⟩ := boolsOf_ok rp rv hs
      exact ⟨a, ns, rfl, s, h.now rp _ rfl⟩
    · exact h.elim
  · exact h.elim
/-- sorted whole numbers -/
def insI (n : Int) : List Int → List Int
  | [] => [n]
  | m :: ms => if n ≤ m then n :: m :: ms else m :: insI n ms
def sortI : List Int → List Int
  | [] => []
  | n :: ns => insI n (sortI ns)
theorem insI_perm (n : Int) : ∀ ms : List Int, (insI n ms).Perm (n :: ms)
  | [] => .refl _
  | m :: ms => by
    unfold insI
    split
    · exact .refl _
    · exact ((insI_perm n ms).cons m).trans (.swap n m ms)
theorem sortI_perm : ∀ ns : List Int, (sortI ns).Perm ns
  | [] => .refl _
  | n :: ns => (insI_perm n (sortI ns)).trans ((sortI_perm ns).cons n)
theorem insI_sorted (n : Int) : ∀ {ms : List Int}, ms.Pairwise (· ≤ ·) → (insI n ms).Pairwise (· ≤ ·)
  | [], _ => by simp [insI]
  | m :: ms, h => by
    unfold insI
    rw [List.pairwise_cons] at h
    split
    · rename_i hnm
      rw [List.pairwise_cons, List.pairwise_cons]
      refine ⟨fun x hx => ?_, h⟩
      rcases List.mem_cons.mp hx with rfl | hx
      · exact hnm
      · exact Int.le_trans hnm (h.1 x hx)
    · rename_i hnm
      rw [List.pairwise_cons]
      refine ⟨fun x hx => ?_, insI_sorted n h.2⟩
      rcases List.mem_cons.mp ((insI_perm n ms).mem_iff.mp hx) with rfl | hx
      · omega
      · exact h.1 x hx
theorem sortI_sorted : ∀ ns : List Int, (sortI ns).Pairwise (· ≤ ·)
  | [] => .nil
  | n :: ns => insI_sorted n (sortI_sorted ns)
theorem perm_sorted_eq : ∀ {l1 l2 : List Int}, l1.Perm l2 → l1.Pairwise (· ≤ ·) → l2.Pairwise (· ≤ ·) → l1 = l2
  | [], l2, p, _, _ => p.nil_eq
  | a :: l1, [], p, _, _ => absurd p.length_eq (by simp)
  | a :: l1, b :: l2, p, h1, h2 => by
    rw [List.pairwise_cons] at h1 h2
    have ha : a ∈ b :: l2 := p.mem_iff.mp List.mem_cons_self
    have hb : b ∈ a :: l1 := p.mem_iff.mpr List.mem_cons_self
    have e : a = b := by
      rcases List.mem_cons.mp ha with e | ha
      · exact e
      · rcases List.mem_cons.mp hb with e | hb
        · exact e.symm
        · exact Int.le_antisymm (h1.1 b hb) (h2.1 a ha)
    subst e
    rw [perm_sorted_eq (p.cons_inv) h1.2 h2.2]
def mSortedI (mk : List D → Mem → Res D) (ds : List D) (μ : Mem) : Res D := match ds with
  | [d] => match intsOf μ d with
    | some ns => mk ((sortI ns).map .int) μ
    | none => .bad
  | _ => .bad
theorem cm_sortedI {mk : List D → Mem → Res D} (hk : MkL mk) : CallM K mg (rSortedI K) (mSortedI mk) := by
  intro F G0 G ι μ H vs ds Qx Q rp rvs h
  unfold mSortedI at h
  split at h
  · rename_i d
    obtain ⟨v, rfl, rv⟩ := rv1 rvs
    split at h
    · rename_i ns hs
      obtain ⟨a, rfl, s⟩ := intsOf_ok rp rv hs
      refine ⟨a, ns, rfl, s, fun ns' p h1 h2 h3 => ?_⟩
      have e : ns' = sortI ns := perm_sorted_eq (h1.trans (sortI_perm ns).symm) h2 (sortI_sorted ns)
      subst e
      exact (hk rp (RepVs.ints _) h).2 p h3
    · exact h.elim
  · exact h.elim
end

/-! ### isinstance of data -/
section
variable {X : Cx} {W : WX}
def eIsT (f : D → Option Bool) (α : EM) : EM := fun ρ μ => (α ρ μ).bind fun d μ1 => match f d with
  | some b => .ok (.bl b) μ1
  | none => .bad
def isIntD : D → Option Bool
  | .non => some false
  | .bl _ => some true
  | .int _ => some true
  | .str _ => some false
  | _ => none
def isBoolD : D → Option Bool
  | .non => some false
  | .bl _ => some true
  | .int _ => some false
  | .str _ => some false
  | _ => none
theorem q_isT {e : Expr} {p q pos : Pos} {α : EM} {n : Str} {T : String} {f : D → Option Bool} (hg : Gl X "isinstance") (hm : X.mg "isinstance" = none) (hgn : Gl X n) (hmn : X.mg n = none) (hv : bootBuiltins n = some (.type T)) (he : PE X e (tE X W α))
    (h1 : ∀ b, f .non = some b → kitB "NoneType" T = some b) (h2 : ∀ c b, f (.bl c) = some b → kitB "bool" T = some b) (h3 : ∀ i b, f (.int i) = some b → kitB "int" T = some b) (h4 : ∀ x b, f (.str x) = some b → kitB "str" T = some b)
    (h5 : ∀ d b, f d = some b → isScal d = true)
    (hn : n ≠ "__name__" := by decide) (hdb : (n == ("__debug__" : Str)) = false := by decide)
    (hs : starEach [e, .Name n q] X.env = (false, eval e X.env) :: starEach [.Name n q] X.env := by rfl) (hs2 : starEach [.Name n q] X.env = (false, eval (.Name n q) X.env) :: starEach [] X.env := by rfl) (hpl : (backTo pos (starEach [.Name n q] X.env)).any (·.1) = false := by rfl) :
    PE X (.Call (.Name "isinstance" p) [e, .Name n q] [] pos) (tE X W (eIsT f α)) :=
  pe_imp (pe_callB call_isi hg hm boot_isinstance (pa_cons he (pa_cons (pe_bltn (v := .ty T) hgn hmn hv rfl hn hdb) pa_nil hs2) hs) (by decide) (by decide) hs hpl) fun σ H Q h => by
  obtain ⟨F, G0, G, ι, μ, ρ, rp, e, h⟩ := h
  refine tE.go rp e h.bind fun d G1 ι1 μ1 H1 x1 r1 e1 h1' v rv => ?_
  split at h1'
  · rename_i b hb
    have fin : ∀ (t : String), TyX X.K H1 v (.type t) → kitB t T = some b → ∃ x c t u b, [v, V.ty T] = [x, c] ∧ ClsV c u ∧ TyX X.K H1 x t ∧ PySem.W.kitOne X.K t u = some b ∧ Q (.bl b) H1 := fun t ty kb =>
      ⟨v, .ty T, .type t, .type T, b, rfl, .ty T, ty, kit_ty kb, h1'.now r1 _ rfl⟩
    cases d with
    | non => rw [show v = V.non from rv] at fin; exact (by rw [show v = V.non from rv]; exact fin "NoneType" (.base .non) (h1 b hb))
    | bl c => rw [show v = V.bl c from rv] at fin; exact (by rw [show v = V.bl c from rv]; exact fin "bool" (.base (.bl c)) (h2 c b hb))
    | int i => rw [show v = V.int i from rv] at fin; exact (by rw [show v = V.int i from rv]; exact fin "int" (.base (.int i)) (h3 i b hb))
    | str x => rw [show v = V.str x from rv] at fin; exact (by rw [show v = V.str x from rv]; exact fin "str" (.base (.str x)) (h4 x b hb))
    | _ => exact absurd (h5 _ b hb) Bool.false_ne_true
  · exact h1'.elim
end

/-! ### methods -/
section
variable {K : PySem.W.Frag} {mg : Str → Option Value}
def tyOk (T : String) (d : D) (μ : Mem) : Prop := match d with
  | .str _ => T = "str"
  | .int _ => T = "int"
  | d => T = "list" ∧ (seqL μ d).isSome = true
theorem tyOk_ok {F G0 G : Hp} {ι : List Addr} {μ : Mem} {H : Hp} {v : V} {d : D} {T : String} (rp : Rep K mg F G0 G ι μ H) (rv : RepV K G ι v d) (h : tyOk T d μ) : tyV K T v H := by
  unfold tyOk at h
  split at h
  · rename_i x
    rw [show v = V.str x from rv]; exact h
  · rename_i i
    rw [show v = V.int i from rv]; exact h
  · obtain ⟨rfl, h⟩ := h
    obtain ⟨ds, hs⟩ := Option.isSome_iff_exists.mp h
    obtain ⟨a, vs, rfl, s, _⟩ := seqL_ok rp rv hs
    exact .inl ⟨rfl, vs, s⟩
def MtMD (K : PySem.W.Frag) (mg : Str → Option Value) (r : V → List V → Hp → VK → Prop) (f : D → List D → Mem → Res D) : Prop :=
  ∀ (F G0 G : Hp) (ι : List Addr) (μ : Mem) (H : Hp) (v : V) (d : D) (vs : List V) (ds : List D) (Qx : Value → Option Addr → Hp → Prop) (Q : VK), Rep K mg F G0 G ι μ H → RepV K G ι v d → RepVs K G ι vs ds →
    Post K mg F G0 G ι (f d ds μ) Qx (fun d G' ι' _ H' => ∀ v, RepV K G' ι' v d → Q v H') → r v vs H Q
noncomputable def eBM (T : String) (f : D → List D → Mem → Res D) (α : EM) (β : AM) : EM := fun ρ μ => (α ρ μ).bind fun d μ1 => if tyOk T d μ1 then (β ρ μ1).bind fun ds μ2 => f d ds μ2 else .bad
end
section
variable {X : Cx} {W : WX}
theorem q_bm {o e : Expr} {es : List Expr} {name : Str} {apos cpos : Pos} {T id : String} {r : V → List V → Hp → VK → Prop} {f : D → List D → Mem → Res D} {α : EM} {β : AM} (pa : PlainAttrs T) (slot : Slot T name id) (hty : typeOf (.builtin id) = pure (.type "method_descriptor")) (hm : MtR X id r) (hf : MtMD X.K X.mg r f) (ho : PE X o (tE X W α)) (ha : PA X (e :: es) (tA X W β))
    (hbase : attributeBase o name X.env (eval o X.env) = eval o X.env := by rfl)
    (hfew : ((backTo cpos (starEach (e :: es) X.env)).all (fun x => !x.1) && (backToKw cpos (keywordEach [] X.env)).all (fun x => x.1.isSome)
      && decide ((e :: es).length + ([] : List Keyword).length + (if ([] : List Keyword).isEmpty then 0 else 1) < 30)) = true := by rfl)
    (hline : (apos.endLine == cpos.line) = true := by rfl) (hs : starEach (e :: es) X.env = (false, eval e X.env) :: starEach es X.env := by rfl) (hplain : (backTo cpos (starEach es X.env)).any (·.1) = false := by rfl) :
    PE X (.Call (.Attribute o name apos) (e :: es) [] cpos) (tE X W (eBM T f α β)) := pe_imp (pe_bm pa slot hty hm ho ha hbase hfew hline hs hplain) fun σ H Q h => by
  obtain ⟨F, G0, G, ι, μ, ρ, rp, e, h⟩ := h
  refine tE.go rp e h.bind fun d G1 ι1 μ1 H1 x1 r1 e1 h1 v rv => ?_
  by_cases ht : tyOk T d μ1
  · rw [if_pos ht] at h1
    refine ⟨tyOk_ok r1 rv ht, tA.go r1 e1 h1.bind fun ds G2 ι2 μ2 H2 x2 r2 e2 h2 vs rvs => ?_⟩
    exact hf F G0 G2 ι2 μ2 H2 v d vs ds _ Q r2 (rv.mono x2) rvs h2
  · rw [if_neg ht] at h1; exact h1.elim
theorem q_bm0 {o : Expr} {name : Str} {apos cpos : Pos} {T id : String} {r : V → List V → Hp → VK → Prop} {f : D → List D → Mem → Res D} {α : EM} (pa : PlainAttrs T) (slot : Slot T name id) (hty : typeOf (.builtin id) = pure (.type "method_descriptor")) (hm : MtR X id r) (hf : MtMD X.K X.mg r f) (ho : PE X o (tE X W α))
    (hbase : attributeBase o name X.env (eval o X.env) = eval o X.env := by rfl) (hline : (apos.endLine == cpos.line) = true := by rfl) : PE X (.Call (.Attribute o name apos) [] [] cpos) (tE X W (eBM T f α aNil)) := pe_imp (pe_bm0 pa slot hty hm ho hbase hline) fun σ H Q h => by
  obtain ⟨F, G0, G, ι, μ, ρ, rp, e, h⟩ := h
  refine tE.go rp e h.bind fun d G1 ι1 μ1 H1 x1 r1 e1 h1 v rv => ?_
  by_cases ht : tyOk T d μ1
  · rw [if_pos ht] at h1
    exact ⟨tyOk_ok r1 rv ht, hf F G0 G1 ι1 μ1 H1 v d [] [] _ Q r1 rv rfl h1⟩
  · rw [if_neg ht] at h1; exact h1.elim
end
section
variable {K : PySem.W.Frag} {mg : Str → Option Value}
/-- a list's cell is changed -/
def onLst (f : List D → List D → Option (D × List D)) (d : D) (xs : List D) (μ : Mem) : Res D := match d with
  | .hnd k => match μ[k]? with
    | some (some (.lst ds)) => match f ds xs with
      | some (e, es) => .ok e (μ.set k (some (.lst es)))
      | none => .bad
    | _ => .bad
  | _ => .bad
theorem onLst_ok {F G0 G : Hp} {ι : List Addr} {μ : Mem} {H : Hp} {v : V} {d : D} {vs : List V} {ds : List D} {Qx : Value → Option Addr → Hp → Prop} {Q : VK} {f : List D → List D → Option (D × List D)} (rp : Rep K mg F G0 G ι μ H) (rv : RepV K G ι v d) (rvs : RepVs K G ι vs ds)
    (h : Post K mg F G0 G ι (onLst f d ds μ) Qx (fun d G' ι' _ H' => ∀ v, RepV K G' ι' v d → Q v H')) :
    ∃ a xs xsD e es, v = .ref a ∧ H a = some (.lst xs) ∧ RepVs K G ι xs xsD ∧ f xsD ds = some (e, es) ∧ ∀ ys w, RepVs K G ι ys es → RepV K G ι w e → Q w (upd H a (.lst ys)) := by
  unfold onLst at h
  split at h
  · rename_i k
    split at h
    · rename_i xsD hk
      split at h
      · rename_i e es hf
        obtain ⟨a, rfl, ha⟩ := rv
        obtain ⟨_, _, o, ho, xs, rfl, r⟩ := rp.live k _ a hk ha
        exact ⟨a, xs, xsD, e, es, rfl, ho, r, hf, fun ys w r1 r2 => h _ _ _ (Ext.refl _ _) (rp.put hk ha ⟨ys, rfl, r1⟩) w r2⟩
      · exact h.elim
    · exact h.elim
  · exact h.elim
section
noncomputable local instance (priority := 100000) (p : Prop) : Decidable p := Classical.propDecidable p
noncomputable def fAppend (ds xs : List D) : Option (D × List D) := match xs with
  | [x] => if ds.length < sizeLine then some (.non, ds ++ [x]) else none
  | _ => none
end
noncomputable abbrev mAppend := onLst fAppend
theorem mm_append : MtMD K mg rAppend mAppend := by
  intro F G0 G ι μ H v d vs ds Qx Q rp rv rvs h
  obtain ⟨a, xs, xsD, e, es, rfl, ho, r, hf, q⟩ := onLst_ok rp rv rvs h
  unfold fAppend at hf
  split at hf
  · rename_i x
    split at hf
    · rename_i hl
      cases hf
      obtain ⟨y, rfl, ry⟩ := rv1 rvs
      exact ⟨a, xs, y, rfl, rfl, ho, by rw [r.length]; exact hl, q _ _ (r.append ⟨y, [], rfl, ry, rfl⟩) rfl⟩
    · cases hf
  · cases hf
def fClear (ds xs : List D) : Option (D × List D) := match xs with
  | [] => some (.non, [])
  | _ => none
abbrev mClear := onLst fClear
theorem mm_clear : MtMD K mg rClear mClear := by
  intro F G0 G ι μ H v d vs ds Qx Q rp rv rvs h
  obtain ⟨a, xs, xsD, e, es, rfl, ho, r, hf, q⟩ := onLst_ok rp rv rvs h
  unfold fClear at hf
  split at hf
  · cases hf
    exact ⟨a, xs, rfl, rvs, ho, q _ _ rfl rfl⟩
  · cases hf
def fReverse (ds xs : List D) : Option (D × List D) := match xs with
  | [] => some (.non, ds.reverse)
  | _ => none
abbrev mReverse := onLst fReverse
theorem mm_reverse : MtMD K mg rReverse mReverse := by
  intro F G0 G ι μ H v d vs ds Qx Q rp rv rvs h
  obtain ⟨a, xs, xsD, e, es, rfl, ho, r, hf, q⟩ := onLst_ok rp rv rvs h
  unfold fReverse at hf
  split at hf
  · cases hf
    exact ⟨a, xs, rfl, rvs, ho, q _ _ r.reverse rfl⟩
  · cases hf
section
noncomputable local instance (priority := 100000) (p : Prop) : Decidable p := Classical.propDecidable p
noncomputable def mExtend (d : D) (xs : List D) (μ : Mem) : Res D := match xs with
  | [x] => match seqM μ x with
    | some ys => onLst (fun ds _ => if ds.length + ys.length ≤ sizeLine then some (.non, ds ++ ys) else none) d xs μ
    | none => .bad
  | _ => .bad
end
theorem mm_extend : MtMD K mg rExtend mExtend := by
  intro F G0 G ι μ H v d vs ds Qx Q rp rv rvs h
  unfold mExtend at h
  split at h
  · rename_i x
    split at h
    · rename_i ys hs
      obtain ⟨y, rfl, ry⟩ := rv1 rvs
      obtain ⟨b, zs, rfl, hb, rz⟩ := seqM_ok rp ry hs
      obtain ⟨a, xs, xsD, e, es, rfl, ho, r, hf, q⟩ := onLst_ok rp rv rvs h
      split at hf
      · rename_i hl
        cases hf
        exact ⟨a, b, xs, zs, rfl, rfl, ho, hb, by rw [r.length, rz.length]; exact hl, q _ _ (r.append rz) rfl⟩
      · cases hf
    · exact h.elim
  · exact h.elim
theorem RepVs.dropLast {G : Hp} {ι : List Addr} {vs : List V} {ds : List D} (r : RepVs K G ι vs ds) : RepVs K G ι vs.dropLast ds.dropLast := by
  rw [List.dropLast_eq_take, List.dropLast_eq_take, r.length]
  exact r.take _
theorem RepVs.eraseIdx {G : Hp} {ι : List Addr} {vs : List V} {ds : List D} (r : RepVs K G ι vs ds) (i : Nat) : RepVs K G ι (vs.eraseIdx i) (ds.eraseIdx i) := by
  rw [List.eraseIdx_eq_take_drop_succ, List.eraseIdx_eq_take_drop_succ]
  exact (r.take _).append (r.drop _)
def fPop (ds xs : List D) : Option (D × List D) := match xs with
  | [] => match ds[ds.length - 1]? with
    | some e => some (e, ds.dropLast)
    | none => none
  | _ => none
abbrev mPop := onLst fPop
theorem mm_pop : MtMD K mg rPop mPop := by
  intro F G0 G ι μ H v d vs ds Qx Q rp rv rvs h
  obtain ⟨a, xs, xsD, e, es, rfl, ho, r, hf, q⟩ := onLst_ok rp rv rvs h
  unfold fPop at hf
  split at hf
  · split at hf
    · rename_i e' he
      cases hf
      obtain ⟨w, hw, rw'⟩ := r.get he
      exact ⟨a, xs, w, rfl, rvs, ho, by rw [r.length]; exact hw, q _ _ r.dropLast rw'⟩
    · cases hf
  · cases hf
section
noncomputable local instance (priority := 100000) (p : Prop) : Decidable p := Classical.propDecidable p
noncomputable def fPopAt (ds xs : List D) : Option (D × List D) := match xs with
  | [.int i] => if -(2 ^ 63) ≤ i ∧ i < 2 ^ 63 then match seqIndex? i ds.length with
      | some k => match ds[k]? with
        | some e => some (e, ds.eraseIdx k)
        | none => none
      | none => none
    else none
  | _ => none
end
noncomputable abbrev mPopAt := onLst fPopAt
theorem mm_popAt : MtMD K mg rPopAt mPopAt := by
  intro F G0 G ι μ H v d vs ds Qx Q rp rv rvs h
  obtain ⟨a, xs, xsD, e, es, rfl, ho, r, hf, q⟩ := onLst_ok rp rv rvs h
  unfold fPopAt at hf
  split at hf
  · rename_i i
    split at hf
    · rename_i hi
      split at hf
      · rename_i k hk
        split at hf
        · rename_i e' he
          cases hf
          obtain ⟨y, rfl, ry⟩ := rv1 rvs
          obtain ⟨w, hw, rw'⟩ := r.get he
          exact ⟨a, xs, i, k, w, rfl, by rw [show y = V.int i from ry], ho, hi.1, hi.2, by rw [r.length]; exact hk, hw, q _ _ (r.eraseIdx k) rw'⟩
        · cases hf
      · cases hf
    · cases hf
  · cases hf
section
noncomputable local instance (priority := 100000) (p : Prop) : Decidable p := Classical.propDecidable p
noncomputable def fInsert (ds xs : List D) : Option (D × List D) := match xs with
  | [.int i, x] => if ds.length < sizeLine ∧ 0 ≤ i ∧ i < 2 ^ 63 then some (.non, ds.take i.toNat ++ [x] ++ ds.drop i.toNat) else none
  | _ => none
end
noncomputable abbrev mInsert := onLst fInsert
theorem mm_insert : MtMD K mg (fun x vs H Q => ∃ (l : Addr) (xs : List V) (i : Int) (y : V), x = .ref l ∧ vs = [.int i, y] ∧ H l = some (.lst xs) ∧ xs.length < sizeLine ∧ 0 ≤ i ∧ i < 2 ^ 63 ∧
    Q .non (upd H l (.lst (xs.take i.toNat ++ [y] ++ xs.drop i.toNat)))) mInsert := by
  intro F G0 G ι μ H v d vs ds Qx Q rp rv rvs h
  obtain ⟨a, xs, xsD, e, es, rfl, ho, r, hf, q⟩ := onLst_ok rp rv rvs h
  unfold fInsert at hf
  split at hf
  · rename_i i x
    split at hf
    · rename_i hi
      cases hf
      obtain ⟨y, z, rfl, ry, rz⟩ := rv2 rvs
      exact ⟨a, xs, i, z, rfl, by rw [show y = V.int i from ry], ho, by rw [r.length]; exact hi.1, hi.2.1, hi.2.2, q _ _ (((r.take _).append (rs1 rz)).append (r.drop _)) rfl⟩
    · cases hf
  · cases hf
/-- xs.remove(k), of whole numbers -/
def fRemI (ds xs : List D) : Option (D × List D) := match xs with
  | [.int k] => match asInts ds with
    | some ns => if k ∈ ns then some (.non, (ns.eraseIdx (ns.idxOf k)).map .int) else none
    | none => none
  | _ => none
abbrev mRemI := onLst fRemI
theorem mm_remI : MtMD K mg rRemI mRemI := by
  intro F G0 G ι μ H v d vs ds Qx Q rp rv rvs h
  obtain ⟨a, xs, xsD, e, es, rfl, ho, r, hf, q⟩ := onLst_ok rp rv rvs h
  unfold fRemI at hf
  split at hf
  · rename_i k
    split at hf
    · rename_i ns hn
      split at hf
      · rename_i hk
        cases hf
        have ed := asInts_eq hn
        subst ed
        have ex := RepVs.toInts r
        subst ex
        obtain ⟨y, rfl, ry⟩ := rv1 rvs
        refine ⟨a, ns, k, ns.idxOf k, rfl, by rw [show y = V.int k from ry], ho, ?_, fun m hm hmk => ?_, q _ _ (RepVs.ints _) rfl⟩
        · rw [List.getElem?_eq_getElem (List.idxOf_lt_length_of_mem hk), List.getElem_idxOf]
        · have hml : m < ns.length := Nat.lt_trans hm (List.idxOf_lt_length_of_mem hk)
          rw [List.getElem?_eq_getElem hml] at hmk
          have := List.not_of_lt_findIdx (p := (· == k)) (xs := ns) (i := m) hm
          simp [Option.some.inj hmk] at this
      · cases hf
    · cases hf
  · cases hf
/-- xs.count(k), of whole numbers -/
def mCountI (d : D) (xs : List D) (μ : Mem) : Res D := match xs with
  | [.int k] => match intsOf μ d with
    | some ns => .ok (.int (ns.count k : Nat)) μ
    | none => .bad
  | _ => .bad
theorem mm_countI : MtMD K mg (rCntI K) mCountI := by
  intro F G0 G ι μ H v d vs ds Qx Q rp rv rvs h
  unfold mCountI at h
  split at h
  · rename_i k
    split at h
    · rename_i ns hn
      obtain ⟨a, rfl, s⟩ := intsOf_ok rp rv hn
      obtain ⟨y, rfl, ry⟩ := rv1 rvs
      exact ⟨a, ns, k, rfl, by rw [show y = V.int k from ry], s, h.now rp _ rfl⟩
    · exact h.elim
  · exact h.elim
end
end
end Md

/-! What the printed walks name. -/
namespace Md
open PySem PySem.Spec PyProof.Rows L2
theorem hu65 {A : Around} {k : Nat} (hr : Room k A) : A.units + 65 < cLine := by have := hr.un; omega
theorem bt_len : bootBuiltins "len" = some (.builtin "len") := by decide +kernel
theorem bt_int : bootBuiltins "int" = some (.type "int") := by decide +kernel
theorem bt_bool : bootBuiltins "bool" = some (.type "bool") := by decide +kernel
theorem bt_abs : bootBuiltins "abs" = some (.builtin "abs") := by decide +kernel
theorem bt_max : bootBuiltins "max" = some (.builtin "max") := by decide +kernel
theorem bt_min : bootBuiltins "min" = some (.builtin "min") := by decide +kernel
theorem bt_sum : bootBuiltins "sum" = some (.builtin "sum") := by decide +kernel
theorem bt_any : bootBuiltins "any" = some (.builtin "any") := by decide +kernel
theorem bt_all : bootBuiltins "all" = some (.builtin "all") := by decide +kernel
theorem bt_sorted : bootBuiltins "sorted" = some (.builtin "sorted") := by decide +kernel
theorem bt_list : bootBuiltins "list" = some (.type "list") := by decide +kernel
section
variable {X : Cx} {W : WX}
theorem q_is_int {e : Expr} {p q pos : Pos} {α : EM} (hm : X.mg "isinstance" = none) (hmn : X.mg "int" = none) (he : PE X e (tE X W α)) (hg : Gl X "isinstance" := by rfl) (hgn : Gl X "int" := by rfl)
    (hs : starEach [e, .Name "int" q] X.env = (false, eval e X.env) :: starEach [.Name "int" q] X.env := by rfl) (hs2 : starEach [.Name "int" q] X.env = (false, eval (.Name "int" q) X.env) :: starEach [] X.env := by rfl) (hpl : (backTo pos (starEach [.Name "int" q] X.env)).any (·.1) = false := by rfl) :
    PE X (.Call (.Name "isinstance" p) [e, .Name "int" q] [] pos) (tE X W (eIsT isIntD α)) :=
  q_isT hg hm hgn hmn bt_int he (fun b h => by cases h; decide +kernel) (fun c b h => by cases h; decide +kernel) (fun i b h => by cases h; decide +kernel) (fun x b h => by cases h; decide +kernel)
    (fun d b h => by cases d <;> first | rfl | cases h) (by decide) (by decide) hs hs2 hpl
theorem q_is_bool {e : Expr} {p q pos : Pos} {α : EM} (hm : X.mg "isinstance" = none) (hmn : X.mg "bool" = none) (he : PE X e (tE X W α)) (hg : Gl X "isinstance" := by rfl) (hgn : Gl X "bool" := by rfl)
    (hs : starEach [e, .Name "bool" q] X.env = (false, eval e X.env) :: starEach [.Name "bool" q] X.env := by rfl) (hs2 : starEach [.Name "bool" q] X.env = (false, eval (.Name "bool" q) X.env) :: starEach [] X.env := by rfl) (hpl : (backTo pos (starEach [.Name "bool" q] X.env)).any (·.1) = false := by rfl) :
    PE X (.Call (.Name "isinstance" p) [e, .Name "bool" q] [] pos) (tE X W (eIsT isBoolD α)) :=
  q_isT hg hm hgn hmn bt_bool he (fun b h => by cases h; decide +kernel) (fun c b h => by cases h; decide +kernel) (fun i b h => by cases h; decide +kernel) (fun x b h => by cases h; decide +kernel)
    (fun d b h => by cases d <;> first | rfl | cases h) (by decide) (by decide) hs hs2 hpl

/-! ### list(range(..)) -/
instance (a b : Int) : Decidable (RgOk a b) := by unfold RgOk; infer_instance
section
noncomputable local instance (priority := 100000) (p : Prop) : Decidable p := Classical.propDecidable p
noncomputable def mListRange (mk : List D → Mem → Res D) (ds : List D) (μ : Mem) : Res D := match ds with
  | [.int n] => if RgOk 0 n then mk (rngD 0 n.toNat) μ else .bad
  | [.int i, .int j] => if RgOk i j then mk (rngD i (j - i).toNat) μ else .bad
  | _ => .bad
end
noncomputable def eListRange (mk : List D → Mem → Res D) (α : AM) : EM := fun ρ μ => (α ρ μ).bind (mListRange mk)
theorem rep_rg {K : PySem.W.Frag} {G : Hp} {ι : List Addr} (a b : Int) : RepVs K G ι (rgV a b) (rngD a (b - a).toNat) := by
  have e1 : rgV a b = ((List.range (b - a).toNat).map fun i => a + (i : Nat)).map V.int := by unfold rgV; rw [List.map_map]; rfl
  have e2 : rngD a (b - a).toNat = ((List.range (b - a).toNat).map fun i => a + (i : Nat)).map D.int := by unfold rngD; rw [List.map_map]; rfl
  rw [e1, e2]
  exact RepVs.ints _
theorem q_listRange1 {e : Expr} {p p2 pos pos2 : Pos} {α : EM} {mk : List D → Mem → Res D} (hk : MkL mk) (hm : X.mg "list" = none) (hm2 : X.mg "range" = none) (he : PE X e (tE X W α)) (hc : X.calm = true := by rfl) (hg : Gl X "list" := by rfl) (hg2 : Gl X "range" := by rfl)
    (na : starEach [e] X.env = (false, eval e X.env) :: starEach [] X.env := by rfl) (nb : starEach [.Call (.Name "range" p2) [e] [] pos2] X.env = (false, eval (.Call (.Name "range" p2) [e] [] pos2) X.env) :: starEach [] X.env := by rfl) :
    PE X (.Call (.Name "list" p) [.Call (.Name "range" p2) [e] [] pos2] [] pos) (tE X W (eListRange mk (aCons α aNil))) := pe_imp (pe_listRg hc hg hm (prg_1 hg2 hm2 he na) nb) fun σ H Q h => by
  obtain ⟨F, G0, G, ι, μ, ρ, rp, e, h⟩ := h
  have hq : eListRange mk (aCons α aNil) ρ μ = (α ρ μ).bind fun x μ1 => mListRange mk [x] μ1 := by
    unfold eListRange aCons aNil
    cases α ρ μ <;> rfl
  rw [hq] at h
  refine tE.go rp e h.bind fun d G1 ι1 μ1 H1 x1 r1 e1 h1 v rv => ?_
  unfold mListRange at h1
  split at h1
  · rename_i n hd
    cases hd
    split at h1
    · rename_i hok
      have e0 : (n - 0).toNat = n.toNat := by rw [Int.sub_zero]
      exact ⟨n, rv, hok, (hk r1 (vs := rgV 0 n) (ds := rngD 0 n.toNat) (by rw [← e0]; exact rep_rg 0 n) h1).2⟩
    · exact h1.elim
  · rename_i hd; cases hd
  · exact h1.elim
theorem q_listRange2 {a b : Expr} {p p2 pos pos2 : Pos} {α β : EM} {mk : List D → Mem → Res D} (hk : MkL mk) (hm : X.mg "list" = none) (hm2 : X.mg "range" = none) (ha : PE X a (tE X W α)) (hb : PE X b (tE X W β)) (hc : X.calm = true := by rfl) (hg : Gl X "list" := by rfl) (hg2 : Gl X "range" := by rfl)
    (na : starEach [a, b] X.env = (false, eval a X.env) :: starEach [b] X.env := by rfl) (nb : starEach [b] X.env = (false, eval b X.env) :: starEach [] X.env := by rfl) (hp : (backTo pos2 (starEach [b] X.env)).any (·.1) = false := by rfl)
    (nc : starEach [.Call (.Name "range" p2) [a, b] [] pos2] X.env = (false, eval (.Call (.Name "range" p2) [a, b] [] pos2) X.env) :: starEach [] X.env := by rfl) :
    PE X (.Call (.Name "list" p) [.Call (.Name "range" p2) [a, b] [] pos2] [] pos) (tE X W (eListRange mk (aCons α (aCons β aNil)))) := pe_imp (pe_listRg hc hg hm (prg_2 hg2 hm2 ha hb na nb hp) nc) fun σ H Q h => by
  obtain ⟨F, G0, G, ι, μ, ρ, rp, e, h⟩ := h
  have hq : eListRange mk (aCons α (aCons β aNil)) ρ μ = (α ρ μ).bind fun x μ1 => (β ρ μ1).bind fun y μ2 => mListRange mk [x, y] μ2 := by
    unfold eListRange aCons aNil
    cases α ρ μ with
    | ok x μ1 =>
      simp only [Res.bind]
      cases β ρ μ1 <;> rfl
    | exc x μ1 => rfl
    | bad => rfl
  rw [hq] at h
  refine tE.go rp e h.bind fun d G1 ι1 μ1 H1 x1 r1 e1 h1 v rv => ?_
  refine tE.go r1 e1 h1.bind fun d2 G2 ι2 μ2 H2 x2 r2 e2 h2 w rw' => ?_
  unfold mListRange at h2
  split at h2
  · rename_i hd; cases hd
  · rename_i i j hd
    cases hd
    split at h2
    · rename_i hok
      exact ⟨i, j, rv, rw', hok, (hk r2 (rep_rg i j) h2).2⟩
    · exact h2.elim
  · exact h2.elim

/-! ### xs[i] op= e -/
def getIxH (o i : D) (μ : Mem) : Res D := match o, i with
  | .hnd k, .int j => match μ[k]? with
    | some (some (.lst ds)) => match atI ds j with
      | some d => .ok d μ
      | none => .bad
    | _ => .bad
  | _, _ => .bad
def sAugS (α β γ : EM) (op : D → D → Mem → Res D) : SM := fun ρ μ => (α ρ μ).bind fun o μ1 => (β ρ μ1).bind fun i μ2 => (getIxH o i μ2).bind fun x μ3 => (γ ρ μ3).bind fun y μ4 => (op x y μ4).bind fun z μ5 => (mSetIx o i z μ5).bind fun _ μ6 => .ok (.nx ρ) μ6
theorem getIxH_ok {K : PySem.W.Frag} {mg : Str → Option Value} {F G0 G : Hp} {ι : List Addr} {μ : Mem} {H : Hp} {o i : V} {do_ di : D} {α : Type} {f : D → Mem → Res α} {Qx : Value → Option Addr → Hp → Prop} {Q : α → Hp → List Addr → Mem → Hp → Prop} (rp : Rep K mg F G0 G ι μ H) (ro : RepV K G ι o do_) (ri : RepV K G ι i di)
    (h : Post K mg F G0 G ι ((getIxH do_ di μ).bind f) Qx Q) : ∃ a xs k d v, o = .ref a ∧ i = .int k ∧ SqL K H a xs ∧ atI xs k = some v ∧ RepV K G ι v d ∧ Post K mg F G0 G ι (f d μ) Qx Q := by
  unfold getIxH at h
  split at h
  · rename_i k j
    split at h
    · rename_i ds hk
      split at h
      · rename_i d hd
        obtain ⟨a, rfl, ha⟩ := ro
        obtain ⟨_, _, _, ho, vs, rfl, r⟩ := rp.live k _ a hk ha
        obtain ⟨v, hv, rv⟩ := atI_rep r hd
        exact ⟨a, vs, j, d, v, rfl, ri, .inl (.inl ho), hv, rv, h⟩
      · exact h.elim
    · exact h.elim
  · exact h.elim
theorem s_augS {o i e : Expr} {op : Operator} {tip : TIp} {om : D → D → Mem → Res D} {α β γ : EM} {pos tpos : Pos} (ho : PE X o (tE X W α)) (hi : PE X i (tE X W β)) (he : PE X e (tE X W γ)) (hp : PIp X op tip) (hm : IpM X.K X.mg tip om)
    (ha : ∀ ov iv new, augStore i ov iv new = (do holding [new, ov, iv] (setItem ov iv new); release [new, ov, iv] []; pure .next) := by intros; rfl) : PS X (.AugAssign (.Subscript o i tpos) op e pos) (tS X W (sAugS α β γ om)) :=
  ps_imp (ps_augS ho hi ip_get he hp set_list ha) fun N σ H h => by
  obtain ⟨F, G0, G, ι, μ, ρ, rp, e, h⟩ := h
  refine tE.go rp e (eX h.bind) fun d1 G1 ι1 μ1 H1 x1 r1 e1 h1 v1 rv1 => ?_
  refine tE.go r1 e1 (eX h1.bind) fun d2 G2 ι2 μ2 H2 x2 r2 e2 h2 v2 rv2 => ?_
  obtain ⟨a, xs, k, d, w, rfl, rfl, sq, hw, rw', h3⟩ := getIxH_ok r2 (rv1.mono x2) rv2 h2
  refine ⟨a, xs, k, w, rfl, rfl, sq, hw, ?_⟩
  refine tE.go r2 e2 (eX h3.bind) fun d4 G4 ι4 μ4 H4 x4 r4 e4 h4 v4 rv4 => ?_
  refine hm F G0 G4 ι4 μ4 H4 w v4 d d4 (fun _ _ _ => True) _ r4 (rw'.mono x4) rv4 ((h4.bind.impX fun _ _ _ _ => trivial).imp fun d5 G5 ι5 μ5 H5 x5 r5 h5 v5 rv5 => ?_)
  exact setIx_ok (Qx := fun cls d H' => ∀ σ', W cls d σ' H') r5 ((rv1.mono x2).mono (x4.trans x5)) (rv2.mono (x4.trans x5)) rv5 (h5.bind.imp fun _ G6 ι6 μ6 H6 x6 r6 h6 => h6.now r6 σ ((e4.mono x5).mono x6))
end
end Md

/-! Reckoning with runs: what a run tells, loops by invariants, comprehensions of plain parts, data of plain types. -/
namespace Md
open PySem PySem.Spec PyProof.Rows L2
open Classical in
section

/-- the run ends well, with Q -/
def Ok {α : Type} (r : Res α) (Q : α → Mem → Prop) : Prop := match r with
  | .ok a μ => Q a μ
  | _ => False
section
variable {α β : Type}
theorem Ok.of {a : α} {μ : Mem} {Q : α → Mem → Prop} (h : Q a μ) : Ok (.ok a μ) Q := h
theorem Ok.eq {r : Res α} {Q : α → Mem → Prop} (h : Ok r Q) : ∃ a μ, r = .ok a μ ∧ Q a μ := by
  cases r with
  | ok a μ => exact ⟨a, μ, rfl, h⟩
  | exc x μ => exact h.elim
  | bad => exact h.elim
theorem Ok.bind {r : Res α} {f : α → Mem → Res β} {Q : β → Mem → Prop} (h : Ok r fun a μ => Ok (f a μ) Q) : Ok (r.bind f) Q := by
  cases r with
  | ok a μ => exact h
  | exc x μ => exact h.elim
  | bad => exact h.elim
theorem Ok.imp {r : Res α} {Q Q' : α → Mem → Prop} (h : Ok r Q) (i : ∀ a μ, Q a μ → Q' a μ) : Ok r Q' := by
  cases r with
  | ok a μ => exact i a μ h
  | exc x μ => exact h.elim
  | bad => exact h.elim
theorem Ok.step {r : Res α} {f : α → Mem → Res β} {Q' : α → Mem → Prop} {Q : β → Mem → Prop} (h : Ok r Q') (i : ∀ a μ, Q' a μ → Ok (f a μ) Q) : Ok (r.bind f) Q := (h.imp i).bind
theorem Ok.noX {r : Res α} {Q : α → Mem → Prop} (h : Ok r Q) : Ok r.noX Q := by
  cases r with
  | ok a μ => exact h
  | exc x μ => exact h.elim
  | bad => exact h.elim
end

theorem bnd_assoc {α β γ : Type} {r : Res α} {f : α → Mem → Res β} {g : β → Mem → Res γ} : (r.bind f).bind g = r.bind fun a μ => (f a μ).bind g := by cases r <;> rfl
theorem ok_ok {α : Type} {a : α} {μ : Mem} {Q : α → Mem → Prop} : Ok (.ok a μ) Q = Q a μ := rfl
theorem bind_ite {α β : Type} {c : Prop} [Decidable c] {a b : Res α} {f : α → Mem → Res β} : (if c then a else b).bind f = if c then a.bind f else b.bind f := by split <;> rfl
theorem ok_ite {α : Type} {c : Prop} [Decidable c] {a b : Res α} {Q : α → Mem → Prop} : Ok (if c then a else b) Q = if c then Ok a Q else Ok b Q := by split <;> rfl
theorem runP_of {n : Nat} {β : SM} {ds : List D} {e : D} (h : Ok (runM n β ds []) fun d _ => d = e) (hf : hfree e = true) : runP n β ds = .ok e := by
  obtain ⟨d, μ, h1, h2⟩ := h.eq
  subst h2
  unfold runP
  rw [h1]
  simp only [freeze, hf, if_true]
theorem runP_fz {n : Nat} {β : SM} {ds : List D} {e : D} (h : Ok (runM n β ds []) fun d μ => ∃ μ', freeze 6 d μ = .ok e μ') (hf : hfree e = true) : runP n β ds = .ok e := by
  obtain ⟨d, μ, h1, μ', h2⟩ := h.eq
  unfold runP
  rw [h1]
  simp only [h2, hf, if_true]
theorem freeze_cell {n k : Nat} {μ : Mem} {ds : List D} (h : μ[k]? = some (some (.lst ds))) (hf : hfrees ds = true) : ∃ μ', freeze (n + 2) (.hnd k) μ = .ok (.lst ds) μ' := by
  have all : ∀ (ds : List D) (μ : Mem), hfrees ds = true → mapMR (freeze (n + 1)) ds μ = .ok ds μ := fun ds => by
    induction ds with
    | nil => intro μ _; rfl
    | cons d ds ih =>
      intro μ h
      rw [hfrees, Bool.and_eq_true] at h
      unfold mapMR
      have e : freeze (n + 1) d μ = .ok d μ := by unfold freeze; rw [if_pos h.1]
      rw [e]
      simp only [Res.bind]
      rw [ih μ h.2]
  refine ⟨μ.set k none, ?_⟩
  have e : hfree (.hnd k) = false := rfl
  unfold freeze
  simp only [e, Bool.false_eq_true, if_false, h]
  rw [all ds _ hf]
  rfl

/-! ### loops -/
/-- Inv by the turn's number; a turn goes on, or leaves the loop as Br, or the def as Rt -/
theorem ok_forL {chk : Mem → Prop} {g : GM} {body : SM} {xs : List D} {ρ : DEnv} {μ : Mem} {Q : Fl → Mem → Prop} (Inv : Nat → DEnv → Mem → Prop) (h0 : Inv 0 ρ μ) (hck : ∀ i ρ μ, i ≤ xs.length → Inv i ρ μ → chk μ)
    (hs : ∀ i x ρ μ, xs[i]? = some x → Inv i ρ μ → Ok (g x ρ μ) fun ρ1 μ1 => Ok (body ρ1 μ1) fun f μ2 => match f with
      | .nx ρ2 => Inv (i + 1) ρ2 μ2
      | .ct ρ2 => Inv (i + 1) ρ2 μ2
      | .bk ρ2 => Q (.nx ρ2) μ2
      | .rt d => Q (.rt d) μ2)
    (hd : ∀ ρ μ, Inv xs.length ρ μ → Q (.nx ρ) μ) : Ok (forL chk g body xs ρ μ) Q := by
  have go : ∀ (ys : List D) (i : Nat) (ρ : DEnv) (μ : Mem), xs.drop i = ys → i ≤ xs.length → Inv i ρ μ → Ok (forL chk g body ys ρ μ) Q := by
    intro ys
    induction ys with
    | nil =>
      intro i ρ μ e hi hI
      have ei : i = xs.length := by
        have := congrArg List.length e
        rw [List.length_drop] at this
        simp at this
        omega
      subst ei
      unfold forL
      rw [if_pos (hck _ ρ μ (Nat.le_refl _) hI)]
      exact hd ρ μ hI
    | cons y ys ih =>
      intro i ρ μ e hi hI
      have hlt : i < xs.length := by
        have := congrArg List.length e
        rw [List.length_drop] at this
        simp at this
        omega
      have hx : xs[i]? = some y := by
        have := congrArg (fun l => l[0]?) e
        simpa using this
      have et : xs.drop (i + 1) = ys := by
        have := congrArg List.tail e
        simpa using this
      unfold forL
      rw [if_pos (hck i ρ μ hi hI)]
      refine (hs i y ρ μ hx hI).step fun ρ1 μ1 h1 => h1.step fun f μ2 h2 => ?_
      cases f with
      | nx ρ2 => exact ih (i + 1) ρ2 μ2 et hlt h2
      | ct ρ2 => exact ih (i + 1) ρ2 μ2 et hlt h2
      | bk ρ2 => exact h2
      | rt d => exact h2
  exact go xs 0 ρ μ rfl (Nat.zero_le _) h0
theorem ok_sFor {ε : IM} {g : GM} {body : SM} {ρ : DEnv} {μ : Mem} {Q : Fl → Mem → Prop} (h : Ok (ε ρ μ) fun it μ1 => Ok (forL it.chk g body it.items ρ μ1) Q) : Ok (sFor ε g body ρ μ) Q := h.bind
/-- while: Inv with a number that falls -/
theorem ok_sWhile {t : TM} {body : SM} {ρ : DEnv} {μ : Mem} {Q : Fl → Mem → Prop} (Inv : Nat → DEnv → Mem → Prop) (h0 : ∃ n, Inv n ρ μ)
    (hs : ∀ n ρ μ, Inv n ρ μ → Ok (t ρ μ) fun c μ1 => if c = true then Ok (body ρ μ1) fun f μ2 => match f with
      | .nx ρ2 => ∃ m, m < n ∧ Inv m ρ2 μ2
      | .ct ρ2 => ∃ m, m < n ∧ Inv m ρ2 μ2
      | .bk ρ2 => Q (.nx ρ2) μ2
      | .rt d => Q (.rt d) μ2 else Q (.nx ρ) μ1) : Ok (sWhile t body ρ μ) Q := by
  obtain ⟨n, h0⟩ := h0
  have go : ∀ (n : Nat) (ρ : DEnv) (μ : Mem), Inv n ρ μ → Ok (sWhile t body ρ μ) Q := by
    intro n
    induction n using Nat.strongRecOn with
    | ind n ih =>
      intro ρ μ hI
      rw [sWhile_eq]
      refine (hs n ρ μ hI).step fun c μ1 h1 => ?_
      cases c with
      | false =>
        rw [if_neg Bool.false_ne_true] at h1 ⊢
        exact h1
      | true =>
        simp only [if_true] at h1 ⊢
        refine h1.step fun f μ2 h2 => ?_
        cases f with
        | nx ρ2 => obtain ⟨m, hm, h3⟩ := h2; exact ih m hm ρ2 μ2 h3
        | ct ρ2 => obtain ⟨m, hm, h3⟩ := h2; exact ih m hm ρ2 μ2 h3
        | bk ρ2 => exact h2
        | rt d => exact h2
  exact go n ρ μ h0

/-! ### comprehensions -/
theorem lcL_pure {α : Type} {chk : Mem → Prop} {g : GM} {tt : TM} {elt : EM} {ρ : DEnv} {μ : Mem} (enc : α → D) (c : α → Bool) (e : α → D) (hck : chk μ) : ∀ (ys : List α),
    (∀ y ∈ ys, ∃ ρ1, g (enc y) ρ μ = .ok ρ1 μ ∧ tt ρ1 μ = .ok (c y) μ ∧ (c y = true → elt ρ1 μ = .ok (e y) μ)) → lcL chk g tt elt ρ (ys.map enc) μ = .ok ((ys.filter c).map e) μ
  | [], _ => by
    rw [List.map_nil, lcL, if_pos hck]
    rfl
  | y :: ys, h => by
    have ih := lcL_pure enc c e hck ys fun z hz => h z (List.mem_cons_of_mem _ hz)
    obtain ⟨ρ1, h1, h2, h3⟩ := h y List.mem_cons_self
    rw [List.map_cons, lcL, if_pos hck, h1]
    simp only [Res.bind]
    rw [h2]
    simp only
    cases hc : c y with
    | false =>
      rw [if_neg Bool.false_ne_true, ih, List.filter_cons_of_neg (by simp [hc])]
    | true =>
      rw [if_pos rfl, h3 hc]
      simp only
      rw [ih, List.filter_cons_of_pos hc, List.map_cons]
/-- .. whose parts change cells: Inv by the number of items gone through and the list so far -/
theorem ok_lcL {chk : Mem → Prop} {g : GM} {tt : TM} {elt : EM} {ρ : DEnv} {xs : List D} {μ : Mem} {Q : List D → Mem → Prop} (Inv : Nat → List D → Mem → Prop) (h0 : Inv 0 [] μ) (hck : ∀ i ds μ, i ≤ xs.length → Inv i ds μ → chk μ)
    (hs : ∀ i x ds μ, xs[i]? = some x → Inv i ds μ → Ok (g x ρ μ) fun ρ1 μ1 => Ok (tt ρ1 μ1) fun c μ2 => if c = true then Ok (elt ρ1 μ2) fun d μ3 => Inv (i + 1) (ds ++ [d]) μ3 else Inv (i + 1) ds μ2)
    (hd : ∀ ds μ, Inv xs.length ds μ → Q ds μ) : Ok (lcL chk g tt elt ρ xs μ) Q := by
  have go : ∀ (ys : List D) (i : Nat) (acc : List D) (μ : Mem), xs.drop i = ys → i ≤ xs.length → Inv i acc μ → Ok (lcL chk g tt elt ρ ys μ) fun ds μ' => Q (acc ++ ds) μ' := by
    intro ys
    induction ys with
    | nil =>
      intro i acc μ e hi hI
      have ei : i = xs.length := by
        have := congrArg List.length e
        rw [List.length_drop] at this
        simp at this
        omega
      subst ei
      unfold lcL
      rw [if_pos (hck _ acc μ (Nat.le_refl _) hI)]
      show Q (acc ++ []) μ
      rw [List.append_nil]
      exact hd acc μ hI
    | cons y ys ih =>
      intro i acc μ e hi hI
      have hlt : i < xs.length := by
        have := congrArg List.length e
        rw [List.length_drop] at this
        simp at this
        omega
      have hx : xs[i]? = some y := by
        have := congrArg (fun l => l[0]?) e
        simpa using this
      have et : xs.drop (i + 1) = ys := by
        have := congrArg List.tail e
        simpa using this
      unfold lcL
      rw [if_pos (hck i acc μ hi hI)]
      refine (hs i y acc μ hx hI).step fun ρ1 μ1 h1 => h1.step fun c μ2 h2 => ?_
      cases c with
      | false =>
        rw [if_neg Bool.false_ne_true] at h2 ⊢
        exact ih (i + 1) acc μ2 et hlt h2
      | true =>
        rw [if_pos rfl] at h2 ⊢
        refine h2.step fun d μ3 h3 => (ih (i + 1) (acc ++ [d]) μ3 et hlt h3).step fun ds μ4 h4 => ?_
        show Q (acc ++ (d :: ds)) μ4
        rw [List.append_assoc] at h4
        exact h4
  exact (go xs 0 [] μ rfl (Nat.zero_le _) h0).imp fun ds μ' h => h
theorem eLc_ok {mk : List D → Mem → Res D} {ε : IM} {g : GM} {tt : TM} {elt : EM} {own : List Nat} {ρ : DEnv} {μ μ1 μ2 : Mem} {it : Wk} {ds : List D} (h1 : ε ρ μ = .ok it μ1) (hl : it.items.length ≤ 16777000) (h2 : lcL it.chk g tt elt (wipeD ρ own) it.items μ1 = .ok ds μ2) :
    eLc mk ε g tt elt own ρ μ = mk ds μ2 := by
  unfold eLc
  rw [h1]
  simp only [Res.bind, if_pos hl, h2, Res.noX]
theorem ok_eLc {mk : List D → Mem → Res D} {ε : IM} {g : GM} {tt : TM} {elt : EM} {own : List Nat} {ρ : DEnv} {μ : Mem} {Q : D → Mem → Prop} (h : Ok (ε ρ μ) fun it μ1 => it.items.length ≤ 16777000 ∧ Ok (lcL it.chk g tt elt (wipeD ρ own) it.items μ1) fun ds μ2 => Ok (mk ds μ2) Q) :
    Ok (eLc mk ε g tt elt own ρ μ) Q := by
  unfold eLc
  refine h.step fun it μ1 ⟨hl, h1⟩ => ?_
  rw [if_pos hl]
  exact h1.noX.step fun ds μ2 h2 => h2
theorem mkF_ok {ds : List D} {μ : Mem} (h : ds.length ≤ 16777000) : mkF ds μ = .ok (.lst ds) μ := if_pos (by rw [sizeLine_eq]; omega)
theorem mkH_ok {ds : List D} {μ : Mem} (h : ds.length ≤ 16777000) : mkH ds μ = .ok (.hnd μ.length) (μ ++ [some (.lst ds)]) := if_pos (by rw [sizeLine_eq]; omega)
theorem mkT_ok {ds : List D} {μ : Mem} (h : ds.length ≤ 16777000) : mkT ds μ = .ok (.tup ds) μ := if_pos (by rw [sizeLine_eq]; omega)
theorem mkF_0 {μ : Mem} : mkF [] μ = .ok (.lst []) μ := mkF_ok (by simp)
theorem mkF_1 {a : D} {μ : Mem} : mkF [a] μ = .ok (.lst [a]) μ := mkF_ok (by simp)
theorem mkF_2 {a b : D} {μ : Mem} : mkF [a, b] μ = .ok (.lst [a, b]) μ := mkF_ok (by simp)
theorem mkF_3 {a b c : D} {μ : Mem} : mkF [a, b, c] μ = .ok (.lst [a, b, c]) μ := mkF_ok (by simp)
theorem mkF_4 {a b c d : D} {μ : Mem} : mkF [a, b, c, d] μ = .ok (.lst [a, b, c, d]) μ := mkF_ok (by simp)
theorem mkF_5 {a b c d e : D} {μ : Mem} : mkF [a, b, c, d, e] μ = .ok (.lst [a, b, c, d, e]) μ := mkF_ok (by simp)
theorem mkF_6 {a b c d e f : D} {μ : Mem} : mkF [a, b, c, d, e, f] μ = .ok (.lst [a, b, c, d, e, f]) μ := mkF_ok (by simp)
theorem mkT_1 {a : D} {μ : Mem} : mkT [a] μ = .ok (.tup [a]) μ := mkT_ok (by simp)
theorem mkT_2 {a b : D} {μ : Mem} : mkT [a, b] μ = .ok (.tup [a, b]) μ := mkT_ok (by simp)
theorem mkT_3 {a b c : D} {μ : Mem} : mkT [a, b, c] μ = .ok (.tup [a, b, c]) μ := mkT_ok (by simp)
theorem mkH_0 {μ : Mem} : mkH [] μ = .ok (.hnd μ.length) (μ ++ [some (.lst [])]) := mkH_ok (by simp)
theorem mkH_1 {a : D} {μ : Mem} : mkH [a] μ = .ok (.hnd μ.length) (μ ++ [some (.lst [a])]) := mkH_ok (by simp)
theorem mkH_3 {a b c : D} {μ : Mem} : mkH [a, b, c] μ = .ok (.hnd μ.length) (μ ++ [some (.lst [a, b, c])]) := mkH_ok (by simp)
theorem iRange1_of {α : AM} {ρ : DEnv} {μ μ1 : Mem} {j : Int} (h : α ρ μ = .ok [.int j] μ1) (h1 : -(2 ^ 62) ≤ j) (h2 : j < 2 ^ 62) : iRange1 α ρ μ = .ok ⟨rngD 0 j.toNat, fun _ => True⟩ μ1 := by
  unfold iRange1
  rw [h]
  simp only [Res.bind]
  rw [if_pos ⟨h1, h2⟩]
theorem iRange2_of {α : AM} {ρ : DEnv} {μ μ1 : Mem} {i j : Int} (h : α ρ μ = .ok [.int i, .int j] μ1) (h1 : -(2 ^ 62) ≤ i) (h2 : i < 2 ^ 62) (h3 : -(2 ^ 62) ≤ j) (h4 : j < 2 ^ 62) : iRange2 α ρ μ = .ok ⟨rngD i (j - i).toNat, fun _ => True⟩ μ1 := by
  unfold iRange2
  rw [h]
  simp only [Res.bind]
  rw [if_pos ⟨h1, h2, h3, h4⟩]
theorem enumD_map {α : Type} (enc : α → D) : ∀ (i : Nat) (ys : List α), enumD i (ys.map enc) = (ys.zipIdx i).map fun p => .tup [.int (p.2 : Nat), enc p.1]
  | _, [] => rfl
  | i, y :: ys => by rw [List.map_cons, enumD, enumD_map enc (i + 1) ys, List.zipIdx_cons, List.map_cons]
theorem zipD_map {α β : Type} (ea : α → D) (eb : β → D) : ∀ (xs : List α) (ys : List β), zipD (xs.map ea) (ys.map eb) = (xs.zip ys).map fun p => .tup [ea p.1, eb p.2]
  | [], _ => by simp [zipD]
  | _ :: _, [] => by simp [zipD]
  | x :: xs, y :: ys => by rw [List.map_cons, List.map_cons, zipD, zipD_map ea eb xs ys]; rfl

/-! ### data of plain types -/
class Enc (α : Type) where
  enc : α → D
  py : α → PyData
  dp : Nat
  toPy : ∀ L a, toPyL L (enc a) = some (py a)
  lay : ∀ a, (py a).canLay0 = true
  dep : ∀ a, (py a).depth ≤ dp
  eqv : ∀ a b, PyData.eqv (py a) (py b) = true ↔ a = b
  hf : ∀ a, hfree (enc a) = true
open Enc (enc)
instance : Enc Int where
  enc := D.int
  py := PyData.int
  dp := 0
  toPy _ _ := rfl
  lay _ := by simp [PyData.canLay0]
  dep _ := by simp [PyData.depth]
  eqv a b := by simp [PyData.eqv]
  hf _ := rfl
instance : Enc Bool where
  enc := D.bl
  py := PyData.bool
  dp := 0
  toPy _ _ := rfl
  lay _ := by simp [PyData.canLay0]
  dep _ := by simp [PyData.depth]
  eqv a b := by simp [PyData.eqv]
  hf _ := rfl
instance {α β : Type} [Enc α] [Enc β] : Enc (α × β) where
  enc p := .tup [enc p.1, enc p.2]
  py p := .tuple [Enc.py p.1, Enc.py p.2]
  dp := max (Enc.dp α) (Enc.dp β) + 1
  toPy L p := by simp [toPyL, toPyLs, Enc.toPy]
  lay p := by simp [PyData.canLay0, PyData.canLayAll0, Enc.lay]
  dep p := by
    have h1 := Enc.dep p.1
    have h2 := Enc.dep p.2
    simp only [PyData.depth, PyData.depthAll]
    omega
  eqv p q := by
    simp only [PyData.eqv, PyData.eqvAll, Bool.and_eq_true, and_true, Enc.eqv]
    constructor
    · rintro ⟨h1, h2⟩; exact Prod.ext h1 h2
    · rintro rfl; exact ⟨rfl, rfl⟩
  hf p := by simp [hfree, hfrees, Enc.hf]
section
variable {α : Type} [Enc α]
theorem toPyLs_map (L : Nat → Option (List PyData)) : ∀ xs : List α, toPyLs L (xs.map enc) = some (xs.map Enc.py)
  | [] => rfl
  | x :: xs => by rw [List.map_cons, toPyLs, Enc.toPy, toPyLs_map L xs]; rfl
theorem layAll_map : ∀ xs : List α, PyData.canLayAll0 (xs.map Enc.py) = true
  | [] => rfl
  | x :: xs => by rw [List.map_cons, PyData.canLayAll0, Enc.lay, layAll_map xs]; rfl
theorem depAll_map : ∀ xs : List α, PyData.depthAll (xs.map Enc.py) ≤ Enc.dp α
  | [] => by simp [PyData.depthAll]
  | x :: xs => by
    rw [List.map_cons, PyData.depthAll]
    have h1 := Enc.dep x
    have h2 := depAll_map xs
    omega
theorem eqvAll_map : ∀ xs ys : List α, PyData.eqvAll (xs.map Enc.py) (ys.map Enc.py) = true ↔ xs = ys
  | [], [] => by simp [PyData.eqvAll]
  | [], _ :: _ => by simp [PyData.eqvAll]
  | _ :: _, [] => by simp [PyData.eqvAll]
  | x :: xs, y :: ys => by rw [List.map_cons, List.map_cons, PyData.eqvAll, Bool.and_eq_true, Enc.eqv, eqvAll_map xs ys, List.cons.injEq]
theorem hfrees_map : ∀ xs : List α, hfrees (xs.map enc) = true
  | [] => rfl
  | x :: xs => by rw [List.map_cons, hfrees, Enc.hf, hfrees_map xs]; rfl
end
instance {α : Type} [Enc α] : Enc (List α) where
  enc xs := .lst (xs.map enc)
  py xs := .list (xs.map Enc.py)
  dp := Enc.dp α + 1
  toPy L xs := by rw [toPyL, toPyLs_map]; rfl
  lay xs := by rw [PyData.canLay0]; exact layAll_map xs
  dep xs := by rw [PyData.depth]; have := depAll_map xs; omega
  eqv xs ys := by rw [PyData.eqv]; exact eqvAll_map xs ys
  hf xs := by rw [hfree]; exact hfrees_map xs
section
variable {α : Type} [Enc α] [DecidableEq α]
theorem enc_int (i : Int) : (enc i : D) = .int i := rfl
theorem enc_pair {β : Type} [Enc β] (p : α × β) : enc p = .tup [enc p.1, enc p.2] := rfl
theorem enc_list (xs : List α) : enc xs = .lst (xs.map enc) := rfl
theorem eqv_dec (a b : α) : PyData.eqv (Enc.py a) (Enc.py b) = decide (a = b) := by
  by_cases h : a = b
  · rw [decide_eq_true h, (Enc.eqv a b).mpr h]
  · rw [decide_eq_false h]
    exact Bool.eq_false_iff.mpr fun z => h ((Enc.eqv a b).mp z)
theorem shaped_py (hd : Enc.dp α ≤ 64) (a : α) : SeqAt.shaped (Enc.py a) = true := by
  unfold SeqAt.shaped
  rw [Enc.lay, Bool.true_and]
  exact decide_eq_true (Nat.le_trans (Enc.dep a) hd)
/-- what a value is, with its cells read -/
def Views (μ : Mem) (d : D) (a : α) : Prop := toPy μ d = some (Enc.py a)
theorem views_enc (μ : Mem) (a : α) : Views μ (enc a) a := Enc.toPy _ a
theorem mEq_v {μ : Mem} {x y : D} {a b : α} (h1 : Views μ x a) (h2 : Views μ y b) (hd : Enc.dp α ≤ 64 := by decide) : mEq x y μ = .ok (.bl (decide (a = b))) μ := by
  unfold mEq
  rw [show toPy μ x = some (Enc.py a) from h1, show toPy μ y = some (Enc.py b) from h2]
  simp only
  rw [if_pos ⟨shaped_py hd a, shaped_py hd b⟩, eqv_dec]
theorem mNe_v {μ : Mem} {x y : D} {a b : α} (h1 : Views μ x a) (h2 : Views μ y b) (hd : Enc.dp α ≤ 64 := by decide) : mNe x y μ = .ok (.bl (!decide (a = b))) μ := by
  unfold mNe
  rw [show toPy μ x = some (Enc.py a) from h1, show toPy μ y = some (Enc.py b) from h2]
  simp only
  rw [if_pos ⟨shaped_py hd a, shaped_py hd b⟩, eqv_dec]
theorem any_eqv (a : α) (xs : List α) : ((xs.map Enc.py).any fun z => PyData.eqv z (Enc.py a)) = decide (a ∈ xs) := by
  induction xs with
  | nil => rfl
  | cons x xs ih =>
    rw [List.map_cons, List.any_cons, ih, eqv_dec]
    by_cases h : x = a
    · subst h; simp
    · have h' : ¬ a = x := fun z => h z.symm
      simp [h, h']
theorem mInG_v {neg : Bool} {μ : Mem} {x y : D} {a : α} {xs : List α} (h1 : Views μ x a) (h2 : Views μ y xs) (hd : Enc.dp α ≤ 63 := by decide) : mInG neg x y μ = .ok (.bl (bif neg then !decide (a ∈ xs) else decide (a ∈ xs))) μ := by
  unfold mInG
  rw [show toPy μ x = some (Enc.py a) from h1, show toPy μ y = some (.list (xs.map Enc.py)) from h2]
  simp only
  have hs : SeqAt.shaped (.list (xs.map Enc.py)) = true := shaped_py (α := List α) (by show Enc.dp α + 1 ≤ 64; omega) xs
  rw [if_pos (.inr ⟨shaped_py (by omega) a, hs⟩), any_eqv]
theorem mIn_v {μ : Mem} {x y : D} {a : α} {xs : List α} (h1 : Views μ x a) (h2 : Views μ y xs) (hd : Enc.dp α ≤ 63 := by decide) : mIn x y μ = .ok (.bl (decide (a ∈ xs))) μ := mInG_v (neg := false) h1 h2 hd
theorem mNotIn_v {μ : Mem} {x y : D} {a : α} {xs : List α} (h1 : Views μ x a) (h2 : Views μ y xs) (hd : Enc.dp α ≤ 63 := by decide) : mNotIn x y μ = .ok (.bl (!decide (a ∈ xs))) μ := mInG_v (neg := true) h1 h2 hd
theorem views_cell {μ : Mem} {k : Nat} {xs : List α} (h : μ[k]? = some (some (.lst (xs.map enc)))) : Views μ (.hnd k) xs := by
  show toPyL (cellPy μ) (.hnd k) = _
  rw [toPyL]
  unfold cellPy
  rw [h]
  simp only
  rw [toPyLs_map]
  rfl
theorem views_pair {β : Type} [Enc β] {μ : Mem} {x y : D} {a : α} {b : β} (h1 : Views μ x a) (h2 : Views μ y b) : Views μ (.tup [x, y]) (a, b) := by
  show toPyL (cellPy μ) (.tup [x, y]) = _
  have h1' : toPyL (cellPy μ) x = some (Enc.py a) := h1
  have h2' : toPyL (cellPy μ) y = some (Enc.py b) := h2
  simp only [toPyL, toPyLs, h1', h2']
  rfl
end

theorem atI_at {α : Type} {xs : List α} {i : Int} {j : Nat} {v : α} (e : i = (j : Int)) (h : xs[j]? = some v) : atI xs i = some v := by
  rw [e]; exact atI_nat h
/-! ### calls -/
theorem callP_ok_of {f : List D → PR} {ds : List D} {μ : Mem} {d : D} (hf : hfrees ds = true) (h : f ds = .ok d) : callP f ds μ = .ok d μ := by
  unfold callP
  rw [if_pos hf, h]
mutual
theorem deref_free (μ : Mem) : ∀ (d e : D), hfree d = true → deref μ d = some e → e = d
  | .non, e, _, h => by cases h; rfl
  | .bl _, e, _, h => by cases h; rfl
  | .int _, e, _, h => by cases h; rfl
  | .str _, e, _, h => by cases h; rfl
  | .scr _, e, _, h => by cases h; rfl
  | .hnd _, e, hf, h => by cases hf
  | .lst ds, e, hf, h => by
    rw [deref] at h
    cases q : derefs μ ds with
    | none => rw [q] at h; cases h
    | some es => rw [q] at h; cases h; rw [derefs_free μ ds es (by rw [hfree] at hf; exact hf) q]
  | .tup ds, e, hf, h => by
    rw [deref] at h
    cases q : derefs μ ds with
    | none => rw [q] at h; cases h
    | some es => rw [q] at h; cases h; rw [derefs_free μ ds es (by rw [hfree] at hf; exact hf) q]
theorem derefs_free (μ : Mem) : ∀ (ds es : List D), hfrees ds = true → derefs μ ds = some es → es = ds
  | [], es, _, h => by cases h; rfl
  | d :: ds, es, hf, h => by
    rw [hfrees, Bool.and_eq_true] at hf
    rw [derefs] at h
    cases q1 : deref μ d with
    | none => rw [q1] at h; cases h
    | some e1 =>
      cases q2 : derefs μ ds with
      | none => rw [q1, q2] at h; cases h
      | some es1 => rw [q1, q2] at h; cases h; rw [deref_free μ d e1 hf.1 q1, derefs_free μ ds es1 hf.2 q2]
end
theorem callP_ok_deref {f : List D → PR} {ds es : List D} {μ : Mem} {d : D} (h1 : derefs μ ds = some es) (h : f es = .ok d) (hs : isScal d = true) : callP f ds μ = .ok d μ := by
  unfold callP
  by_cases hf : hfrees ds = true
  · rw [if_pos hf]
    have e : es = ds := derefs_free μ ds es hf h1
    subst e
    rw [h]
  · rw [if_neg hf, h1]
    simp only
    rw [h]
    simp only
    rw [if_pos hs]
end
end Md

/-! More rules of the middle level: xs[::-1], isinstance of lists and tuples, sums of tuples, bit_length. -/
namespace Md
open PySem PySem.Spec PyProof.Rows L2

/-! ### xs[::-1] -/
section
variable {X : Cx} {W : WX}
def eRev (mk : List D → Mem → Res D) (α : EM) : EM := fun ρ μ => (α ρ μ).bind fun d μ1 => match seqL μ1 d with
  | some ds => mk ds.reverse μ1
  | none => .bad
theorem RepVs.rev {K : PySem.W.Frag} {G : Hp} {ι : List Addr} : ∀ {vs : List V} {ds : List D}, RepVs K G ι vs ds → RepVs K G ι vs.reverse ds.reverse
  | vs, [], h => by cases h; rfl
  | vs, d :: ds, h => by
    obtain ⟨v, r, rfl, h1, h2⟩ := h
    rw [List.reverse_cons, List.reverse_cons]
    exact (RepVs.rev h2).append ⟨v, [], rfl, h1, rfl⟩
theorem q_rev {e : Expr} {k : Nat} {p1 p2 p3 pos : Pos} {mk : List D → Mem → Res D} {α : EM} (hk : MkL mk) (he : PE X e (tE X W α)) : PE X (.Subscript e (.Slice none none (some (.UnaryOp .USub (.Constant (.int 1) k p1) p2)) p3) pos) (tE X W (eRev mk α)) :=
  pe_imp (pe_revL he) fun σ H Q h => by
  obtain ⟨F, G0, G, ι, μ, ρ, rp, e, h⟩ := h
  refine tE.go rp e h.bind fun d G1 ι1 μ1 H1 x1 r1 e1 h1 v rv => ?_
  split at h1
  · rename_i ds hs
    obtain ⟨a, vs, rfl, s, r⟩ := seqL_ok r1 rv hs
    exact ⟨a, vs, rfl, s, (hk r1 r.rev h1).2⟩
  · exact h1.elim

/-! ### isinstance -/
def tyD (μ : Mem) : D → Option String
  | .non => some "NoneType"
  | .bl _ => some "bool"
  | .int _ => some "int"
  | .str _ => some "str"
  | .tup _ => some "tuple"
  | d => if (seqL μ d).isSome then some "list" else none
theorem ty_sqL {K : PySem.W.Frag} {H : Hp} {a : Addr} {xs : List V} (h : SqL K H a xs) : TyX K H (.ref a) (.type "list") := by
  rcases h with (h | ⟨o, h⟩) | ⟨o, its, n, hk, hc, _⟩
  · exact .base (.lst h)
  · exact .base (.frz h)
  · exact .kList hk hc
theorem ty_sqT {K : PySem.W.Frag} {H : Hp} {a : Addr} {xs : List V} (h : SqT K H a xs) : TyX K H (.ref a) (.type "tuple") := by
  rcases h with (h | ⟨o, h⟩) | ⟨o, its, n, hk, hc, _⟩
  · exact .base (.tup h)
  · exact .fTuple h
  · exact .kTuple hk hc
theorem tyD_ok {K : PySem.W.Frag} {mg : Str → Option Value} {F G0 G : Hp} {ι : List Addr} {μ : Mem} {H : Hp} {v : V} {d : D} {t : String} (rp : Rep K mg F G0 G ι μ H) (rv : RepV K G ι v d) (h : tyD μ d = some t) : TyX K H v (.type t) := by
  have L : ∀ d, RepV K G ι v d → (if (seqL μ d).isSome then some "list" else none) = some t → TyX K H v (.type t) := fun d rv h => by
    split at h
    · rename_i hs
      cases h
      obtain ⟨ds, hs⟩ := Option.isSome_iff_exists.mp hs
      obtain ⟨a, vs, rfl, s, _⟩ := seqL_ok rp rv hs
      exact ty_sqL s
    · cases h
  cases d with
  | non => cases h; rw [show v = V.non from rv]; exact .base .non
  | bl b => cases h; rw [show v = V.bl b from rv]; exact .base (.bl b)
  | int i => cases h; rw [show v = V.int i from rv]; exact .base (.int i)
  | str x => cases h; rw [show v = V.str x from rv]; exact .base (.str x)
  | tup ds =>
    cases h
    obtain ⟨a, vs, rfl, s, _⟩ := seqT_ok (ds := ds) rp rv rfl
    exact ty_sqT s
  | lst ds => exact L _ rv h
  | scr ns => exact L _ rv h
  | hnd k => exact L _ rv h
def eIsC (T : String) (α : EM) : EM := fun ρ μ => (α ρ μ).bind fun d μ1 => match (tyD μ1 d).bind fun t => kitB t T with
  | some b => .ok (.bl b) μ1
  | none => .bad
theorem q_isC {e : Expr} {p q pos : Pos} {α : EM} {n : Str} {T : String} (hg : Gl X "isinstance") (hm : X.mg "isinstance" = none) (hgn : Gl X n) (hmn : X.mg n = none) (hv : bootBuiltins n = some (.type T)) (he : PE X e (tE X W α))
    (hn : n ≠ "__name__" := by decide) (hdb : (n == ("__debug__" : Str)) = false := by decide)
    (hs : starEach [e, .Name n q] X.env = (false, eval e X.env) :: starEach [.Name n q] X.env := by rfl) (hs2 : starEach [.Name n q] X.env = (false, eval (.Name n q) X.env) :: starEach [] X.env := by rfl) (hpl : (backTo pos (starEach [.Name n q] X.env)).any (·.1) = false := by rfl) :
    PE X (.Call (.Name "isinstance" p) [e, .Name n q] [] pos) (tE X W (eIsC T α)) :=
  pe_imp (pe_callB call_isi hg hm boot_isinstance (pa_cons he (pa_cons (pe_bltn (v := .ty T) hgn hmn hv rfl hn hdb) pa_nil hs2) hs) (by decide) (by decide) hs hpl) fun σ H Q h => by
  obtain ⟨F, G0, G, ι, μ, ρ, rp, e, h⟩ := h
  refine tE.go rp e h.bind fun d G1 ι1 μ1 H1 x1 r1 e1 h1' v rv => ?_
  split at h1'
  · rename_i b hb
    obtain ⟨t, ht, hb⟩ := Option.bind_eq_some_iff.mp hb
    exact ⟨v, .ty T, .type t, .type T, b, rfl, .ty T, tyD_ok r1 rv ht, kit_ty hb, h1'.now r1 _ rfl⟩
  · exact h1'.elim
theorem bt_tuple : bootBuiltins "tuple" = some (.type "tuple") := by decide +kernel
theorem bt_str : bootBuiltins "str" = some (.type "str") := by decide +kernel
theorem bt_dict : bootBuiltins "dict" = some (.type "dict") := by decide +kernel
theorem kb_1 : kitB "list" "list" = some true := by decide +kernel
theorem kb_2 : kitB "tuple" "tuple" = some true := by decide +kernel
theorem kb_3 : kitB "list" "tuple" = some false := by decide +kernel
theorem kb_4 : kitB "tuple" "list" = some false := by decide +kernel
theorem kb_5 : kitB "int" "int" = some true := by decide +kernel
theorem kb_6 : kitB "int" "bool" = some false := by decide +kernel
theorem kb_7 : kitB "bool" "int" = some true := by decide +kernel
theorem kb_8 : kitB "str" "str" = some true := by decide +kernel
end

/-! ### x.bit_length() -/
section
variable {X : Cx} {W : WX}
def eBits (α : EM) : EM := fun ρ μ => (α ρ μ).bind fun d μ1 => match d with
  | .int i => .ok (.int (Builtin.Int.intBits i : Nat)) μ1
  | _ => .bad
theorem q_bits {o : Expr} {apos pos : Pos} {α : EM} (ho : PE X o (tE X W α)) (hbase : attributeBase o "bit_length" X.env (eval o X.env) = eval o X.env := by rfl) (hline : (apos.endLine == pos.line) = true := by rfl) : PE X (.Call (.Attribute o "bit_length" apos) [] [] pos) (tE X W (eBits α)) :=
  pe_imp (pe_bits ho hbase hline) fun σ H Q h => by
  obtain ⟨F, G0, G, ι, μ, ρ, rp, e, h⟩ := h
  refine tE.go rp e h.bind fun d G1 ι1 μ1 H1 x1 r1 e1 h1 v rv => ?_
  split at h1
  · exact ⟨_, rv, h1.now r1 _ rfl⟩
  · exact h1.elim
end

/-! ### sum -/
theorem sum_tup {prog : Program} {w : World} {A : Around} {E : Value → Shared → Prop} {s : Shared} {l : Addr} {its : List Value} {ns : List Int} {Q : Value → Shared → Prop} (hh : A.handled = none) (hl : IsTup s.heap l its.toArray) (hi : IntsAre its ns)
    (h : ∀ h' tk t', (∀ b o, s.heap.get? b = some o → h'.get? b = some o) → Q (.int ns.sum t') { s with heap := h', toks := tk }) : wpAny (model prog w) A (call (.builtin "sum") [.ref l]) Q E s := by
  obtain ⟨xs, e⟩ := hi.allInts.items
  have hn : numsOf (intItems xs).toList = ns := by rw [← e]; exact hi.numsOf
  rw [nums_intItems] at hn
  rw [e] at hl
  have hlt : l < s.heap.objs.size := by obtain ⟨_, e, _⟩ := hl; exact Heap.lt_size e
  have hl' : s.heap.IsTuple l (intItems xs) := hl
  refine call_sum_walkG (wpAny_pyIter_tuple hl' ?_)
  refine ⟨_, _, _, _, _, _, numAt xs, rfl, Walks.tuple (A := A.in1) hh _ l (Nat.ne_of_lt hlt) (intItems xs), ⟨⟨_, Heap.get?_push_size _ rfl, rfl, rfl⟩, hl'.push _⟩, (fun b hb => ?_), (fun _ _ => intItems_at), fun h' tk t' hk => ?_⟩
  · show b < (s.heap.push _).objs.size
    rw [Heap.size_push]
    rcases List.mem_cons.mp hb with rfl | hb
    · exact Nat.lt_succ_self _
    · rcases List.mem_cons.mp hb with rfl | hb
      · exact Nat.lt_succ_of_lt hlt
      · cases hb
  · have := h h' tk t' fun b o e => by
      refine hk b o (fun hm => ?_) (Heap.get?_push_of_some _ e)
      rcases List.mem_cons.mp hm with e1 | hm
      · exact absurd (e1 ▸ Heap.lt_size e) (Nat.lt_irrefl _)
      · cases hm
    rw [preSum_eq, List.take_of_length_le (by simp [intItems]), hn]; exact this
def rSumT (K : PySem.W.Frag) : List V → Hp → VK → Prop := fun vs H Q => ∃ (a : Addr) (ns : List Int), vs = [V.ref a] ∧ (SqL K H a (ns.map V.int) ∨ SqT K H a (ns.map V.int)) ∧ Q (.int ns.sum) H
theorem cr_sumT {X : Cx} (hc : X.calm = true) : CallR X (.builtin "sum") (rSumT X.K) := by
  intro pins s σ H vs us Q I r h
  obtain ⟨a, ns, rfl, hs | hs, q⟩ := h
  · exact cr_sum hc pins s σ H _ us Q I r ⟨a, ns, rfl, hs, q⟩
  · obtain ⟨its, rv, hl, _⟩ := I.tuple hs
    rw [Vals.ref1 r]
    exact sum_tup (I.ok.hd hc) hl rv.ints fun h' tk t' hk => ⟨.int _, H, I.kept hk, ⟨_, rfl⟩, q⟩
section
variable {K : PySem.W.Frag} {mg : Str → Option Value}
def intsA (μ : Mem) (d : D) : Option (List Int) := (seqA μ d).bind asInts
theorem intsA_ok {F G0 G : Hp} {ι : List Addr} {μ : Mem} {H : Hp} {v : V} {d : D} {ns : List Int} (rp : Rep K mg F G0 G ι μ H) (rv : RepV K G ι v d) (h : intsA μ d = some ns) : ∃ a, v = .ref a ∧ (SqL K H a (ns.map V.int) ∨ SqT K H a (ns.map V.int)) := by
  obtain ⟨ds, q, h⟩ := Option.bind_eq_some_iff.mp h
  have e := asInts_eq h
  subst e
  obtain ⟨a, vs, e1, s, r⟩ := seqA_ok rp rv q
  rw [RepVs.toInts r] at s
  exact ⟨a, e1, s⟩
def mSumA (ds : List D) (μ : Mem) : Res D := match ds with
  | [d] => match intsA μ d with
    | some ns => .ok (.int ns.sum) μ
    | none => .bad
  | _ => .bad
theorem cm_sumA : CallM K mg (rSumT K) mSumA := by
  intro F G0 G ι μ H vs ds Qx Q rp rvs h
  unfold mSumA at h
  split at h
  · rename_i d
    obtain ⟨v, rfl, rv⟩ := rv1 rvs
    split at h
    · rename_i ns hs
      obtain ⟨a, rfl, s⟩ := intsA_ok rp rv hs
      exact ⟨a, ns, rfl, s, h.now rp _ rfl⟩
    · exact h.elim
  · exact h.elim
end
/-! ### xs[lo:hi:c], c a positive written number -/
section
variable {X : Cx} {W : WX}
def idxS (n : Nat) (lo hi : Option Int) (c : Int) : List Nat := sliceRange (sliceBounds lo hi (some c) n).1 (sliceBounds lo hi (some c) n).2.1 c
def pickA {α : Type} (xs : List α) (lo hi : Option Int) (c : Int) : List α := (idxS xs.length lo hi c).filterMap (xs[·]?)
theorem vals_pick {xs : List V} {its : List Value} (r : Vals xs its) : ∀ is : List Nat, Vals (is.filterMap (xs[·]?)) (is.filterMap (its[·]?))
  | [] => .nil
  | i :: is => by
    have ih := vals_pick r is
    rw [List.filterMap_cons, List.filterMap_cons]
    cases e : xs[i]? with
    | none =>
      have : its[i]? = none := by rw [List.getElem?_eq_none_iff] at e ⊢; have := r.length; omega
      rw [this]
      exact ih
    | some v =>
      obtain ⟨w, ew, rw'⟩ := r.get e
      rw [ew]
      exact .cons rw' ih
theorem idxS_len (n : Nat) (lo hi : Option Int) {c : Int} (hc : 0 < c) : (idxS n lo hi c).length ≤ n := by
  unfold idxS
  refine sliceRange_length_le _ _ _ _ (fun _ => ?_) (fun z => absurd hc z)
  unfold sliceBounds
  simp only [Option.getD_some, gt_iff_lt, hc, if_true]
  constructor
  · cases lo with
    | none => exact Int.le_refl _
    | some i => simp only; split <;> omega
  · cases hi with
    | none => exact Int.le_refl _
    | some i => simp only; split <;> omega
theorem pickA_len {α : Type} (xs : List α) (lo hi : Option Int) {c : Int} (hc : 0 < c) : (pickA xs lo hi c).length ≤ xs.length := Nat.le_trans (List.length_filterMap_le _ _) (idxS_len _ _ _ hc)
def tSlS (K : PySem.W.Frag) (te : TE) (tl th : TO) (c : Int) : TE := fun σ H Q => te σ H fun x H1 => tl σ H1 fun lo H2 => th σ H2 fun hi H3 => ∃ a xs, x = .ref a ∧ SqL K H3 a xs ∧ ∀ p, H3 p = none → Q (.ref p) (upd H3 p (.lst (pickA xs lo hi c)))
theorem pe_slS {e : Expr} {te : TE} {lo hi : Option Expr} {tl th : TO} {c : Int} {k : Nat} {p2 p3 pos : Pos} (hc : 0 < c) (he : PE X e te) (hl : PO X lo tl) (hu : PO X hi th) : PE X (.Subscript e (.Slice lo hi (some (.Constant (.int c) k p2)) p3) pos) (tSlS X.K te tl th c) := by
  refine ⟨fun pins s σ H Q I h => ?_⟩
  refine Subscript_ (thn (he.run pins s σ H _ I h) fun v s1 ⟨x, H1, I1, r1, q1⟩ => ?_)
  have hst : PO X (some (.Constant (.int c) k p2)) (tPart (tC (.int c))) := po_some pe_int
  refine wpAny_Slice (thn (hl.run pins s1 σ H1 _ I1 q1) fun vl s2 ⟨l, H2, I2, pl, q2⟩ => thn (hu.run pins s2 σ H2 _ I2 q2) fun vu s3 ⟨u, H3, I3, pu, q3⟩ => ?_)
  refine thn (hst.run pins s3 σ H3 (fun o H4 => o = some c ∧ H4 = H3) I3 ⟨c, rfl, rfl, rfl⟩) fun vs s4 ⟨o, H4, I4, ps, eo, e4⟩ => ?_
  subst eo e4
  obtain ⟨a, xs, ex, hx, q⟩ := q3
  subst ex
  cases r1
  have I5 : Inv X pins σ H4 { s4 with heap := s4.heap.push { cls := .type "slice", data := .fields #[vl, vu, vs] } } := I4.kept (t' := s4.toks) fun b ob q => Heap.get?_push_of_some _ q
  obtain ⟨its, r, ht, hz⟩ := I5.list hx
  have hlen := r.length
  show wpAny (model X.prog X.w) X.A (subscriptTail e (.Slice lo hi (some (.Constant (.int c) k p2)) p3) (.ref a) (.ref s4.heap.objs.size)) (EP X pins σ Q) X.xe { s4 with heap := s4.heap.push { cls := .type "slice", data := .fields #[vl, vu, vs] } }
  refine tail_any (ops := [.ref a, .ref s4.heap.objs.size]) ht.isList.typeIs (PySem.slot_list_getitem.lookup) ?_ (by with_unfolding_all rfl)
  refine wpAny_getItem_list_slice ht.isList (Heap.IsSliceOf.new _ vl vu vs) pl pu ps (fun z => ?_) ?_ (by rw [List.size_toArray]; omega)
  · cases z; omega
  have es : slicePick its.toArray l u (some c) = (pickA its l u c).toArray := by
    unfold slicePick pickA idxS
    simp only [List.size_toArray, List.getElem?_toArray]
    rfl
  rw [es]
  refine ⟨.ref _, _, I5.laid (t' := s4.toks) (o := .lst (pickA xs l u c)) (fun b ob q => Heap.get?_push_of_some _ q) (Nat.le_refl _) ?_, rfl, q _ (I5.hok.fresh (Nat.le_refl _))⟩
  refine ⟨Nat.le_trans (pickA_len xs l u hc) hz, _, 0, ?_, Heap.get?_push_size _ rfl⟩
  unfold pickA
  rw [hlen]
  exact vals_pick r _
theorem RepVs.pick {K : PySem.W.Frag} {G : Hp} {ι : List Addr} {vs : List V} {ds : List D} (r : RepVs K G ι vs ds) : ∀ is : List Nat, RepVs K G ι (is.filterMap (vs[·]?)) (is.filterMap (ds[·]?))
  | [] => rfl
  | i :: is => by
    have ih := RepVs.pick r is
    rw [List.filterMap_cons, List.filterMap_cons]
    cases e : ds[i]? with
    | none =>
      have : vs[i]? = none := by rw [List.getElem?_eq_none_iff] at e ⊢; have := r.length; omega
      rw [this]
      exact ih
    | some v =>
      obtain ⟨w, ew, rw'⟩ := r.get e
      rw [ew]
      exact ⟨_, _, rfl, rw', ih⟩
def eSlS (mk : List D → Mem → Res D) (c : Int) (α : EM) (lo hi : OM) : EM := fun ρ μ => (α ρ μ).bind fun d μ1 => (lo ρ μ1).bind fun l μ2 => (hi ρ μ2).bind fun u μ3 => match seqL μ3 d with
  | some ds => mk (pickA ds l u c) μ3
  | none => .bad
theorem q_sliceS {e : Expr} {lo hi : Option Expr} {c : Int} {k : Nat} {pos p2 p3 : Pos} {mk : List D → Mem → Res D} {α : EM} {l u : OM} (hc : 0 < c) (hk : MkL mk) (he : PE X e (tE X W α)) (hl : PO X lo (tO X W l)) (hu : PO X hi (tO X W u)) : PE X (.Subscript e (.Slice lo hi (some (.Constant (.int c) k p2)) p3) pos) (tE X W (eSlS mk c α l u)) :=
  pe_imp (pe_slS hc he hl hu) fun σ H Q h => by
  obtain ⟨F, G0, G, ι, μ, ρ, rp, e, h⟩ := h
  refine tE.go rp e h.bind fun d G1 ι1 μ1 H1 x1 r1 e1 h1 v rv => ?_
  refine tO.go r1 e1 h1.bind fun o1 G2 ι2 μ2 H2 x2 r2 e2 h2 => ?_
  refine tO.go r2 e2 h2.bind fun o2 G3 ι3 μ3 H3 x3 r3 e3 h3 => ?_
  split at h3
  · rename_i ds hs
    obtain ⟨a, vs, rfl, s, r⟩ := seqL_ok r3 (rv.mono (x2.trans x3)) hs
    have rc : RepVs X.K G3 ι3 (pickA vs o1 o2 c) (pickA ds o1 o2 c) := by
      unfold pickA
      rw [r.length]
      exact r.pick _
    exact ⟨a, vs, rfl, s, (hk r3 rc h3).2⟩
  · exact h3.elim
end
end Md

namespace Md
open PySem PySem.Spec PyProof.Rows L2
open Enc (enc)
/-! ### the law's own draws -/
theorem mIx_lst {ds : List D} {μ : Mem} {i : Int} {j : Nat} {d : D} (e : i = (j : Int)) (h : ds[j]? = some d) : mIx (.lst ds) (.int i) μ = .ok d μ := by
  unfold mIx seqA seqL
  simp only [atI_at e h]
theorem mIx_cell {k : Nat} {ds : List D} {μ : Mem} {i : Int} {j : Nat} {d : D} (hk : μ[k]? = some (some (.lst ds))) (e : i = (j : Int)) (h : ds[j]? = some d) : mIx (.hnd k) (.int i) μ = .ok d μ := by
  unfold mIx seqA seqL
  simp only [hk, atI_at e h]
theorem mIx_tup {ds : List D} {μ : Mem} {i : Int} {j : Nat} {d : D} (e : i = (j : Int)) (h : ds[j]? = some d) : mIx (.tup ds) (.int i) μ = .ok d μ := by
  unfold mIx seqA
  simp only [atI_at e h]
theorem mSetIx_cell {k : Nat} {ds : List D} {μ : Mem} {i : Int} {j : Nat} {d : D} (hk : μ[k]? = some (some (.lst ds))) (e : i = (j : Int)) (h : j < ds.length) : mSetIx (.hnd k) (.int i) d μ = .ok () (μ.set k (some (.lst (ds.set j d)))) := by
  have q : ixN ds.length i = some j := by
    unfold ixN
    rw [e, if_pos (by omega), if_pos (by omega)]
    simp
  unfold mSetIx
  simp only [hk, q]
def PileC (x y z : Int) : Cell := .lst [.int x, .int y, .int z]
def PileAt (μ : Mem) (k : Nat) : Prop := ∃ x y z, μ[k]? = some (some (PileC x y z))
/-- the pile at k alone is changed -/
def Upd (k : Nat) (μ μ' : Mem) : Prop := ∃ x y z, μ' = μ.set k (some (PileC x y z))
theorem Upd.trans {k : Nat} {μ μ1 μ2 : Mem} (h1 : Upd k μ μ1) (h2 : Upd k μ1 μ2) : Upd k μ μ2 := by
  obtain ⟨x, y, z, rfl⟩ := h1
  obtain ⟨x', y', z', rfl⟩ := h2
  exact ⟨x', y', z', by rw [List.set_set]⟩
theorem Upd.pile {k : Nat} {μ μ' : Mem} (h : Upd k μ μ') (p : PileAt μ k) : PileAt μ' k := by
  obtain ⟨x, y, z, rfl⟩ := h
  obtain ⟨_, _, _, e⟩ := p
  exact ⟨x, y, z, List.getElem?_set_self (List.getElem?_eq_some_iff.mp e).1⟩
theorem Upd.refl {k : Nat} {μ : Mem} (p : PileAt μ k) : Upd k μ μ := by
  obtain ⟨x, y, z, e⟩ := p
  refine ⟨x, y, z, (List.ext_getElem? fun i => ?_).symm⟩
  by_cases h : k = i
  · subst h
    rw [List.getElem?_set_self (List.getElem?_eq_some_iff.mp e).1, e]
  · rw [List.getElem?_set_ne h]
theorem Upd.get {k j : Nat} {μ μ' : Mem} (h : Upd k μ μ') (hj : j ≠ k) : μ'[j]? = μ[j]? := by
  obtain ⟨x, y, z, rfl⟩ := h
  rw [List.getElem?_set_ne (fun e => hj e.symm)]
theorem Upd.len {k : Nat} {μ μ' : Mem} (h : Upd k μ μ') : μ'.length = μ.length := by
  obtain ⟨x, y, z, rfl⟩ := h
  rw [List.length_set]
theorem mulOk_r {i j : Int} (h1 : -(2 ^ 64) < j) (h2 : j < 2 ^ 64) : MulOk i j := .inl (.inr ⟨h1, h2⟩)
theorem mulOk_l {i j : Int} (h1 : -(2 ^ 64) < i) (h2 : i < 2 ^ 64) : MulOk i j := .inl (.inl ⟨h1, h2⟩)
theorem mAdd_int {mk : List D → Mem → Res D} {i j : Int} {μ : Mem} : mAdd mk (.int i) (.int j) μ = .ok (.int (i + j)) μ := rfl
theorem mMul_int {mk : List D → Mem → Res D} {i j : Int} {μ : Mem} (h : MulOk i j) : mMul mk (.int i) (.int j) μ = .ok (.int (i * j)) μ := by
  unfold mMul
  simp only [if_pos h]
theorem mMod_int {i j : Int} {μ : Mem} (h : 0 < j) : mMod (.int i) (.int j) μ = .ok (.int (i % j)) μ := by
  unfold mMod mI
  simp only [if_pos h]
theorem log2_lt {n k : Nat} (h : n < 2 ^ k) (hk : 0 < k) : n.log2 < k := by
  by_cases h0 : n = 0
  · subst h0; simpa using hk
  · exact (Nat.log2_lt h0).mpr h
theorem mDiv_int {i j : Int} {μ : Mem} (h : 0 < j) (h2 : j < 2 ^ 64) : mDiv (.int i) (.int j) μ = .ok (.int (i / j)) μ := by
  have hc : CDivW i j := ⟨h, Nat.lt_trans (log2_lt (k := 64) (by omega) (by decide)) (by decide)⟩
  unfold mDiv mI
  simp only [if_pos hc]
theorem mPow_int {i j : Int} {μ : Mem} (h : CPow i j) : mPow (.int i) (.int j) μ = .ok (.int (i ^ j.toNat)) μ := by
  unfold mPow mI
  simp only [if_pos h]
def pairsL : Nat → List (Int × Int)
  | 0 => []
  | i + 1 => pairsL i ++ (List.range i).map fun a : Nat => ((a : Int), (i : Int))
theorem pairsL_len : ∀ i, (pairsL i).length ≤ i * i
  | 0 => Nat.le_refl _
  | i + 1 => by
    have := pairsL_len i
    rw [pairsL, List.length_append, List.length_map, List.length_range, Nat.add_mul, Nat.mul_add]
    omega
theorem pairsL_mem : ∀ {i : Nat} {t : Int × Int}, t ∈ pairsL i → 0 ≤ t.1 ∧ t.1 < t.2 ∧ t.2 < i
  | 0, t, h => by cases h
  | i + 1, t, h => by
    rw [pairsL, List.mem_append] at h
    rcases h with h | h
    · have := pairsL_mem h; omega
    · obtain ⟨a, ha, rfl⟩ := List.mem_map.mp h
      have := List.mem_range.mp ha
      exact ⟨by simp, by simp; omega, by simp; omega⟩
theorem pairsL_nil {i : Nat} : pairsL i = [] ↔ i ≤ 1 := by
  constructor
  · intro h
    cases i with
    | zero => omega
    | succ i =>
      have := congrArg List.length h
      rw [pairsL, List.length_append, List.length_map, List.length_range] at this
      simp at this
      omega
  · intro h
    have : i = 0 ∨ i = 1 := by omega
    rcases this with rfl | rfl <;> rfl
theorem rngD_get {lo : Int} {n i : Nat} {d : D} (h : (rngD lo n)[i]? = some d) : i < n ∧ d = .int (lo + (i : Nat)) := by
  unfold rngD at h
  rw [List.getElem?_map] at h
  obtain ⟨j, hj, rfl⟩ := Option.map_eq_some_iff.mp h
  rw [List.getElem?_eq_some_iff] at hj
  obtain ⟨h1, h2⟩ := hj
  rw [List.length_range] at h1
  rw [List.getElem_range] at h2
  subst h2
  exact ⟨h1, rfl⟩
theorem rngD_len {lo : Int} {n : Nat} : (rngD lo n).length = n := by simp [rngD]
theorem seqM_lst {μ : Mem} {ds : List D} : seqM μ (.lst ds) = some ds := rfl
theorem mAdd_lst {mk : List D → Mem → Res D} {a b : List D} {μ : Mem} : mAdd mk (.lst a) (.lst b) μ = mk (a ++ b) μ := rfl
theorem ok_iRange1 {α : AM} {ρ : DEnv} {μ : Mem} {Q : Wk → Mem → Prop} (h : Ok (α ρ μ) fun ds μ1 => ∃ j : Int, ds = [.int j] ∧ -(2 ^ 62) ≤ j ∧ j < 2 ^ 62 ∧ Q ⟨rngD 0 j.toNat, fun _ => True⟩ μ1) : Ok (iRange1 α ρ μ) Q := by
  obtain ⟨ds, μ1, h1, j, rfl, h2, h3, h4⟩ := h.eq
  rw [iRange1_of h1 h2 h3]
  exact h4
theorem mLen_lst {ds : List D} {μ : Mem} : mLen [.lst ds] μ = .ok (.int ds.length) μ := by
  unfold mLen seqA seqL
  rfl
theorem mInt_bl {b : Bool} {μ : Mem} : mInt [.bl b] μ = .ok (.int (if b = true then 1 else 0)) μ := rfl
/-- a web's ties -/
def IsTies (n : Int) (ts : List (Int × Int)) : Prop := ∀ t ∈ ts, 0 ≤ t.1 ∧ t.1 < t.2 ∧ t.2 < n
/-- a lot of the first n places -/
def IsLot (n : Int) (lot : List Int) : Prop := lot.Pairwise (· < ·) ∧ ∀ p ∈ lot, 0 ≤ p ∧ p < n
theorem mIn_i {a : Int} {xs : List Int} {μ : Mem} : mIn (.int a) (.lst (xs.map enc)) μ = .ok (.bl (decide (a ∈ xs))) μ := mIn_v (views_enc _ a) (views_enc _ xs)
theorem mNotIn_i {a : Int} {xs : List Int} {μ : Mem} : mNotIn (.int a) (.lst (xs.map enc)) μ = .ok (.bl (!decide (a ∈ xs))) μ := mNotIn_v (views_enc _ a) (views_enc _ xs)
theorem mEq_i {a b : Int} {μ : Mem} : mEq (.int a) (.int b) μ = .ok (.bl (decide (a = b))) μ := mEq_v (views_enc _ a) (views_enc _ b)
theorem mNe_i {a b : Int} {μ : Mem} : mNe (.int a) (.int b) μ = .ok (.bl (!decide (a = b))) μ := mNe_v (views_enc _ a) (views_enc _ b)
theorem mEq_b {a b : Bool} {μ : Mem} : mEq (.bl a) (.bl b) μ = .ok (.bl (decide (a = b))) μ := mEq_v (views_enc _ a) (views_enc _ b)
theorem mNe_b {a b : Bool} {μ : Mem} : mNe (.bl a) (.bl b) μ = .ok (.bl (!decide (a = b))) μ := mNe_v (views_enc _ a) (views_enc _ b)
theorem filter_zipIdx {α : Type} (f : α → Bool) : ∀ (xs : List α) (i : Nat), ((xs.zipIdx i).filter fun p => f p.1).length = (xs.filter f).length
  | [], _ => rfl
  | x :: xs, i => by
    rw [List.zipIdx_cons]
    cases h : f x with
    | true => rw [List.filter_cons_of_pos (by exact h), List.filter_cons_of_pos h, List.length_cons, List.length_cons, filter_zipIdx f xs (i + 1)]
    | false => rw [List.filter_cons_of_neg (by simp [h]), List.filter_cons_of_neg (by simp [h]), filter_zipIdx f xs (i + 1)]
mutual
theorem deref_hf (μ : Mem) : ∀ (d : D), hfree d = true → deref μ d = some d
  | .non, _ => rfl
  | .bl _, _ => rfl
  | .int _, _ => rfl
  | .str _, _ => rfl
  | .scr _, _ => rfl
  | .hnd _, h => by cases h
  | .lst ds, h => by rw [deref, derefs_hf μ ds (by rw [hfree] at h; exact h)]; rfl
  | .tup ds, h => by rw [deref, derefs_hf μ ds (by rw [hfree] at h; exact h)]; rfl
theorem derefs_hf (μ : Mem) : ∀ (ds : List D), hfrees ds = true → derefs μ ds = some ds
  | [], _ => rfl
  | d :: ds, h => by
    rw [hfrees, Bool.and_eq_true] at h
    rw [derefs, deref_hf μ d h.1, derefs_hf μ ds h.2]
end
theorem deref_enc {α : Type} [Enc α] (μ : Mem) (a : α) : deref μ (enc a) = some (enc a) := deref_hf μ _ (Enc.hf a)
theorem deref_cell {α : Type} [Enc α] {μ : Mem} {k : Nat} {xs : List α} (h : μ[k]? = some (some (.lst (xs.map enc)))) : deref μ (.hnd k) = some (enc xs) := by
  rw [deref, h]
  simp only [hfrees_map, if_true]
  rfl
theorem deref_pair {α β : Type} [Enc α] [Enc β] {μ : Mem} {x y : D} {a : α} {b : β} (h1 : deref μ x = some (enc a)) (h2 : deref μ y = some (enc b)) : deref μ (.tup [x, y]) = some (enc (a, b)) := by
  rw [deref, derefs, h1, derefs, h2, derefs]
  rfl
theorem derefs_two {μ : Mem} {x y e f : D} (h1 : deref μ x = some e) (h2 : deref μ y = some f) : derefs μ [x, y] = some [e, f] := by
  rw [derefs, h1, derefs, h2, derefs]
theorem eBM_of {T : String} {f : D → List D → Mem → Res D} {α : EM} {β : AM} {ρ : DEnv} {μ μ1 μ2 : Mem} {d : D} {ds : List D} (h1 : α ρ μ = .ok d μ1) (ht : tyOk T d μ1) (h2 : β ρ μ1 = .ok ds μ2) : eBM T f α β ρ μ = f d ds μ2 := by
  unfold eBM
  rw [h1]
  simp only [Res.bind]
  rw [if_pos ht, h2]
theorem tyOk_lst {ds : List D} {μ : Mem} : tyOk "list" (.lst ds) μ := ⟨rfl, rfl⟩
theorem tyOk_cell {k : Nat} {ds : List D} {μ : Mem} (h : μ[k]? = some (some (.lst ds))) : tyOk "list" (.hnd k) μ := ⟨rfl, by rw [seqL, h]; rfl⟩
theorem mCountI_lst {ns : List Int} {k : Int} {μ : Mem} : mCountI (.lst (ns.map D.int)) [.int k] μ = .ok (.int (ns.count k : Nat)) μ := by
  unfold mCountI intsOf seqL
  simp only [Option.bind_some, asInts_map]
theorem onLst_of {f : List D → List D → Option (D × List D)} {k : Nat} {xs ds es : List D} {e : D} {μ : Mem} (h : μ[k]? = some (some (.lst ds))) (hf : f ds xs = some (e, es)) : onLst f (.hnd k) xs μ = .ok e (μ.set k (some (.lst es))) := by
  unfold onLst
  simp only [h, hf]
theorem mList_seq {mk : List D → Mem → Res D} {d : D} {es : List D} {μ : Mem} (h : seqA μ d = some es) : mList mk [d] μ = mk es μ := by
  unfold mList
  simp only [h]
theorem mIn_iv {a : Int} {xs : List Int} {y : D} {μ : Mem} (h : Views μ y xs) : mIn (.int a) y μ = .ok (.bl (decide (a ∈ xs))) μ := mIn_v (views_enc _ a) h
theorem mNotIn_iv {a : Int} {xs : List Int} {y : D} {μ : Mem} (h : Views μ y xs) : mNotIn (.int a) y μ = .ok (.bl (!decide (a ∈ xs))) μ := mNotIn_v (views_enc _ a) h
theorem iRange3_of {α : AM} {ρ : DEnv} {μ μ1 : Mem} {i j c : Int} {n : Nat} (h : α ρ μ = .ok [.int i, .int j, .int c] μ1) (h1 : RgC i j c n) : iRange3 α ρ μ = .ok ⟨rngC i c n, fun _ => True⟩ μ1 := by
  obtain ⟨h2, h3, h4, h5⟩ := h1
  have e : (Builtin.Range.rangeSize i j c).toNat = n := by rw [h5]; rfl
  unfold iRange3
  rw [h]
  simp only [Res.bind]
  rw [if_pos ⟨h2, h3, h4, by rw [e]; exact h5⟩, e]
theorem rngC_get {lo c : Int} {n i : Nat} {d : D} (h : (rngC lo c n)[i]? = some d) : i < n ∧ d = .int (lo + (i : Nat) * c) := by
  unfold rngC at h
  rw [List.getElem?_map] at h
  obtain ⟨j, hj, rfl⟩ := Option.map_eq_some_iff.mp h
  rw [List.getElem?_eq_some_iff] at hj
  obtain ⟨h1, h2⟩ := hj
  rw [List.length_range] at h1
  rw [List.getElem_range] at h2
  subst h2
  exact ⟨h1, rfl⟩
theorem rngC_len {lo c : Int} {n : Nat} : (rngC lo c n).length = n := by simp [rngC]
theorem app_get {μ : Mem} {k : Nat} {c c' : Option Cell} (h : μ[k]? = some c) : (μ ++ [c'])[k]? = some c := by
  rw [List.getElem?_append_left (List.getElem?_eq_some_iff.mp h).1]
  exact h
theorem app_new {μ : Mem} {c : Option Cell} : (μ ++ [c])[μ.length]? = some c := by simp
theorem get_lt {μ : Mem} {k : Nat} {c : Option Cell} (h : μ[k]? = some c) : k < μ.length := (List.getElem?_eq_some_iff.mp h).1
theorem mAppend_of {k : Nat} {ds : List D} {x : D} {μ : Mem} (h : μ[k]? = some (some (.lst ds))) (hl : ds.length ≤ 16777000) : mAppend (.hnd k) [x] μ = .ok .non (μ.set k (some (.lst (ds ++ [x])))) :=
  onLst_of h (by unfold fAppend; exact if_pos (by rw [sizeLine_eq]; omega))
theorem mClear_of {k : Nat} {ds : List D} {μ : Mem} (h : μ[k]? = some (some (.lst ds))) : mClear (.hnd k) [] μ = .ok .non (μ.set k (some (.lst []))) := onLst_of h rfl
theorem mReverse_of {k : Nat} {ds : List D} {μ : Mem} (h : μ[k]? = some (some (.lst ds))) : mReverse (.hnd k) [] μ = .ok .non (μ.set k (some (.lst ds.reverse))) := onLst_of h rfl
theorem mExtend_of {k : Nat} {ds es : List D} {x : D} {μ : Mem} (h : μ[k]? = some (some (.lst ds))) (hx : seqM μ x = some es) (hl : ds.length + es.length ≤ 16777000) : mExtend (.hnd k) [x] μ = .ok .non (μ.set k (some (.lst (ds ++ es)))) := by
  unfold mExtend
  simp only [hx]
  exact onLst_of h (if_pos (by rw [sizeLine_eq]; omega))

/-- a comprehension that keeps the items of a list that pass a test -/
theorem lc_flt {α : Type} [Enc α] {ε : IM} {tt : TM} {xs : List α} {t : Nat} {ρ : DEnv} {μ : Mem} {chk : Mem → Prop} (q : α → Bool) (hit : ε ρ μ = .ok ⟨xs.map enc, chk⟩ μ) (hc : chk μ) (hl : xs.length ≤ 1000000) (ht : t < ρ.length)
    (htt : ∀ p ∈ xs, tt ((wipeD ρ [t]).set t (some (enc p))) μ = .ok (q p) μ) : eLc mkF ε (gNm t) tt (eVar t) [t] ρ μ = .ok (enc (xs.filter q)) μ := by
  rw [eLc_ok (ds := (xs.filter q).map enc) hit (by rw [List.length_map]; omega) ?_, mkF_ok (by rw [List.length_map]; exact Nat.le_trans (List.length_filter_le _ _) (by omega))]
  · rfl
  · have hw : (wipeD ρ [t]).length = ρ.length := by simp [wipeD]
    refine lcL_pure enc q enc hc xs fun p hp => ⟨_, rfl, htt p hp, fun _ => ?_⟩
    simp only [eVar]
    rw [List.getElem?_set_self (by rw [hw]; exact ht)]
theorem mLen_cell {k : Nat} {ds : List D} {μ : Mem} (h : μ[k]? = some (some (.lst ds))) : mLen [.hnd k] μ = .ok (.int ds.length) μ := by
  unfold mLen seqA seqL
  simp only [h]
theorem erase_perm {α : Type} : ∀ {l : List α} {i : Nat} (h : i < l.length), (l[i] :: l.eraseIdx i).Perm l
  | x :: xs, 0, _ => .refl _
  | x :: xs, i + 1, h => by
    have h' : i < xs.length := by simpa using h
    have := erase_perm h'
    exact (List.Perm.swap x xs[i] _).trans (this.cons x)
theorem map_eraseIdx {α β : Type} (f : α → β) : ∀ (l : List α) (i : Nat), (l.map f).eraseIdx i = (l.eraseIdx i).map f
  | [], _ => rfl
  | _ :: _, 0 => rfl
  | x :: xs, i + 1 => by rw [List.map_cons, List.eraseIdx_cons_succ, List.eraseIdx_cons_succ, List.map_cons, map_eraseIdx f xs i]
/-- one statement at a time; the rest is a letter -/
theorem ok_seq {a b : SM} {ρ : DEnv} {μ : Mem} {Q : Fl → Mem → Prop} (h : ∀ b', b' = b → Ok (a ρ μ) fun f μ1 => match f with
    | .nx ρ1 => Ok (b' ρ1 μ1) Q
    | f => Q f μ1) : Ok (sSeq a b ρ μ) Q := by
  refine Ok.bind ((h b rfl).imp fun f μ1 hf => ?_)
  cases f <;> exact hf
theorem eRev_of {mk : List D → Mem → Res D} {α : EM} {ρ : DEnv} {μ μ1 : Mem} {d : D} {ds : List D} (h : α ρ μ = .ok d μ1) (hs : seqL μ1 d = some ds) : eRev mk α ρ μ = mk ds.reverse μ1 := by
  unfold eRev
  rw [h]
  simp only [Res.bind_ok, hs]
/-! ### memory that keeps its cells -/
def Keeps (μ μ' : Mem) : Prop := ∀ (k : Nat) (c : Option Cell), μ[k]? = some c → μ'[k]? = some c
theorem Keeps.refl (μ : Mem) : Keeps μ μ := fun _ _ h => h
theorem Keeps.trans {μ μ1 μ2 : Mem} (h1 : Keeps μ μ1) (h2 : Keeps μ1 μ2) : Keeps μ μ2 := fun k c h => h2 k c (h1 k c h)
theorem keeps_app {μ : Mem} {c : Option Cell} : Keeps μ (μ ++ [c]) := fun _ _ h => app_get h
theorem keeps_set {μ μ' : Mem} {k : Nat} {c : Option Cell} (h : Keeps μ μ') (hk : μ.length ≤ k) : Keeps μ (μ'.set k c) := fun j d hj => by
  have := get_lt hj
  rw [List.getElem?_set_ne (by omega)]
  exact h j d hj
theorem Keeps.len {μ μ' : Mem} (h : Keeps μ μ') : μ.length ≤ μ'.length := by
  by_cases e : μ.length = 0
  · omega
  · have := get_lt (h (μ.length - 1) _ (List.getElem?_eq_getElem (by omega)))
    omega
theorem seqL_keep {μ μ' : Mem} {d : D} {ds : List D} (k : Keeps μ μ') (h : seqL μ d = some ds) : seqL μ' d = some ds := by
  cases d with
  | hnd j =>
    simp only [seqL] at h ⊢
    cases e : μ[j]? with
    | none => rw [e] at h; cases h
    | some c => rw [k j c e]; rw [e] at h; exact h
  | _ => exact h
theorem mIx_seq {x : D} {ds : List D} {μ : Mem} {i : Int} {j : Nat} {d : D} (hx : seqL μ x = some ds) (e : i = (j : Int)) (h : ds[j]? = some d) : mIx x (.int i) μ = .ok d μ := by
  cases x with
  | lst es => cases hx; exact mIx_lst e h
  | hnd k =>
    simp only [seqL] at hx
    split at hx
    · rename_i es hk
      cases hx
      exact mIx_cell hk e h
    · cases hx
  | scr ns =>
    cases hx
    unfold mIx seqA seqL
    simp only [atI_at e h]
  | _ => cases hx
theorem mLen_seq {x : D} {ds : List D} {μ : Mem} (hx : seqL μ x = some ds) : mLen [x] μ = .ok (.int ds.length) μ := by
  unfold mLen seqA
  cases x with
  | lst es => cases hx; rfl
  | hnd k => simp only [hx]
  | scr ns => cases hx; rfl
  | _ => cases hx
theorem mMin2_i {a b : Int} {μ : Mem} : mMin2 [.int a, .int b] μ = .ok (.int (min a b)) μ := by
  unfold mMin2
  simp only
  congr 2
  split <;> omega
theorem mMax2_i {a b : Int} {μ : Mem} : mMax2 [.int a, .int b] μ = .ok (.int (max a b)) μ := by
  unfold mMax2
  simp only
  congr 2
  split <;> omega
theorem sortI_2 (a b : Int) : sortI [a, b] = [min a b, max a b] := by
  show insI a [b] = _
  unfold insI
  split
  · rw [show min a b = a by omega, show max a b = b by omega]
  · rw [show min a b = b by omega, show max a b = a by omega]; rfl
theorem mAdd_lh {mk : List D → Mem → Res D} {a b : List D} {w : Nat} {μ : Mem} (h : μ[w]? = some (some (.lst b))) : mAdd mk (.lst a) (.hnd w) μ = mk (a ++ b) μ := by
  unfold mAdd seqM
  simp only [h, seqL, seqA]
theorem mPopAt_of {k j : Nat} {i : Int} {ds : List D} {d : D} {μ : Mem} (h : μ[k]? = some (some (.lst ds))) (e : i = (j : Int)) (hd : ds[j]? = some d) (hj : j < 2 ^ 62) : mPopAt (.hnd k) [.int i] μ = .ok d (μ.set k (some (.lst (ds.eraseIdx j)))) := by
  have hlt := (List.getElem?_eq_some_iff.mp hd).1
  subst e
  refine onLst_of h ?_
  unfold fPopAt
  simp only
  rw [if_pos ⟨by omega, by omega⟩, seqIndex_of (by omega) (by omega)]
  simp only [Int.toNat_natCast, hd]
def KeepX (k : Nat) (μ μ' : Mem) : Prop := ∀ (j : Nat) (c : Option Cell), j ≠ k → μ[j]? = some c → μ'[j]? = some c
theorem KeepX.trans {k : Nat} {μ μ1 μ2 : Mem} (h1 : KeepX k μ μ1) (h2 : KeepX k μ1 μ2) : KeepX k μ μ2 := fun j c hj h => h2 j c hj (h1 j c hj h)
theorem Keeps.x {k : Nat} {μ μ' : Mem} (h : Keeps μ μ') : KeepX k μ μ' := fun j c _ e => h j c e
theorem upd_x {k : Nat} {μ μ' : Mem} (h : Upd k μ μ') : KeepX k μ μ' := fun j c hj e => (h.get hj).trans e
theorem keepX_set {k a : Nat} {c : Option Cell} {μ μ' : Mem} (h : KeepX k μ μ') (ha : μ.length ≤ a) : KeepX k μ (μ'.set a c) := fun j d hj e => by
  have := get_lt e
  rw [List.getElem?_set_ne (by omega)]
  exact h j d hj e
theorem mNe_same {x y : D} {p : PyData} {μ : Mem} (h1 : toPy μ x = some p) (h2 : toPy μ y = some p) (hs : SeqAt.shaped p = true) (he : PyData.eqv p p = true) : mNe x y μ = .ok (.bl false) μ := by
  unfold mNe
  rw [h1, h2]
  simp only
  rw [if_pos ⟨hs, hs⟩, he]
  rfl
theorem toPy_two {α β : Type} [Enc α] [Enc β] {x y : D} {a : α} {b : β} {μ : Mem} (h1 : Views μ x a) (h2 : Views μ y b) : toPy μ (.lst [x, y]) = some (.list [Enc.py a, Enc.py b]) := by
  show toPyL (cellPy μ) (.lst [x, y]) = _
  have h1' : toPyL (cellPy μ) x = some (Enc.py a) := h1
  have h2' : toPyL (cellPy μ) y = some (Enc.py b) := h2
  simp only [toPyL, toPyLs, h1', h2']
  rfl
theorem mNe_two {α β : Type} [Enc α] [Enc β] {x y x' y' : D} {a : α} {b : β} {μ : Mem} (h1 : Views μ x a) (h2 : Views μ y b) (h3 : Views μ x' a) (h4 : Views μ y' b) (hd : max (Enc.dp α) (Enc.dp β) ≤ 60) : mNe (.lst [x, y]) (.lst [x', y']) μ = .ok (.bl false) μ := by
  refine mNe_same (toPy_two h1 h2) (toPy_two h3 h4) ?_ ?_
  · unfold SeqAt.shaped
    have d1 := Enc.dep a
    have d2 := Enc.dep b
    simp only [PyData.canLay0, PyData.canLayAll0, Enc.lay, Bool.and_self, Bool.and_true, Bool.true_and, PyData.depth, PyData.depthAll]
    exact decide_eq_true (by omega)
  · simp only [PyData.eqv, PyData.eqvAll, Bool.and_eq_true, and_true]
    exact ⟨(Enc.eqv a a).mpr rfl, (Enc.eqv b b).mpr rfl⟩
theorem pile_lt {μ : Mem} {k : Nat} (p : PileAt μ k) : k < μ.length := by obtain ⟨x, y, z, h⟩ := p; exact get_lt h
theorem pile_app {μ : Mem} {k : Nat} {c : Option Cell} (p : PileAt μ k) : PileAt (μ ++ [c]) k := by obtain ⟨x, y, z, h⟩ := p; exact ⟨x, y, z, app_get h⟩
theorem pile_keep {μ μ' : Mem} {k : Nat} (h : Keeps μ μ') (p : PileAt μ k) : PileAt μ' k := by obtain ⟨x, y, z, e⟩ := p; exact ⟨x, y, z, h _ _ e⟩
theorem set_get {μ : Mem} {j k : Nat} {c d : Option Cell} (h : μ[j]? = some d) (n : j ≠ k) : (μ.set k c)[j]? = some d := by rw [List.getElem?_set_ne n.symm]; exact h
theorem set_new {μ : Mem} {k : Nat} {c d : Option Cell} (h : μ[k]? = some d) : (μ.set k c)[k]? = some c := List.getElem?_set_self (get_lt h)
theorem pile_set {μ : Mem} {j k : Nat} {c : Option Cell} (p : PileAt μ j) (n : j ≠ k) : PileAt (μ.set k c) j := by obtain ⟨x, y, z, e⟩ := p; exact ⟨x, y, z, set_get e n⟩
def rangeL (n : Nat) : List Int := (List.range n).map fun i : Nat => (i : Int)
theorem rangeL_mem {n : Nat} {p : Int} : p ∈ rangeL n ↔ 0 ≤ p ∧ p < n := by
  unfold rangeL
  rw [List.mem_map]
  constructor
  · rintro ⟨i, hi, rfl⟩
    have := List.mem_range.mp hi
    omega
  · rintro ⟨h1, h2⟩
    exact ⟨p.toNat, List.mem_range.mpr (by omega), by omega⟩
theorem rngD_rangeL (n : Nat) : rngD 0 n = (rangeL n).map enc := by
  unfold rngD rangeL
  rw [List.map_map]
  exact List.map_congr_left fun i _ => by show D.int (0 + (i : Int)) = D.int (i : Int); rw [Int.zero_add]
theorem iRange1_L {α : AM} {ρ : DEnv} {μ : Mem} {n : Nat} (h : α ρ μ = .ok [.int n] μ) (h2 : (n : Int) < 2 ^ 62) : iRange1 α ρ μ = .ok ⟨(rangeL n).map enc, fun _ => True⟩ μ := by
  rw [iRange1_of h (by omega) h2, Int.toNat_natCast, rngD_rangeL]
/-! ### slices of lists -/
def cutA {α : Type} (xs : List α) (lo hi : Option Int) : List α := (xs.drop (HT.sIx xs.length 0 lo)).take (HT.sIx xs.length xs.length hi - HT.sIx xs.length 0 lo)
theorem cutD_map {α : Type} (f : α → D) (xs : List α) (lo hi : Option Int) : cutD (xs.map f) lo hi = (cutA xs lo hi).map f := by
  unfold cutD cutA
  rw [List.length_map, List.map_take, List.map_drop]
theorem cutA_mem {α : Type} {xs : List α} {lo hi : Option Int} {x : α} (h : x ∈ cutA xs lo hi) : x ∈ xs := List.mem_of_mem_drop (List.mem_of_mem_take h)
theorem cutA_len {α : Type} (xs : List α) (lo hi : Option Int) : (cutA xs lo hi).length ≤ xs.length := by
  unfold cutA
  rw [List.length_take, List.length_drop]
  omega
theorem cutA_to {α : Type} (xs : List α) (k : Nat) : cutA xs none (some (k : Int)) = xs.take k := by
  unfold cutA HT.sIx
  simp only [List.drop_zero, Nat.sub_zero]
  rw [if_neg (by omega), Int.toNat_natCast]
  by_cases h : k ≤ xs.length
  · rw [Nat.min_eq_left h]
  · rw [Nat.min_eq_right (by omega), List.take_of_length_le (Nat.le_refl _), List.take_of_length_le (by omega)]
theorem cutA_from {α : Type} (xs : List α) (k : Nat) : cutA xs (some (k : Int)) none = xs.drop k := by
  unfold cutA HT.sIx
  simp only
  rw [if_neg (by omega), Int.toNat_natCast]
  by_cases h : k ≤ xs.length
  · rw [Nat.min_eq_left h, List.take_of_length_le (by rw [List.length_drop]; omega)]
  · rw [Nat.min_eq_right (by omega), List.drop_of_length_le (Nat.le_refl _), List.drop_of_length_le (by omega), List.take_nil]
theorem eSl_of {α : Type} {f : α → D} {mk : List D → Mem → Res D} {e : EM} {lo hi : OM} {ρ : DEnv} {μ : Mem} {d : D} {xs : List α} {l u : Option Int} (h : e ρ μ = .ok d μ) (h1 : lo ρ μ = .ok l μ) (h2 : hi ρ μ = .ok u μ) (hs : seqL μ d = some (xs.map f)) : eSl mk e lo hi ρ μ = mk ((cutA xs l u).map f) μ := by
  unfold eSl
  rw [h]
  simp only [Res.bind_ok, h1, h2, hs, cutD_map]
theorem mAdd_ss {mk : List D → Mem → Res D} {x y : D} {a b : List D} {μ : Mem} (h1 : seqM μ x = some a) (h2 : seqM μ y = some b) : mAdd mk x y μ = mk (a ++ b) μ := by
  unfold mAdd
  split
  · cases h1
  · cases h1
  · simp only [h1, h2]
theorem seqM_cell {k : Nat} {ds : List D} {μ : Mem} (h : μ[k]? = some (some (.lst ds))) : seqM μ (.hnd k) = some ds := by
  unfold seqM
  simp only [h]
theorem zip_mem {α : Type} {xs ys : List α} {p : α × α} (h : p ∈ xs.zip ys) : p.1 ∈ xs ∧ p.2 ∈ ys := by
  obtain ⟨a, b⟩ := p
  exact ⟨(List.of_mem_zip h).1, (List.of_mem_zip h).2⟩
end Md

/-! The text's defs at the middle level (printed by gen.py). -/
namespace Lw
open PySem PySem.Spec PyProof.Rows L2 Md

/- has(mask, place); slots 0 mask, 1 place; kind P; cells [] -/
noncomputable def b_has : SM := (sRet (eBin mEq (eBin mAnd (eBin mShr (eVar 0) (eVar 1)) (eC (.int 1))) (eC (.int 1))))
noncomputable def m_has (ds : List D) (μ : Mem) : Res D := runM 2 b_has ds μ
noncomputable def p_has (ds : List D) : PR := runP 2 b_has ds

/- whole(n); slots 0 n; kind P; cells [] -/
noncomputable def b_whole : SM := (sRet (eBin mSub (eBin mShl (eC (.int 1)) (eVar 0)) (eC (.int 1))))
noncomputable def m_whole (ds : List D) (μ : Mem) : Res D := runM 1 b_whole ds μ
noncomputable def p_whole (ds : List D) : PR := runP 1 b_whole ds

/- other_end(tie, s); slots 0 tie, 1 s; kind P; cells [] -/
noncomputable def b_other_end : SM := (sRet (eIf (tst (eBin mEq (eBin mIx (eVar 0) (eC (.int 0))) (eVar 1))) (eBin mIx (eVar 0) (eC (.int 1))) (eBin mIx (eVar 0) (eC (.int 0)))))
noncomputable def m_other_end (ds : List D) (μ : Mem) : Res D := runM 2 b_other_end ds μ
noncomputable def p_other_end (ds : List D) : PR := runP 2 b_other_end ds

/- look_at_place(n, s); slots 0 n, 1 s; kind P; cells [] -/
noncomputable def b_look_at_place : SM := (sIf (tOrM (tst (eBin mLt (eVar 1) (eC (.int 0)))) (tst (eBin mGe (eVar 1) (eVar 0))))
    sBad sNil)
noncomputable def m_look_at_place (ds : List D) (μ : Mem) : Res D := runM 2 b_look_at_place ds μ
noncomputable def p_look_at_place (ds : List D) : PR := runP 2 b_look_at_place ds

/- _law_mixed(_law_cell, _law_k); slots 0 _law_cell, 1 _law_k, 2 _law_number; kind P; cells [] -/
noncomputable def b__law_mixed : SM := (sSeq (sAsg (gNm 2) (eBin mMod (eBin (mAdd mkF) (eBin (mAdd mkF) (eBin (mMul mkF) (eBin mMod (eVar 0) (eC (.int 2147483647))) (eC (.int 48271))) (eBin (mMul mkF) (eVar 1) (eC (.int 69621)))) (eC (.int 11))) (eC (.int 2147483647))))
    (sSeq (sAsg (gNm 2) (eBin mMod (eBin (mMul mkF) (eVar 2) (eVar 2)) (eC (.int 2147483629))))
    (sRet (eBin mDiv (eBin mMod (eBin (mMul mkF) (eVar 2) (eVar 2)) (eC (.int 2147483587))) (eC (.int 64))))))
noncomputable def m__law_mixed (ds : List D) (μ : Mem) : Res D := runM 3 b__law_mixed ds μ
noncomputable def p__law_mixed (ds : List D) : PR := runP 3 b__law_mixed ds

/- _law_pile(_law_script, _law_k); slots 0 _law_script, 1 _law_k, 2 _law_cell; kind M; cells [] -/
noncomputable def b__law_pile : SM := (sSeq (sAsg (gNm 2) (eC (.int 0)))
    (sSeq (sIf (tst (eBin mLt (eVar 1) (eCall mLen (aCons (eVar 0) aNil))))
    (sAsg (gNm 2) (eBin mIx (eVar 0) (eVar 1))) sNil)
    (sRet (eLst mkH (aCons (eBin mIx (eLst mkF (aCons (eC (.int 0)) (aCons (eBin mMod (eVar 2) (eBin (mMul mkF) (eBin (mMul mkF) (eBin mPow (eC (.int 10)) (eC (.int 50))) (eBin mPow (eC (.int 10)) (eC (.int 50)))) (eBin mPow (eC (.int 10)) (eC (.int 50))))) aNil))) (eCall mInt (aCons (eBin mGe (eCall mAbs (aCons (eVar 2) aNil)) (eBin mPow (eC (.int 10)) (eC (.int 18)))) aNil))) (aCons (eBin mMod (eVar 2) (eC (.int 2147483647))) (aCons (eBin (mMul mkF) (eC (.int 97)) (eVar 1)) aNil)))))))
noncomputable def m__law_pile (ds : List D) (μ : Mem) : Res D := runM 3 b__law_pile ds μ
noncomputable def p__law_pile (ds : List D) : PR := runP 3 b__law_pile ds

/- _law_pairs(_law_n); slots 0 _law_n, 1 _law_found, 2 _law_b, 3 _law_a; kind P; cells [] -/
noncomputable def b__law_pairs : SM := (sSeq (sAsg (gNm 1) (eLst mkF aNil))
    (sSeq (sFor (iRange1 (aCons (eVar 0) aNil)) (gNm 2)
    (sAsg (gNm 1) (eBin (mAdd mkF) (eVar 1) (eLc mkF (iRange1 (aCons (eVar 2) aNil)) (gNm 3) tYesM (eTup (aCons (eVar 3) (aCons (eVar 2) aNil))) [3]))))
    (sRet (eVar 1))))
noncomputable def m__law_pairs (ds : List D) (μ : Mem) : Res D := runM 4 b__law_pairs ds μ
noncomputable def p__law_pairs (ds : List D) : PR := runP 4 b__law_pairs ds

/- _law_beside(_law_n, _law_ties, _law_s); slots 0 _law_n, 1 _law_ties, 2 _law_s, 3 _law_found, 4 _law_mask, 5 _law_lot, 6 _law_place, 7 _law_a, 8 _law_b; kind P; cells ['_law_found'] -/
noncomputable def b__law_beside : SM := (sSeq (sAsg (gNm 3) (eLst mkH aNil))
    (sSeq (sFor (iRange2 (aCons (eC (.int 1)) (aCons (eBin mShl (eC (.int 1)) (eVar 0)) aNil))) (gNm 4)
    (sSeq (sAsg (gNm 5) (eLc mkF (iRange1 (aCons (eVar 0) aNil)) (gNm 6) (tst (eBin mEq (eBin mAnd (eBin mShr (eVar 4) (eVar 6)) (eC (.int 1))) (eC (.int 1)))) (eVar 6) [6]))
    (sIf (tAndM (tst (eBin mNotIn (eVar 2) (eVar 5))) (tst (eBin mLt (eCall mLen (aCons (eVar 5) aNil)) (eBin mSub (eVar 0) (eC (.int 1))))))
    (sExpr (eBM "list" mAppend (eVar 3) (aCons (eCall mLen (aCons (eLc mkF (iSeq (eVar 1)) (gTp 2 (gsCons (gNm 7) (gsCons (gNm 8) gsNil))) (tst (eBin mNe (eBin mIn (eVar 7) (eVar 5)) (eBin mIn (eVar 8) (eVar 5)))) (eC (.int 1)) [7, 8]) aNil)) aNil))) sNil)))
    (sRet (eCall mMin (aCons (eVar 3) aNil)))))
noncomputable def m__law_beside (ds : List D) (μ : Mem) : Res D := runM 9 b__law_beside ds μ
noncomputable def p__law_beside (ds : List D) : PR := runP 9 b__law_beside ds

/- lot_of(mask, n); slots 0 mask, 1 n, 2 place; kind P; cells [] -/
noncomputable def b_lot_of : SM := (sRet (eLc mkF (iRange1 (aCons (eVar 1) aNil)) (gNm 2) (tst (eCall (callP p_has) (aCons (eVar 0) (aCons (eVar 2) aNil)))) (eVar 2) [2]))
noncomputable def m_lot_of (ds : List D) (μ : Mem) : Res D := runM 3 b_lot_of ds μ
noncomputable def p_lot_of (ds : List D) : PR := runP 3 b_lot_of ds

/- split(web, s, pairs); slots 0 web, 1 s, 2 pairs, 3 n, 4 ties, 5 gone, 6 new, 7 number, 8 i, 9 j, 10 u, 11 v, 12 tie; kind M; cells ['gone', 'new'] -/
noncomputable def b_split : SM := (sSeq (sAsg (gTp 2 (gsCons (gNm 3) (gsCons (gNm 4) gsNil))) (eVar 0))
    (sSeq (sExpr (eCall (callP p_look_at_place) (aCons (eVar 3) (aCons (eVar 1) aNil))))
    (sSeq (sAsg (gNm 5) (eLst mkH aNil))
    (sSeq (sAsg (gNm 6) (eLst mkH aNil))
    (sSeq (sFor (iEnumM (aCons (eVar 2) aNil)) (gTp 2 (gsCons (gNm 7) (gsCons (gTp 2 (gsCons (gNm 8) (gsCons (gNm 9) gsNil))) gsNil)))
    (sSeq (sIf (tOrM (tst (eBin mLt (eVar 8) (eC (.int 0)))) (tOrM (tst (eBin mGe (eVar 9) (eCall mLen (aCons (eVar 4) aNil)))) (tOrM (tst (eBin mGe (eVar 8) (eVar 9))) (tOrM (tst (eBin mIn (eVar 8) (eVar 5))) (tst (eBin mIn (eVar 9) (eVar 5)))))))
    sBad sNil)
    (sSeq (sIf (tOrM (tst (eBin mNotIn (eVar 1) (eBin mIx (eVar 4) (eVar 8)))) (tst (eBin mNotIn (eVar 1) (eBin mIx (eVar 4) (eVar 9)))))
    sBad sNil)
    (sSeq (sExpr (eBM "list" mExtend (eVar 5) (aCons (eLst mkF (aCons (eVar 8) (aCons (eVar 9) aNil))) aNil)))
    (sSeq (sPar 10 11 (aCons (eCall (callP p_other_end) (aCons (eBin mIx (eVar 4) (eVar 8)) (aCons (eVar 1) aNil))) (aCons (eCall (callP p_other_end) (aCons (eBin mIx (eVar 4) (eVar 9)) (aCons (eVar 1) aNil))) aNil)))
    (sIf (tst (eBin mNe (eVar 10) (eVar 11)))
    (sExpr (eBM "list" mAppend (eVar 6) (aCons (eTup (aCons (eCall mMin2 (aCons (eVar 10) (aCons (eVar 11) aNil))) (aCons (eCall mMax2 (aCons (eVar 10) (aCons (eVar 11) aNil))) aNil))) aNil))) sNil))))))
    (sRet (eTup (aCons (eVar 3) (aCons (eBin (mAdd mkH) (eLc mkF (iEnumM (aCons (eVar 4) aNil)) (gTp 2 (gsCons (gNm 7) (gsCons (gNm 12) gsNil))) (tst (eBin mNotIn (eVar 7) (eVar 5))) (eVar 12) [7, 12]) (eVar 6)) aNil)))))))))
noncomputable def m_split (ds : List D) (μ : Mem) : Res D := runM 13 b_split ds μ
noncomputable def p_split (ds : List D) : PR := runP 13 b_split ds

/- _law_take(_law_pile_here, _law_many); slots 0 _law_pile_here, 1 _law_many, 2 _law_digit; kind M; cells ['_law_pile_here'] -/
noncomputable def b__law_take : SM := (sSeq (sIf (tst (eBin mIn (eBin mIx (eVar 0) (eC (.int 0))) (eLst mkF (aCons (eC (.int 0)) (aCons (eNeg (eC (.int 1))) aNil)))))
    (sSeq (sAsg (gSubM (eVar 0) (eC (.int 2))) (eBin (mAdd mkF) (eBin mIx (eVar 0) (eC (.int 2))) (eC (.int 1))))
    (sRet (eBin mMod (eCall (callP p__law_mixed) (aCons (eBin mIx (eVar 0) (eC (.int 1))) (aCons (eBin mIx (eVar 0) (eC (.int 2))) aNil))) (eVar 1)))) sNil)
    (sSeq (sAsg (gNm 2) (eBin mMod (eBin mIx (eVar 0) (eC (.int 0))) (eVar 1)))
    (sSeq (sAsg (gSubM (eVar 0) (eC (.int 0))) (eBin mDiv (eBin mIx (eVar 0) (eC (.int 0))) (eVar 1)))
    (sRet (eVar 2)))))
noncomputable def m__law_take (ds : List D) (μ : Mem) : Res D := runM 3 b__law_take ds μ
noncomputable def p__law_take (ds : List D) : PR := runP 3 b__law_take ds

/- outs(n, ties); slots 0 n, 1 ties, 2 near, 3 a, 4 b, 5 found, 6 mask, 7 place, 8 rest, 9 inner, 10 other; kind P; cells ['found'] -/
noncomputable def b_outs : SM := (sSeq (sAsg (gNm 2) (eLc mkF (iRange1 (aCons (eVar 0) aNil)) (gNm 7) tYesM (eBin (mMul mkH) (eLst mkF (aCons (eC (.int 0)) aNil)) (eVar 0)) [7]))
    (sSeq (sFor (iSeq (eVar 1)) (gTp 2 (gsCons (gNm 3) (gsCons (gNm 4) gsNil)))
    (sSeq (sAugS (eBin mIx (eVar 2) (eVar 3)) (eVar 4) (eC (.int 1)) (mI0 fun i j => .int (i + j)))
    (sAugS (eBin mIx (eVar 2) (eVar 4)) (eVar 3) (eC (.int 1)) (mI0 fun i j => .int (i + j)))))
    (sSeq (sAsg (gNm 5) (eLst mkH (aCons (eC (.int 0)) aNil)))
    (sSeq (sFor (iRange2 (aCons (eC (.int 1)) (aCons (eBin mShl (eC (.int 1)) (eVar 0)) aNil))) (gNm 6)
    (sSeq (sAsg (gNm 7) (eBin mSub (eBits (eVar 6)) (eC (.int 1))))
    (sSeq (sAsg (gNm 8) (eBin mSub (eVar 6) (eBin mShl (eC (.int 1)) (eVar 7))))
    (sSeq (sAsg (gNm 9) (eCall mSumA (aCons (eLc mkF (iSeq (eCall (callP p_lot_of) (aCons (eVar 8) (aCons (eVar 7) aNil)))) (gNm 10) tYesM (eBin mIx (eBin mIx (eVar 2) (eVar 7)) (eVar 10)) [10]) aNil)))
    (sExpr (eBM "list" mAppend (eVar 5) (aCons (eBin mSub (eBin (mAdd mkF) (eBin mIx (eVar 5) (eVar 8)) (eCall mSumA (aCons (eBin mIx (eVar 2) (eVar 7)) aNil))) (eBin (mMul mkF) (eC (.int 2)) (eVar 9))) aNil)))))))
    (sRet (eVar 5))))))
noncomputable def m_outs (ds : List D) (μ : Mem) : Res D := runM 11 b_outs ds μ
noncomputable def p_outs (ds : List D) : PR := runP 11 b_outs ds

/- _law_ring(_law_pile_here, _law_n); slots 0 _law_pile_here, 1 _law_n, 2 _law_left, 3 _law_order, 4 _law_found, 5 _law_a, 6 _law_b; kind M; cells ['_law_found', '_law_left', '_law_order', '_law_pile_here'] -/
noncomputable def b__law_ring : SM := (sSeq (sAsg (gNm 2) (eListRange mkH (aCons (eVar 1) aNil)))
    (sSeq (sAsg (gNm 3) (eLst mkH aNil))
    (sSeq (sWhile (tst (eBin mNe (eVar 2) (eLst mkF aNil)))
    (sExpr (eBM "list" mAppend (eVar 3) (aCons (eBM "list" mPopAt (eVar 2) (aCons (eCall m__law_take (aCons (eVar 0) (aCons (eCall mLen (aCons (eVar 2) aNil)) aNil))) aNil)) aNil))))
    (sSeq (sAsg (gNm 4) (eLst mkH aNil))
    (sSeq (sFor (iZipM (aCons (eVar 3) (aCons (eBin (mAdd mkF) (eSl mkF (eVar 3) (oSome (eC (.int 1))) oNone) (eSl mkF (eVar 3) oNone (oSome (eC (.int 1))))) aNil))) (gTp 2 (gsCons (gNm 5) (gsCons (gNm 6) gsNil)))
    (sIf (tst (eBin mNe (eVar 5) (eVar 6)))
    (sExpr (eBM "list" mAppend (eVar 4) (aCons (eTup (aCons (eCall mMin2 (aCons (eVar 5) (aCons (eVar 6) aNil))) (aCons (eCall mMax2 (aCons (eVar 5) (aCons (eVar 6) aNil))) aNil))) aNil))) sNil))
    (sRet (eVar 4)))))))
noncomputable def m__law_ring (ds : List D) (μ : Mem) : Res D := runM 7 b__law_ring ds μ
noncomputable def p__law_ring (ds : List D) : PR := runP 7 b__law_ring ds

/- held_beside(web, s); slots 0 web, 1 s, 2 n, 3 ties, 4 others, 5 table, 6 mask; kind P; cells [] -/
noncomputable def b_held_beside : SM := (sSeq (sAsg (gTp 2 (gsCons (gNm 2) (gsCons (gNm 3) gsNil))) (eVar 0))
    (sSeq (sIf (tst (eBin mLt (eVar 2) (eC (.int 3))))
    sBad sNil)
    (sSeq (sExpr (eCall (callP p_look_at_place) (aCons (eVar 2) (aCons (eVar 1) aNil))))
    (sSeq (sAsg (gNm 4) (eBin mSub (eCall (callP p_whole) (aCons (eVar 2) aNil)) (eBin mShl (eC (.int 1)) (eVar 1))))
    (sSeq (sAsg (gNm 5) (eCall (callP p_outs) (aCons (eVar 2) (aCons (eVar 3) aNil))))
    (sRet (eCall mMin (aCons (eLc mkF (iRange2 (aCons (eC (.int 1)) (aCons (eVar 4) aNil))) (gNm 6) (tNotM (tst (eCall (callP p_has) (aCons (eVar 6) (aCons (eVar 1) aNil))))) (eBin mIx (eVar 5) (eVar 6)) [6]) aNil))))))))
noncomputable def m_held_beside (ds : List D) (μ : Mem) : Res D := runM 7 b_held_beside ds μ
noncomputable def p_held_beside (ds : List D) : PR := runP 7 b_held_beside ds

/- _law_held(_law_pile_here, _law_least, _law_most, _law_folds, _law_many); slots 0 _law_pile_here, 1 _law_least, 2 _law_most, 3 _law_folds, 4 _law_many, 5 _law_n, 6 _law_ties, 7 _law_turn, 8 _law_pairs_here, 9 _law_at, 10 _law_found, 11 _law_k; kind M; cells ['_law_found', '_law_pile_here', '_law_ties'] -/
noncomputable def b__law_held : SM := (sSeq (sAsg (gNm 5) (eBin (mAdd mkF) (eVar 1) (eCall m__law_take (aCons (eVar 0) (aCons (eBin mSub (eBin (mAdd mkF) (eVar 2) (eC (.int 1))) (eVar 1)) aNil)))))
    (sSeq (sAsg (gNm 6) (eLst mkH aNil))
    (sSeq (sFor (iRange1 (aCons (eCall m__law_take (aCons (eVar 0) (aCons (eBin (mAdd mkF) (eVar 3) (eC (.int 1))) aNil))) aNil)) (gNm 7)
    (sAsg (gNm 6) (eBin (mAdd mkH) (eVar 6) (eCall m__law_ring (aCons (eVar 0) (aCons (eVar 5) aNil))))))
    (sSeq (sAsg (gNm 8) (eCall (callP p__law_pairs) (aCons (eVar 5) aNil)))
    (sSeq (sIf (tst (eBin mNe (eVar 8) (eLst mkF aNil)))
    (sAsg (gNm 6) (eBin (mAdd mkH) (eVar 6) (eLc mkF (iRange1 (aCons (eCall m__law_take (aCons (eVar 0) (aCons (eBin (mAdd mkF) (eVar 4) (eC (.int 1))) aNil))) aNil)) (gNm 11) tYesM (eBin mIx (eVar 8) (eCall m__law_take (aCons (eVar 0) (aCons (eCall mLen (aCons (eVar 8) aNil)) aNil)))) [11]))) sNil)
    (sSeq (sFor (iRange1 (aCons (eBin mIx (eLst mkF (aCons (eC (.int 0)) (aCons (eC (.int 0)) (aCons (eC (.int 1)) (aCons (eC (.int 2)) aNil))))) (eCall m__law_take (aCons (eVar 0) (aCons (eC (.int 4)) aNil)))) aNil)) (gNm 7)
    (sSeq (sAsg (gNm 9) (eCall m__law_take (aCons (eVar 0) (aCons (eBin (mAdd mkF) (eCall mLen (aCons (eVar 6) aNil)) (eC (.int 1))) aNil))))
    (sAsg (gNm 6) (eBin (mAdd mkH) (eSl mkF (eVar 6) oNone (oSome (eVar 9))) (eSl mkF (eVar 6) (oSome (eBin (mAdd mkF) (eVar 9) (eC (.int 1)))) oNone)))))
    (sSeq (sAsg (gNm 10) (eLst mkH aNil))
    (sSeq (sWhile (tst (eBin mNe (eVar 6) (eLst mkF aNil)))
    (sExpr (eBM "list" mAppend (eVar 10) (aCons (eBM "list" mPopAt (eVar 6) (aCons (eCall m__law_take (aCons (eVar 0) (aCons (eCall mLen (aCons (eVar 6) aNil)) aNil))) aNil)) aNil))))
    (sRet (eTup (aCons (eVar 5) (aCons (eSl mkF (eVar 10) oNone (oSome (eC (.int 40)))) aNil))))))))))))
noncomputable def m__law_held (ds : List D) (μ : Mem) : Res D := runM 12 b__law_held ds μ
noncomputable def p__law_held (ds : List D) : PR := runP 12 b__law_held ds

/- law(_law_script); slots 0 _law_script, 1 _law_at, 2 _law_pile_here, 3 _law_web, 4 _law_n, 5 _law_ties, 6 _law_handed, 7 _law_s, 8 _law_due, 9 _law_told, 10 _law_mine, 11 _law_pairs_here, 12 _law_k, 13 _law_tie, 14 _law_one, 15 _law_other; kind P; cells ['_law_handed', '_law_pile_here'] -/
noncomputable def b_law : SM := (sSeq (sFor (iRange1 (aCons (eC (.int 5)) aNil)) (gNm 1)
    (sSeq (sAsg (gNm 2) (eCall m__law_pile (aCons (eVar 0) (aCons (eVar 1) aNil))))
    (sSeq (sAsg (gNm 3) (eCall m__law_held (aCons (eVar 2) (aCons (eC (.int 3)) (aCons (eC (.int 7)) (aCons (eC (.int 3)) (aCons (eC (.int 10)) aNil)))))))
    (sSeq (sIf (tst (eBin mEq (eCall m__law_take (aCons (eVar 2) (aCons (eC (.int 6)) aNil))) (eC (.int 1))))
    (sAsg (gNm 3) (eTup (aCons (eC (.int 3)) (aCons (eLc mkF (iRange1 (aCons (eC (.int 40)) aNil)) (gNm 12) tYesM (eBin mIx (eCall (callP p__law_pairs) (aCons (eC (.int 3)) aNil)) (eCall m__law_take (aCons (eVar 2) (aCons (eC (.int 3)) aNil)))) [12]) aNil)))) sNil)
    (sSeq (sAsg (gTp 2 (gsCons (gNm 4) (gsCons (gNm 5) gsNil))) (eVar 3))
    (sSeq (sAsg (gNm 6) (eTup (aCons (eVar 4) (aCons (eCall (mList mkH) (aCons (eVar 5) aNil)) aNil))))
    (sSeq (sAsg (gNm 7) (eCall m__law_take (aCons (eVar 2) (aCons (eVar 4) aNil))))
    (sSeq (sAsg (gNm 8) (eCall (callP p__law_beside) (aCons (eVar 4) (aCons (eVar 5) (aCons (eVar 7) aNil)))))
    (sSeq (sAsg (gNm 9) (eCall (callP p_held_beside) (aCons (eVar 6) (aCons (eVar 7) aNil))))
    (sSeq (sIf (tOrM (tst (eBin mNe (eVar 9) (eVar 8))) (tOrM (tNotM (tst (eIsT isIntD (eVar 9)))) (tOrM (tst (eIsT isBoolD (eVar 9))) (tst (eBin mNe (eVar 6) (eVar 3))))))
    (sRet (eC (.bl false))) sNil)
    (sSeq (sAsg (gNm 10) (eLc mkF (iEnumM (aCons (eVar 5) aNil)) (gTp 2 (gsCons (gNm 12) (gsCons (gNm 13) gsNil))) (tst (eBin mIn (eVar 7) (eVar 13))) (eVar 12) [12, 13]))
    (sSeq (sAsg (gNm 11) (eLc mkF (iZipM (aCons (eSlS mkF 2 (eVar 10) oNone oNone) (aCons (eSlS mkF 2 (eVar 10) (oSome (eC (.int 1))) oNone) aNil))) (gTp 2 (gsCons (gNm 14) (gsCons (gNm 15) gsNil))) (tst (eBin mGt (eCall m__law_take (aCons (eVar 2) (aCons (eC (.int 3)) aNil))) (eC (.int 0)))) (eTup (aCons (eVar 14) (aCons (eVar 15) aNil))) [14, 15]))
    (sSeq (sIf (tst (eBin mGt (eCall (callP p_held_beside) (aCons (eCall m_split (aCons (eVar 6) (aCons (eVar 7) (aCons (eVar 11) aNil)))) (aCons (eVar 7) aNil))) (eVar 8)))
    (sRet (eC (.bl false))) sNil)
    (sSeq (sIf (tst (eBin mEq (eCall mLen (aCons (eVar 5) aNil)) (eC (.int 40))))
    (sExpr (eBM "list" mPop (eBin mIx (eVar 6) (eC (.int 1))) aNil)) sNil)
    (sSeq (sAsg (gNm 8) (eCall (callP p__law_beside) (aCons (eVar 4) (aCons (eBin mIx (eVar 6) (eC (.int 1))) (aCons (eVar 7) aNil)))))
    (sSeq (sExpr (eBM "list" mAppend (eBin mIx (eVar 6) (eC (.int 1))) (aCons (eBin mIx (eCall (callP p__law_pairs) (aCons (eVar 4) aNil)) (eCall m__law_take (aCons (eVar 2) (aCons (eBin mDiv (eBin (mMul mkF) (eVar 4) (eBin mSub (eVar 4) (eC (.int 1)))) (eC (.int 2))) aNil)))) aNil)))
    (sIf (tOrM (tst (eBin mLt (eCall (callP p_held_beside) (aCons (eVar 6) (aCons (eVar 7) aNil))) (eVar 8))) (tst (eBin mNe (eCall (callP p_held_beside) (aCons (eVar 6) (aCons (eVar 7) aNil))) (eCall (callP p__law_beside) (aCons (eVar 4) (aCons (eBin mIx (eVar 6) (eC (.int 1))) (aCons (eVar 7) aNil)))))))
    (sRet (eC (.bl false))) sNil)))))))))))))))))
    (sRet (eC (.bl true))))
noncomputable def m_law (ds : List D) (μ : Mem) : Res D := runM 16 b_law ds μ
noncomputable def p_law (ds : List D) : PR := runP 16 b_law ds

end Lw

namespace Lw
open PySem PySem.Spec PyProof.Rows L2 Md
open Md.Enc (enc)
theorem p_mixed_ok (c k : Int) : ∃ v : Int, p__law_mixed [.int c, .int k] = .ok (.int v) := by
  have h : ∃ v : Int, Ok (runM 3 b__law_mixed [.int c, .int k] []) fun d _ => d = .int v := by
    unfold runM b__law_mixed
    try simp only [sSeq, sNil, sPass, sIf, sRet, sRetN, sExpr, sAsg, sAug, sPar, sBrk, sCont, eVar, eC, eBin, eNeg, eNot, eAnd, eOr, eIf, eChain, eLst, eTup, eCall, tst, tAndM, tOrM, tNotM, aNil, aCons, gNm, gsNil, gsCons, gTp, gSubM, oNone, oSome, mI0, mSub, mLt, mLe, mGt, mGe, Res.bind_ok, flD, List.getElem?_cons_zero, List.getElem?_cons_succ, List.set_cons_zero, List.set_cons_succ, List.length_cons, List.length_nil, if_true, reduceIte, decide_eq_true_eq, Bool.false_eq_true, Bool.true_eq_false, ok_ok, bnd_assoc, bind_ite, ok_ite, mkF_0, mkF_1, mkF_2, mkF_3, mkF_4, mkF_5, mkF_6, mkT_1, mkT_2, mkT_3, mkH_0, mkH_1, mkH_3, frame, List.map_cons, List.map_nil, List.cons_append, List.nil_append, List.replicate, Nat.sub_self, Nat.reduceSub, Nat.reduceAdd, Nat.reduceEqDiff]
    have m1 : 0 ≤ c % 2147483647 ∧ c % 2147483647 < 2147483647 := ⟨Int.emod_nonneg _ (by decide), Int.emod_lt_of_pos _ (by decide)⟩
    rw [mMod_int (by decide)]
    try simp only [sSeq, sNil, sPass, sIf, sRet, sRetN, sExpr, sAsg, sAug, sPar, sBrk, sCont, eVar, eC, eBin, eNeg, eNot, eAnd, eOr, eIf, eChain, eLst, eTup, eCall, tst, tAndM, tOrM, tNotM, aNil, aCons, gNm, gsNil, gsCons, gTp, gSubM, oNone, oSome, mI0, mSub, mLt, mLe, mGt, mGe, Res.bind_ok, flD, List.getElem?_cons_zero, List.getElem?_cons_succ, List.set_cons_zero, List.set_cons_succ, List.length_cons, List.length_nil, if_true, reduceIte, decide_eq_true_eq, Bool.false_eq_true, Bool.true_eq_false, ok_ok, bnd_assoc, bind_ite, ok_ite, mkF_0, mkF_1, mkF_2, mkF_3, mkF_4, mkF_5, mkF_6, mkT_1, mkT_2, mkT_3, mkH_0, mkH_1, mkH_3, frame, List.map_cons, List.map_nil, List.cons_append, List.nil_append, List.replicate, Nat.sub_self, Nat.reduceSub, Nat.reduceAdd, Nat.reduceEqDiff]
    rw [mMul_int (mulOk_r (by decide) (by decide))]
    try simp only [sSeq, sNil, sPass, sIf, sRet, sRetN, sExpr, sAsg, sAug, sPar, sBrk, sCont, eVar, eC, eBin, eNeg, eNot, eAnd, eOr, eIf, eChain, eLst, eTup, eCall, tst, tAndM, tOrM, tNotM, aNil, aCons, gNm, gsNil, gsCons, gTp, gSubM, oNone, oSome, mI0, mSub, mLt, mLe, mGt, mGe, Res.bind_ok, flD, List.getElem?_cons_zero, List.getElem?_cons_succ, List.set_cons_zero, List.set_cons_succ, List.length_cons, List.length_nil, if_true, reduceIte, decide_eq_true_eq, Bool.false_eq_true, Bool.true_eq_false, ok_ok, bnd_assoc, bind_ite, ok_ite, mkF_0, mkF_1, mkF_2, mkF_3, mkF_4, mkF_5, mkF_6, mkT_1, mkT_2, mkT_3, mkH_0, mkH_1, mkH_3, frame, List.map_cons, List.map_nil, List.cons_append, List.nil_append, List.replicate, Nat.sub_self, Nat.reduceSub, Nat.reduceAdd, Nat.reduceEqDiff]
    rw [mMul_int (mulOk_r (by decide) (by decide))]
    simp only [sSeq, sNil, sPass, sIf, sRet, sRetN, sExpr, sAsg, sAug, sPar, sBrk, sCont, eVar, eC, eBin, eNeg, eNot, eAnd, eOr, eIf, eChain, eLst, eTup, eCall, tst, tAndM, tOrM, tNotM, aNil, aCons, gNm, gsNil, gsCons, gTp, gSubM, oNone, oSome, mI0, mSub, mLt, mLe, mGt, mGe, Res.bind_ok, flD, List.getElem?_cons_zero, List.getElem?_cons_succ, List.set_cons_zero, List.set_cons_succ, List.length_cons, List.length_nil, if_true, reduceIte, decide_eq_true_eq, Bool.false_eq_true, Bool.true_eq_false, ok_ok, bnd_assoc, bind_ite, ok_ite, mkF_0, mkF_1, mkF_2, mkF_3, mkF_4, mkF_5, mkF_6, mkT_1, mkT_2, mkT_3, mkH_0, mkH_1, mkH_3, frame, List.map_cons, List.map_nil, List.cons_append, List.nil_append, List.replicate, Nat.sub_self, Nat.reduceSub, Nat.reduceAdd, Nat.reduceEqDiff, mAdd_int]
    rw [mMod_int (by decide)]
    try simp only [sSeq, sNil, sPass, sIf, sRet, sRetN, sExpr, sAsg, sAug, sPar, sBrk, sCont, eVar, eC, eBin, eNeg, eNot, eAnd, eOr, eIf, eChain, eLst, eTup, eCall, tst, tAndM, tOrM, tNotM, aNil, aCons, gNm, gsNil, gsCons, gTp, gSubM, oNone, oSome, mI0, mSub, mLt, mLe, mGt, mGe, Res.bind_ok, flD, List.getElem?_cons_zero, List.getElem?_cons_succ, List.set_cons_zero, List.set_cons_succ, List.length_cons, List.length_nil, if_true, reduceIte, decide_eq_true_eq, Bool.false_eq_true, Bool.true_eq_false, ok_ok, bnd_assoc, bind_ite, ok_ite, mkF_0, mkF_1, mkF_2, mkF_3, mkF_4, mkF_5, mkF_6, mkT_1, mkT_2, mkT_3, mkH_0, mkH_1, mkH_3, frame, List.map_cons, List.map_nil, List.cons_append, List.nil_append, List.replicate, Nat.sub_self, Nat.reduceSub, Nat.reduceAdd, Nat.reduceEqDiff]
    generalize hx : (c % 2147483647 * 48271 + k * 69621 + 11) % 2147483647 = x
    have m2 : 0 ≤ x ∧ x < 2147483647 := by rw [← hx]; exact ⟨Int.emod_nonneg _ (by decide), Int.emod_lt_of_pos _ (by decide)⟩
    rw [mMul_int (mulOk_r (by omega) (by omega))]
    try simp only [sSeq, sNil, sPass, sIf, sRet, sRetN, sExpr, sAsg, sAug, sPar, sBrk, sCont, eVar, eC, eBin, eNeg, eNot, eAnd, eOr, eIf, eChain, eLst, eTup, eCall, tst, tAndM, tOrM, tNotM, aNil, aCons, gNm, gsNil, gsCons, gTp, gSubM, oNone, oSome, mI0, mSub, mLt, mLe, mGt, mGe, Res.bind_ok, flD, List.getElem?_cons_zero, List.getElem?_cons_succ, List.set_cons_zero, List.set_cons_succ, List.length_cons, List.length_nil, if_true, reduceIte, decide_eq_true_eq, Bool.false_eq_true, Bool.true_eq_false, ok_ok, bnd_assoc, bind_ite, ok_ite, mkF_0, mkF_1, mkF_2, mkF_3, mkF_4, mkF_5, mkF_6, mkT_1, mkT_2, mkT_3, mkH_0, mkH_1, mkH_3, frame, List.map_cons, List.map_nil, List.cons_append, List.nil_append, List.replicate, Nat.sub_self, Nat.reduceSub, Nat.reduceAdd, Nat.reduceEqDiff]
    rw [mMod_int (by decide)]
    try simp only [sSeq, sNil, sPass, sIf, sRet, sRetN, sExpr, sAsg, sAug, sPar, sBrk, sCont, eVar, eC, eBin, eNeg, eNot, eAnd, eOr, eIf, eChain, eLst, eTup, eCall, tst, tAndM, tOrM, tNotM, aNil, aCons, gNm, gsNil, gsCons, gTp, gSubM, oNone, oSome, mI0, mSub, mLt, mLe, mGt, mGe, Res.bind_ok, flD, List.getElem?_cons_zero, List.getElem?_cons_succ, List.set_cons_zero, List.set_cons_succ, List.length_cons, List.length_nil, if_true, reduceIte, decide_eq_true_eq, Bool.false_eq_true, Bool.true_eq_false, ok_ok, bnd_assoc, bind_ite, ok_ite, mkF_0, mkF_1, mkF_2, mkF_3, mkF_4, mkF_5, mkF_6, mkT_1, mkT_2, mkT_3, mkH_0, mkH_1, mkH_3, frame, List.map_cons, List.map_nil, List.cons_append, List.nil_append, List.replicate, Nat.sub_self, Nat.reduceSub, Nat.reduceAdd, Nat.reduceEqDiff]
    generalize hy : x * x % 2147483629 = y
    have m3 : 0 ≤ y ∧ y < 2147483629 := by rw [← hy]; exact ⟨Int.emod_nonneg _ (by decide), Int.emod_lt_of_pos _ (by decide)⟩
    rw [mMul_int (mulOk_r (by omega) (by omega))]
    try simp only [sSeq, sNil, sPass, sIf, sRet, sRetN, sExpr, sAsg, sAug, sPar, sBrk, sCont, eVar, eC, eBin, eNeg, eNot, eAnd, eOr, eIf, eChain, eLst, eTup, eCall, tst, tAndM, tOrM, tNotM, aNil, aCons, gNm, gsNil, gsCons, gTp, gSubM, oNone, oSome, mI0, mSub, mLt, mLe, mGt, mGe, Res.bind_ok, flD, List.getElem?_cons_zero, List.getElem?_cons_succ, List.set_cons_zero, List.set_cons_succ, List.length_cons, List.length_nil, if_true, reduceIte, decide_eq_true_eq, Bool.false_eq_true, Bool.true_eq_false, ok_ok, bnd_assoc, bind_ite, ok_ite, mkF_0, mkF_1, mkF_2, mkF_3, mkF_4, mkF_5, mkF_6, mkT_1, mkT_2, mkT_3, mkH_0, mkH_1, mkH_3, frame, List.map_cons, List.map_nil, List.cons_append, List.nil_append, List.replicate, Nat.sub_self, Nat.reduceSub, Nat.reduceAdd, Nat.reduceEqDiff]
    rw [mMod_int (by decide)]
    try simp only [sSeq, sNil, sPass, sIf, sRet, sRetN, sExpr, sAsg, sAug, sPar, sBrk, sCont, eVar, eC, eBin, eNeg, eNot, eAnd, eOr, eIf, eChain, eLst, eTup, eCall, tst, tAndM, tOrM, tNotM, aNil, aCons, gNm, gsNil, gsCons, gTp, gSubM, oNone, oSome, mI0, mSub, mLt, mLe, mGt, mGe, Res.bind_ok, flD, List.getElem?_cons_zero, List.getElem?_cons_succ, List.set_cons_zero, List.set_cons_succ, List.length_cons, List.length_nil, if_true, reduceIte, decide_eq_true_eq, Bool.false_eq_true, Bool.true_eq_false, ok_ok, bnd_assoc, bind_ite, ok_ite, mkF_0, mkF_1, mkF_2, mkF_3, mkF_4, mkF_5, mkF_6, mkT_1, mkT_2, mkT_3, mkH_0, mkH_1, mkH_3, frame, List.map_cons, List.map_nil, List.cons_append, List.nil_append, List.replicate, Nat.sub_self, Nat.reduceSub, Nat.reduceAdd, Nat.reduceEqDiff]
    rw [mDiv_int (by decide) (by decide)]
    try simp only [sSeq, sNil, sPass, sIf, sRet, sRetN, sExpr, sAsg, sAug, sPar, sBrk, sCont, eVar, eC, eBin, eNeg, eNot, eAnd, eOr, eIf, eChain, eLst, eTup, eCall, tst, tAndM, tOrM, tNotM, aNil, aCons, gNm, gsNil, gsCons, gTp, gSubM, oNone, oSome, mI0, mSub, mLt, mLe, mGt, mGe, Res.bind_ok, flD, List.getElem?_cons_zero, List.getElem?_cons_succ, List.set_cons_zero, List.set_cons_succ, List.length_cons, List.length_nil, if_true, reduceIte, decide_eq_true_eq, Bool.false_eq_true, Bool.true_eq_false, ok_ok, bnd_assoc, bind_ite, ok_ite, mkF_0, mkF_1, mkF_2, mkF_3, mkF_4, mkF_5, mkF_6, mkT_1, mkT_2, mkT_3, mkH_0, mkH_1, mkH_3, frame, List.map_cons, List.map_nil, List.cons_append, List.nil_append, List.replicate, Nat.sub_self, Nat.reduceSub, Nat.reduceAdd, Nat.reduceEqDiff]
    exact ⟨_, rfl⟩
  obtain ⟨v, h⟩ := h
  exact ⟨v, runP_of h rfl⟩
theorem m_take_ok {k : Nat} {many : Int} {μ : Mem} (p : PileAt μ k) (h0 : 0 < many) (h1 : many < 2 ^ 64) : Ok (m__law_take [.hnd k, .int many] μ) fun d μ' => ∃ v : Int, d = .int v ∧ 0 ≤ v ∧ v < many ∧ Upd k μ μ' := by
  obtain ⟨x, y, z, e⟩ := p
  have hk : k < μ.length := (List.getElem?_eq_some_iff.mp e).1
  unfold m__law_take runM b__law_take
  try simp only [sSeq, sNil, sPass, sIf, sRet, sRetN, sExpr, sAsg, sAug, sPar, sBrk, sCont, eVar, eC, eBin, eNeg, eNot, eAnd, eOr, eIf, eChain, eLst, eTup, eCall, tst, tAndM, tOrM, tNotM, aNil, aCons, gNm, gsNil, gsCons, gTp, gSubM, oNone, oSome, mI0, mSub, mLt, mLe, mGt, mGe, Res.bind_ok, flD, List.getElem?_cons_zero, List.getElem?_cons_succ, List.set_cons_zero, List.set_cons_succ, List.length_cons, List.length_nil, if_true, reduceIte, decide_eq_true_eq, Bool.false_eq_true, Bool.true_eq_false, ok_ok, bnd_assoc, bind_ite, ok_ite, mkF_0, mkF_1, mkF_2, mkF_3, mkF_4, mkF_5, mkF_6, mkT_1, mkT_2, mkT_3, mkH_0, mkH_1, mkH_3, frame, List.map_cons, List.map_nil, List.cons_append, List.nil_append, List.replicate, Nat.sub_self, Nat.reduceSub, Nat.reduceAdd, Nat.reduceEqDiff]
  rw [mIx_cell (i := 0) (j := 0) e rfl rfl]
  try simp only [sSeq, sNil, sPass, sIf, sRet, sRetN, sExpr, sAsg, sAug, sPar, sBrk, sCont, eVar, eC, eBin, eNeg, eNot, eAnd, eOr, eIf, eChain, eLst, eTup, eCall, tst, tAndM, tOrM, tNotM, aNil, aCons, gNm, gsNil, gsCons, gTp, gSubM, oNone, oSome, mI0, mSub, mLt, mLe, mGt, mGe, Res.bind_ok, flD, List.getElem?_cons_zero, List.getElem?_cons_succ, List.set_cons_zero, List.set_cons_succ, List.length_cons, List.length_nil, if_true, reduceIte, decide_eq_true_eq, Bool.false_eq_true, Bool.true_eq_false, ok_ok, bnd_assoc, bind_ite, ok_ite, mkF_0, mkF_1, mkF_2, mkF_3, mkF_4, mkF_5, mkF_6, mkT_1, mkT_2, mkT_3, mkH_0, mkH_1, mkH_3, frame, List.map_cons, List.map_nil, List.cons_append, List.nil_append, List.replicate, Nat.sub_self, Nat.reduceSub, Nat.reduceAdd, Nat.reduceEqDiff]
  rw [show (D.lst [.int 0, .int (-1)]) = enc ([0, -1] : List Int) from rfl, show D.int x = enc x from rfl, mIn_v (views_enc _ x) (views_enc _ _)]
  try simp only [sSeq, sNil, sPass, sIf, sRet, sRetN, sExpr, sAsg, sAug, sPar, sBrk, sCont, eVar, eC, eBin, eNeg, eNot, eAnd, eOr, eIf, eChain, eLst, eTup, eCall, tst, tAndM, tOrM, tNotM, aNil, aCons, gNm, gsNil, gsCons, gTp, gSubM, oNone, oSome, mI0, mSub, mLt, mLe, mGt, mGe, Res.bind_ok, flD, List.getElem?_cons_zero, List.getElem?_cons_succ, List.set_cons_zero, List.set_cons_succ, List.length_cons, List.length_nil, if_true, reduceIte, decide_eq_true_eq, Bool.false_eq_true, Bool.true_eq_false, ok_ok, bnd_assoc, bind_ite, ok_ite, mkF_0, mkF_1, mkF_2, mkF_3, mkF_4, mkF_5, mkF_6, mkT_1, mkT_2, mkT_3, mkH_0, mkH_1, mkH_3, frame, List.map_cons, List.map_nil, List.cons_append, List.nil_append, List.replicate, Nat.sub_self, Nat.reduceSub, Nat.reduceAdd, Nat.reduceEqDiff]
  split
  · rw [mIx_cell (i := 2) (j := 2) e rfl rfl]
    simp only [sSeq, sNil, sPass, sIf, sRet, sRetN, sExpr, sAsg, sAug, sPar, sBrk, sCont, eVar, eC, eBin, eNeg, eNot, eAnd, eOr, eIf, eChain, eLst, eTup, eCall, tst, tAndM, tOrM, tNotM, aNil, aCons, gNm, gsNil, gsCons, gTp, gSubM, oNone, oSome, mI0, mSub, mLt, mLe, mGt, mGe, Res.bind_ok, flD, List.getElem?_cons_zero, List.getElem?_cons_succ, List.set_cons_zero, List.set_cons_succ, List.length_cons, List.length_nil, if_true, reduceIte, decide_eq_true_eq, Bool.false_eq_true, Bool.true_eq_false, ok_ok, bnd_assoc, bind_ite, ok_ite, mkF_0, mkF_1, mkF_2, mkF_3, mkF_4, mkF_5, mkF_6, mkT_1, mkT_2, mkT_3, mkH_0, mkH_1, mkH_3, frame, List.map_cons, List.map_nil, List.cons_append, List.nil_append, List.replicate, Nat.sub_self, Nat.reduceSub, Nat.reduceAdd, Nat.reduceEqDiff, mAdd_int]
    rw [mSetIx_cell (i := 2) (j := 2) e rfl (by simp)]
    try simp only [sSeq, sNil, sPass, sIf, sRet, sRetN, sExpr, sAsg, sAug, sPar, sBrk, sCont, eVar, eC, eBin, eNeg, eNot, eAnd, eOr, eIf, eChain, eLst, eTup, eCall, tst, tAndM, tOrM, tNotM, aNil, aCons, gNm, gsNil, gsCons, gTp, gSubM, oNone, oSome, mI0, mSub, mLt, mLe, mGt, mGe, Res.bind_ok, flD, List.getElem?_cons_zero, List.getElem?_cons_succ, List.set_cons_zero, List.set_cons_succ, List.length_cons, List.length_nil, if_true, reduceIte, decide_eq_true_eq, Bool.false_eq_true, Bool.true_eq_false, ok_ok, bnd_assoc, bind_ite, ok_ite, mkF_0, mkF_1, mkF_2, mkF_3, mkF_4, mkF_5, mkF_6, mkT_1, mkT_2, mkT_3, mkH_0, mkH_1, mkH_3, frame, List.map_cons, List.map_nil, List.cons_append, List.nil_append, List.replicate, Nat.sub_self, Nat.reduceSub, Nat.reduceAdd, Nat.reduceEqDiff]
    have e2 : (μ.set k (some (.lst [.int x, .int y, .int (z + 1)])))[k]? = some (some (.lst [.int x, .int y, .int (z + 1)])) := List.getElem?_set_self hk
    rw [mIx_cell (i := 1) (j := 1) e2 rfl rfl]
    try simp only [sSeq, sNil, sPass, sIf, sRet, sRetN, sExpr, sAsg, sAug, sPar, sBrk, sCont, eVar, eC, eBin, eNeg, eNot, eAnd, eOr, eIf, eChain, eLst, eTup, eCall, tst, tAndM, tOrM, tNotM, aNil, aCons, gNm, gsNil, gsCons, gTp, gSubM, oNone, oSome, mI0, mSub, mLt, mLe, mGt, mGe, Res.bind_ok, flD, List.getElem?_cons_zero, List.getElem?_cons_succ, List.set_cons_zero, List.set_cons_succ, List.length_cons, List.length_nil, if_true, reduceIte, decide_eq_true_eq, Bool.false_eq_true, Bool.true_eq_false, ok_ok, bnd_assoc, bind_ite, ok_ite, mkF_0, mkF_1, mkF_2, mkF_3, mkF_4, mkF_5, mkF_6, mkT_1, mkT_2, mkT_3, mkH_0, mkH_1, mkH_3, frame, List.map_cons, List.map_nil, List.cons_append, List.nil_append, List.replicate, Nat.sub_self, Nat.reduceSub, Nat.reduceAdd, Nat.reduceEqDiff]
    rw [mIx_cell (i := 2) (j := 2) e2 rfl rfl]
    try simp only [sSeq, sNil, sPass, sIf, sRet, sRetN, sExpr, sAsg, sAug, sPar, sBrk, sCont, eVar, eC, eBin, eNeg, eNot, eAnd, eOr, eIf, eChain, eLst, eTup, eCall, tst, tAndM, tOrM, tNotM, aNil, aCons, gNm, gsNil, gsCons, gTp, gSubM, oNone, oSome, mI0, mSub, mLt, mLe, mGt, mGe, Res.bind_ok, flD, List.getElem?_cons_zero, List.getElem?_cons_succ, List.set_cons_zero, List.set_cons_succ, List.length_cons, List.length_nil, if_true, reduceIte, decide_eq_true_eq, Bool.false_eq_true, Bool.true_eq_false, ok_ok, bnd_assoc, bind_ite, ok_ite, mkF_0, mkF_1, mkF_2, mkF_3, mkF_4, mkF_5, mkF_6, mkT_1, mkT_2, mkT_3, mkH_0, mkH_1, mkH_3, frame, List.map_cons, List.map_nil, List.cons_append, List.nil_append, List.replicate, Nat.sub_self, Nat.reduceSub, Nat.reduceAdd, Nat.reduceEqDiff]
    obtain ⟨v, hv⟩ := p_mixed_ok y (z + 1)
    rw [callP_ok_of rfl hv]
    try simp only [sSeq, sNil, sPass, sIf, sRet, sRetN, sExpr, sAsg, sAug, sPar, sBrk, sCont, eVar, eC, eBin, eNeg, eNot, eAnd, eOr, eIf, eChain, eLst, eTup, eCall, tst, tAndM, tOrM, tNotM, aNil, aCons, gNm, gsNil, gsCons, gTp, gSubM, oNone, oSome, mI0, mSub, mLt, mLe, mGt, mGe, Res.bind_ok, flD, List.getElem?_cons_zero, List.getElem?_cons_succ, List.set_cons_zero, List.set_cons_succ, List.length_cons, List.length_nil, if_true, reduceIte, decide_eq_true_eq, Bool.false_eq_true, Bool.true_eq_false, ok_ok, bnd_assoc, bind_ite, ok_ite, mkF_0, mkF_1, mkF_2, mkF_3, mkF_4, mkF_5, mkF_6, mkT_1, mkT_2, mkT_3, mkH_0, mkH_1, mkH_3, frame, List.map_cons, List.map_nil, List.cons_append, List.nil_append, List.replicate, Nat.sub_self, Nat.reduceSub, Nat.reduceAdd, Nat.reduceEqDiff]
    rw [mMod_int h0]
    exact ⟨_, rfl, Int.emod_nonneg _ (by omega), Int.emod_lt_of_pos _ h0, x, y, z + 1, rfl⟩
  · rw [mIx_cell (i := 0) (j := 0) e rfl rfl]
    try simp only [sSeq, sNil, sPass, sIf, sRet, sRetN, sExpr, sAsg, sAug, sPar, sBrk, sCont, eVar, eC, eBin, eNeg, eNot, eAnd, eOr, eIf, eChain, eLst, eTup, eCall, tst, tAndM, tOrM, tNotM, aNil, aCons, gNm, gsNil, gsCons, gTp, gSubM, oNone, oSome, mI0, mSub, mLt, mLe, mGt, mGe, Res.bind_ok, flD, List.getElem?_cons_zero, List.getElem?_cons_succ, List.set_cons_zero, List.set_cons_succ, List.length_cons, List.length_nil, if_true, reduceIte, decide_eq_true_eq, Bool.false_eq_true, Bool.true_eq_false, ok_ok, bnd_assoc, bind_ite, ok_ite, mkF_0, mkF_1, mkF_2, mkF_3, mkF_4, mkF_5, mkF_6, mkT_1, mkT_2, mkT_3, mkH_0, mkH_1, mkH_3, frame, List.map_cons, List.map_nil, List.cons_append, List.nil_append, List.replicate, Nat.sub_self, Nat.reduceSub, Nat.reduceAdd, Nat.reduceEqDiff]
    rw [mMod_int h0]
    try simp only [sSeq, sNil, sPass, sIf, sRet, sRetN, sExpr, sAsg, sAug, sPar, sBrk, sCont, eVar, eC, eBin, eNeg, eNot, eAnd, eOr, eIf, eChain, eLst, eTup, eCall, tst, tAndM, tOrM, tNotM, aNil, aCons, gNm, gsNil, gsCons, gTp, gSubM, oNone, oSome, mI0, mSub, mLt, mLe, mGt, mGe, Res.bind_ok, flD, List.getElem?_cons_zero, List.getElem?_cons_succ, List.set_cons_zero, List.set_cons_succ, List.length_cons, List.length_nil, if_true, reduceIte, decide_eq_true_eq, Bool.false_eq_true, Bool.true_eq_false, ok_ok, bnd_assoc, bind_ite, ok_ite, mkF_0, mkF_1, mkF_2, mkF_3, mkF_4, mkF_5, mkF_6, mkT_1, mkT_2, mkT_3, mkH_0, mkH_1, mkH_3, frame, List.map_cons, List.map_nil, List.cons_append, List.nil_append, List.replicate, Nat.sub_self, Nat.reduceSub, Nat.reduceAdd, Nat.reduceEqDiff]
    rw [mIx_cell (i := 0) (j := 0) e rfl rfl]
    try simp only [sSeq, sNil, sPass, sIf, sRet, sRetN, sExpr, sAsg, sAug, sPar, sBrk, sCont, eVar, eC, eBin, eNeg, eNot, eAnd, eOr, eIf, eChain, eLst, eTup, eCall, tst, tAndM, tOrM, tNotM, aNil, aCons, gNm, gsNil, gsCons, gTp, gSubM, oNone, oSome, mI0, mSub, mLt, mLe, mGt, mGe, Res.bind_ok, flD, List.getElem?_cons_zero, List.getElem?_cons_succ, List.set_cons_zero, List.set_cons_succ, List.length_cons, List.length_nil, if_true, reduceIte, decide_eq_true_eq, Bool.false_eq_true, Bool.true_eq_false, ok_ok, bnd_assoc, bind_ite, ok_ite, mkF_0, mkF_1, mkF_2, mkF_3, mkF_4, mkF_5, mkF_6, mkT_1, mkT_2, mkT_3, mkH_0, mkH_1, mkH_3, frame, List.map_cons, List.map_nil, List.cons_append, List.nil_append, List.replicate, Nat.sub_self, Nat.reduceSub, Nat.reduceAdd, Nat.reduceEqDiff]
    rw [mDiv_int h0 h1]
    try simp only [sSeq, sNil, sPass, sIf, sRet, sRetN, sExpr, sAsg, sAug, sPar, sBrk, sCont, eVar, eC, eBin, eNeg, eNot, eAnd, eOr, eIf, eChain, eLst, eTup, eCall, tst, tAndM, tOrM, tNotM, aNil, aCons, gNm, gsNil, gsCons, gTp, gSubM, oNone, oSome, mI0, mSub, mLt, mLe, mGt, mGe, Res.bind_ok, flD, List.getElem?_cons_zero, List.getElem?_cons_succ, List.set_cons_zero, List.set_cons_succ, List.length_cons, List.length_nil, if_true, reduceIte, decide_eq_true_eq, Bool.false_eq_true, Bool.true_eq_false, ok_ok, bnd_assoc, bind_ite, ok_ite, mkF_0, mkF_1, mkF_2, mkF_3, mkF_4, mkF_5, mkF_6, mkT_1, mkT_2, mkT_3, mkH_0, mkH_1, mkH_3, frame, List.map_cons, List.map_nil, List.cons_append, List.nil_append, List.replicate, Nat.sub_self, Nat.reduceSub, Nat.reduceAdd, Nat.reduceEqDiff]
    rw [mSetIx_cell (i := 0) (j := 0) e rfl (by simp)]
    try simp only [sSeq, sNil, sPass, sIf, sRet, sRetN, sExpr, sAsg, sAug, sPar, sBrk, sCont, eVar, eC, eBin, eNeg, eNot, eAnd, eOr, eIf, eChain, eLst, eTup, eCall, tst, tAndM, tOrM, tNotM, aNil, aCons, gNm, gsNil, gsCons, gTp, gSubM, oNone, oSome, mI0, mSub, mLt, mLe, mGt, mGe, Res.bind_ok, flD, List.getElem?_cons_zero, List.getElem?_cons_succ, List.set_cons_zero, List.set_cons_succ, List.length_cons, List.length_nil, if_true, reduceIte, decide_eq_true_eq, Bool.false_eq_true, Bool.true_eq_false, ok_ok, bnd_assoc, bind_ite, ok_ite, mkF_0, mkF_1, mkF_2, mkF_3, mkF_4, mkF_5, mkF_6, mkT_1, mkT_2, mkT_3, mkH_0, mkH_1, mkH_3, frame, List.map_cons, List.map_nil, List.cons_append, List.nil_append, List.replicate, Nat.sub_self, Nat.reduceSub, Nat.reduceAdd, Nat.reduceEqDiff]
    exact ⟨_, rfl, Int.emod_nonneg _ (by omega), Int.emod_lt_of_pos _ h0, x / many, y, z, rfl⟩
theorem m_pile_ok {ns : List Int} {j : Int} {μ : Mem} (hj : 0 ≤ j) : Ok (m__law_pile [.scr ns, .int j] μ) fun d μ' => ∃ x y z, d = .hnd μ.length ∧ μ' = μ ++ [some (PileC x y z)] := by
  have rest : ∀ c : Int, Ok ((runM 3 (sRet (eLst mkH (aCons (eBin mIx (eLst mkF (aCons (eC (.int 0)) (aCons (eBin mMod (eVar 2) (eBin (mMul mkF) (eBin (mMul mkF) (eBin mPow (eC (.int 10)) (eC (.int 50))) (eBin mPow (eC (.int 10)) (eC (.int 50)))) (eBin mPow (eC (.int 10)) (eC (.int 50))))) aNil))) (eCall mInt (aCons (eBin mGe (eCall mAbs (aCons (eVar 2) aNil)) (eBin mPow (eC (.int 10)) (eC (.int 18)))) aNil))) (aCons (eBin mMod (eVar 2) (eC (.int 2147483647))) (aCons (eBin (mMul mkF) (eC (.int 97)) (eVar 1)) aNil))))) [.scr ns, .int j, .int c]) μ)
      fun d μ' => ∃ x y z, d = .hnd μ.length ∧ μ' = μ ++ [some (PileC x y z)] := fun c => by
    unfold runM
    have p50 : CPow 10 50 := by decide
    have p18 : CPow 10 18 := by decide
    simp only [sSeq, sNil, sPass, sIf, sRet, sRetN, sExpr, sAsg, sAug, sPar, sBrk, sCont, eVar, eC, eBin, eNeg, eNot, eAnd, eOr, eIf, eChain, eLst, eTup, eCall, tst, tAndM, tOrM, tNotM, aNil, aCons, gNm, gsNil, gsCons, gTp, gSubM, oNone, oSome, mI0, mSub, mLt, mLe, mGt, mGe, Res.bind_ok, flD, List.getElem?_cons_zero, List.getElem?_cons_succ, List.set_cons_zero, List.set_cons_succ, List.length_cons, List.length_nil, if_true, reduceIte, decide_eq_true_eq, Bool.false_eq_true, Bool.true_eq_false, ok_ok, bnd_assoc, bind_ite, ok_ite, mkF_0, mkF_1, mkF_2, mkF_3, mkF_4, mkF_5, mkF_6, mkT_1, mkT_2, mkT_3, mkH_0, mkH_1, mkH_3, frame, List.map_cons, List.map_nil, List.cons_append, List.nil_append, List.replicate, Nat.sub_self, Nat.reduceSub, Nat.reduceAdd, Nat.reduceEqDiff, mPow_int p50, mPow_int p18]
    generalize ht : (10 : Int) ^ (50 : Int).toNat = t
    have ht2 : t = 100000000000000000000000000000000000000000000000000 := by rw [← ht]; decide +kernel
    subst ht2
    rw [mMul_int (by decide +kernel)]
    try simp only [sSeq, sNil, sPass, sIf, sRet, sRetN, sExpr, sAsg, sAug, sPar, sBrk, sCont, eVar, eC, eBin, eNeg, eNot, eAnd, eOr, eIf, eChain, eLst, eTup, eCall, tst, tAndM, tOrM, tNotM, aNil, aCons, gNm, gsNil, gsCons, gTp, gSubM, oNone, oSome, mI0, mSub, mLt, mLe, mGt, mGe, Res.bind_ok, flD, List.getElem?_cons_zero, List.getElem?_cons_succ, List.set_cons_zero, List.set_cons_succ, List.length_cons, List.length_nil, if_true, reduceIte, decide_eq_true_eq, Bool.false_eq_true, Bool.true_eq_false, ok_ok, bnd_assoc, bind_ite, ok_ite, mkF_0, mkF_1, mkF_2, mkF_3, mkF_4, mkF_5, mkF_6, mkT_1, mkT_2, mkT_3, mkH_0, mkH_1, mkH_3, frame, List.map_cons, List.map_nil, List.cons_append, List.nil_append, List.replicate, Nat.sub_self, Nat.reduceSub, Nat.reduceAdd, Nat.reduceEqDiff]
    rw [mMul_int (by decide +kernel)]
    try simp only [sSeq, sNil, sPass, sIf, sRet, sRetN, sExpr, sAsg, sAug, sPar, sBrk, sCont, eVar, eC, eBin, eNeg, eNot, eAnd, eOr, eIf, eChain, eLst, eTup, eCall, tst, tAndM, tOrM, tNotM, aNil, aCons, gNm, gsNil, gsCons, gTp, gSubM, oNone, oSome, mI0, mSub, mLt, mLe, mGt, mGe, Res.bind_ok, flD, List.getElem?_cons_zero, List.getElem?_cons_succ, List.set_cons_zero, List.set_cons_succ, List.length_cons, List.length_nil, if_true, reduceIte, decide_eq_true_eq, Bool.false_eq_true, Bool.true_eq_false, ok_ok, bnd_assoc, bind_ite, ok_ite, mkF_0, mkF_1, mkF_2, mkF_3, mkF_4, mkF_5, mkF_6, mkT_1, mkT_2, mkT_3, mkH_0, mkH_1, mkH_3, frame, List.map_cons, List.map_nil, List.cons_append, List.nil_append, List.replicate, Nat.sub_self, Nat.reduceSub, Nat.reduceAdd, Nat.reduceEqDiff]
    rw [mMod_int (by decide +kernel)]
    try simp only [sSeq, sNil, sPass, sIf, sRet, sRetN, sExpr, sAsg, sAug, sPar, sBrk, sCont, eVar, eC, eBin, eNeg, eNot, eAnd, eOr, eIf, eChain, eLst, eTup, eCall, tst, tAndM, tOrM, tNotM, aNil, aCons, gNm, gsNil, gsCons, gTp, gSubM, oNone, oSome, mI0, mSub, mLt, mLe, mGt, mGe, Res.bind_ok, flD, List.getElem?_cons_zero, List.getElem?_cons_succ, List.set_cons_zero, List.set_cons_succ, List.length_cons, List.length_nil, if_true, reduceIte, decide_eq_true_eq, Bool.false_eq_true, Bool.true_eq_false, ok_ok, bnd_assoc, bind_ite, ok_ite, mkF_0, mkF_1, mkF_2, mkF_3, mkF_4, mkF_5, mkF_6, mkT_1, mkT_2, mkT_3, mkH_0, mkH_1, mkH_3, frame, List.map_cons, List.map_nil, List.cons_append, List.nil_append, List.replicate, Nat.sub_self, Nat.reduceSub, Nat.reduceAdd, Nat.reduceEqDiff]
    simp only [sSeq, sNil, sPass, sIf, sRet, sRetN, sExpr, sAsg, sAug, sPar, sBrk, sCont, eVar, eC, eBin, eNeg, eNot, eAnd, eOr, eIf, eChain, eLst, eTup, eCall, tst, tAndM, tOrM, tNotM, aNil, aCons, gNm, gsNil, gsCons, gTp, gSubM, oNone, oSome, mI0, mSub, mLt, mLe, mGt, mGe, Res.bind_ok, flD, List.getElem?_cons_zero, List.getElem?_cons_succ, List.set_cons_zero, List.set_cons_succ, List.length_cons, List.length_nil, if_true, reduceIte, decide_eq_true_eq, Bool.false_eq_true, Bool.true_eq_false, ok_ok, bnd_assoc, bind_ite, ok_ite, mkF_0, mkF_1, mkF_2, mkF_3, mkF_4, mkF_5, mkF_6, mkT_1, mkT_2, mkT_3, mkH_0, mkH_1, mkH_3, frame, List.map_cons, List.map_nil, List.cons_append, List.nil_append, List.replicate, Nat.sub_self, Nat.reduceSub, Nat.reduceAdd, Nat.reduceEqDiff, mAbs, mInt]
    generalize hb : (if decide ((10 : Int) ^ (18 : Int).toNat ≤ if c < 0 then -c else c) = true then (1 : Int) else 0) = b
    have hb2 : b = ((if (10 : Int) ^ (18 : Int).toNat ≤ (if c < 0 then -c else c) then 1 else 0 : Nat) : Int) := by
      rw [← hb]
      by_cases q : (10 : Int) ^ (18 : Int).toNat ≤ (if c < 0 then -c else c)
      · rw [if_pos (decide_eq_true q), if_pos q]; rfl
      · rw [if_neg (by rw [decide_eq_false q]; exact Bool.false_ne_true), if_neg q]; rfl
    have hx : ∃ x, mIx (.lst [.int 0, .int (c % (100000000000000000000000000000000000000000000000000 * 100000000000000000000000000000000000000000000000000 * 100000000000000000000000000000000000000000000000000))]) (.int b) μ = .ok (.int x) μ := by
      by_cases q : (10 : Int) ^ (18 : Int).toNat ≤ (if c < 0 then -c else c)
      · rw [if_pos q] at hb2
        exact ⟨_, mIx_lst (j := 1) hb2 rfl⟩
      · rw [if_neg q] at hb2
        exact ⟨_, mIx_lst (j := 0) hb2 rfl⟩
    obtain ⟨x, hx⟩ := hx
    have hbb : (if (10 : Int) ^ (18 : Int).toNat ≤ (if c < 0 then -c else c) then (1 : Int) else 0) = b := by rw [← hb]; simp
    simp only [hbb, hx, sSeq, sNil, sPass, sIf, sRet, sRetN, sExpr, sAsg, sAug, sPar, sBrk, sCont, eVar, eC, eBin, eNeg, eNot, eAnd, eOr, eIf, eChain, eLst, eTup, eCall, tst, tAndM, tOrM, tNotM, aNil, aCons, gNm, gsNil, gsCons, gTp, gSubM, oNone, oSome, mI0, mSub, mLt, mLe, mGt, mGe, Res.bind_ok, flD, List.getElem?_cons_zero, List.getElem?_cons_succ, List.set_cons_zero, List.set_cons_succ, List.length_cons, List.length_nil, if_true, reduceIte, decide_eq_true_eq, Bool.false_eq_true, Bool.true_eq_false, ok_ok, bnd_assoc, bind_ite, ok_ite, mkF_0, mkF_1, mkF_2, mkF_3, mkF_4, mkF_5, mkF_6, mkT_1, mkT_2, mkT_3, mkH_0, mkH_1, mkH_3, frame, List.map_cons, List.map_nil, List.cons_append, List.nil_append, List.replicate, Nat.sub_self, Nat.reduceSub, Nat.reduceAdd, Nat.reduceEqDiff]
    rw [mMod_int (by decide)]
    try simp only [sSeq, sNil, sPass, sIf, sRet, sRetN, sExpr, sAsg, sAug, sPar, sBrk, sCont, eVar, eC, eBin, eNeg, eNot, eAnd, eOr, eIf, eChain, eLst, eTup, eCall, tst, tAndM, tOrM, tNotM, aNil, aCons, gNm, gsNil, gsCons, gTp, gSubM, oNone, oSome, mI0, mSub, mLt, mLe, mGt, mGe, Res.bind_ok, flD, List.getElem?_cons_zero, List.getElem?_cons_succ, List.set_cons_zero, List.set_cons_succ, List.length_cons, List.length_nil, if_true, reduceIte, decide_eq_true_eq, Bool.false_eq_true, Bool.true_eq_false, ok_ok, bnd_assoc, bind_ite, ok_ite, mkF_0, mkF_1, mkF_2, mkF_3, mkF_4, mkF_5, mkF_6, mkT_1, mkT_2, mkT_3, mkH_0, mkH_1, mkH_3, frame, List.map_cons, List.map_nil, List.cons_append, List.nil_append, List.replicate, Nat.sub_self, Nat.reduceSub, Nat.reduceAdd, Nat.reduceEqDiff]
    rw [mMul_int (mulOk_l (by decide) (by decide))]
    try simp only [sSeq, sNil, sPass, sIf, sRet, sRetN, sExpr, sAsg, sAug, sPar, sBrk, sCont, eVar, eC, eBin, eNeg, eNot, eAnd, eOr, eIf, eChain, eLst, eTup, eCall, tst, tAndM, tOrM, tNotM, aNil, aCons, gNm, gsNil, gsCons, gTp, gSubM, oNone, oSome, mI0, mSub, mLt, mLe, mGt, mGe, Res.bind_ok, flD, List.getElem?_cons_zero, List.getElem?_cons_succ, List.set_cons_zero, List.set_cons_succ, List.length_cons, List.length_nil, if_true, reduceIte, decide_eq_true_eq, Bool.false_eq_true, Bool.true_eq_false, ok_ok, bnd_assoc, bind_ite, ok_ite, mkF_0, mkF_1, mkF_2, mkF_3, mkF_4, mkF_5, mkF_6, mkT_1, mkT_2, mkT_3, mkH_0, mkH_1, mkH_3, frame, List.map_cons, List.map_nil, List.cons_append, List.nil_append, List.replicate, Nat.sub_self, Nat.reduceSub, Nat.reduceAdd, Nat.reduceEqDiff]
    exact ⟨_, _, _, trivial, rfl⟩
  unfold m__law_pile runM b__law_pile
  simp only [sSeq, sNil, sPass, sIf, sRet, sRetN, sExpr, sAsg, sAug, sPar, sBrk, sCont, eVar, eC, eBin, eNeg, eNot, eAnd, eOr, eIf, eChain, eLst, eTup, eCall, tst, tAndM, tOrM, tNotM, aNil, aCons, gNm, gsNil, gsCons, gTp, gSubM, oNone, oSome, mI0, mSub, mLt, mLe, mGt, mGe, Res.bind_ok, flD, List.getElem?_cons_zero, List.getElem?_cons_succ, List.set_cons_zero, List.set_cons_succ, List.length_cons, List.length_nil, if_true, reduceIte, decide_eq_true_eq, Bool.false_eq_true, Bool.true_eq_false, ok_ok, bnd_assoc, bind_ite, ok_ite, mkF_0, mkF_1, mkF_2, mkF_3, mkF_4, mkF_5, mkF_6, mkT_1, mkT_2, mkT_3, mkH_0, mkH_1, mkH_3, frame, List.map_cons, List.map_nil, List.cons_append, List.nil_append, List.replicate, Nat.sub_self, Nat.reduceSub, Nat.reduceAdd, Nat.reduceEqDiff, mLen, seqA, seqL]
  by_cases hlt : j < ((ns.map D.int).length : Int)
  · simp only [if_pos hlt, sSeq, sNil, sPass, sIf, sRet, sRetN, sExpr, sAsg, sAug, sPar, sBrk, sCont, eVar, eC, eBin, eNeg, eNot, eAnd, eOr, eIf, eChain, eLst, eTup, eCall, tst, tAndM, tOrM, tNotM, aNil, aCons, gNm, gsNil, gsCons, gTp, gSubM, oNone, oSome, mI0, mSub, mLt, mLe, mGt, mGe, Res.bind_ok, flD, List.getElem?_cons_zero, List.getElem?_cons_succ, List.set_cons_zero, List.set_cons_succ, List.length_cons, List.length_nil, if_true, reduceIte, decide_eq_true_eq, Bool.false_eq_true, Bool.true_eq_false, ok_ok, bnd_assoc, bind_ite, ok_ite, mkF_0, mkF_1, mkF_2, mkF_3, mkF_4, mkF_5, mkF_6, mkT_1, mkT_2, mkT_3, mkH_0, mkH_1, mkH_3, frame, List.map_cons, List.map_nil, List.cons_append, List.nil_append, List.replicate, Nat.sub_self, Nat.reduceSub, Nat.reduceAdd, Nat.reduceEqDiff]
    have hj2 : j.toNat < ns.length := by rw [List.length_map] at hlt; omega
    have hg : (ns.map D.int)[j.toNat]? = some (.int ns[j.toNat]) := by rw [List.getElem?_map, List.getElem?_eq_getElem hj2]; rfl
    have hix : mIx (.scr ns) (.int j) μ = .ok (.int ns[j.toNat]) μ := by
      unfold mIx seqA seqL
      simp only [atI_at (show j = ((j.toNat : Nat) : Int) by omega) hg]
    rw [hix]
    try simp only [sSeq, sNil, sPass, sIf, sRet, sRetN, sExpr, sAsg, sAug, sPar, sBrk, sCont, eVar, eC, eBin, eNeg, eNot, eAnd, eOr, eIf, eChain, eLst, eTup, eCall, tst, tAndM, tOrM, tNotM, aNil, aCons, gNm, gsNil, gsCons, gTp, gSubM, oNone, oSome, mI0, mSub, mLt, mLe, mGt, mGe, Res.bind_ok, flD, List.getElem?_cons_zero, List.getElem?_cons_succ, List.set_cons_zero, List.set_cons_succ, List.length_cons, List.length_nil, if_true, reduceIte, decide_eq_true_eq, Bool.false_eq_true, Bool.true_eq_false, ok_ok, bnd_assoc, bind_ite, ok_ite, mkF_0, mkF_1, mkF_2, mkF_3, mkF_4, mkF_5, mkF_6, mkT_1, mkT_2, mkT_3, mkH_0, mkH_1, mkH_3, frame, List.map_cons, List.map_nil, List.cons_append, List.nil_append, List.replicate, Nat.sub_self, Nat.reduceSub, Nat.reduceAdd, Nat.reduceEqDiff]
    have := rest ns[j.toNat]
    unfold runM at this
    simpa only [sSeq, sNil, sPass, sIf, sRet, sRetN, sExpr, sAsg, sAug, sPar, sBrk, sCont, eVar, eC, eBin, eNeg, eNot, eAnd, eOr, eIf, eChain, eLst, eTup, eCall, tst, tAndM, tOrM, tNotM, aNil, aCons, gNm, gsNil, gsCons, gTp, gSubM, oNone, oSome, mI0, mSub, mLt, mLe, mGt, mGe, Res.bind_ok, flD, List.getElem?_cons_zero, List.getElem?_cons_succ, List.set_cons_zero, List.set_cons_succ, List.length_cons, List.length_nil, if_true, reduceIte, decide_eq_true_eq, Bool.false_eq_true, Bool.true_eq_false, ok_ok, bnd_assoc, bind_ite, ok_ite, mkF_0, mkF_1, mkF_2, mkF_3, mkF_4, mkF_5, mkF_6, mkT_1, mkT_2, mkT_3, mkH_0, mkH_1, mkH_3, frame, List.map_cons, List.map_nil, List.cons_append, List.nil_append, List.replicate, Nat.sub_self, Nat.reduceSub, Nat.reduceAdd, Nat.reduceEqDiff] using this
  · simp only [if_neg hlt, sSeq, sNil, sPass, sIf, sRet, sRetN, sExpr, sAsg, sAug, sPar, sBrk, sCont, eVar, eC, eBin, eNeg, eNot, eAnd, eOr, eIf, eChain, eLst, eTup, eCall, tst, tAndM, tOrM, tNotM, aNil, aCons, gNm, gsNil, gsCons, gTp, gSubM, oNone, oSome, mI0, mSub, mLt, mLe, mGt, mGe, Res.bind_ok, flD, List.getElem?_cons_zero, List.getElem?_cons_succ, List.set_cons_zero, List.set_cons_succ, List.length_cons, List.length_nil, if_true, reduceIte, decide_eq_true_eq, Bool.false_eq_true, Bool.true_eq_false, ok_ok, bnd_assoc, bind_ite, ok_ite, mkF_0, mkF_1, mkF_2, mkF_3, mkF_4, mkF_5, mkF_6, mkT_1, mkT_2, mkT_3, mkH_0, mkH_1, mkH_3, frame, List.map_cons, List.map_nil, List.cons_append, List.nil_append, List.replicate, Nat.sub_self, Nat.reduceSub, Nat.reduceAdd, Nat.reduceEqDiff]
    have := rest 0
    unfold runM at this
    simpa only [sSeq, sNil, sPass, sIf, sRet, sRetN, sExpr, sAsg, sAug, sPar, sBrk, sCont, eVar, eC, eBin, eNeg, eNot, eAnd, eOr, eIf, eChain, eLst, eTup, eCall, tst, tAndM, tOrM, tNotM, aNil, aCons, gNm, gsNil, gsCons, gTp, gSubM, oNone, oSome, mI0, mSub, mLt, mLe, mGt, mGe, Res.bind_ok, flD, List.getElem?_cons_zero, List.getElem?_cons_succ, List.set_cons_zero, List.set_cons_succ, List.length_cons, List.length_nil, if_true, reduceIte, decide_eq_true_eq, Bool.false_eq_true, Bool.true_eq_false, ok_ok, bnd_assoc, bind_ite, ok_ite, mkF_0, mkF_1, mkF_2, mkF_3, mkF_4, mkF_5, mkF_6, mkT_1, mkT_2, mkT_3, mkH_0, mkH_1, mkH_3, frame, List.map_cons, List.map_nil, List.cons_append, List.nil_append, List.replicate, Nat.sub_self, Nat.reduceSub, Nat.reduceAdd, Nat.reduceEqDiff] using this
theorem p_pairs_ok (n : Nat) (hn : n ≤ 1000) : p__law_pairs [.int n] = .ok (.lst ((pairsL n).map enc)) := by
  refine runP_of ?_ (by rw [hfree]; exact hfrees_map _)
  unfold runM b__law_pairs
  try simp only [sSeq, sNil, sPass, sIf, sRet, sRetN, sExpr, sAsg, sAug, sPar, sBrk, sCont, eVar, eC, eBin, eNeg, eNot, eAnd, eOr, eIf, eChain, eLst, eTup, eCall, tst, tAndM, tOrM, tNotM, aNil, aCons, gNm, gsNil, gsCons, gTp, gSubM, oNone, oSome, mI0, mSub, mLt, mLe, mGt, mGe, Res.bind_ok, flD, List.getElem?_cons_zero, List.getElem?_cons_succ, List.set_cons_zero, List.set_cons_succ, List.length_cons, List.length_nil, if_true, reduceIte, decide_eq_true_eq, Bool.false_eq_true, Bool.true_eq_false, ok_ok, bnd_assoc, bind_ite, ok_ite, mkF_0, mkF_1, mkF_2, mkF_3, mkF_4, mkF_5, mkF_6, mkT_1, mkT_2, mkT_3, mkH_0, mkH_1, mkH_3, frame, List.map_cons, List.map_nil, List.cons_append, List.nil_append, List.replicate, Nat.sub_self, Nat.reduceSub, Nat.reduceAdd, Nat.reduceEqDiff]
  refine Ok.bind (ok_sFor ?_)
  rw [iRange1_of (μ1 := []) (j := (n : Int)) (by simp only [sSeq, sNil, sPass, sIf, sRet, sRetN, sExpr, sAsg, sAug, sPar, sBrk, sCont, eVar, eC, eBin, eNeg, eNot, eAnd, eOr, eIf, eChain, eLst, eTup, eCall, tst, tAndM, tOrM, tNotM, aNil, aCons, gNm, gsNil, gsCons, gTp, gSubM, oNone, oSome, mI0, mSub, mLt, mLe, mGt, mGe, Res.bind_ok, flD, List.getElem?_cons_zero, List.getElem?_cons_succ, List.set_cons_zero, List.set_cons_succ, List.length_cons, List.length_nil, if_true, reduceIte, decide_eq_true_eq, Bool.false_eq_true, Bool.true_eq_false, ok_ok, bnd_assoc, bind_ite, ok_ite, mkF_0, mkF_1, mkF_2, mkF_3, mkF_4, mkF_5, mkF_6, mkT_1, mkT_2, mkT_3, mkH_0, mkH_1, mkH_3, frame, List.map_cons, List.map_nil, List.cons_append, List.nil_append, List.replicate, Nat.sub_self, Nat.reduceSub, Nat.reduceAdd, Nat.reduceEqDiff]) (by omega) (by omega), ok_ok]
  have len : ∀ i ≤ n, (pairsL i).length ≤ 1000000 := fun i hi => by
    have h1 := pairsL_len i
    have h2 : i * i ≤ 1000 * 1000 := Nat.mul_le_mul (by omega) (by omega)
    omega
  refine ok_forL (fun i ρ μ => μ = [] ∧ ∃ x y, ρ = [some (.int n), some (.lst ((pairsL i).map enc)), x, y]) ⟨rfl, _, _, rfl⟩ (fun _ _ _ _ _ => trivial) ?_ ?_
  · rintro i x ρ μ hx ⟨rfl, a, b, rfl⟩
    obtain ⟨hi, rfl⟩ := rngD_get hx
    simp only [Int.toNat_natCast] at hi
    have lc : eLc mkF (iRange1 (aCons (eVar 2) aNil)) (gNm 3) tYesM (eTup (aCons (eVar 3) (aCons (eVar 2) aNil))) [3] [some (.int n), some (.lst ((pairsL i).map enc)), some (.int (0 + (i : Nat))), b] [] =
        mkF (((List.range i).map fun a : Nat => ((a : Int), (i : Int))).map enc) [] := by
      refine eLc_ok (it := ⟨rngD 0 i, fun _ => True⟩) (μ1 := []) (μ2 := []) ?_ (by rw [rngD_len]; omega) ?_
      · rw [iRange1_of (μ1 := []) (j := 0 + (i : Int)) (by simp only [sSeq, sNil, sPass, sIf, sRet, sRetN, sExpr, sAsg, sAug, sPar, sBrk, sCont, eVar, eC, eBin, eNeg, eNot, eAnd, eOr, eIf, eChain, eLst, eTup, eCall, tst, tAndM, tOrM, tNotM, aNil, aCons, gNm, gsNil, gsCons, gTp, gSubM, oNone, oSome, mI0, mSub, mLt, mLe, mGt, mGe, Res.bind_ok, flD, List.getElem?_cons_zero, List.getElem?_cons_succ, List.set_cons_zero, List.set_cons_succ, List.length_cons, List.length_nil, if_true, reduceIte, decide_eq_true_eq, Bool.false_eq_true, Bool.true_eq_false, ok_ok, bnd_assoc, bind_ite, ok_ite, mkF_0, mkF_1, mkF_2, mkF_3, mkF_4, mkF_5, mkF_6, mkT_1, mkT_2, mkT_3, mkH_0, mkH_1, mkH_3, frame, List.map_cons, List.map_nil, List.cons_append, List.nil_append, List.replicate, Nat.sub_self, Nat.reduceSub, Nat.reduceAdd, Nat.reduceEqDiff]) (by omega) (by omega), Int.zero_add, Int.toNat_natCast]
      · have := lcL_pure (chk := fun _ => True) (g := gNm 3) (tt := tYesM) (elt := eTup (aCons (eVar 3) (aCons (eVar 2) aNil))) (ρ := wipeD [some (.int n), some (.lst ((pairsL i).map enc)), some (.int (0 + (i : Nat))), b] [3]) (μ := [])
          (fun a : Nat => D.int (0 + (a : Nat))) (fun _ => true) (fun a : Nat => (enc ((a : Int), (i : Int)) : D)) trivial (List.range i) (fun a _ => ⟨_, rfl, rfl, fun _ => by simp only [wipeD, sSeq, sNil, sPass, sIf, sRet, sRetN, sExpr, sAsg, sAug, sPar, sBrk, sCont, eVar, eC, eBin, eNeg, eNot, eAnd, eOr, eIf, eChain, eLst, eTup, eCall, tst, tAndM, tOrM, tNotM, aNil, aCons, gNm, gsNil, gsCons, gTp, gSubM, oNone, oSome, mI0, mSub, mLt, mLe, mGt, mGe, Res.bind_ok, flD, List.getElem?_cons_zero, List.getElem?_cons_succ, List.set_cons_zero, List.set_cons_succ, List.length_cons, List.length_nil, if_true, reduceIte, decide_eq_true_eq, Bool.false_eq_true, Bool.true_eq_false, ok_ok, bnd_assoc, bind_ite, ok_ite, mkF_0, mkF_1, mkF_2, mkF_3, mkF_4, mkF_5, mkF_6, mkT_1, mkT_2, mkT_3, mkH_0, mkH_1, mkH_3, frame, List.map_cons, List.map_nil, List.cons_append, List.nil_append, List.replicate, Nat.sub_self, Nat.reduceSub, Nat.reduceAdd, Nat.reduceEqDiff, Int.zero_add]; rfl⟩)
        rw [List.filter_eq_self.mpr (fun _ _ => rfl)] at this
        rw [List.map_map]
        exact this
    simp only [sSeq, sNil, sPass, sIf, sRet, sRetN, sExpr, sAsg, sAug, sPar, sBrk, sCont, eVar, eC, eBin, eNeg, eNot, eAnd, eOr, eIf, eChain, eLst, eTup, eCall, tst, tAndM, tOrM, tNotM, aNil, aCons, gNm, gsNil, gsCons, gTp, gSubM, oNone, oSome, mI0, mSub, mLt, mLe, mGt, mGe, Res.bind_ok, flD, List.getElem?_cons_zero, List.getElem?_cons_succ, List.set_cons_zero, List.set_cons_succ, List.length_cons, List.length_nil, if_true, reduceIte, decide_eq_true_eq, Bool.false_eq_true, Bool.true_eq_false, ok_ok, bnd_assoc, bind_ite, ok_ite, mkF_0, mkF_1, mkF_2, mkF_3, mkF_4, mkF_5, mkF_6, mkT_1, mkT_2, mkT_3, mkH_0, mkH_1, mkH_3, frame, List.map_cons, List.map_nil, List.cons_append, List.nil_append, List.replicate, Nat.sub_self, Nat.reduceSub, Nat.reduceAdd, Nat.reduceEqDiff, lc]
    rw [mkF_ok (by simp; omega)]
    simp only [sSeq, sNil, sPass, sIf, sRet, sRetN, sExpr, sAsg, sAug, sPar, sBrk, sCont, eVar, eC, eBin, eNeg, eNot, eAnd, eOr, eIf, eChain, eLst, eTup, eCall, tst, tAndM, tOrM, tNotM, aNil, aCons, gNm, gsNil, gsCons, gTp, gSubM, oNone, oSome, mI0, mSub, mLt, mLe, mGt, mGe, Res.bind_ok, flD, List.getElem?_cons_zero, List.getElem?_cons_succ, List.set_cons_zero, List.set_cons_succ, List.length_cons, List.length_nil, if_true, reduceIte, decide_eq_true_eq, Bool.false_eq_true, Bool.true_eq_false, ok_ok, bnd_assoc, bind_ite, ok_ite, mkF_0, mkF_1, mkF_2, mkF_3, mkF_4, mkF_5, mkF_6, mkT_1, mkT_2, mkT_3, mkH_0, mkH_1, mkH_3, frame, List.map_cons, List.map_nil, List.cons_append, List.nil_append, List.replicate, Nat.sub_self, Nat.reduceSub, Nat.reduceAdd, Nat.reduceEqDiff, mAdd_lst, ← List.map_append]
    rw [show pairsL i ++ (List.range i).map (fun a : Nat => ((a : Int), (i : Int))) = pairsL (i + 1) from rfl, mkF_ok (by rw [List.length_map]; have := len (i + 1) hi; omega)]
    try simp only [sSeq, sNil, sPass, sIf, sRet, sRetN, sExpr, sAsg, sAug, sPar, sBrk, sCont, eVar, eC, eBin, eNeg, eNot, eAnd, eOr, eIf, eChain, eLst, eTup, eCall, tst, tAndM, tOrM, tNotM, aNil, aCons, gNm, gsNil, gsCons, gTp, gSubM, oNone, oSome, mI0, mSub, mLt, mLe, mGt, mGe, Res.bind_ok, flD, List.getElem?_cons_zero, List.getElem?_cons_succ, List.set_cons_zero, List.set_cons_succ, List.length_cons, List.length_nil, if_true, reduceIte, decide_eq_true_eq, Bool.false_eq_true, Bool.true_eq_false, ok_ok, bnd_assoc, bind_ite, ok_ite, mkF_0, mkF_1, mkF_2, mkF_3, mkF_4, mkF_5, mkF_6, mkT_1, mkT_2, mkT_3, mkH_0, mkH_1, mkH_3, frame, List.map_cons, List.map_nil, List.cons_append, List.nil_append, List.replicate, Nat.sub_self, Nat.reduceSub, Nat.reduceAdd, Nat.reduceEqDiff]
    exact ⟨trivial, _, _, rfl⟩
  · rintro ρ μ ⟨rfl, a, b, rfl⟩
    simp only [sSeq, sNil, sPass, sIf, sRet, sRetN, sExpr, sAsg, sAug, sPar, sBrk, sCont, eVar, eC, eBin, eNeg, eNot, eAnd, eOr, eIf, eChain, eLst, eTup, eCall, tst, tAndM, tOrM, tNotM, aNil, aCons, gNm, gsNil, gsCons, gTp, gSubM, oNone, oSome, mI0, mSub, mLt, mLe, mGt, mGe, Res.bind_ok, flD, List.getElem?_cons_zero, List.getElem?_cons_succ, List.set_cons_zero, List.set_cons_succ, List.length_cons, List.length_nil, if_true, reduceIte, decide_eq_true_eq, Bool.false_eq_true, Bool.true_eq_false, ok_ok, bnd_assoc, bind_ite, ok_ite, mkF_0, mkF_1, mkF_2, mkF_3, mkF_4, mkF_5, mkF_6, mkT_1, mkT_2, mkT_3, mkH_0, mkH_1, mkH_3, frame, List.map_cons, List.map_nil, List.cons_append, List.nil_append, List.replicate, Nat.sub_self, Nat.reduceSub, Nat.reduceAdd, Nat.reduceEqDiff, rngD_len, Int.toNat_natCast]
/-! ### what a split makes -/
def oth (s : Int) (t : Int × Int) : Int := if t.1 = s then t.2 else t.1
def Inc (s : Int) (t : Int × Int) : Prop := t.1 = s ∨ t.2 = s
instance (s : Int) (t : Int × Int) : Decidable (Inc s t) := by unfold Inc; infer_instance
def tieAt (ts : List (Int × Int)) (i : Int) : Int × Int := ts.getD i.toNat (0, 0)
def goneL (ps : List (Int × Int)) : List Int := ps.flatMap fun p => [p.1, p.2]
def newOf (s : Int) (ts : List (Int × Int)) (p : Int × Int) : List (Int × Int) :=
  if oth s (tieAt ts p.1) = oth s (tieAt ts p.2) then [] else [(min (oth s (tieAt ts p.1)) (oth s (tieAt ts p.2)), max (oth s (tieAt ts p.1)) (oth s (tieAt ts p.2)))]
def newT (s : Int) (ts ps : List (Int × Int)) : List (Int × Int) := ps.flatMap (newOf s ts)
def stayT (ts ps : List (Int × Int)) : List (Int × Int) := (ts.zipIdx.filter fun p => !decide ((p.2 : Int) ∈ goneL ps)).map (·.1)
def splitV (s : Int) (ts ps : List (Int × Int)) : List (Int × Int) := stayT ts ps ++ newT s ts ps
def PairOk (s : Int) (ts : List (Int × Int)) (p : Int × Int) : Prop := 0 ≤ p.1 ∧ p.1 < p.2 ∧ p.2 < ts.length ∧ Inc s (tieAt ts p.1) ∧ Inc s (tieAt ts p.2)
def PairsOk (s : Int) (ts ps : List (Int × Int)) : Prop := (∀ p ∈ ps, PairOk s ts p) ∧ (goneL ps).Nodup
theorem goneL_append (a b : List (Int × Int)) : goneL (a ++ b) = goneL a ++ goneL b := List.flatMap_append ..
theorem goneL_len (ps : List (Int × Int)) : (goneL ps).length = 2 * ps.length := by
  induction ps with
  | nil => rfl
  | cons p r ih =>
    show ([p.1, p.2] ++ goneL r).length = _
    rw [List.length_append, ih, List.length_cons]
    simp
    omega
theorem newT_append (s : Int) (ts a b : List (Int × Int)) : newT s ts (a ++ b) = newT s ts a ++ newT s ts b := List.flatMap_append ..
theorem newOf_len (s : Int) (ts : List (Int × Int)) (p : Int × Int) : (newOf s ts p).length ≤ 1 := by
  unfold newOf
  split <;> simp
theorem newT_len (s : Int) (ts ps : List (Int × Int)) : (newT s ts ps).length ≤ ps.length := by
  induction ps with
  | nil => exact Nat.le_refl _
  | cons p r ih =>
    have := newOf_len s ts p
    show (newOf s ts p ++ newT s ts r).length ≤ _
    rw [List.length_append, List.length_cons]
    omega
theorem stayT_len (ts ps : List (Int × Int)) : (stayT ts ps).length ≤ ts.length := by
  unfold stayT
  rw [List.length_map]
  exact Nat.le_trans (List.length_filter_le _ _) (by simp)
theorem tieAt_get {ts : List (Int × Int)} {i : Int} (h0 : 0 ≤ i) (h1 : i < ts.length) : (ts.map enc)[i.toNat]? = some (enc (tieAt ts i)) := by
  have h : i.toNat < ts.length := by omega
  unfold tieAt
  rw [List.getElem?_map, List.getElem?_eq_getElem h, List.getD_eq_getElem?_getD, List.getElem?_eq_getElem h]
  rfl
theorem mIn_t {s a b : Int} {μ : Mem} : mIn (.int s) (.tup [.int a, .int b]) μ = .ok (.bl (decide (Inc s (a, b)))) μ := by
  unfold mIn mInG
  simp only [toPy, toPyL, toPyLs, flatP, List.all_cons, List.all_nil, Bool.and_true, true_and, if_true, cond, List.any_cons, List.any_nil, Bool.or_false, PyData.eqv]
  congr 2
  unfold Inc
  by_cases h1 : a = s <;> by_cases h2 : b = s <;> simp [h1, h2, flatP, PyData.eqv]
theorem mNotIn_t {s a b : Int} {μ : Mem} : mNotIn (.int s) (.tup [.int a, .int b]) μ = .ok (.bl (!decide (Inc s (a, b)))) μ := by
  unfold mNotIn mInG
  simp only [toPy, toPyL, toPyLs, flatP, List.all_cons, List.all_nil, Bool.and_true, true_and, if_true, cond, List.any_cons, List.any_nil, Bool.or_false, PyData.eqv]
  congr 2
  unfold Inc
  by_cases h1 : a = s <;> by_cases h2 : b = s <;> simp [h1, h2, flatP, PyData.eqv]
theorem mNotIn_e {s : Int} {t : Int × Int} {μ : Mem} : mNotIn (.int s) (enc t) μ = .ok (.bl (!decide (Inc s t))) μ := mNotIn_t
theorem mIn_e {s : Int} {t : Int × Int} {μ : Mem} : mIn (.int s) (enc t) μ = .ok (.bl (decide (Inc s t))) μ := mIn_t
theorem p_other_end_ok (t : Int × Int) (s : Int) : p_other_end [enc t, .int s] = .ok (.int (oth s t)) := by
  refine runP_of ?_ rfl
  unfold runM b_other_end
  simp only [sSeq, sNil, sPass, sIf, sRet, sRetN, sExpr, sAsg, sAug, sPar, sBrk, sCont, eVar, eC, eBin, eNeg, eNot, eAnd, eOr, eIf, eChain, eLst, eTup, eCall, tst, tAndM, tOrM, tNotM, aNil, aCons, gNm, gsNil, gsCons, gTp, gSubM, oNone, oSome, mI0, mSub, mLt, mLe, mGt, mGe, Res.bind_ok, flD, List.getElem?_cons_zero, List.getElem?_cons_succ, List.set_cons_zero, List.set_cons_succ, List.length_cons, List.length_nil, if_true, reduceIte, decide_eq_true_eq, Bool.false_eq_true, Bool.true_eq_false, ok_ok, bnd_assoc, bind_ite, ok_ite, mkF_0, mkF_1, mkF_2, mkF_3, mkF_4, mkF_5, mkF_6, mkT_1, mkT_2, mkT_3, mkH_0, mkH_1, mkH_3, frame, List.map_cons, List.map_nil, List.cons_append, List.nil_append, List.replicate, Nat.sub_self, Nat.reduceSub, Nat.reduceAdd, Nat.reduceEqDiff, enc_pair, enc_int]
  rw [mIx_tup (i := 0) (j := 0) rfl rfl]
  simp only [sSeq, sNil, sPass, sIf, sRet, sRetN, sExpr, sAsg, sAug, sPar, sBrk, sCont, eVar, eC, eBin, eNeg, eNot, eAnd, eOr, eIf, eChain, eLst, eTup, eCall, tst, tAndM, tOrM, tNotM, aNil, aCons, gNm, gsNil, gsCons, gTp, gSubM, oNone, oSome, mI0, mSub, mLt, mLe, mGt, mGe, Res.bind_ok, flD, List.getElem?_cons_zero, List.getElem?_cons_succ, List.set_cons_zero, List.set_cons_succ, List.length_cons, List.length_nil, if_true, reduceIte, decide_eq_true_eq, Bool.false_eq_true, Bool.true_eq_false, ok_ok, bnd_assoc, bind_ite, ok_ite, mkF_0, mkF_1, mkF_2, mkF_3, mkF_4, mkF_5, mkF_6, mkT_1, mkT_2, mkT_3, mkH_0, mkH_1, mkH_3, frame, List.map_cons, List.map_nil, List.cons_append, List.nil_append, List.replicate, Nat.sub_self, Nat.reduceSub, Nat.reduceAdd, Nat.reduceEqDiff, mEq_i]
  unfold oth
  split
  · rw [mIx_tup (i := 1) (j := 1) rfl rfl]
    simp only [sSeq, sNil, sPass, sIf, sRet, sRetN, sExpr, sAsg, sAug, sPar, sBrk, sCont, eVar, eC, eBin, eNeg, eNot, eAnd, eOr, eIf, eChain, eLst, eTup, eCall, tst, tAndM, tOrM, tNotM, aNil, aCons, gNm, gsNil, gsCons, gTp, gSubM, oNone, oSome, mI0, mSub, mLt, mLe, mGt, mGe, Res.bind_ok, flD, List.getElem?_cons_zero, List.getElem?_cons_succ, List.set_cons_zero, List.set_cons_succ, List.length_cons, List.length_nil, if_true, reduceIte, decide_eq_true_eq, Bool.false_eq_true, Bool.true_eq_false, ok_ok, bnd_assoc, bind_ite, ok_ite, mkF_0, mkF_1, mkF_2, mkF_3, mkF_4, mkF_5, mkF_6, mkT_1, mkT_2, mkT_3, mkH_0, mkH_1, mkH_3, frame, List.map_cons, List.map_nil, List.cons_append, List.nil_append, List.replicate, Nat.sub_self, Nat.reduceSub, Nat.reduceAdd, Nat.reduceEqDiff]
  · rw [mIx_tup (i := 0) (j := 0) rfl rfl]
    simp only [sSeq, sNil, sPass, sIf, sRet, sRetN, sExpr, sAsg, sAug, sPar, sBrk, sCont, eVar, eC, eBin, eNeg, eNot, eAnd, eOr, eIf, eChain, eLst, eTup, eCall, tst, tAndM, tOrM, tNotM, aNil, aCons, gNm, gsNil, gsCons, gTp, gSubM, oNone, oSome, mI0, mSub, mLt, mLe, mGt, mGe, Res.bind_ok, flD, List.getElem?_cons_zero, List.getElem?_cons_succ, List.set_cons_zero, List.set_cons_succ, List.length_cons, List.length_nil, if_true, reduceIte, decide_eq_true_eq, Bool.false_eq_true, Bool.true_eq_false, ok_ok, bnd_assoc, bind_ite, ok_ite, mkF_0, mkF_1, mkF_2, mkF_3, mkF_4, mkF_5, mkF_6, mkT_1, mkT_2, mkT_3, mkH_0, mkH_1, mkH_3, frame, List.map_cons, List.map_nil, List.cons_append, List.nil_append, List.replicate, Nat.sub_self, Nat.reduceSub, Nat.reduceAdd, Nat.reduceEqDiff]
theorem p_look_ok {n s : Int} (h0 : 0 ≤ s) (h1 : s < n) : p_look_at_place [.int n, .int s] = .ok .non := by
  refine runP_of ?_ rfl
  unfold runM b_look_at_place
  simp only [sSeq, sNil, sPass, sIf, sRet, sRetN, sExpr, sAsg, sAug, sPar, sBrk, sCont, eVar, eC, eBin, eNeg, eNot, eAnd, eOr, eIf, eChain, eLst, eTup, eCall, tst, tAndM, tOrM, tNotM, aNil, aCons, gNm, gsNil, gsCons, gTp, gSubM, oNone, oSome, mI0, mSub, mLt, mLe, mGt, mGe, Res.bind_ok, flD, List.getElem?_cons_zero, List.getElem?_cons_succ, List.set_cons_zero, List.set_cons_succ, List.length_cons, List.length_nil, if_true, reduceIte, decide_eq_true_eq, Bool.false_eq_true, Bool.true_eq_false, ok_ok, bnd_assoc, bind_ite, ok_ite, mkF_0, mkF_1, mkF_2, mkF_3, mkF_4, mkF_5, mkF_6, mkT_1, mkT_2, mkT_3, mkH_0, mkH_1, mkH_3, frame, List.map_cons, List.map_nil, List.cons_append, List.nil_append, List.replicate, Nat.sub_self, Nat.reduceSub, Nat.reduceAdd, Nat.reduceEqDiff]
  rw [if_neg (by omega), if_neg (by omega)]
  trivial
theorem lc_stay {mk : List D → Mem → Res D} {ρ : DEnv} {x y : D} {ts : List (Int × Int)} {gl : List Int} {i4 i5 iw tw : Nat} {μ : Mem} (hx : seqL μ x = some (ts.map enc)) (h4 : ρ[i4]? = some (some x)) (h5 : ρ[i5]? = some (some y)) (hv : Views μ y gl) (hl : ts.length ≤ 1000)
    (n1 : iw ≠ i5) (n2 : tw ≠ i5) (n3 : iw ≠ tw) (l1 : iw < ρ.length) (l2 : tw < ρ.length) :
    eLc mk (iEnumM (aCons (eVar i4) aNil)) (gTp 2 (gsCons (gNm iw) (gsCons (gNm tw) gsNil))) (tst (eBin mNotIn (eVar iw) (eVar i5))) (eVar tw) [iw, tw] ρ μ = mk (((ts.zipIdx.filter fun p => !decide ((p.2 : Int) ∈ gl)).map (·.1)).map enc) μ := by
  have w1 : (wipeD ρ [iw, tw]).length = ρ.length := by simp [wipeD]
  refine eLc_ok (it := ⟨enumD 0 (ts.map enc), fun μ' => seqL μ' x = some (ts.map enc)⟩) (μ1 := μ) (μ2 := μ) ?_ (by rw [enumD_len, List.length_map]; omega) ?_
  · simp only [iEnumM, aCons, aNil, eVar, h4, Res.bind_ok, hx]
  · rw [enumD_map, List.map_map]
    refine lcL_pure (chk := fun μ' => seqL μ' x = some (ts.map enc)) _ (fun p : (Int × Int) × Nat => !decide ((p.2 : Int) ∈ gl)) _ hx _ fun p _ => ⟨_, rfl, ?_, fun _ => ?_⟩
    · simp only [tst, eBin, eVar]
      rw [List.getElem?_set_ne (fun z => n3 z.symm), List.getElem?_set_self (by rw [w1]; exact l1)]
      simp only [Res.bind_ok]
      rw [List.getElem?_set_ne n2, List.getElem?_set_ne n1]
      simp only [wipeD]
      rw [List.getElem?_set_ne n1, List.getElem?_set_ne n2, h5]
      simp only [Res.bind_ok]
      rw [mNotIn_iv hv]
      rfl
    · simp only [eVar]
      rw [List.getElem?_set_self (by rw [List.length_set, w1]; exact l2)]
      rfl
/-! ### split -/
theorem m_split_ok {n s : Int} {ts ps : List (Int × Int)} {x y : D} {μ : Mem} (hx : seqL μ x = some (ts.map enc)) (hy : seqL μ y = some (ps.map enc)) (h0 : 0 ≤ s) (h1 : s < n) (hp : PairsOk s ts ps) (hl : ts.length ≤ 1000) (hl2 : ps.length ≤ 1000) :
    Ok (m_split [.tup [.int n, x], .int s, y] μ) fun d μ' => ∃ k, d = .tup [.int n, .hnd k] ∧ μ'[k]? = some (some (.lst ((splitV s ts ps).map enc))) ∧ μ.length ≤ k ∧ Keeps μ μ' := by
  unfold m_split runM b_split
  try simp only [sSeq, sNil, sPass, sIf, sRet, sRetN, sExpr, sAsg, sAug, sPar, sBrk, sCont, eVar, eC, eBin, eNeg, eNot, eAnd, eOr, eIf, eChain, eLst, eTup, eCall, tst, tAndM, tOrM, tNotM, aNil, aCons, gNm, gsNil, gsCons, gTp, gSubM, oNone, oSome, mI0, mSub, mLt, mLe, mGt, mGe, Res.bind_ok, flD, List.getElem?_cons_zero, List.getElem?_cons_succ, List.set_cons_zero, List.set_cons_succ, List.length_cons, List.length_nil, if_true, reduceIte, decide_eq_true_eq, Bool.false_eq_true, Bool.true_eq_false, ok_ok, bnd_assoc, bind_ite, ok_ite, mkF_0, mkF_1, mkF_2, mkF_3, mkF_4, mkF_5, mkF_6, mkT_1, mkT_2, mkT_3, mkH_0, mkH_1, mkH_3, frame, List.map_cons, List.map_nil, List.cons_append, List.nil_append, List.replicate, Nat.sub_self, Nat.reduceSub, Nat.reduceAdd, Nat.reduceEqDiff]
  rw [callP_ok_of rfl (p_look_ok h0 h1)]
  try simp only [sSeq, sNil, sPass, sIf, sRet, sRetN, sExpr, sAsg, sAug, sPar, sBrk, sCont, eVar, eC, eBin, eNeg, eNot, eAnd, eOr, eIf, eChain, eLst, eTup, eCall, tst, tAndM, tOrM, tNotM, aNil, aCons, gNm, gsNil, gsCons, gTp, gSubM, oNone, oSome, mI0, mSub, mLt, mLe, mGt, mGe, Res.bind_ok, flD, List.getElem?_cons_zero, List.getElem?_cons_succ, List.set_cons_zero, List.set_cons_succ, List.length_cons, List.length_nil, if_true, reduceIte, decide_eq_true_eq, Bool.false_eq_true, Bool.true_eq_false, ok_ok, bnd_assoc, bind_ite, ok_ite, mkF_0, mkF_1, mkF_2, mkF_3, mkF_4, mkF_5, mkF_6, mkT_1, mkT_2, mkT_3, mkH_0, mkH_1, mkH_3, frame, List.map_cons, List.map_nil, List.cons_append, List.nil_append, List.replicate, Nat.sub_self, Nat.reduceSub, Nat.reduceAdd, Nat.reduceEqDiff]
  generalize hg : μ.length = g
  have c1 : (μ ++ [some (Cell.lst [])])[g]? = some (some (.lst ((goneL []).map enc))) := by rw [← hg]; exact app_new
  have k1 : Keeps μ (μ ++ [some (Cell.lst [])]) := keeps_app
  generalize μ ++ [some (Cell.lst [])] = μ1 at c1 k1
  have hgw : g < μ1.length := get_lt c1
  generalize hw : μ1.length = w at hgw
  have c2 := app_get (c' := some (Cell.lst [])) c1
  have d2 : (μ1 ++ [some (Cell.lst [])])[w]? = some (some (.lst ((newT s ts []).map enc))) := by rw [← hw]; exact app_new
  have k2 : Keeps μ (μ1 ++ [some (Cell.lst [])]) := k1.trans keeps_app
  generalize μ1 ++ [some (Cell.lst [])] = μ2 at c2 d2 k2
  refine Ok.step (Q' := fun f μ' => ∃ a b c e f' h, f = .nx [some (.tup [.int n, x]), some (.int s), some y, some (.int n), some x, some (.hnd g), some (.hnd w), a, b, c, e, f', h] ∧ μ'[g]? = some (some (.lst ((goneL ps).map enc))) ∧ μ'[w]? = some (some (.lst ((newT s ts ps).map enc))) ∧ Keeps μ μ') (ok_sFor ?_) ?_
  · simp only [sSeq, sNil, sPass, sIf, sRet, sRetN, sExpr, sAsg, sAug, sPar, sBrk, sCont, eVar, eC, eBin, eNeg, eNot, eAnd, eOr, eIf, eChain, eLst, eTup, eCall, tst, tAndM, tOrM, tNotM, aNil, aCons, gNm, gsNil, gsCons, gTp, gSubM, oNone, oSome, mI0, mSub, mLt, mLe, mGt, mGe, Res.bind_ok, flD, List.getElem?_cons_zero, List.getElem?_cons_succ, List.set_cons_zero, List.set_cons_succ, List.length_cons, List.length_nil, if_true, reduceIte, decide_eq_true_eq, Bool.false_eq_true, Bool.true_eq_false, ok_ok, bnd_assoc, bind_ite, ok_ite, mkF_0, mkF_1, mkF_2, mkF_3, mkF_4, mkF_5, mkF_6, mkT_1, mkT_2, mkT_3, mkH_0, mkH_1, mkH_3, frame, List.map_cons, List.map_nil, List.cons_append, List.nil_append, List.replicate, Nat.sub_self, Nat.reduceSub, Nat.reduceAdd, Nat.reduceEqDiff, iEnumM, seqL_keep k2 hy]
    refine ok_forL (fun i ρ μ' => (∃ a b c e f' h, ρ = [some (.tup [.int n, x]), some (.int s), some y, some (.int n), some x, some (.hnd g), some (.hnd w), a, b, c, e, f', h]) ∧ μ'[g]? = some (some (.lst ((goneL (ps.take i)).map enc))) ∧ μ'[w]? = some (some (.lst ((newT s ts (ps.take i)).map enc))) ∧ Keeps μ μ') ⟨⟨_, _, _, _, _, _, rfl⟩, c2, d2, k2⟩ (fun _ _ _ _ hi => seqL_keep hi.2.2.2 hy) ?_ ?_
    · rintro i d ρ μ3 hd ⟨⟨a, b, c, e, f', h, rfl⟩, c3, d3, k3⟩
      obtain ⟨d', hd', rfl⟩ := enumD_get 0 i _ _ hd
      rw [List.getElem?_map] at hd'
      obtain ⟨p, hpi, rfl⟩ := Option.map_eq_some_iff.mp hd'
      obtain ⟨q1, q2, q3, q4, q5⟩ := hp.1 p (List.mem_of_getElem? hpi)
      have hlt : i < ps.length := (List.getElem?_eq_some_iff.mp hpi).1
      have et : ps.take (i + 1) = ps.take i ++ [p] := by rw [List.take_succ, hpi]; rfl
      have hnd : (goneL (ps.take i) ++ [p.1, p.2]).Nodup := by
        have := hp.2
        rw [← List.take_append_drop (i + 1) ps, goneL_append, et, goneL_append] at this
        exact (List.nodup_append.mp this).1
      have nd := (List.nodup_append.mp hnd).2.2
      have n1 : p.1 ∉ goneL (ps.take i) := fun z => nd _ z _ (by simp) rfl
      have n2 : p.2 ∉ goneL (ps.take i) := fun z => nd _ z _ (by simp) rfl
      have hx3 := seqL_keep k3 hx
      have ix1 : mIx x (.int p.1) μ3 = .ok (enc (tieAt ts p.1)) μ3 := mIx_seq hx3 (j := p.1.toNat) (by omega) (tieAt_get (by omega) (by omega))
      have ix2 : mIx x (.int p.2) μ3 = .ok (enc (tieAt ts p.2)) μ3 := mIx_seq hx3 (j := p.2.toNat) (by omega) (tieAt_get (by omega) (by omega))
      simp only [gTp, gsCons, gsNil, gNm, List.length_cons, List.length_nil, if_true, Res.bind_ok, ok_ok, enc_pair]
      simp only [sSeq, sNil, sPass, sIf, sRet, sRetN, sExpr, sAsg, sAug, sPar, sBrk, sCont, eVar, eC, eBin, eNeg, eNot, eAnd, eOr, eIf, eChain, eLst, eTup, eCall, tst, tAndM, tOrM, tNotM, aNil, aCons, gNm, gsNil, gsCons, gTp, gSubM, oNone, oSome, mI0, mSub, mLt, mLe, mGt, mGe, Res.bind_ok, flD, List.getElem?_cons_zero, List.getElem?_cons_succ, List.set_cons_zero, List.set_cons_succ, List.length_cons, List.length_nil, if_true, reduceIte, decide_eq_true_eq, Bool.false_eq_true, Bool.true_eq_false, ok_ok, bnd_assoc, bind_ite, ok_ite, mkF_0, mkF_1, mkF_2, mkF_3, mkF_4, mkF_5, mkF_6, mkT_1, mkT_2, mkT_3, mkH_0, mkH_1, mkH_3, frame, List.map_cons, List.map_nil, List.cons_append, List.nil_append, List.replicate, Nat.sub_self, Nat.reduceSub, Nat.reduceAdd, Nat.reduceEqDiff, enc_int, mLen_seq hx3, List.length_map]
      rw [if_neg (by omega), if_neg (by omega), if_neg (by omega), mIn_iv (views_cell c3)]
      simp only [sSeq, sNil, sPass, sIf, sRet, sRetN, sExpr, sAsg, sAug, sPar, sBrk, sCont, eVar, eC, eBin, eNeg, eNot, eAnd, eOr, eIf, eChain, eLst, eTup, eCall, tst, tAndM, tOrM, tNotM, aNil, aCons, gNm, gsNil, gsCons, gTp, gSubM, oNone, oSome, mI0, mSub, mLt, mLe, mGt, mGe, Res.bind_ok, flD, List.getElem?_cons_zero, List.getElem?_cons_succ, List.set_cons_zero, List.set_cons_succ, List.length_cons, List.length_nil, if_true, reduceIte, decide_eq_true_eq, Bool.false_eq_true, Bool.true_eq_false, ok_ok, bnd_assoc, bind_ite, ok_ite, mkF_0, mkF_1, mkF_2, mkF_3, mkF_4, mkF_5, mkF_6, mkT_1, mkT_2, mkT_3, mkH_0, mkH_1, mkH_3, frame, List.map_cons, List.map_nil, List.cons_append, List.nil_append, List.replicate, Nat.sub_self, Nat.reduceSub, Nat.reduceAdd, Nat.reduceEqDiff, n1, decide_false]
      rw [mIn_iv (views_cell c3)]
      simp only [sSeq, sNil, sPass, sIf, sRet, sRetN, sExpr, sAsg, sAug, sPar, sBrk, sCont, eVar, eC, eBin, eNeg, eNot, eAnd, eOr, eIf, eChain, eLst, eTup, eCall, tst, tAndM, tOrM, tNotM, aNil, aCons, gNm, gsNil, gsCons, gTp, gSubM, oNone, oSome, mI0, mSub, mLt, mLe, mGt, mGe, Res.bind_ok, flD, List.getElem?_cons_zero, List.getElem?_cons_succ, List.set_cons_zero, List.set_cons_succ, List.length_cons, List.length_nil, if_true, reduceIte, decide_eq_true_eq, Bool.false_eq_true, Bool.true_eq_false, ok_ok, bnd_assoc, bind_ite, ok_ite, mkF_0, mkF_1, mkF_2, mkF_3, mkF_4, mkF_5, mkF_6, mkT_1, mkT_2, mkT_3, mkH_0, mkH_1, mkH_3, frame, List.map_cons, List.map_nil, List.cons_append, List.nil_append, List.replicate, Nat.sub_self, Nat.reduceSub, Nat.reduceAdd, Nat.reduceEqDiff, n2, decide_false, ix1]
      rw [mNotIn_e]
      simp only [sSeq, sNil, sPass, sIf, sRet, sRetN, sExpr, sAsg, sAug, sPar, sBrk, sCont, eVar, eC, eBin, eNeg, eNot, eAnd, eOr, eIf, eChain, eLst, eTup, eCall, tst, tAndM, tOrM, tNotM, aNil, aCons, gNm, gsNil, gsCons, gTp, gSubM, oNone, oSome, mI0, mSub, mLt, mLe, mGt, mGe, Res.bind_ok, flD, List.getElem?_cons_zero, List.getElem?_cons_succ, List.set_cons_zero, List.set_cons_succ, List.length_cons, List.length_nil, if_true, reduceIte, decide_eq_true_eq, Bool.false_eq_true, Bool.true_eq_false, ok_ok, bnd_assoc, bind_ite, ok_ite, mkF_0, mkF_1, mkF_2, mkF_3, mkF_4, mkF_5, mkF_6, mkT_1, mkT_2, mkT_3, mkH_0, mkH_1, mkH_3, frame, List.map_cons, List.map_nil, List.cons_append, List.nil_append, List.replicate, Nat.sub_self, Nat.reduceSub, Nat.reduceAdd, Nat.reduceEqDiff, q4, decide_true, Bool.not_true, ix2]
      rw [mNotIn_e]
      simp only [sSeq, sNil, sPass, sIf, sRet, sRetN, sExpr, sAsg, sAug, sPar, sBrk, sCont, eVar, eC, eBin, eNeg, eNot, eAnd, eOr, eIf, eChain, eLst, eTup, eCall, tst, tAndM, tOrM, tNotM, aNil, aCons, gNm, gsNil, gsCons, gTp, gSubM, oNone, oSome, mI0, mSub, mLt, mLe, mGt, mGe, Res.bind_ok, flD, List.getElem?_cons_zero, List.getElem?_cons_succ, List.set_cons_zero, List.set_cons_succ, List.length_cons, List.length_nil, if_true, reduceIte, decide_eq_true_eq, Bool.false_eq_true, Bool.true_eq_false, ok_ok, bnd_assoc, bind_ite, ok_ite, mkF_0, mkF_1, mkF_2, mkF_3, mkF_4, mkF_5, mkF_6, mkT_1, mkT_2, mkT_3, mkH_0, mkH_1, mkH_3, frame, List.map_cons, List.map_nil, List.cons_append, List.nil_append, List.replicate, Nat.sub_self, Nat.reduceSub, Nat.reduceAdd, Nat.reduceEqDiff, q5, decide_true, Bool.not_true]
      rw [eBM_of (d := .hnd g) (ds := [.lst [.int p.1, .int p.2]]) (μ1 := μ3) (μ2 := μ3) rfl (tyOk_cell c3) (by simp only [sSeq, sNil, sPass, sIf, sRet, sRetN, sExpr, sAsg, sAug, sPar, sBrk, sCont, eVar, eC, eBin, eNeg, eNot, eAnd, eOr, eIf, eChain, eLst, eTup, eCall, tst, tAndM, tOrM, tNotM, aNil, aCons, gNm, gsNil, gsCons, gTp, gSubM, oNone, oSome, mI0, mSub, mLt, mLe, mGt, mGe, Res.bind_ok, flD, List.getElem?_cons_zero, List.getElem?_cons_succ, List.set_cons_zero, List.set_cons_succ, List.length_cons, List.length_nil, if_true, reduceIte, decide_eq_true_eq, Bool.false_eq_true, Bool.true_eq_false, ok_ok, bnd_assoc, bind_ite, ok_ite, mkF_0, mkF_1, mkF_2, mkF_3, mkF_4, mkF_5, mkF_6, mkT_1, mkT_2, mkT_3, mkH_0, mkH_1, mkH_3, frame, List.map_cons, List.map_nil, List.cons_append, List.nil_append, List.replicate, Nat.sub_self, Nat.reduceSub, Nat.reduceAdd, Nat.reduceEqDiff]), mExtend_of (es := [.int p.1, .int p.2]) c3 rfl (by
        have := goneL_len (ps.take i)
        rw [List.length_map, this, List.length_take]
        simp
        omega), show (goneL (ps.take i)).map enc ++ [D.int p.1, D.int p.2] = (goneL (ps.take (i + 1))).map enc by rw [et, goneL_append, List.map_append]; rfl]
      have c4 : (μ3.set g (some (.lst ((goneL (ps.take (i + 1))).map enc))))[g]? = some (some (.lst ((goneL (ps.take (i + 1))).map enc))) := List.getElem?_set_self (get_lt c3)
      have d4 : (μ3.set g (some (.lst ((goneL (ps.take (i + 1))).map enc))))[w]? = some (some (.lst ((newT s ts (ps.take i)).map enc))) := by rw [List.getElem?_set_ne (by omega)]; exact d3
      have k4 : Keeps μ (μ3.set g (some (.lst ((goneL (ps.take (i + 1))).map enc)))) := keeps_set k3 (by omega)
      generalize μ3.set g (some (.lst ((goneL (ps.take (i + 1))).map enc))) = μ4 at c4 d4 k4
      have hx4 := seqL_keep k4 hx
      have iy1 : mIx x (.int p.1) μ4 = .ok (enc (tieAt ts p.1)) μ4 := mIx_seq hx4 (j := p.1.toNat) (by omega) (tieAt_get (by omega) (by omega))
      have iy2 : mIx x (.int p.2) μ4 = .ok (enc (tieAt ts p.2)) μ4 := mIx_seq hx4 (j := p.2.toNat) (by omega) (tieAt_get (by omega) (by omega))
      simp only [sSeq, sNil, sPass, sIf, sRet, sRetN, sExpr, sAsg, sAug, sPar, sBrk, sCont, eVar, eC, eBin, eNeg, eNot, eAnd, eOr, eIf, eChain, eLst, eTup, eCall, tst, tAndM, tOrM, tNotM, aNil, aCons, gNm, gsNil, gsCons, gTp, gSubM, oNone, oSome, mI0, mSub, mLt, mLe, mGt, mGe, Res.bind_ok, flD, List.getElem?_cons_zero, List.getElem?_cons_succ, List.set_cons_zero, List.set_cons_succ, List.length_cons, List.length_nil, if_true, reduceIte, decide_eq_true_eq, Bool.false_eq_true, Bool.true_eq_false, ok_ok, bnd_assoc, bind_ite, ok_ite, mkF_0, mkF_1, mkF_2, mkF_3, mkF_4, mkF_5, mkF_6, mkT_1, mkT_2, mkT_3, mkH_0, mkH_1, mkH_3, frame, List.map_cons, List.map_nil, List.cons_append, List.nil_append, List.replicate, Nat.sub_self, Nat.reduceSub, Nat.reduceAdd, Nat.reduceEqDiff, iy1]
      rw [callP_ok_of (by simp [hfrees, hfree, Enc.hf]) (p_other_end_ok _ s)]
      simp only [sSeq, sNil, sPass, sIf, sRet, sRetN, sExpr, sAsg, sAug, sPar, sBrk, sCont, eVar, eC, eBin, eNeg, eNot, eAnd, eOr, eIf, eChain, eLst, eTup, eCall, tst, tAndM, tOrM, tNotM, aNil, aCons, gNm, gsNil, gsCons, gTp, gSubM, oNone, oSome, mI0, mSub, mLt, mLe, mGt, mGe, Res.bind_ok, flD, List.getElem?_cons_zero, List.getElem?_cons_succ, List.set_cons_zero, List.set_cons_succ, List.length_cons, List.length_nil, if_true, reduceIte, decide_eq_true_eq, Bool.false_eq_true, Bool.true_eq_false, ok_ok, bnd_assoc, bind_ite, ok_ite, mkF_0, mkF_1, mkF_2, mkF_3, mkF_4, mkF_5, mkF_6, mkT_1, mkT_2, mkT_3, mkH_0, mkH_1, mkH_3, frame, List.map_cons, List.map_nil, List.cons_append, List.nil_append, List.replicate, Nat.sub_self, Nat.reduceSub, Nat.reduceAdd, Nat.reduceEqDiff, iy2]
      rw [callP_ok_of (by simp [hfrees, hfree, Enc.hf]) (p_other_end_ok _ s)]
      simp only [sSeq, sNil, sPass, sIf, sRet, sRetN, sExpr, sAsg, sAug, sPar, sBrk, sCont, eVar, eC, eBin, eNeg, eNot, eAnd, eOr, eIf, eChain, eLst, eTup, eCall, tst, tAndM, tOrM, tNotM, aNil, aCons, gNm, gsNil, gsCons, gTp, gSubM, oNone, oSome, mI0, mSub, mLt, mLe, mGt, mGe, Res.bind_ok, flD, List.getElem?_cons_zero, List.getElem?_cons_succ, List.set_cons_zero, List.set_cons_succ, List.length_cons, List.length_nil, if_true, reduceIte, decide_eq_true_eq, Bool.false_eq_true, Bool.true_eq_false, ok_ok, bnd_assoc, bind_ite, ok_ite, mkF_0, mkF_1, mkF_2, mkF_3, mkF_4, mkF_5, mkF_6, mkT_1, mkT_2, mkT_3, mkH_0, mkH_1, mkH_3, frame, List.map_cons, List.map_nil, List.cons_append, List.nil_append, List.replicate, Nat.sub_self, Nat.reduceSub, Nat.reduceAdd, Nat.reduceEqDiff, mNe_i]
      have enw : newT s ts (ps.take (i + 1)) = newT s ts (ps.take i) ++ newOf s ts p := by rw [et, newT_append]; simp [newT]
      unfold newOf at enw
      generalize oth s (tieAt ts p.1) = u at enw
      generalize oth s (tieAt ts p.2) = v at enw
      by_cases huv : u = v
      · rw [if_pos huv, List.append_nil] at enw
        simp only [huv, decide_true, Bool.not_true, sSeq, sNil, sPass, sIf, sRet, sRetN, sExpr, sAsg, sAug, sPar, sBrk, sCont, eVar, eC, eBin, eNeg, eNot, eAnd, eOr, eIf, eChain, eLst, eTup, eCall, tst, tAndM, tOrM, tNotM, aNil, aCons, gNm, gsNil, gsCons, gTp, gSubM, oNone, oSome, mI0, mSub, mLt, mLe, mGt, mGe, Res.bind_ok, flD, List.getElem?_cons_zero, List.getElem?_cons_succ, List.set_cons_zero, List.set_cons_succ, List.length_cons, List.length_nil, if_true, reduceIte, decide_eq_true_eq, Bool.false_eq_true, Bool.true_eq_false, ok_ok, bnd_assoc, bind_ite, ok_ite, mkF_0, mkF_1, mkF_2, mkF_3, mkF_4, mkF_5, mkF_6, mkT_1, mkT_2, mkT_3, mkH_0, mkH_1, mkH_3, frame, List.map_cons, List.map_nil, List.cons_append, List.nil_append, List.replicate, Nat.sub_self, Nat.reduceSub, Nat.reduceAdd, Nat.reduceEqDiff]
        exact ⟨⟨_, _, _, _, _, _, rfl⟩, c4, by rw [enw]; exact d4, k4⟩
      · rw [if_neg huv] at enw
        simp only [huv, decide_false, Bool.not_false, sSeq, sNil, sPass, sIf, sRet, sRetN, sExpr, sAsg, sAug, sPar, sBrk, sCont, eVar, eC, eBin, eNeg, eNot, eAnd, eOr, eIf, eChain, eLst, eTup, eCall, tst, tAndM, tOrM, tNotM, aNil, aCons, gNm, gsNil, gsCons, gTp, gSubM, oNone, oSome, mI0, mSub, mLt, mLe, mGt, mGe, Res.bind_ok, flD, List.getElem?_cons_zero, List.getElem?_cons_succ, List.set_cons_zero, List.set_cons_succ, List.length_cons, List.length_nil, if_true, reduceIte, decide_eq_true_eq, Bool.false_eq_true, Bool.true_eq_false, ok_ok, bnd_assoc, bind_ite, ok_ite, mkF_0, mkF_1, mkF_2, mkF_3, mkF_4, mkF_5, mkF_6, mkT_1, mkT_2, mkT_3, mkH_0, mkH_1, mkH_3, frame, List.map_cons, List.map_nil, List.cons_append, List.nil_append, List.replicate, Nat.sub_self, Nat.reduceSub, Nat.reduceAdd, Nat.reduceEqDiff]
        rw [eBM_of (d := .hnd w) (ds := [.tup [.int (min u v), .int (max u v)]]) (μ1 := μ4) (μ2 := μ4) rfl (tyOk_cell d4) (by simp only [sSeq, sNil, sPass, sIf, sRet, sRetN, sExpr, sAsg, sAug, sPar, sBrk, sCont, eVar, eC, eBin, eNeg, eNot, eAnd, eOr, eIf, eChain, eLst, eTup, eCall, tst, tAndM, tOrM, tNotM, aNil, aCons, gNm, gsNil, gsCons, gTp, gSubM, oNone, oSome, mI0, mSub, mLt, mLe, mGt, mGe, Res.bind_ok, flD, List.getElem?_cons_zero, List.getElem?_cons_succ, List.set_cons_zero, List.set_cons_succ, List.length_cons, List.length_nil, if_true, reduceIte, decide_eq_true_eq, Bool.false_eq_true, Bool.true_eq_false, ok_ok, bnd_assoc, bind_ite, ok_ite, mkF_0, mkF_1, mkF_2, mkF_3, mkF_4, mkF_5, mkF_6, mkT_1, mkT_2, mkT_3, mkH_0, mkH_1, mkH_3, frame, List.map_cons, List.map_nil, List.cons_append, List.nil_append, List.replicate, Nat.sub_self, Nat.reduceSub, Nat.reduceAdd, Nat.reduceEqDiff, mMin2_i, mMax2_i]), mAppend_of d4 (by
          have := newT_len s ts (ps.take i)
          rw [List.length_map]
          rw [List.length_take] at this
          omega), show (newT s ts (ps.take i)).map enc ++ [D.tup [.int (min u v), .int (max u v)]] = (newT s ts (ps.take (i + 1))).map enc by rw [enw, List.map_append]; rfl]
        simp only [sSeq, sNil, sPass, sIf, sRet, sRetN, sExpr, sAsg, sAug, sPar, sBrk, sCont, eVar, eC, eBin, eNeg, eNot, eAnd, eOr, eIf, eChain, eLst, eTup, eCall, tst, tAndM, tOrM, tNotM, aNil, aCons, gNm, gsNil, gsCons, gTp, gSubM, oNone, oSome, mI0, mSub, mLt, mLe, mGt, mGe, Res.bind_ok, flD, List.getElem?_cons_zero, List.getElem?_cons_succ, List.set_cons_zero, List.set_cons_succ, List.length_cons, List.length_nil, if_true, reduceIte, decide_eq_true_eq, Bool.false_eq_true, Bool.true_eq_false, ok_ok, bnd_assoc, bind_ite, ok_ite, mkF_0, mkF_1, mkF_2, mkF_3, mkF_4, mkF_5, mkF_6, mkT_1, mkT_2, mkT_3, mkH_0, mkH_1, mkH_3, frame, List.map_cons, List.map_nil, List.cons_append, List.nil_append, List.replicate, Nat.sub_self, Nat.reduceSub, Nat.reduceAdd, Nat.reduceEqDiff]
        exact ⟨⟨_, _, _, _, _, _, rfl⟩, by rw [List.getElem?_set_ne (by omega)]; exact c4, List.getElem?_set_self (get_lt d4), keeps_set k4 (by omega)⟩
    · rintro ρ μ3 ⟨⟨a, b, c, e, f', h, rfl⟩, c3, d3, k3⟩
      rw [enumD_len, List.length_map, List.take_length] at c3 d3
      exact ⟨_, _, _, _, _, _, rfl, c3, d3, k3⟩
  · rintro _ μ3 ⟨a, b, c, e, f', h, rfl, c3, d3, k3⟩
    try simp only [sSeq, sNil, sPass, sIf, sRet, sRetN, sExpr, sAsg, sAug, sPar, sBrk, sCont, eVar, eC, eBin, eNeg, eNot, eAnd, eOr, eIf, eChain, eLst, eTup, eCall, tst, tAndM, tOrM, tNotM, aNil, aCons, gNm, gsNil, gsCons, gTp, gSubM, oNone, oSome, mI0, mSub, mLt, mLe, mGt, mGe, Res.bind_ok, flD, List.getElem?_cons_zero, List.getElem?_cons_succ, List.set_cons_zero, List.set_cons_succ, List.length_cons, List.length_nil, if_true, reduceIte, decide_eq_true_eq, Bool.false_eq_true, Bool.true_eq_false, ok_ok, bnd_assoc, bind_ite, ok_ite, mkF_0, mkF_1, mkF_2, mkF_3, mkF_4, mkF_5, mkF_6, mkT_1, mkT_2, mkT_3, mkH_0, mkH_1, mkH_3, frame, List.map_cons, List.map_nil, List.cons_append, List.nil_append, List.replicate, Nat.sub_self, Nat.reduceSub, Nat.reduceAdd, Nat.reduceEqDiff]
    rw [lc_stay (ts := ts) (seqL_keep k3 hx) rfl rfl (views_cell c3) hl (by decide) (by decide) (by decide) (by simp) (by simp), show (ts.zipIdx.filter fun p => !decide ((p.2 : Int) ∈ goneL ps)).map (·.1) = stayT ts ps from rfl, mkF_ok (by have := stayT_len ts ps; rw [List.length_map]; omega)]
    try simp only [sSeq, sNil, sPass, sIf, sRet, sRetN, sExpr, sAsg, sAug, sPar, sBrk, sCont, eVar, eC, eBin, eNeg, eNot, eAnd, eOr, eIf, eChain, eLst, eTup, eCall, tst, tAndM, tOrM, tNotM, aNil, aCons, gNm, gsNil, gsCons, gTp, gSubM, oNone, oSome, mI0, mSub, mLt, mLe, mGt, mGe, Res.bind_ok, flD, List.getElem?_cons_zero, List.getElem?_cons_succ, List.set_cons_zero, List.set_cons_succ, List.length_cons, List.length_nil, if_true, reduceIte, decide_eq_true_eq, Bool.false_eq_true, Bool.true_eq_false, ok_ok, bnd_assoc, bind_ite, ok_ite, mkF_0, mkF_1, mkF_2, mkF_3, mkF_4, mkF_5, mkF_6, mkT_1, mkT_2, mkT_3, mkH_0, mkH_1, mkH_3, frame, List.map_cons, List.map_nil, List.cons_append, List.nil_append, List.replicate, Nat.sub_self, Nat.reduceSub, Nat.reduceAdd, Nat.reduceEqDiff]
    rw [mAdd_lh d3, ← List.map_append, show stayT ts ps ++ newT s ts ps = splitV s ts ps from rfl, mkH_ok (by
      have := stayT_len ts ps
      have := newT_len s ts ps
      rw [List.length_map, splitV, List.length_append]
      omega)]
    try simp only [sSeq, sNil, sPass, sIf, sRet, sRetN, sExpr, sAsg, sAug, sPar, sBrk, sCont, eVar, eC, eBin, eNeg, eNot, eAnd, eOr, eIf, eChain, eLst, eTup, eCall, tst, tAndM, tOrM, tNotM, aNil, aCons, gNm, gsNil, gsCons, gTp, gSubM, oNone, oSome, mI0, mSub, mLt, mLe, mGt, mGe, Res.bind_ok, flD, List.getElem?_cons_zero, List.getElem?_cons_succ, List.set_cons_zero, List.set_cons_succ, List.length_cons, List.length_nil, if_true, reduceIte, decide_eq_true_eq, Bool.false_eq_true, Bool.true_eq_false, ok_ok, bnd_assoc, bind_ite, ok_ite, mkF_0, mkF_1, mkF_2, mkF_3, mkF_4, mkF_5, mkF_6, mkT_1, mkT_2, mkT_3, mkH_0, mkH_1, mkH_3, frame, List.map_cons, List.map_nil, List.cons_append, List.nil_append, List.replicate, Nat.sub_self, Nat.reduceSub, Nat.reduceAdd, Nat.reduceEqDiff]
    exact ⟨_, rfl, app_new, by have := k3.len; omega, k3.trans keeps_app⟩
theorem splitV_len {s : Int} {ts ps : List (Int × Int)} (h1 : ts.length ≤ 1000) (h2 : ps.length ≤ 1000) : (splitV s ts ps).length ≤ 1000000 := by
  have := stayT_len ts ps
  have := newT_len s ts ps
  rw [splitV, List.length_append]
  omega
/-! ### masks -/
theorem mShr_nat {m p : Nat} {μ : Mem} : mShr (.int m) (.int p) μ = .ok (.int ((m / 2 ^ p : Nat) : Int)) μ := by
  unfold mShr mI
  simp only
  rw [if_pos (by omega)]
  congr 2
theorem mAnd_one {x : Nat} {μ : Mem} : mAnd (.int x) (.int 1) μ = .ok (.int ((x % 2 : Nat) : Int)) μ := by
  unfold mAnd mI0
  simp only
  congr 2
  unfold Builtin.bitAnd
  rw [decide_eq_true (show (0 : Int) ≤ x by omega), decide_eq_true (show (0 : Int) ≤ 1 by omega)]
  simp only [Int.toNat_natCast, Int.toNat_one, Nat.and_one_is_mod]
theorem mShl_one {p : Nat} {μ : Mem} (h : p ≤ 1000000) : mShl (.int 1) (.int p) μ = .ok (.int ((2 ^ p : Nat) : Int)) μ := by
  unfold mShl mI
  simp only
  rw [if_pos ⟨by omega, by omega, by decide⟩]
  congr 2
  rw [Int.toNat_natCast, Int.one_mul]
  exact (Int.natCast_pow 2 p).symm
theorem tb_eq (m p : Nat) : decide ((((m / 2 ^ p) % 2 : Nat) : Int) = 1) = m.testBit p := by
  rw [Nat.testBit_eq_decide_div_mod_eq]
  by_cases h : m / 2 ^ p % 2 = 1
  · rw [decide_eq_true h, decide_eq_true (by omega)]
  · rw [decide_eq_false h, decide_eq_false (by omega)]
theorem p_has_ok (m p : Nat) : p_has [.int m, .int p] = .ok (.bl (m.testBit p)) := by
  refine runP_of ?_ rfl
  unfold runM b_has
  simp only [sSeq, sNil, sPass, sIf, sRet, sRetN, sExpr, sAsg, sAug, sPar, sBrk, sCont, eVar, eC, eBin, eNeg, eNot, eAnd, eOr, eIf, eChain, eLst, eTup, eCall, tst, tAndM, tOrM, tNotM, aNil, aCons, gNm, gsNil, gsCons, gTp, gSubM, oNone, oSome, mI0, mSub, mLt, mLe, mGt, mGe, Res.bind_ok, flD, List.getElem?_cons_zero, List.getElem?_cons_succ, List.set_cons_zero, List.set_cons_succ, List.length_cons, List.length_nil, if_true, reduceIte, decide_eq_true_eq, Bool.false_eq_true, Bool.true_eq_false, ok_ok, bnd_assoc, bind_ite, ok_ite, mkF_0, mkF_1, mkF_2, mkF_3, mkF_4, mkF_5, mkF_6, mkT_1, mkT_2, mkT_3, mkH_0, mkH_1, mkH_3, frame, List.map_cons, List.map_nil, List.cons_append, List.nil_append, List.replicate, Nat.sub_self, Nat.reduceSub, Nat.reduceAdd, Nat.reduceEqDiff, mShr_nat, mAnd_one, mEq_i, tb_eq]
/-- the lot of a mask -/
def lotM (n m : Nat) : List Int := (rangeL n).filter fun p => m.testBit p.toNat
theorem lotM_mem {n m : Nat} {p : Int} : p ∈ lotM n m ↔ 0 ≤ p ∧ p < n ∧ m.testBit p.toNat = true := by
  unfold lotM
  rw [List.mem_filter, rangeL_mem]
  exact ⟨fun ⟨⟨a, b⟩, c⟩ => ⟨a, b, c⟩, fun ⟨a, b, c⟩ => ⟨⟨a, b⟩, c⟩⟩
theorem rangeL_len (n : Nat) : (rangeL n).length = n := by simp [rangeL]
theorem rangeL_nodup (n : Nat) : (rangeL n).Nodup := by
  unfold rangeL List.Nodup
  rw [List.pairwise_map]
  exact List.nodup_range.imp fun h z => h (by omega)
theorem lotM_len (n m : Nat) : (lotM n m).length ≤ n := Nat.le_trans (List.length_filter_le _ _) (by rw [rangeL_len]; omega)
theorem p_lot_of_ok (m n : Nat) (hn : n ≤ 1000) : p_lot_of [.int m, .int n] = .ok (enc (lotM n m)) := by
  refine runP_of ?_ (Enc.hf _)
  unfold runM b_lot_of
  try simp only [sSeq, sNil, sPass, sIf, sRet, sRetN, sExpr, sAsg, sAug, sPar, sBrk, sCont, eVar, eC, eBin, eNeg, eNot, eAnd, eOr, eIf, eChain, eLst, eTup, eCall, tst, tAndM, tOrM, tNotM, aNil, aCons, gNm, gsNil, gsCons, gTp, gSubM, oNone, oSome, mI0, mSub, mLt, mLe, mGt, mGe, Res.bind_ok, flD, List.getElem?_cons_zero, List.getElem?_cons_succ, List.set_cons_zero, List.set_cons_succ, List.length_cons, List.length_nil, if_true, reduceIte, decide_eq_true_eq, Bool.false_eq_true, Bool.true_eq_false, ok_ok, bnd_assoc, bind_ite, ok_ite, mkF_0, mkF_1, mkF_2, mkF_3, mkF_4, mkF_5, mkF_6, mkT_1, mkT_2, mkT_3, mkH_0, mkH_1, mkH_3, frame, List.map_cons, List.map_nil, List.cons_append, List.nil_append, List.replicate, Nat.sub_self, Nat.reduceSub, Nat.reduceAdd, Nat.reduceEqDiff]
  rw [lc_flt (xs := rangeL n) (fun p => m.testBit p.toNat) (iRange1_L (by simp only [sSeq, sNil, sPass, sIf, sRet, sRetN, sExpr, sAsg, sAug, sPar, sBrk, sCont, eVar, eC, eBin, eNeg, eNot, eAnd, eOr, eIf, eChain, eLst, eTup, eCall, tst, tAndM, tOrM, tNotM, aNil, aCons, gNm, gsNil, gsCons, gTp, gSubM, oNone, oSome, mI0, mSub, mLt, mLe, mGt, mGe, Res.bind_ok, flD, List.getElem?_cons_zero, List.getElem?_cons_succ, List.set_cons_zero, List.set_cons_succ, List.length_cons, List.length_nil, if_true, reduceIte, decide_eq_true_eq, Bool.false_eq_true, Bool.true_eq_false, ok_ok, bnd_assoc, bind_ite, ok_ite, mkF_0, mkF_1, mkF_2, mkF_3, mkF_4, mkF_5, mkF_6, mkT_1, mkT_2, mkT_3, mkH_0, mkH_1, mkH_3, frame, List.map_cons, List.map_nil, List.cons_append, List.nil_append, List.replicate, Nat.sub_self, Nat.reduceSub, Nat.reduceAdd, Nat.reduceEqDiff]) (by omega)) trivial (by rw [rangeL_len]; omega) (by simp) (fun p hp => ?_)]
  · simp only [sSeq, sNil, sPass, sIf, sRet, sRetN, sExpr, sAsg, sAug, sPar, sBrk, sCont, eVar, eC, eBin, eNeg, eNot, eAnd, eOr, eIf, eChain, eLst, eTup, eCall, tst, tAndM, tOrM, tNotM, aNil, aCons, gNm, gsNil, gsCons, gTp, gSubM, oNone, oSome, mI0, mSub, mLt, mLe, mGt, mGe, Res.bind_ok, flD, List.getElem?_cons_zero, List.getElem?_cons_succ, List.set_cons_zero, List.set_cons_succ, List.length_cons, List.length_nil, if_true, reduceIte, decide_eq_true_eq, Bool.false_eq_true, Bool.true_eq_false, ok_ok, bnd_assoc, bind_ite, ok_ite, mkF_0, mkF_1, mkF_2, mkF_3, mkF_4, mkF_5, mkF_6, mkT_1, mkT_2, mkT_3, mkH_0, mkH_1, mkH_3, frame, List.map_cons, List.map_nil, List.cons_append, List.nil_append, List.replicate, Nat.sub_self, Nat.reduceSub, Nat.reduceAdd, Nat.reduceEqDiff]
    rfl
  · obtain ⟨h0, h1⟩ := rangeL_mem.mp hp
    obtain ⟨p, rfl⟩ : ∃ q : Nat, p = (q : Int) := ⟨p.toNat, by omega⟩
    simp only [wipeD, sSeq, sNil, sPass, sIf, sRet, sRetN, sExpr, sAsg, sAug, sPar, sBrk, sCont, eVar, eC, eBin, eNeg, eNot, eAnd, eOr, eIf, eChain, eLst, eTup, eCall, tst, tAndM, tOrM, tNotM, aNil, aCons, gNm, gsNil, gsCons, gTp, gSubM, oNone, oSome, mI0, mSub, mLt, mLe, mGt, mGe, Res.bind_ok, flD, List.getElem?_cons_zero, List.getElem?_cons_succ, List.set_cons_zero, List.set_cons_succ, List.length_cons, List.length_nil, if_true, reduceIte, decide_eq_true_eq, Bool.false_eq_true, Bool.true_eq_false, ok_ok, bnd_assoc, bind_ite, ok_ite, mkF_0, mkF_1, mkF_2, mkF_3, mkF_4, mkF_5, mkF_6, mkT_1, mkT_2, mkT_3, mkH_0, mkH_1, mkH_3, frame, List.map_cons, List.map_nil, List.cons_append, List.nil_append, List.replicate, Nat.sub_self, Nat.reduceSub, Nat.reduceAdd, Nat.reduceEqDiff, enc_int]
    rw [callP_ok_of rfl (p_has_ok m p)]
    simp only [sSeq, sNil, sPass, sIf, sRet, sRetN, sExpr, sAsg, sAug, sPar, sBrk, sCont, eVar, eC, eBin, eNeg, eNot, eAnd, eOr, eIf, eChain, eLst, eTup, eCall, tst, tAndM, tOrM, tNotM, aNil, aCons, gNm, gsNil, gsCons, gTp, gSubM, oNone, oSome, mI0, mSub, mLt, mLe, mGt, mGe, Res.bind_ok, flD, List.getElem?_cons_zero, List.getElem?_cons_succ, List.set_cons_zero, List.set_cons_succ, List.length_cons, List.length_nil, if_true, reduceIte, decide_eq_true_eq, Bool.false_eq_true, Bool.true_eq_false, ok_ok, bnd_assoc, bind_ite, ok_ite, mkF_0, mkF_1, mkF_2, mkF_3, mkF_4, mkF_5, mkF_6, mkT_1, mkT_2, mkT_3, mkH_0, mkH_1, mkH_3, frame, List.map_cons, List.map_nil, List.cons_append, List.nil_append, List.replicate, Nat.sub_self, Nat.reduceSub, Nat.reduceAdd, Nat.reduceEqDiff, Int.toNat_natCast]
/-! ### how many ties lead out, of all masks -/
/-- whether the mask has the place -/
def hasB (m : Nat) (p : Int) : Bool := m.testBit p.toNat
def cut1 (m : Nat) (t : Int × Int) : Int := if hasB m t.1 != hasB m t.2 then 1 else 0
/-- the ties that lead out of a mask -/
def cutM (ts : List (Int × Int)) (m : Nat) : Int := (ts.map (cut1 m)).sum
def near1 (t : Int × Int) (a b : Int) : Int := (if a = t.1 ∧ b = t.2 then 1 else 0) + (if a = t.2 ∧ b = t.1 then 1 else 0)
def nearM (ts : List (Int × Int)) (a b : Int) : Int := (ts.map fun t => near1 t a b).sum
theorem ind_sum (x : Int) (c : Prop) [Decidable c] : ∀ (l : List Int), l.Nodup → (l.map fun b => if c ∧ b = x then (1 : Int) else 0).sum = if c ∧ x ∈ l then 1 else 0
  | [], _ => by simp
  | b :: l, h => by
    rw [List.nodup_cons] at h
    rw [List.map_cons, List.sum_cons, ind_sum x c l h.2]
    by_cases hc : c
    · by_cases hb : b = x
      · subst hb
        simp [hc, h.1]
      · have hb' : ¬ x = b := fun z => hb z.symm
        simp only [hc, true_and, hb, hb', if_false, Int.zero_add, List.mem_cons, false_or]
    · simp [hc]
theorem sum_add (f g : Int → Int) : ∀ l : List Int, (l.map fun b => f b + g b).sum = (l.map f).sum + (l.map g).sum
  | [] => rfl
  | b :: l => by
    rw [List.map_cons, List.map_cons, List.map_cons, List.sum_cons, List.sum_cons, List.sum_cons, sum_add f g l]
    omega
theorem near1_sum (t : Int × Int) (a : Int) {l : List Int} (h : l.Nodup) : (l.map fun b => near1 t a b).sum = (if a = t.1 ∧ t.2 ∈ l then 1 else 0) + (if a = t.2 ∧ t.1 ∈ l then 1 else 0) := by
  unfold near1
  rw [sum_add, ind_sum _ _ _ h, ind_sum _ _ _ h]
theorem nearM_sum (a : Int) {l : List Int} (h : l.Nodup) : ∀ ts : List (Int × Int), (l.map fun b => nearM ts a b).sum = (ts.map fun t => (if a = t.1 ∧ t.2 ∈ l then (1 : Int) else 0) + (if a = t.2 ∧ t.1 ∈ l then 1 else 0)).sum
  | [] => by
    induction l with
    | nil => rfl
    | cons b l ih =>
      rw [List.nodup_cons] at h
      have := ih h.2
      rw [List.map_cons, List.sum_cons, this]
      rfl
  | t :: ts => by
    have e : (fun b => nearM (t :: ts) a b) = fun b => near1 t a b + nearM ts a b := rfl
    rw [e, sum_add, near1_sum t a h, nearM_sum a h ts]
    rfl
theorem hasB_add {r p : Nat} (hr : r < 2 ^ p) {x : Int} (h0 : 0 ≤ x) : hasB (r + 2 ^ p) x = if x = p then true else hasB r x := by
  unfold hasB
  rw [Nat.add_comm]
  obtain ⟨x, rfl⟩ : ∃ q : Nat, x = (q : Int) := ⟨x.toNat, by omega⟩
  rw [Int.toNat_natCast]
  by_cases h : x = p
  · subst h
    rw [if_pos rfl, Nat.testBit_two_pow_add_eq, Nat.testBit_lt_two_pow hr]
    rfl
  · rw [if_neg (by omega)]
    by_cases h1 : x < p
    · exact Nat.testBit_two_pow_add_gt h1 r
    · have h2 : 2 ^ (p + 1) ≤ 2 ^ x := Nat.pow_le_pow_right (by decide) (by omega)
      have h3 : 2 ^ (p + 1) = 2 * 2 ^ p := by rw [Nat.pow_succ]; omega
      rw [Nat.testBit_lt_two_pow (show 2 ^ p + r < 2 ^ x by omega), Nat.testBit_lt_two_pow (show r < 2 ^ x by omega)]
theorem hasB_high {r p : Nat} (hr : r < 2 ^ p) {x : Int} (h : (p : Int) ≤ x) : hasB r x = false := by
  unfold hasB
  refine Nat.testBit_lt_two_pow (Nat.lt_of_lt_of_le hr (Nat.pow_le_pow_right (by decide) (by omega)))
theorem cut_step {n r p : Nat} (hr : r < 2 ^ p) (hp : p < n) : ∀ {ts : List (Int × Int)}, IsTies n ts →
    cutM ts (r + 2 ^ p) = cutM ts r + ((rangeL n).map fun b => nearM ts p b).sum - 2 * ((lotM p r).map fun b => nearM ts p b).sum := by
  intro ts
  have nd : (lotM p r).Nodup := (rangeL_nodup p).filter _
  rw [nearM_sum p (rangeL_nodup n), nearM_sum p nd]
  induction ts with
  | nil => intro _; rfl
  | cons t ts ih =>
    intro ht
    have ih := ih fun u hu => ht u (List.mem_cons_of_mem _ hu)
    obtain ⟨h1, h2, h3⟩ := ht t List.mem_cons_self
    unfold cutM at ih ⊢
    rw [List.map_cons, List.sum_cons, List.map_cons, List.sum_cons, List.map_cons, List.sum_cons, List.map_cons, List.sum_cons, ih]
    have e : cut1 (r + 2 ^ p) t = cut1 r t + ((if (p : Int) = t.1 ∧ t.2 ∈ rangeL n then (1 : Int) else 0) + (if (p : Int) = t.2 ∧ t.1 ∈ rangeL n then 1 else 0)) - 2 * ((if (p : Int) = t.1 ∧ t.2 ∈ lotM p r then (1 : Int) else 0) + (if (p : Int) = t.2 ∧ t.1 ∈ lotM p r then 1 else 0)) := by
      have m1 : t.1 ∈ rangeL n := rangeL_mem.mpr ⟨h1, by omega⟩
      have m2 : t.2 ∈ rangeL n := rangeL_mem.mpr ⟨by omega, h3⟩
      have l1 : t.1 ∈ lotM p r ↔ hasB r t.1 = true := by
        rw [lotM_mem]
        refine ⟨fun h => h.2.2, fun h => ⟨h1, ?_, h⟩⟩
        by_cases q : t.1 < p
        · exact q
        · rw [hasB_high hr (by omega)] at h; cases h
      have l2 : t.2 ∈ lotM p r ↔ hasB r t.2 = true := by
        rw [lotM_mem]
        refine ⟨fun h => h.2.2, fun h => ⟨by omega, ?_, h⟩⟩
        by_cases q : t.2 < p
        · exact q
        · rw [hasB_high hr (by omega)] at h; cases h
      have hpp : hasB r (p : Int) = false := hasB_high hr (Int.le_refl _)
      unfold cut1
      rw [hasB_add hr h1, hasB_add hr (show 0 ≤ t.2 by omega)]
      simp only [m1, m2, l1, l2, and_true]
      by_cases a1 : t.1 = (p : Int)
      · have a2 : ¬ t.2 = (p : Int) := by omega
        have b2 : ¬ (p : Int) = t.2 := fun z => a2 z.symm
        rw [a1]
        simp only [if_true, a2, if_false, hpp, true_and, b2, false_and]
        cases hasB r t.2 <;> decide
      · by_cases a2 : t.2 = (p : Int)
        · have b1 : ¬ (p : Int) = t.1 := fun z => a1 z.symm
          rw [a2]
          simp only [if_true, a1, if_false, hpp, true_and, b1, false_and]
          cases hasB r t.1 <;> decide
        · have b1 : ¬ (p : Int) = t.1 := fun z => a1 z.symm
          have b2 : ¬ (p : Int) = t.2 := fun z => a2 z.symm
          simp only [a1, a2, if_false, b1, b2, false_and]
          omega
    omega

def outsL (n : Nat) (ts : List (Int × Int)) : List Int := (List.range (2 ^ n)).map fun m => cutM ts m
/-- rows of a table: cells 0 .. n-1 -/
def RowsAt (μ : Mem) (n : Nat) (M : Int → Int → Int) : Prop := ∀ a : Nat, a < n → μ[a]? = some (some (.lst ((rangeL n).map fun b => .int (M a b))))
theorem RowsAt.ext {μ : Mem} {n : Nat} {M M' : Int → Int → Int} (h : RowsAt μ n M) (e : ∀ a b : Int, 0 ≤ a → a < n → 0 ≤ b → b < n → M a b = M' a b) : RowsAt μ n M' := fun a ha => by
  rw [h a ha]
  congr 3
  refine List.map_congr_left fun b hb => ?_
  have := rangeL_mem.mp hb
  rw [e a b (by omega) (by omega) this.1 this.2]
def bump (M : Int → Int → Int) (a b : Int) : Int → Int → Int := fun x y => if x = a ∧ y = b then M x y + 1 else M x y
theorem rangeL_get {n b : Nat} (h : b < n) : (rangeL n)[b]? = some (b : Int) := by
  unfold rangeL
  rw [List.getElem?_map, List.getElem?_range h]
  rfl
theorem rangeL_set {n b : Nat} (f : Int → Int) (v : Int) : ((rangeL n).map fun y : Int => D.int (f y)).set b (.int v) = (rangeL n).map fun y : Int => D.int (if y = (b : Int) then v else f y) := by
  refine List.ext_getElem? fun i => ?_
  rw [List.getElem?_set, List.getElem?_map, List.getElem?_map, List.length_map, rangeL_len]
  by_cases hi : i < n
  · rw [rangeL_get hi]
    simp only [Option.map_some]
    by_cases e : b = i
    · subst e
      rw [if_pos rfl, if_pos hi, if_pos rfl]
    · rw [if_neg e, if_neg (by omega)]
  · have : (rangeL n)[i]? = none := by rw [List.getElem?_eq_none_iff, rangeL_len]; omega
    rw [this]
    split
    · rw [if_neg (by omega)]; rfl
    · rfl
theorem aug_row {n : Nat} {M : Int → Int → Int} {a b : Nat} {α β : EM} {ρ : DEnv} {μ : Mem} (h : RowsAt μ n M) (ha : a < n) (hb : b < n) (h1 : α ρ μ = .ok (.hnd a) μ) (h2 : β ρ μ = .ok (.int b) μ) :
    ∃ μ', sAugS α β (eC (.int 1)) (mI0 fun i j => .int (i + j)) ρ μ = .ok (.nx ρ) μ' ∧ RowsAt μ' n (bump M a b) ∧ μ'.length = μ.length := by
  have hr := h a ha
  have hat : atI ((rangeL n).map fun y : Int => D.int (M a y)) (b : Int) = some (.int (M a b)) := atI_at rfl (by rw [List.getElem?_map, rangeL_get hb]; rfl)
  refine ⟨μ.set a (some (.lst ((rangeL n).map fun y : Int => D.int (if y = (b : Int) then M a b + 1 else M a y)))), ?_, ?_, List.length_set ..⟩
  · unfold sAugS
    rw [h1]
    simp only [Res.bind_ok, h2, getIxH, hr, hat, eC, mI0]
    rw [mSetIx_cell (i := (b : Int)) (j := b) hr rfl (by rw [List.length_map, rangeL_len]; exact hb), rangeL_set (fun y => M a y)]
    rfl
  · intro x hx
    by_cases e : a = x
    · subst e
      rw [List.getElem?_set_self (get_lt hr)]
      congr 3
      refine List.map_congr_left fun y _ => ?_
      unfold bump
      by_cases e2 : y = (b : Int)
      · subst e2; rw [if_pos rfl, if_pos ⟨rfl, rfl⟩]
      · rw [if_neg e2, if_neg (fun z => e2 z.2)]
    · rw [List.getElem?_set_ne e, h x hx]
      congr 3
      refine List.map_congr_left fun y _ => ?_
      unfold bump
      rw [if_neg (fun z => e (by have := z.1; omega))]
theorem bump_near {n : Nat} {ts : List (Int × Int)} {t : Int × Int} (h : t.1 < t.2) (a b : Int) : bump (bump (nearM ts) t.1 t.2) t.2 t.1 a b = nearM (ts ++ [t]) a b := by
  have e : nearM (ts ++ [t]) a b = nearM ts a b + near1 t a b := by
    unfold nearM
    rw [List.map_append, List.sum_append]
    simp
  rw [e]
  unfold bump near1
  by_cases c1 : a = t.1 ∧ b = t.2
  · rw [if_pos c1, if_neg (by omega)]
    rw [if_pos c1, if_neg (by omega)]
    omega
  · rw [if_neg c1, if_neg c1]
    split
    · omega
    · omega
theorem mSumA_of {d : D} {xs : List Int} {μ : Mem} (h : seqA μ d = some (xs.map D.int)) : mSumA [d] μ = .ok (.int xs.sum) μ := by
  unfold mSumA intsA
  simp only [h, Option.bind, asInts_map]
theorem rep_flat {α : Type} (x : α) (n : Nat) : (List.replicate n [x]).flatten = List.replicate n x := by
  induction n with
  | zero => rfl
  | succ n ih => rw [List.replicate_succ, List.flatten_cons, ih, List.replicate_succ]; rfl
theorem intBits_pos {m : Nat} (h : 0 < m) : Builtin.Int.intBits (m : Int) = m.log2 + 1 := by
  unfold Builtin.Int.intBits
  rw [if_neg (by simp; omega), Int.natAbs_natCast]
theorem cutM_0 (ts : List (Int × Int)) : cutM ts 0 = 0 := by
  unfold cutM
  induction ts with
  | nil => rfl
  | cons t ts ih => rw [List.map_cons, List.sum_cons, ih]; simp [cut1, hasB]
theorem p_outs_ok {n : Nat} {ts : List (Int × Int)} (hn : n ≤ 20) (ht : IsTies n ts) (hl : ts.length ≤ 1000000) : p_outs [.int n, enc ts] = .ok (enc (outsL n ts)) := by
  refine runP_fz (e := enc (outsL n ts)) ?_ (Enc.hf _)
  unfold runM b_outs
  try simp only [sSeq, sNil, sPass, sIf, sRet, sRetN, sExpr, sAsg, sAug, sPar, sBrk, sCont, eVar, eC, eBin, eNeg, eNot, eAnd, eOr, eIf, eChain, eLst, eTup, eCall, tst, tAndM, tOrM, tNotM, aNil, aCons, gNm, gsNil, gsCons, gTp, gSubM, oNone, oSome, mI0, mSub, mLt, mLe, mGt, mGe, Res.bind_ok, flD, List.getElem?_cons_zero, List.getElem?_cons_succ, List.set_cons_zero, List.set_cons_succ, List.length_cons, List.length_nil, if_true, reduceIte, decide_eq_true_eq, Bool.false_eq_true, Bool.true_eq_false, ok_ok, bnd_assoc, bind_ite, ok_ite, mkF_0, mkF_1, mkF_2, mkF_3, mkF_4, mkF_5, mkF_6, mkT_1, mkT_2, mkT_3, mkH_0, mkH_1, mkH_3, frame, List.map_cons, List.map_nil, List.cons_append, List.nil_append, List.replicate, Nat.sub_self, Nat.reduceSub, Nat.reduceAdd, Nat.reduceEqDiff]
  refine Ok.step (Q' := fun d μ => d = .lst ((List.range n).map D.hnd) ∧ RowsAt μ n (nearM []) ∧ μ.length = n) (ok_eLc ?_) ?_
  · rw [iRange1_of (μ1 := []) (j := (n : Int)) (by simp only [sSeq, sNil, sPass, sIf, sRet, sRetN, sExpr, sAsg, sAug, sPar, sBrk, sCont, eVar, eC, eBin, eNeg, eNot, eAnd, eOr, eIf, eChain, eLst, eTup, eCall, tst, tAndM, tOrM, tNotM, aNil, aCons, gNm, gsNil, gsCons, gTp, gSubM, oNone, oSome, mI0, mSub, mLt, mLe, mGt, mGe, Res.bind_ok, flD, List.getElem?_cons_zero, List.getElem?_cons_succ, List.set_cons_zero, List.set_cons_succ, List.length_cons, List.length_nil, if_true, reduceIte, decide_eq_true_eq, Bool.false_eq_true, Bool.true_eq_false, ok_ok, bnd_assoc, bind_ite, ok_ite, mkF_0, mkF_1, mkF_2, mkF_3, mkF_4, mkF_5, mkF_6, mkT_1, mkT_2, mkT_3, mkH_0, mkH_1, mkH_3, frame, List.map_cons, List.map_nil, List.cons_append, List.nil_append, List.replicate, Nat.sub_self, Nat.reduceSub, Nat.reduceAdd, Nat.reduceEqDiff]) (by omega) (by omega), ok_ok]
    refine ⟨by rw [rngD_len]; omega, ?_⟩
    refine ok_lcL (fun i ds μ => ds = (List.range i).map D.hnd ∧ μ = List.replicate i (some (.lst ((rangeL n).map fun b => .int (nearM [] 0 b))))) ⟨rfl, rfl⟩ (fun _ _ _ _ _ => trivial) ?_ ?_
    · rintro i x ds μ hx ⟨rfl, rfl⟩
      obtain ⟨hi, rfl⟩ := rngD_get hx
      simp only [wipeD, tYesM, sSeq, sNil, sPass, sIf, sRet, sRetN, sExpr, sAsg, sAug, sPar, sBrk, sCont, eVar, eC, eBin, eNeg, eNot, eAnd, eOr, eIf, eChain, eLst, eTup, eCall, tst, tAndM, tOrM, tNotM, aNil, aCons, gNm, gsNil, gsCons, gTp, gSubM, oNone, oSome, mI0, mSub, mLt, mLe, mGt, mGe, Res.bind_ok, flD, List.getElem?_cons_zero, List.getElem?_cons_succ, List.set_cons_zero, List.set_cons_succ, List.length_cons, List.length_nil, if_true, reduceIte, decide_eq_true_eq, Bool.false_eq_true, Bool.true_eq_false, ok_ok, bnd_assoc, bind_ite, ok_ite, mkF_0, mkF_1, mkF_2, mkF_3, mkF_4, mkF_5, mkF_6, mkT_1, mkT_2, mkT_3, mkH_0, mkH_1, mkH_3, frame, List.map_cons, List.map_nil, List.cons_append, List.nil_append, List.replicate, Nat.sub_self, Nat.reduceSub, Nat.reduceAdd, Nat.reduceEqDiff]
      have e : (List.replicate n [D.int 0]).flatten = (rangeL n).map fun b => D.int (nearM [] 0 b) := by
        rw [rep_flat, show (fun b : Int => D.int (nearM [] 0 b)) = fun _ => D.int 0 from rfl, List.map_const', rangeL_len]
      rw [show mMul mkH (.lst [.int 0]) (.int n) (List.replicate i (some (.lst ((rangeL n).map fun b => .int (nearM [] 0 b))))) = mkH ((rangeL n).map fun b => .int (nearM [] 0 b)) (List.replicate i (some (.lst ((rangeL n).map fun b => .int (nearM [] 0 b))))) by
        unfold mMul
        simp only [seqM_lst, Int.toNat_natCast, e]
        rw [if_pos ⟨by omega, by omega, by rw [sizeLine_eq]; simp; omega⟩], mkH_ok (by rw [List.length_map, rangeL_len]; omega)]
      refine ⟨?_, ?_⟩
      · rw [List.length_replicate, List.range_succ, List.map_append]; rfl
      · exact (List.replicate_succ' ..).symm
    · rintro ds μ ⟨rfl, rfl⟩
      rw [rngD_len, Int.toNat_natCast, mkF_ok (by simp; omega)]
      refine ⟨rfl, fun a ha => ?_, List.length_replicate ..⟩
      rw [List.getElem?_replicate, if_pos ha]
      rfl
  · rintro _ μ1 ⟨rfl, hr1, hm1⟩
    try simp only [sSeq, sNil, sPass, sIf, sRet, sRetN, sExpr, sAsg, sAug, sPar, sBrk, sCont, eVar, eC, eBin, eNeg, eNot, eAnd, eOr, eIf, eChain, eLst, eTup, eCall, tst, tAndM, tOrM, tNotM, aNil, aCons, gNm, gsNil, gsCons, gTp, gSubM, oNone, oSome, mI0, mSub, mLt, mLe, mGt, mGe, Res.bind_ok, flD, List.getElem?_cons_zero, List.getElem?_cons_succ, List.set_cons_zero, List.set_cons_succ, List.length_cons, List.length_nil, if_true, reduceIte, decide_eq_true_eq, Bool.false_eq_true, Bool.true_eq_false, ok_ok, bnd_assoc, bind_ite, ok_ite, mkF_0, mkF_1, mkF_2, mkF_3, mkF_4, mkF_5, mkF_6, mkT_1, mkT_2, mkT_3, mkH_0, mkH_1, mkH_3, frame, List.map_cons, List.map_nil, List.cons_append, List.nil_append, List.replicate, Nat.sub_self, Nat.reduceSub, Nat.reduceAdd, Nat.reduceEqDiff]
    have ixn : ∀ (a : Int) (μ : Mem), 0 ≤ a → a < n → mIx (.lst ((List.range n).map D.hnd)) (.int a) μ = .ok (.hnd a.toNat) μ := fun a μ h0 h1 => mIx_lst (j := a.toNat) (by omega) (by rw [List.getElem?_map, List.getElem?_range (by omega)]; rfl)
    refine Ok.step (Q' := fun f μ => ∃ a b c d e g h k, f = .nx [some (.int n), some (enc ts), some (.lst ((List.range n).map D.hnd)), a, b, c, d, e, g, h, k] ∧ RowsAt μ n (nearM ts) ∧ μ.length = n) (ok_sFor ?_) ?_
    · have hs : ∀ μ, seqL μ (enc ts) = some (ts.map enc) := fun _ => rfl
      simp only [sSeq, sNil, sPass, sIf, sRet, sRetN, sExpr, sAsg, sAug, sPar, sBrk, sCont, eVar, eC, eBin, eNeg, eNot, eAnd, eOr, eIf, eChain, eLst, eTup, eCall, tst, tAndM, tOrM, tNotM, aNil, aCons, gNm, gsNil, gsCons, gTp, gSubM, oNone, oSome, mI0, mSub, mLt, mLe, mGt, mGe, Res.bind_ok, flD, List.getElem?_cons_zero, List.getElem?_cons_succ, List.set_cons_zero, List.set_cons_succ, List.length_cons, List.length_nil, if_true, reduceIte, decide_eq_true_eq, Bool.false_eq_true, Bool.true_eq_false, ok_ok, bnd_assoc, bind_ite, ok_ite, mkF_0, mkF_1, mkF_2, mkF_3, mkF_4, mkF_5, mkF_6, mkT_1, mkT_2, mkT_3, mkH_0, mkH_1, mkH_3, frame, List.map_cons, List.map_nil, List.cons_append, List.nil_append, List.replicate, Nat.sub_self, Nat.reduceSub, Nat.reduceAdd, Nat.reduceEqDiff, iSeq, hs]
      refine ok_forL (fun i ρ μ => (∃ a b c d e g h k, ρ = [some (.int n), some (enc ts), some (.lst ((List.range n).map D.hnd)), a, b, c, d, e, g, h, k]) ∧ RowsAt μ n (nearM (ts.take i)) ∧ μ.length = n) ⟨⟨_, _, _, _, _, _, _, _, rfl⟩, hr1, hm1⟩ (fun _ _ _ _ _ => trivial) ?_ ?_
      · rintro i x ρ μ hx ⟨⟨a, b, c, d, e, g, h, k, rfl⟩, hr, hm⟩
        rw [List.getElem?_map] at hx
        obtain ⟨t, hti, rfl⟩ := Option.map_eq_some_iff.mp hx
        obtain ⟨q1, q2, q3⟩ := ht t (List.mem_of_getElem? hti)
        have et : ts.take (i + 1) = ts.take i ++ [t] := by rw [List.take_succ, hti]; rfl
        obtain ⟨t1, t2⟩ := t
        obtain ⟨u, rfl⟩ : ∃ q : Nat, t1 = (q : Int) := ⟨t1.toNat, by simp only at q1; omega⟩
        obtain ⟨v, rfl⟩ : ∃ q : Nat, t2 = (q : Int) := ⟨t2.toNat, by simp only at q1 q2; omega⟩
        simp only at q1 q2 q3
        simp only [gTp, gsCons, gsNil, gNm, List.length_cons, List.length_nil, if_true, Res.bind_ok, ok_ok, enc_pair, enc_int, List.set_cons_succ, List.set_cons_zero]
        obtain ⟨μ2, s1, r2, l2⟩ := aug_row (α := eBin mIx (eVar 2) (eVar 3)) (β := eVar 4) (ρ := [some (.int n), some (enc ts), some (.lst ((List.range n).map D.hnd)), some (.int u), some (.int v), c, d, e, g, h, k]) (a := u) (b := v) hr (by omega) (by omega) (by simp only [sSeq, sNil, sPass, sIf, sRet, sRetN, sExpr, sAsg, sAug, sPar, sBrk, sCont, eVar, eC, eBin, eNeg, eNot, eAnd, eOr, eIf, eChain, eLst, eTup, eCall, tst, tAndM, tOrM, tNotM, aNil, aCons, gNm, gsNil, gsCons, gTp, gSubM, oNone, oSome, mI0, mSub, mLt, mLe, mGt, mGe, Res.bind_ok, flD, List.getElem?_cons_zero, List.getElem?_cons_succ, List.set_cons_zero, List.set_cons_succ, List.length_cons, List.length_nil, if_true, reduceIte, decide_eq_true_eq, Bool.false_eq_true, Bool.true_eq_false, ok_ok, bnd_assoc, bind_ite, ok_ite, mkF_0, mkF_1, mkF_2, mkF_3, mkF_4, mkF_5, mkF_6, mkT_1, mkT_2, mkT_3, mkH_0, mkH_1, mkH_3, frame, List.map_cons, List.map_nil, List.cons_append, List.nil_append, List.replicate, Nat.sub_self, Nat.reduceSub, Nat.reduceAdd, Nat.reduceEqDiff, ixn u μ (by omega) (by omega), Int.toNat_natCast]) (by simp only [sSeq, sNil, sPass, sIf, sRet, sRetN, sExpr, sAsg, sAug, sPar, sBrk, sCont, eVar, eC, eBin, eNeg, eNot, eAnd, eOr, eIf, eChain, eLst, eTup, eCall, tst, tAndM, tOrM, tNotM, aNil, aCons, gNm, gsNil, gsCons, gTp, gSubM, oNone, oSome, mI0, mSub, mLt, mLe, mGt, mGe, Res.bind_ok, flD, List.getElem?_cons_zero, List.getElem?_cons_succ, List.set_cons_zero, List.set_cons_succ, List.length_cons, List.length_nil, if_true, reduceIte, decide_eq_true_eq, Bool.false_eq_true, Bool.true_eq_false, ok_ok, bnd_assoc, bind_ite, ok_ite, mkF_0, mkF_1, mkF_2, mkF_3, mkF_4, mkF_5, mkF_6, mkT_1, mkT_2, mkT_3, mkH_0, mkH_1, mkH_3, frame, List.map_cons, List.map_nil, List.cons_append, List.nil_append, List.replicate, Nat.sub_self, Nat.reduceSub, Nat.reduceAdd, Nat.reduceEqDiff])
        obtain ⟨μ3, s2, r3, l3⟩ := aug_row (α := eBin mIx (eVar 2) (eVar 4)) (β := eVar 3) (ρ := [some (.int n), some (enc ts), some (.lst ((List.range n).map D.hnd)), some (.int u), some (.int v), c, d, e, g, h, k]) (a := v) (b := u) r2 (by omega) (by omega) (by simp only [sSeq, sNil, sPass, sIf, sRet, sRetN, sExpr, sAsg, sAug, sPar, sBrk, sCont, eVar, eC, eBin, eNeg, eNot, eAnd, eOr, eIf, eChain, eLst, eTup, eCall, tst, tAndM, tOrM, tNotM, aNil, aCons, gNm, gsNil, gsCons, gTp, gSubM, oNone, oSome, mI0, mSub, mLt, mLe, mGt, mGe, Res.bind_ok, flD, List.getElem?_cons_zero, List.getElem?_cons_succ, List.set_cons_zero, List.set_cons_succ, List.length_cons, List.length_nil, if_true, reduceIte, decide_eq_true_eq, Bool.false_eq_true, Bool.true_eq_false, ok_ok, bnd_assoc, bind_ite, ok_ite, mkF_0, mkF_1, mkF_2, mkF_3, mkF_4, mkF_5, mkF_6, mkT_1, mkT_2, mkT_3, mkH_0, mkH_1, mkH_3, frame, List.map_cons, List.map_nil, List.cons_append, List.nil_append, List.replicate, Nat.sub_self, Nat.reduceSub, Nat.reduceAdd, Nat.reduceEqDiff, ixn v μ2 (by omega) (by omega), Int.toNat_natCast]) (by simp only [sSeq, sNil, sPass, sIf, sRet, sRetN, sExpr, sAsg, sAug, sPar, sBrk, sCont, eVar, eC, eBin, eNeg, eNot, eAnd, eOr, eIf, eChain, eLst, eTup, eCall, tst, tAndM, tOrM, tNotM, aNil, aCons, gNm, gsNil, gsCons, gTp, gSubM, oNone, oSome, mI0, mSub, mLt, mLe, mGt, mGe, Res.bind_ok, flD, List.getElem?_cons_zero, List.getElem?_cons_succ, List.set_cons_zero, List.set_cons_succ, List.length_cons, List.length_nil, if_true, reduceIte, decide_eq_true_eq, Bool.false_eq_true, Bool.true_eq_false, ok_ok, bnd_assoc, bind_ite, ok_ite, mkF_0, mkF_1, mkF_2, mkF_3, mkF_4, mkF_5, mkF_6, mkT_1, mkT_2, mkT_3, mkH_0, mkH_1, mkH_3, frame, List.map_cons, List.map_nil, List.cons_append, List.nil_append, List.replicate, Nat.sub_self, Nat.reduceSub, Nat.reduceAdd, Nat.reduceEqDiff])
        simp only [sSeq, s1, Res.bind_ok, s2, ok_ok]
        refine ⟨⟨_, _, _, _, _, _, _, _, rfl⟩, r3.ext fun a b _ _ _ _ => ?_, by omega⟩
        rw [et]
        exact bump_near (n := n) (t := ((u : Int), (v : Int))) q2 a b
      · rintro ρ μ ⟨⟨a, b, c, d, e, g, h, k, rfl⟩, hr, hm⟩
        rw [List.length_map, List.take_length] at hr
        exact ⟨_, _, _, _, _, _, _, _, rfl, hr, hm⟩
    · rintro _ μ2 ⟨a, b, c, d, e, g, h, k, rfl, hr2, hm2⟩
      try simp only [sSeq, sNil, sPass, sIf, sRet, sRetN, sExpr, sAsg, sAug, sPar, sBrk, sCont, eVar, eC, eBin, eNeg, eNot, eAnd, eOr, eIf, eChain, eLst, eTup, eCall, tst, tAndM, tOrM, tNotM, aNil, aCons, gNm, gsNil, gsCons, gTp, gSubM, oNone, oSome, mI0, mSub, mLt, mLe, mGt, mGe, Res.bind_ok, flD, List.getElem?_cons_zero, List.getElem?_cons_succ, List.set_cons_zero, List.set_cons_succ, List.length_cons, List.length_nil, if_true, reduceIte, decide_eq_true_eq, Bool.false_eq_true, Bool.true_eq_false, ok_ok, bnd_assoc, bind_ite, ok_ite, mkF_0, mkF_1, mkF_2, mkF_3, mkF_4, mkF_5, mkF_6, mkT_1, mkT_2, mkT_3, mkH_0, mkH_1, mkH_3, frame, List.map_cons, List.map_nil, List.cons_append, List.nil_append, List.replicate, Nat.sub_self, Nat.reduceSub, Nat.reduceAdd, Nat.reduceEqDiff]
      have c0 : (μ2 ++ [some (Cell.lst [D.int 0])])[n]? = some (some (.lst (((List.range 1).map fun m : Nat => cutM ts m).map enc))) := by
        rw [← hm2]
        simp only [show (List.range 1) = [0] from rfl, List.map_cons, List.map_nil, cutM_0, enc_int]
        exact app_new
      have r0 : RowsAt (μ2 ++ [some (Cell.lst [D.int 0])]) n (nearM ts) := fun a ha => app_get (hr2 a ha)
      rw [hm2]
      generalize μ2 ++ [some (Cell.lst [D.int 0])] = μ3 at c0 r0
      refine Ok.step (Q' := fun f μ => ∃ a b d e g h k, f = .nx [some (.int n), some (enc ts), some (.lst ((List.range n).map D.hnd)), a, b, some (.hnd n), d, e, g, h, k] ∧ μ[n]? = some (some (.lst ((outsL n ts).map enc)))) (ok_sFor ?_) ?_
      · have hpow : (2 : Nat) ^ n ≤ 2 ^ 20 := Nat.pow_le_pow_right (by decide) hn
        have hp1 : 0 < 2 ^ n := Nat.two_pow_pos n
        rw [iRange2_of (μ1 := μ3) (i := 1) (j := ((2 ^ n : Nat) : Int)) (by simp only [sSeq, sNil, sPass, sIf, sRet, sRetN, sExpr, sAsg, sAug, sPar, sBrk, sCont, eVar, eC, eBin, eNeg, eNot, eAnd, eOr, eIf, eChain, eLst, eTup, eCall, tst, tAndM, tOrM, tNotM, aNil, aCons, gNm, gsNil, gsCons, gTp, gSubM, oNone, oSome, mI0, mSub, mLt, mLe, mGt, mGe, Res.bind_ok, flD, List.getElem?_cons_zero, List.getElem?_cons_succ, List.set_cons_zero, List.set_cons_succ, List.length_cons, List.length_nil, if_true, reduceIte, decide_eq_true_eq, Bool.false_eq_true, Bool.true_eq_false, ok_ok, bnd_assoc, bind_ite, ok_ite, mkF_0, mkF_1, mkF_2, mkF_3, mkF_4, mkF_5, mkF_6, mkT_1, mkT_2, mkT_3, mkH_0, mkH_1, mkH_3, frame, List.map_cons, List.map_nil, List.cons_append, List.nil_append, List.replicate, Nat.sub_self, Nat.reduceSub, Nat.reduceAdd, Nat.reduceEqDiff, mShl_one (show n ≤ 1000000 by omega)]) (by omega) (by omega) (by omega) (by omega), ok_ok]
        refine ok_forL (fun i ρ μ => (∃ a b d e g h k, ρ = [some (.int n), some (enc ts), some (.lst ((List.range n).map D.hnd)), a, b, some (.hnd n), d, e, g, h, k]) ∧ RowsAt μ n (nearM ts) ∧ μ[n]? = some (some (.lst (((List.range (i + 1)).map fun m : Nat => cutM ts m).map enc)))) ⟨⟨_, _, _, _, _, _, _, rfl⟩, r0, c0⟩ (fun _ _ _ _ _ => trivial) ?_ ?_
        · rintro i x ρ μ hx ⟨⟨a, b, d, e, g, h, k, rfl⟩, hr, hc⟩
          obtain ⟨hi, rfl⟩ := rngD_get hx
          have hi2 : i + 1 < 2 ^ n := by omega
          obtain ⟨m, hm⟩ : ∃ m, m = i + 1 := ⟨_, rfl⟩
          rw [show (1 : Int) + (i : Nat) = ((m : Nat) : Int) by omega]
          have hm0 : m ≠ 0 := by omega
          obtain ⟨p, hp⟩ : ∃ p, p = m.log2 := ⟨_, rfl⟩
          have hle : 2 ^ p ≤ m := by rw [hp]; exact Nat.log2_self_le hm0
          have hlt : m < 2 ^ (p + 1) := by rw [hp]; exact Nat.lt_log2_self
          have hpn : p < n := by
            by_cases q : p < n
            · exact q
            · have := Nat.pow_le_pow_right (show 0 < 2 by decide) (show n ≤ p by omega)
              omega
          obtain ⟨r, hr'⟩ : ∃ r, m = r + 2 ^ p := ⟨m - 2 ^ p, by omega⟩
          have hrp : r < 2 ^ p := by rw [Nat.pow_succ] at hlt; omega
          try simp only [sSeq, sNil, sPass, sIf, sRet, sRetN, sExpr, sAsg, sAug, sPar, sBrk, sCont, eVar, eC, eBin, eNeg, eNot, eAnd, eOr, eIf, eChain, eLst, eTup, eCall, tst, tAndM, tOrM, tNotM, aNil, aCons, gNm, gsNil, gsCons, gTp, gSubM, oNone, oSome, mI0, mSub, mLt, mLe, mGt, mGe, Res.bind_ok, flD, List.getElem?_cons_zero, List.getElem?_cons_succ, List.set_cons_zero, List.set_cons_succ, List.length_cons, List.length_nil, if_true, reduceIte, decide_eq_true_eq, Bool.false_eq_true, Bool.true_eq_false, ok_ok, bnd_assoc, bind_ite, ok_ite, mkF_0, mkF_1, mkF_2, mkF_3, mkF_4, mkF_5, mkF_6, mkT_1, mkT_2, mkT_3, mkH_0, mkH_1, mkH_3, frame, List.map_cons, List.map_nil, List.cons_append, List.nil_append, List.replicate, Nat.sub_self, Nat.reduceSub, Nat.reduceAdd, Nat.reduceEqDiff]
          simp only [eBits, sSeq, sNil, sPass, sIf, sRet, sRetN, sExpr, sAsg, sAug, sPar, sBrk, sCont, eVar, eC, eBin, eNeg, eNot, eAnd, eOr, eIf, eChain, eLst, eTup, eCall, tst, tAndM, tOrM, tNotM, aNil, aCons, gNm, gsNil, gsCons, gTp, gSubM, oNone, oSome, mI0, mSub, mLt, mLe, mGt, mGe, Res.bind_ok, flD, List.getElem?_cons_zero, List.getElem?_cons_succ, List.set_cons_zero, List.set_cons_succ, List.length_cons, List.length_nil, if_true, reduceIte, decide_eq_true_eq, Bool.false_eq_true, Bool.true_eq_false, ok_ok, bnd_assoc, bind_ite, ok_ite, mkF_0, mkF_1, mkF_2, mkF_3, mkF_4, mkF_5, mkF_6, mkT_1, mkT_2, mkT_3, mkH_0, mkH_1, mkH_3, frame, List.map_cons, List.map_nil, List.cons_append, List.nil_append, List.replicate, Nat.sub_self, Nat.reduceSub, Nat.reduceAdd, Nat.reduceEqDiff, intBits_pos (show 0 < m by omega), ← hp]
          simp only [sSeq, sNil, sPass, sIf, sRet, sRetN, sExpr, sAsg, sAug, sPar, sBrk, sCont, eVar, eC, eBin, eNeg, eNot, eAnd, eOr, eIf, eChain, eLst, eTup, eCall, tst, tAndM, tOrM, tNotM, aNil, aCons, gNm, gsNil, gsCons, gTp, gSubM, oNone, oSome, mI0, mSub, mLt, mLe, mGt, mGe, Res.bind_ok, flD, List.getElem?_cons_zero, List.getElem?_cons_succ, List.set_cons_zero, List.set_cons_succ, List.length_cons, List.length_nil, if_true, reduceIte, decide_eq_true_eq, Bool.false_eq_true, Bool.true_eq_false, ok_ok, bnd_assoc, bind_ite, ok_ite, mkF_0, mkF_1, mkF_2, mkF_3, mkF_4, mkF_5, mkF_6, mkT_1, mkT_2, mkT_3, mkH_0, mkH_1, mkH_3, frame, List.map_cons, List.map_nil, List.cons_append, List.nil_append, List.replicate, Nat.sub_self, Nat.reduceSub, Nat.reduceAdd, Nat.reduceEqDiff, show ((p + 1 : Nat) : Int) - 1 = (p : Int) by omega, mShl_one (show p ≤ 1000000 by omega)]
          rw [show (m : Int) - ((2 ^ p : Nat) : Int) = (r : Int) by omega]
          have hrow := hr p hpn
          have ixp : ∀ μ, mIx (.lst ((List.range n).map D.hnd)) (.int p) μ = .ok (.hnd p) μ := fun μ => ixn p μ (by omega) (by omega)
          rw [eLc_ok (it := ⟨(lotM p r).map enc, fun μ' => seqL μ' (enc (lotM p r)) = some ((lotM p r).map enc)⟩) (μ1 := μ) (μ2 := μ) (ds := ((lotM p r).map fun b => nearM ts p b).map D.int) (by simp only [iSeq, sSeq, sNil, sPass, sIf, sRet, sRetN, sExpr, sAsg, sAug, sPar, sBrk, sCont, eVar, eC, eBin, eNeg, eNot, eAnd, eOr, eIf, eChain, eLst, eTup, eCall, tst, tAndM, tOrM, tNotM, aNil, aCons, gNm, gsNil, gsCons, gTp, gSubM, oNone, oSome, mI0, mSub, mLt, mLe, mGt, mGe, Res.bind_ok, flD, List.getElem?_cons_zero, List.getElem?_cons_succ, List.set_cons_zero, List.set_cons_succ, List.length_cons, List.length_nil, if_true, reduceIte, decide_eq_true_eq, Bool.false_eq_true, Bool.true_eq_false, ok_ok, bnd_assoc, bind_ite, ok_ite, mkF_0, mkF_1, mkF_2, mkF_3, mkF_4, mkF_5, mkF_6, mkT_1, mkT_2, mkT_3, mkH_0, mkH_1, mkH_3, frame, List.map_cons, List.map_nil, List.cons_append, List.nil_append, List.replicate, Nat.sub_self, Nat.reduceSub, Nat.reduceAdd, Nat.reduceEqDiff]; rw [callP_ok_of rfl (p_lot_of_ok r p (by omega))]; rfl) (by have := lotM_len p r; rw [List.length_map]; omega) ?lc, mkF_ok (by have := lotM_len p r; rw [List.length_map, List.length_map]; omega)]
          case lc =>
            refine (lcL_pure (chk := fun μ' => seqL μ' (enc (lotM p r)) = some ((lotM p r).map enc)) enc (fun _ => true) (fun b : Int => D.int (nearM ts p b)) rfl (lotM p r) fun q hq => ⟨_, rfl, rfl, fun _ => ?_⟩).trans ?_
            · obtain ⟨q0, q1, _⟩ := lotM_mem.mp hq
              obtain ⟨q, rfl⟩ : ∃ z : Nat, q = (z : Int) := ⟨q.toNat, by omega⟩
              simp only [wipeD, sSeq, sNil, sPass, sIf, sRet, sRetN, sExpr, sAsg, sAug, sPar, sBrk, sCont, eVar, eC, eBin, eNeg, eNot, eAnd, eOr, eIf, eChain, eLst, eTup, eCall, tst, tAndM, tOrM, tNotM, aNil, aCons, gNm, gsNil, gsCons, gTp, gSubM, oNone, oSome, mI0, mSub, mLt, mLe, mGt, mGe, Res.bind_ok, flD, List.getElem?_cons_zero, List.getElem?_cons_succ, List.set_cons_zero, List.set_cons_succ, List.length_cons, List.length_nil, if_true, reduceIte, decide_eq_true_eq, Bool.false_eq_true, Bool.true_eq_false, ok_ok, bnd_assoc, bind_ite, ok_ite, mkF_0, mkF_1, mkF_2, mkF_3, mkF_4, mkF_5, mkF_6, mkT_1, mkT_2, mkT_3, mkH_0, mkH_1, mkH_3, frame, List.map_cons, List.map_nil, List.cons_append, List.nil_append, List.replicate, Nat.sub_self, Nat.reduceSub, Nat.reduceAdd, Nat.reduceEqDiff, ixp, enc_int]
              exact mIx_cell hrow (j := q) rfl (by rw [List.getElem?_map, rangeL_get (by omega)]; rfl)
            · rw [List.filter_eq_self.mpr (fun _ _ => rfl), List.map_map]; rfl
          try simp only [sSeq, sNil, sPass, sIf, sRet, sRetN, sExpr, sAsg, sAug, sPar, sBrk, sCont, eVar, eC, eBin, eNeg, eNot, eAnd, eOr, eIf, eChain, eLst, eTup, eCall, tst, tAndM, tOrM, tNotM, aNil, aCons, gNm, gsNil, gsCons, gTp, gSubM, oNone, oSome, mI0, mSub, mLt, mLe, mGt, mGe, Res.bind_ok, flD, List.getElem?_cons_zero, List.getElem?_cons_succ, List.set_cons_zero, List.set_cons_succ, List.length_cons, List.length_nil, if_true, reduceIte, decide_eq_true_eq, Bool.false_eq_true, Bool.true_eq_false, ok_ok, bnd_assoc, bind_ite, ok_ite, mkF_0, mkF_1, mkF_2, mkF_3, mkF_4, mkF_5, mkF_6, mkT_1, mkT_2, mkT_3, mkH_0, mkH_1, mkH_3, frame, List.map_cons, List.map_nil, List.cons_append, List.nil_append, List.replicate, Nat.sub_self, Nat.reduceSub, Nat.reduceAdd, Nat.reduceEqDiff]
          rw [mSumA_of (xs := (lotM p r).map fun b => nearM ts p b) rfl]
          try simp only [sSeq, sNil, sPass, sIf, sRet, sRetN, sExpr, sAsg, sAug, sPar, sBrk, sCont, eVar, eC, eBin, eNeg, eNot, eAnd, eOr, eIf, eChain, eLst, eTup, eCall, tst, tAndM, tOrM, tNotM, aNil, aCons, gNm, gsNil, gsCons, gTp, gSubM, oNone, oSome, mI0, mSub, mLt, mLe, mGt, mGe, Res.bind_ok, flD, List.getElem?_cons_zero, List.getElem?_cons_succ, List.set_cons_zero, List.set_cons_succ, List.length_cons, List.length_nil, if_true, reduceIte, decide_eq_true_eq, Bool.false_eq_true, Bool.true_eq_false, ok_ok, bnd_assoc, bind_ite, ok_ite, mkF_0, mkF_1, mkF_2, mkF_3, mkF_4, mkF_5, mkF_6, mkT_1, mkT_2, mkT_3, mkH_0, mkH_1, mkH_3, frame, List.map_cons, List.map_nil, List.cons_append, List.nil_append, List.replicate, Nat.sub_self, Nat.reduceSub, Nat.reduceAdd, Nat.reduceEqDiff]
          have ixr : mIx (.hnd n) (.int r) μ = .ok (.int (cutM ts r)) μ := mIx_cell hc (j := r) rfl (by rw [List.getElem?_map, List.getElem?_map, List.getElem?_range (by omega)]; rfl)
          have hsum : mSumA [.hnd p] μ = .ok (.int ((rangeL n).map fun b => nearM ts p b).sum) μ := mSumA_of (by rw [List.map_map]; simp only [seqA, seqL, hrow]; rfl)
          rw [eBM_of (d := .hnd n) (ds := [.int (cutM ts m)]) (μ1 := μ) (μ2 := μ) rfl (tyOk_cell hc) (by
            simp only [sSeq, sNil, sPass, sIf, sRet, sRetN, sExpr, sAsg, sAug, sPar, sBrk, sCont, eVar, eC, eBin, eNeg, eNot, eAnd, eOr, eIf, eChain, eLst, eTup, eCall, tst, tAndM, tOrM, tNotM, aNil, aCons, gNm, gsNil, gsCons, gTp, gSubM, oNone, oSome, mI0, mSub, mLt, mLe, mGt, mGe, Res.bind_ok, flD, List.getElem?_cons_zero, List.getElem?_cons_succ, List.set_cons_zero, List.set_cons_succ, List.length_cons, List.length_nil, if_true, reduceIte, decide_eq_true_eq, Bool.false_eq_true, Bool.true_eq_false, ok_ok, bnd_assoc, bind_ite, ok_ite, mkF_0, mkF_1, mkF_2, mkF_3, mkF_4, mkF_5, mkF_6, mkT_1, mkT_2, mkT_3, mkH_0, mkH_1, mkH_3, frame, List.map_cons, List.map_nil, List.cons_append, List.nil_append, List.replicate, Nat.sub_self, Nat.reduceSub, Nat.reduceAdd, Nat.reduceEqDiff, ixr, ixp, hsum, mAdd_int]
            rw [mMul_int (mulOk_l (by decide) (by decide))]
            simp only [sSeq, sNil, sPass, sIf, sRet, sRetN, sExpr, sAsg, sAug, sPar, sBrk, sCont, eVar, eC, eBin, eNeg, eNot, eAnd, eOr, eIf, eChain, eLst, eTup, eCall, tst, tAndM, tOrM, tNotM, aNil, aCons, gNm, gsNil, gsCons, gTp, gSubM, oNone, oSome, mI0, mSub, mLt, mLe, mGt, mGe, Res.bind_ok, flD, List.getElem?_cons_zero, List.getElem?_cons_succ, List.set_cons_zero, List.set_cons_succ, List.length_cons, List.length_nil, if_true, reduceIte, decide_eq_true_eq, Bool.false_eq_true, Bool.true_eq_false, ok_ok, bnd_assoc, bind_ite, ok_ite, mkF_0, mkF_1, mkF_2, mkF_3, mkF_4, mkF_5, mkF_6, mkT_1, mkT_2, mkT_3, mkH_0, mkH_1, mkH_3, frame, List.map_cons, List.map_nil, List.cons_append, List.nil_append, List.replicate, Nat.sub_self, Nat.reduceSub, Nat.reduceAdd, Nat.reduceEqDiff]
            rw [hr', cut_step hrp hpn ht]), mAppend_of hc (by simp; omega)]
          try simp only [sSeq, sNil, sPass, sIf, sRet, sRetN, sExpr, sAsg, sAug, sPar, sBrk, sCont, eVar, eC, eBin, eNeg, eNot, eAnd, eOr, eIf, eChain, eLst, eTup, eCall, tst, tAndM, tOrM, tNotM, aNil, aCons, gNm, gsNil, gsCons, gTp, gSubM, oNone, oSome, mI0, mSub, mLt, mLe, mGt, mGe, Res.bind_ok, flD, List.getElem?_cons_zero, List.getElem?_cons_succ, List.set_cons_zero, List.set_cons_succ, List.length_cons, List.length_nil, if_true, reduceIte, decide_eq_true_eq, Bool.false_eq_true, Bool.true_eq_false, ok_ok, bnd_assoc, bind_ite, ok_ite, mkF_0, mkF_1, mkF_2, mkF_3, mkF_4, mkF_5, mkF_6, mkT_1, mkT_2, mkT_3, mkH_0, mkH_1, mkH_3, frame, List.map_cons, List.map_nil, List.cons_append, List.nil_append, List.replicate, Nat.sub_self, Nat.reduceSub, Nat.reduceAdd, Nat.reduceEqDiff]
          refine ⟨⟨_, _, _, _, _, _, _, rfl⟩, fun a ha => ?_, ?_⟩
          · rw [List.getElem?_set_ne (by omega)]
            exact hr a ha
          · rw [List.getElem?_set_self (get_lt hc), hm, show List.range (i + 1 + 1) = List.range (i + 1) ++ [i + 1] from List.range_succ, List.map_append, List.map_append]
            rfl
        · rintro ρ μ ⟨⟨a, b, d, e, g, h, k, rfl⟩, hr, hc⟩
          rw [rngD_len, show (((2 ^ n : Nat) : Int) - 1).toNat + 1 = 2 ^ n by omega] at hc
          exact ⟨_, _, _, _, _, _, _, rfl, hc⟩
      · rintro _ μ4 ⟨a, b, d, e, g, h, k, rfl, hc⟩
        try simp only [sSeq, sNil, sPass, sIf, sRet, sRetN, sExpr, sAsg, sAug, sPar, sBrk, sCont, eVar, eC, eBin, eNeg, eNot, eAnd, eOr, eIf, eChain, eLst, eTup, eCall, tst, tAndM, tOrM, tNotM, aNil, aCons, gNm, gsNil, gsCons, gTp, gSubM, oNone, oSome, mI0, mSub, mLt, mLe, mGt, mGe, Res.bind_ok, flD, List.getElem?_cons_zero, List.getElem?_cons_succ, List.set_cons_zero, List.set_cons_succ, List.length_cons, List.length_nil, if_true, reduceIte, decide_eq_true_eq, Bool.false_eq_true, Bool.true_eq_false, ok_ok, bnd_assoc, bind_ite, ok_ite, mkF_0, mkF_1, mkF_2, mkF_3, mkF_4, mkF_5, mkF_6, mkT_1, mkT_2, mkT_3, mkH_0, mkH_1, mkH_3, frame, List.map_cons, List.map_nil, List.cons_append, List.nil_append, List.replicate, Nat.sub_self, Nat.reduceSub, Nat.reduceAdd, Nat.reduceEqDiff]
        exact freeze_cell hc (hfrees_map _)
/-! ### rings and webs that hold -/
/-- a list is emptied at drawn places, into another: a permutation -/
theorem drain_ok {α : Type} [Enc α] [DecidableEq α] (hdp : Enc.dp α ≤ 62) {k a b i j : Nat} {ρ : DEnv} {μ : Mem} {xs : List α} (p : PileAt μ k) (h0 : ρ[0]? = some (some (.hnd k))) (hi : ρ[i]? = some (some (.hnd a))) (hj : ρ[j]? = some (some (.hnd b))) (ka : k ≠ a) (kb : k ≠ b) (ab : a ≠ b)
    (ca : μ[a]? = some (some (.lst (xs.map enc)))) (cb : μ[b]? = some (some (.lst []))) (hl : xs.length ≤ 1000000) :
    Ok (sWhile (tst (eBin mNe (eVar i) (eLst mkF aNil))) (sExpr (eBM "list" mAppend (eVar j) (aCons (eBM "list" mPopAt (eVar i) (aCons (eCall m__law_take (aCons (eVar 0) (aCons (eCall mLen (aCons (eVar i) aNil)) aNil))) aNil)) aNil))) ρ μ) fun f μ' =>
      f = .nx ρ ∧ ∃ ys : List α, ys.Perm xs ∧ μ'[b]? = some (some (.lst (ys.map enc))) ∧ PileAt μ' k ∧ μ'.length = μ.length ∧ ∀ (l : Nat) (c : Option Cell), l ≠ k → l ≠ a → l ≠ b → μ[l]? = some c → μ'[l]? = some c := by
  refine ok_sWhile (fun n ρ' μ' => ρ' = ρ ∧ ∃ ls ys : List α, ls.length = n ∧ (ys ++ ls).Perm xs ∧ μ'[a]? = some (some (.lst (ls.map enc))) ∧ μ'[b]? = some (some (.lst (ys.map enc))) ∧ PileAt μ' k ∧ μ'.length = μ.length ∧ ∀ (l : Nat) (c : Option Cell), l ≠ k → l ≠ a → l ≠ b → μ[l]? = some c → μ'[l]? = some c)
    ⟨xs.length, rfl, xs, [], rfl, .refl _, ca, cb, p, rfl, fun _ _ _ _ _ h => h⟩ ?_
  rintro n ρ' μ1 ⟨rfl, ls, ys, rfl, hp, ca1, cb1, p1, hl1, hk1⟩
  have hlen := hp.length_eq
  rw [List.length_append] at hlen
  simp only [tst, eBin, eVar, hi, Res.bind_ok, eLst, aNil, mkF_0]
  rw [mNe_v (x := .hnd a) (y := .lst []) (a := ls) (b := []) (views_cell ca1) (views_enc _ ([] : List α)) (by show Enc.dp α + 1 ≤ 64; omega)]
  simp only [Res.bind_ok, ok_ok]
  split
  · rename_i hne
    have hpos : 0 < ls.length := List.length_pos_iff.mpr (by simpa using hne)
    unfold sExpr eBM
    simp only [eVar, hj, Res.bind_ok]
    rw [if_pos (tyOk_cell cb1)]
    simp only [aCons, aNil, hi, h0, Res.bind_ok, eCall, eVar, if_pos (tyOk_cell ca1), mLen_cell ca1, bnd_assoc, List.length_map]
    refine (m_take_ok p1 (by omega) (by omega)).step ?_
    rintro _ μ2 ⟨v, rfl, hv0, hv1, u2⟩
    have ca2 := (u2.get ka.symm).trans ca1
    have cb2 := (u2.get kb.symm).trans cb1
    have p2 := u2.pile p1
    have l2 := u2.len
    have hk2 : ∀ (l : Nat) (c : Option Cell), l ≠ k → l ≠ a → l ≠ b → μ[l]? = some c → μ2[l]? = some c := fun l c x y z h => (u2.get x).trans (hk1 l c x y z h)
    obtain ⟨v, rfl⟩ : ∃ m : Nat, v = (m : Int) := ⟨v.toNat, by omega⟩
    have hv : v < ls.length := by omega
    rw [mPopAt_of (j := v) (d := enc ls[v]) ca2 rfl (by rw [List.getElem?_map, List.getElem?_eq_getElem hv]; rfl) (by omega)]
    simp only [Res.bind_ok]
    rw [map_eraseIdx]
    have cb3 := set_get (c := some (.lst ((ls.eraseIdx v).map enc))) cb2 ab.symm
    rw [mAppend_of cb3 (by rw [List.length_map]; omega), show ys.map enc ++ [enc ls[v]] = (ys ++ [ls[v]]).map enc by rw [List.map_append]; rfl]
    have perm := erase_perm hv
    refine ⟨ls.length - 1, by omega, rfl, ls.eraseIdx v, ys ++ [ls[v]], List.length_eraseIdx_of_lt hv, ?_, ?_, ?_, ?_, ?_, ?_⟩
    · rw [List.append_assoc]
      exact ((perm.append_left ys)).trans hp
    · exact set_get (set_new ca2) ab
    · exact set_new cb3
    · exact pile_set (pile_set p2 ka) kb
    · rw [List.length_set, List.length_set]; omega
    · intro l c x y z h
      exact set_get (set_get (hk2 l c x y z h) y) z
  · rename_i hne
    have hnil : ls = [] := by simpa using hne
    subst hnil
    rw [List.append_nil] at hp
    exact ⟨trivial, ys, hp, cb1, p1, hl1, hk1⟩
theorem m_ring_ok {k n : Nat} {μ : Mem} (p : PileAt μ k) (hn : n ≤ 1000) :
    Ok (m__law_ring [.hnd k, .int n] μ) fun d μ' => ∃ (b : Nat) (ts : List (Int × Int)), d = .hnd b ∧ μ'[b]? = some (some (.lst (ts.map enc))) ∧ IsTies n ts ∧ ts.length ≤ n ∧ PileAt μ' k ∧ KeepX k μ μ' ∧ μ.length ≤ b := by
  unfold m__law_ring runM b__law_ring
  simp only [frame, List.map_cons, List.map_nil, List.length_cons, List.length_nil, Nat.reduceAdd, Nat.reduceSub, List.replicate, List.cons_append, List.nil_append]
  refine Ok.step (Q' := fun f μ' => ∃ (b : Nat) (ts : List (Int × Int)), f = .rt (.hnd b) ∧ μ'[b]? = some (some (.lst (ts.map enc))) ∧ IsTies n ts ∧ ts.length ≤ n ∧ PileAt μ' k ∧ KeepX k μ μ' ∧ μ.length ≤ b) ?_ ?_
  · refine ok_seq fun b' hb => ?_
    simp only [sSeq, sNil, sPass, sIf, sRet, sRetN, sExpr, sAsg, sAug, sPar, sBrk, sCont, eVar, eC, eBin, eNeg, eNot, eAnd, eOr, eIf, eChain, eLst, eTup, eCall, tst, tAndM, tOrM, tNotM, aNil, aCons, gNm, gsNil, gsCons, gTp, gSubM, oNone, oSome, mI0, mSub, mLt, mLe, mGt, mGe, Res.bind_ok, flD, List.getElem?_cons_zero, List.getElem?_cons_succ, List.set_cons_zero, List.set_cons_succ, List.length_cons, List.length_nil, if_true, reduceIte, decide_eq_true_eq, Bool.false_eq_true, Bool.true_eq_false, ok_ok, bnd_assoc, bind_ite, ok_ite, mkF_0, mkF_1, mkF_2, mkF_3, mkF_4, mkF_5, mkF_6, mkT_1, mkT_2, mkT_3, mkH_0, mkH_1, mkH_3, frame, List.map_cons, List.map_nil, List.cons_append, List.nil_append, List.replicate, Nat.sub_self, Nat.reduceSub, Nat.reduceAdd, Nat.reduceEqDiff, eListRange, mListRange]
    rw [if_pos (by unfold RgOk; omega), Int.toNat_natCast, rngD_rangeL, mkH_ok (by rw [List.length_map, rangeL_len]; omega)]
    try simp only [sSeq, sNil, sPass, sIf, sRet, sRetN, sExpr, sAsg, sAug, sPar, sBrk, sCont, eVar, eC, eBin, eNeg, eNot, eAnd, eOr, eIf, eChain, eLst, eTup, eCall, tst, tAndM, tOrM, tNotM, aNil, aCons, gNm, gsNil, gsCons, gTp, gSubM, oNone, oSome, mI0, mSub, mLt, mLe, mGt, mGe, Res.bind_ok, flD, List.getElem?_cons_zero, List.getElem?_cons_succ, List.set_cons_zero, List.set_cons_succ, List.length_cons, List.length_nil, if_true, reduceIte, decide_eq_true_eq, Bool.false_eq_true, Bool.true_eq_false, ok_ok, bnd_assoc, bind_ite, ok_ite, mkF_0, mkF_1, mkF_2, mkF_3, mkF_4, mkF_5, mkF_6, mkT_1, mkT_2, mkT_3, mkH_0, mkH_1, mkH_3, frame, List.map_cons, List.map_nil, List.cons_append, List.nil_append, List.replicate, Nat.sub_self, Nat.reduceSub, Nat.reduceAdd, Nat.reduceEqDiff]
    have ka : k ≠ μ.length := by have := pile_lt p; omega
    have p1 := pile_app (c := some (Cell.lst ((rangeL n).map enc))) p
    have c1 : (μ ++ [some (Cell.lst ((rangeL n).map enc))])[μ.length]? = some (some (.lst ((rangeL n).map enc))) := app_new
    have k1 : Keeps μ (μ ++ [some (Cell.lst ((rangeL n).map enc))]) := keeps_app
    generalize μ ++ [some (Cell.lst ((rangeL n).map enc))] = μ1 at *
    subst hb
    refine ok_seq fun b' hb => ?_; try simp only [sSeq, sNil, sPass, sIf, sRet, sRetN, sExpr, sAsg, sAug, sPar, sBrk, sCont, eVar, eC, eBin, eNeg, eNot, eAnd, eOr, eIf, eChain, eLst, eTup, eCall, tst, tAndM, tOrM, tNotM, aNil, aCons, gNm, gsNil, gsCons, gTp, gSubM, oNone, oSome, mI0, mSub, mLt, mLe, mGt, mGe, Res.bind_ok, flD, List.getElem?_cons_zero, List.getElem?_cons_succ, List.set_cons_zero, List.set_cons_succ, List.length_cons, List.length_nil, if_true, reduceIte, decide_eq_true_eq, Bool.false_eq_true, Bool.true_eq_false, ok_ok, bnd_assoc, bind_ite, ok_ite, mkF_0, mkF_1, mkF_2, mkF_3, mkF_4, mkF_5, mkF_6, mkT_1, mkT_2, mkT_3, mkH_0, mkH_1, mkH_3, frame, List.map_cons, List.map_nil, List.cons_append, List.nil_append, List.replicate, Nat.sub_self, Nat.reduceSub, Nat.reduceAdd, Nat.reduceEqDiff]
    have ab : μ.length ≠ μ1.length := by have := get_lt c1; omega
    have kb : k ≠ μ1.length := by have := pile_lt p1; omega
    have p2 := pile_app (c := some (Cell.lst [])) p1
    have c2 := app_get (c' := some (Cell.lst [])) c1
    have d2 : (μ1 ++ [some (Cell.lst [])])[μ1.length]? = some (some (.lst [])) := app_new
    have k2 := k1.trans (keeps_app (μ := μ1) (c := some (Cell.lst [])))
    have lb : μ.length ≤ μ1.length := k1.len
    generalize μ1 ++ [some (Cell.lst [])] = μ2 at *
    generalize μ1.length = b at *
    subst hb
    refine ok_seq fun b' hb => ?_
    refine (drain_ok (α := Int) (by decide) (k := k) (a := μ.length) (b := b) (i := 2) (j := 3) p2 rfl rfl rfl ka kb ab c2 d2 (by rw [rangeL_len]; omega)).imp ?_
    rintro f μ3 ⟨rfl, ys, hys, d3, p3, l3, h3⟩
    have k3 : KeepX k μ μ3 := fun j c hj e => h3 j c hj (by have := get_lt e; omega) (by have := get_lt e; omega) (k2 _ _ e)
    have hyl : ys.length = n := by rw [hys.length_eq, rangeL_len]
    have hym : ∀ y ∈ ys, 0 ≤ y ∧ y < n := fun y hy => rangeL_mem.mp (hys.mem_iff.mp hy)
    simp only
    subst hb
    refine ok_seq fun b' hb => ?_; try simp only [sSeq, sNil, sPass, sIf, sRet, sRetN, sExpr, sAsg, sAug, sPar, sBrk, sCont, eVar, eC, eBin, eNeg, eNot, eAnd, eOr, eIf, eChain, eLst, eTup, eCall, tst, tAndM, tOrM, tNotM, aNil, aCons, gNm, gsNil, gsCons, gTp, gSubM, oNone, oSome, mI0, mSub, mLt, mLe, mGt, mGe, Res.bind_ok, flD, List.getElem?_cons_zero, List.getElem?_cons_succ, List.set_cons_zero, List.set_cons_succ, List.length_cons, List.length_nil, if_true, reduceIte, decide_eq_true_eq, Bool.false_eq_true, Bool.true_eq_false, ok_ok, bnd_assoc, bind_ite, ok_ite, mkF_0, mkF_1, mkF_2, mkF_3, mkF_4, mkF_5, mkF_6, mkT_1, mkT_2, mkT_3, mkH_0, mkH_1, mkH_3, frame, List.map_cons, List.map_nil, List.cons_append, List.nil_append, List.replicate, Nat.sub_self, Nat.reduceSub, Nat.reduceAdd, Nat.reduceEqDiff]
    have l2 : b < μ3.length := get_lt d3
    have bc : b ≠ μ3.length := by omega
    have kc : k ≠ μ3.length := by have := pile_lt p3; omega
    have p4 := pile_app (c := some (Cell.lst [])) p3
    have d4 := app_get (c' := some (Cell.lst [])) d3
    have e4 : (μ3 ++ [some (Cell.lst [])])[μ3.length]? = some (some (.lst (([] : List (Int × Int)).map enc))) := app_new
    have k4 := k3.trans (Keeps.x (keeps_app (μ := μ3) (c := some (Cell.lst []))))
    have lc : μ.length ≤ μ3.length := by omega
    generalize μ3 ++ [some (Cell.lst [])] = μ4 at *
    generalize μ3.length = c at *
    subst hb
    refine ok_seq fun b' hb => ?_
    have it : iZipM (aCons (eVar 3) (aCons (eBin (mAdd mkF) (eSl mkF (eVar 3) (oSome (eC (.int 1))) oNone) (eSl mkF (eVar 3) oNone (oSome (eC (.int 1))))) aNil)) [some (.hnd k), some (.int n), some (.hnd μ.length), some (.hnd b), some (.hnd c), none, none] μ4 =
        .ok ⟨(ys.zip (cutA ys (some 1) none ++ cutA ys none (some 1))).map (fun p => .tup [enc p.1, enc p.2]), fun μ' => seqL μ' (.hnd b) = some (ys.map enc) ∧ seqL μ' (.lst ((cutA ys (some 1) none ++ cutA ys none (some 1)).map enc)) = some ((cutA ys (some 1) none ++ cutA ys none (some 1)).map enc)⟩ μ4 := by
      have sb : seqL μ4 (.hnd b) = some (ys.map enc) := by rw [seqL, d4]
      simp only [iZipM, aCons, aNil, eBin, eVar, List.getElem?_cons_succ, List.getElem?_cons_zero, Res.bind_ok]
      rw [eSl_of (f := enc) (d := .hnd b) (xs := ys) (l := some 1) (u := none) rfl rfl rfl sb, mkF_ok (by have := cutA_len ys (some 1) none; rw [List.length_map]; omega)]
      simp only [Res.bind_ok]
      rw [eSl_of (f := enc) (d := .hnd b) (xs := ys) (l := none) (u := some 1) rfl rfl rfl sb, mkF_ok (by have := cutA_len ys none (some 1); rw [List.length_map]; omega)]
      simp only [Res.bind_ok, mAdd_lst]
      rw [← List.map_append, mkF_ok (by have := cutA_len ys (some 1) none; have := cutA_len ys none (some 1); rw [List.length_map, List.length_append]; omega)]
      simp only [Res.bind_ok, sb]
      rw [show seqL μ4 (.lst ((cutA ys (some 1) none ++ cutA ys none (some 1)).map enc)) = some ((cutA ys (some 1) none ++ cutA ys none (some 1)).map enc) from rfl]
      simp only [zipD_map]
    refine ok_sFor ?_
    rw [it, ok_ok]
    refine ok_forL (fun i ρ μ' => ∃ (ts : List (Int × Int)) (x y : Option D), ρ = [some (.hnd k), some (.int n), some (.hnd μ.length), some (.hnd b), some (.hnd c), x, y] ∧ μ'[c]? = some (some (.lst (ts.map enc))) ∧ IsTies n ts ∧ ts.length ≤ i ∧ i ≤ n ∧ PileAt μ' k ∧ KeepX k μ μ' ∧ μ'[b]? = some (some (.lst (ys.map enc))))
      ⟨[], _, _, rfl, e4, (fun t ht => by cases ht), Nat.le_refl _, Nat.zero_le _, p4, k4, d4⟩ (fun i ρ μ' _ ⟨_, _, _, _, _, _, _, _, _, _, hb⟩ => ⟨by rw [seqL, hb], rfl⟩) ?_ ?_
    · rintro i d ρ μ5 hd ⟨ts, x, y, rfl, c5, ht, hl, hin, p5, k5, b5⟩
      rw [List.getElem?_map] at hd
      obtain ⟨q, hq, rfl⟩ := Option.map_eq_some_iff.mp hd
      have hi : i < n := by
        have := (List.getElem?_eq_some_iff.mp hq).1
        rw [List.length_zip] at this
        omega
      have hm := zip_mem (List.mem_of_getElem? hq)
      obtain ⟨h1, h2⟩ := hym q.1 hm.1
      obtain ⟨h3', h4'⟩ := hym q.2 (by rcases List.mem_append.mp hm.2 with z | z <;> exact cutA_mem z)
      simp only [gTp, gsCons, gsNil, gNm, List.length_cons, List.length_nil, if_true, Res.bind_ok, ok_ok, enc_int]
      simp only [sSeq, sNil, sPass, sIf, sRet, sRetN, sExpr, sAsg, sAug, sPar, sBrk, sCont, eVar, eC, eBin, eNeg, eNot, eAnd, eOr, eIf, eChain, eLst, eTup, eCall, tst, tAndM, tOrM, tNotM, aNil, aCons, gNm, gsNil, gsCons, gTp, gSubM, oNone, oSome, mI0, mSub, mLt, mLe, mGt, mGe, Res.bind_ok, flD, List.getElem?_cons_zero, List.getElem?_cons_succ, List.set_cons_zero, List.set_cons_succ, List.length_cons, List.length_nil, if_true, reduceIte, decide_eq_true_eq, Bool.false_eq_true, Bool.true_eq_false, ok_ok, bnd_assoc, bind_ite, ok_ite, mkF_0, mkF_1, mkF_2, mkF_3, mkF_4, mkF_5, mkF_6, mkT_1, mkT_2, mkT_3, mkH_0, mkH_1, mkH_3, frame, List.map_cons, List.map_nil, List.cons_append, List.nil_append, List.replicate, Nat.sub_self, Nat.reduceSub, Nat.reduceAdd, Nat.reduceEqDiff, mNe_i]
      by_cases e : q.1 = q.2
      · simp only [e, decide_true, Bool.not_true, sSeq, sNil, sPass, sIf, sRet, sRetN, sExpr, sAsg, sAug, sPar, sBrk, sCont, eVar, eC, eBin, eNeg, eNot, eAnd, eOr, eIf, eChain, eLst, eTup, eCall, tst, tAndM, tOrM, tNotM, aNil, aCons, gNm, gsNil, gsCons, gTp, gSubM, oNone, oSome, mI0, mSub, mLt, mLe, mGt, mGe, Res.bind_ok, flD, List.getElem?_cons_zero, List.getElem?_cons_succ, List.set_cons_zero, List.set_cons_succ, List.length_cons, List.length_nil, if_true, reduceIte, decide_eq_true_eq, Bool.false_eq_true, Bool.true_eq_false, ok_ok, bnd_assoc, bind_ite, ok_ite, mkF_0, mkF_1, mkF_2, mkF_3, mkF_4, mkF_5, mkF_6, mkT_1, mkT_2, mkT_3, mkH_0, mkH_1, mkH_3, frame, List.map_cons, List.map_nil, List.cons_append, List.nil_append, List.replicate, Nat.sub_self, Nat.reduceSub, Nat.reduceAdd, Nat.reduceEqDiff]
        exact ⟨ts, _, _, rfl, c5, ht, by omega, by omega, p5, k5, b5⟩
      · simp only [e, decide_false, Bool.not_false, sSeq, sNil, sPass, sIf, sRet, sRetN, sExpr, sAsg, sAug, sPar, sBrk, sCont, eVar, eC, eBin, eNeg, eNot, eAnd, eOr, eIf, eChain, eLst, eTup, eCall, tst, tAndM, tOrM, tNotM, aNil, aCons, gNm, gsNil, gsCons, gTp, gSubM, oNone, oSome, mI0, mSub, mLt, mLe, mGt, mGe, Res.bind_ok, flD, List.getElem?_cons_zero, List.getElem?_cons_succ, List.set_cons_zero, List.set_cons_succ, List.length_cons, List.length_nil, if_true, reduceIte, decide_eq_true_eq, Bool.false_eq_true, Bool.true_eq_false, ok_ok, bnd_assoc, bind_ite, ok_ite, mkF_0, mkF_1, mkF_2, mkF_3, mkF_4, mkF_5, mkF_6, mkT_1, mkT_2, mkT_3, mkH_0, mkH_1, mkH_3, frame, List.map_cons, List.map_nil, List.cons_append, List.nil_append, List.replicate, Nat.sub_self, Nat.reduceSub, Nat.reduceAdd, Nat.reduceEqDiff]
        rw [eBM_of (d := .hnd c) (ds := [.tup [.int (min q.1 q.2), .int (max q.1 q.2)]]) (μ1 := μ5) (μ2 := μ5) rfl (tyOk_cell c5) (by simp only [sSeq, sNil, sPass, sIf, sRet, sRetN, sExpr, sAsg, sAug, sPar, sBrk, sCont, eVar, eC, eBin, eNeg, eNot, eAnd, eOr, eIf, eChain, eLst, eTup, eCall, tst, tAndM, tOrM, tNotM, aNil, aCons, gNm, gsNil, gsCons, gTp, gSubM, oNone, oSome, mI0, mSub, mLt, mLe, mGt, mGe, Res.bind_ok, flD, List.getElem?_cons_zero, List.getElem?_cons_succ, List.set_cons_zero, List.set_cons_succ, List.length_cons, List.length_nil, if_true, reduceIte, decide_eq_true_eq, Bool.false_eq_true, Bool.true_eq_false, ok_ok, bnd_assoc, bind_ite, ok_ite, mkF_0, mkF_1, mkF_2, mkF_3, mkF_4, mkF_5, mkF_6, mkT_1, mkT_2, mkT_3, mkH_0, mkH_1, mkH_3, frame, List.map_cons, List.map_nil, List.cons_append, List.nil_append, List.replicate, Nat.sub_self, Nat.reduceSub, Nat.reduceAdd, Nat.reduceEqDiff, mMin2_i, mMax2_i]), mAppend_of c5 (by rw [List.length_map]; omega), show ts.map enc ++ [D.tup [.int (min q.1 q.2), .int (max q.1 q.2)]] = (ts ++ [(min q.1 q.2, max q.1 q.2)]).map enc by rw [List.map_append]; rfl]
        simp only [sSeq, sNil, sPass, sIf, sRet, sRetN, sExpr, sAsg, sAug, sPar, sBrk, sCont, eVar, eC, eBin, eNeg, eNot, eAnd, eOr, eIf, eChain, eLst, eTup, eCall, tst, tAndM, tOrM, tNotM, aNil, aCons, gNm, gsNil, gsCons, gTp, gSubM, oNone, oSome, mI0, mSub, mLt, mLe, mGt, mGe, Res.bind_ok, flD, List.getElem?_cons_zero, List.getElem?_cons_succ, List.set_cons_zero, List.set_cons_succ, List.length_cons, List.length_nil, if_true, reduceIte, decide_eq_true_eq, Bool.false_eq_true, Bool.true_eq_false, ok_ok, bnd_assoc, bind_ite, ok_ite, mkF_0, mkF_1, mkF_2, mkF_3, mkF_4, mkF_5, mkF_6, mkT_1, mkT_2, mkT_3, mkH_0, mkH_1, mkH_3, frame, List.map_cons, List.map_nil, List.cons_append, List.nil_append, List.replicate, Nat.sub_self, Nat.reduceSub, Nat.reduceAdd, Nat.reduceEqDiff]
        refine ⟨ts ++ [(min q.1 q.2, max q.1 q.2)], _, _, rfl, set_new c5, fun t htt => ?_, by rw [List.length_append]; simp; omega, by omega, pile_set p5 kc, keepX_set k5 lc, set_get b5 bc⟩
        rcases List.mem_append.mp htt with h | h
        · exact ht t h
        · rw [List.mem_singleton.mp h]
          exact ⟨by simp only; omega, by simp only; omega, by simp only; omega⟩
    · rintro ρ μ5 ⟨ts, x, y, rfl, c5, ht, hl, hin, p5, k5, b5⟩
      simp only
      subst hb
      simp only [sRet, eVar, List.getElem?_cons_succ, List.getElem?_cons_zero, Res.bind_ok, ok_ok]
      refine ⟨c, ts, rfl, c5, ht, ?_, p5, k5, lc⟩
      rw [List.length_map, List.length_zip] at hl
      omega
  · rintro _ μ' ⟨b, ts, rfl, h⟩
    simp only [flD, ok_ok]
    exact ⟨b, ts, rfl, h⟩
theorem m_held_ok {k : Nat} {least most folds many : Int} {μ : Mem} (p : PileAt μ k) (h1 : 0 ≤ least) (h2 : least ≤ most) (h3 : most ≤ 1000) (h4 : 0 ≤ folds) (h5 : folds ≤ 100) (h6 : 0 ≤ many) (h7 : many ≤ 1000) :
    Ok (m__law_held [.hnd k, .int least, .int most, .int folds, .int many] μ) fun d μ' => ∃ (n : Nat) (ts : List (Int × Int)), d = enc ((n : Int), ts) ∧ PileAt μ' k ∧ KeepX k μ μ' ∧ least ≤ n ∧ n ≤ most ∧ IsTies n ts ∧ ts.length ≤ 40 := by
  unfold m__law_held runM b__law_held
  simp only [frame, List.map_cons, List.map_nil, List.length_cons, List.length_nil, Nat.reduceAdd, Nat.reduceSub, List.replicate, List.cons_append, List.nil_append]
  refine Ok.step (Q' := fun f μ' => ∃ (n : Nat) (ts : List (Int × Int)), f = .rt (enc ((n : Int), ts)) ∧ PileAt μ' k ∧ KeepX k μ μ' ∧ least ≤ n ∧ n ≤ most ∧ IsTies n ts ∧ ts.length ≤ 40) ?_ ?_
  · refine ok_seq fun b' hb => ?_
    try simp only [sSeq, sNil, sPass, sIf, sRet, sRetN, sExpr, sAsg, sAug, sPar, sBrk, sCont, eVar, eC, eBin, eNeg, eNot, eAnd, eOr, eIf, eChain, eLst, eTup, eCall, tst, tAndM, tOrM, tNotM, aNil, aCons, gNm, gsNil, gsCons, gTp, gSubM, oNone, oSome, mI0, mSub, mLt, mLe, mGt, mGe, Res.bind_ok, flD, List.getElem?_cons_zero, List.getElem?_cons_succ, List.set_cons_zero, List.set_cons_succ, List.length_cons, List.length_nil, if_true, reduceIte, decide_eq_true_eq, Bool.false_eq_true, Bool.true_eq_false, ok_ok, bnd_assoc, bind_ite, ok_ite, mkF_0, mkF_1, mkF_2, mkF_3, mkF_4, mkF_5, mkF_6, mkT_1, mkT_2, mkT_3, mkH_0, mkH_1, mkH_3, frame, List.map_cons, List.map_nil, List.cons_append, List.nil_append, List.replicate, Nat.sub_self, Nat.reduceSub, Nat.reduceAdd, Nat.reduceEqDiff]
    refine (m_take_ok p (by omega) (by omega)).step ?_
    rintro _ μ1 ⟨v, rfl, hv0, hv1, u1⟩
    have p1 := u1.pile p
    have k1 := upd_x u1
    obtain ⟨n, hn⟩ : ∃ n : Nat, least + v = (n : Int) := ⟨(least + v).toNat, by omega⟩
    simp only [sSeq, sNil, sPass, sIf, sRet, sRetN, sExpr, sAsg, sAug, sPar, sBrk, sCont, eVar, eC, eBin, eNeg, eNot, eAnd, eOr, eIf, eChain, eLst, eTup, eCall, tst, tAndM, tOrM, tNotM, aNil, aCons, gNm, gsNil, gsCons, gTp, gSubM, oNone, oSome, mI0, mSub, mLt, mLe, mGt, mGe, Res.bind_ok, flD, List.getElem?_cons_zero, List.getElem?_cons_succ, List.set_cons_zero, List.set_cons_succ, List.length_cons, List.length_nil, if_true, reduceIte, decide_eq_true_eq, Bool.false_eq_true, Bool.true_eq_false, ok_ok, bnd_assoc, bind_ite, ok_ite, mkF_0, mkF_1, mkF_2, mkF_3, mkF_4, mkF_5, mkF_6, mkT_1, mkT_2, mkT_3, mkH_0, mkH_1, mkH_3, frame, List.map_cons, List.map_nil, List.cons_append, List.nil_append, List.replicate, Nat.sub_self, Nat.reduceSub, Nat.reduceAdd, Nat.reduceEqDiff, mAdd_int, hn]
    have hn1 : least ≤ n := by omega
    have hn2 : (n : Int) ≤ most := by omega
    have hl1 : μ.length = μ1.length := u1.len.symm
    clear u1 hv0 hv1 hn
    subst hb
    refine ok_seq fun b' hb => ?_; try simp only [sSeq, sNil, sPass, sIf, sRet, sRetN, sExpr, sAsg, sAug, sPar, sBrk, sCont, eVar, eC, eBin, eNeg, eNot, eAnd, eOr, eIf, eChain, eLst, eTup, eCall, tst, tAndM, tOrM, tNotM, aNil, aCons, gNm, gsNil, gsCons, gTp, gSubM, oNone, oSome, mI0, mSub, mLt, mLe, mGt, mGe, Res.bind_ok, flD, List.getElem?_cons_zero, List.getElem?_cons_succ, List.set_cons_zero, List.set_cons_succ, List.length_cons, List.length_nil, if_true, reduceIte, decide_eq_true_eq, Bool.false_eq_true, Bool.true_eq_false, ok_ok, bnd_assoc, bind_ite, ok_ite, mkF_0, mkF_1, mkF_2, mkF_3, mkF_4, mkF_5, mkF_6, mkT_1, mkT_2, mkT_3, mkH_0, mkH_1, mkH_3, frame, List.map_cons, List.map_nil, List.cons_append, List.nil_append, List.replicate, Nat.sub_self, Nat.reduceSub, Nat.reduceAdd, Nat.reduceEqDiff]
    have ka : k ≠ μ1.length := by have := pile_lt p1; omega
    have p2 := pile_app (c := some (Cell.lst [])) p1
    have c2 : (μ1 ++ [some (Cell.lst [])])[μ1.length]? = some (some (.lst (([] : List (Int × Int)).map enc))) := app_new
    have k2 := k1.trans (Keeps.x (keeps_app (μ := μ1) (c := some (Cell.lst []))))
    generalize μ1 ++ [some (Cell.lst [])] = μ2 at *
    generalize μ1.length = a at *
    subst hb
    -- rings
    refine ok_seq fun b' hb => ?_
    refine Ok.imp (Q := fun f μ' => ∃ (a : Nat) (x : Option D) (ts : List (Int × Int)), f = .nx [some (.hnd k), some (.int least), some (.int most), some (.int folds), some (.int many), some (.int n), some (.hnd a), x, none, none, none, none] ∧ μ'[a]? = some (some (.lst (ts.map enc))) ∧ IsTies n ts ∧ ts.length ≤ 101000 ∧ PileAt μ' k ∧ KeepX k μ μ' ∧ μ.length ≤ a ∧ k ≠ a) (ok_sFor (ok_iRange1 ?_)) ?_
    · simp only [sSeq, sNil, sPass, sIf, sRet, sRetN, sExpr, sAsg, sAug, sPar, sBrk, sCont, eVar, eC, eBin, eNeg, eNot, eAnd, eOr, eIf, eChain, eLst, eTup, eCall, tst, tAndM, tOrM, tNotM, aNil, aCons, gNm, gsNil, gsCons, gTp, gSubM, oNone, oSome, mI0, mSub, mLt, mLe, mGt, mGe, Res.bind_ok, flD, List.getElem?_cons_zero, List.getElem?_cons_succ, List.set_cons_zero, List.set_cons_succ, List.length_cons, List.length_nil, if_true, reduceIte, decide_eq_true_eq, Bool.false_eq_true, Bool.true_eq_false, ok_ok, bnd_assoc, bind_ite, ok_ite, mkF_0, mkF_1, mkF_2, mkF_3, mkF_4, mkF_5, mkF_6, mkT_1, mkT_2, mkT_3, mkH_0, mkH_1, mkH_3, frame, List.map_cons, List.map_nil, List.cons_append, List.nil_append, List.replicate, Nat.sub_self, Nat.reduceSub, Nat.reduceAdd, Nat.reduceEqDiff, mAdd_int]
      refine (m_take_ok p2 (by omega) (by omega)).step ?_
      rintro _ μ3 ⟨c, rfl, hc0, hc1, u3⟩
      try simp only [sSeq, sNil, sPass, sIf, sRet, sRetN, sExpr, sAsg, sAug, sPar, sBrk, sCont, eVar, eC, eBin, eNeg, eNot, eAnd, eOr, eIf, eChain, eLst, eTup, eCall, tst, tAndM, tOrM, tNotM, aNil, aCons, gNm, gsNil, gsCons, gTp, gSubM, oNone, oSome, mI0, mSub, mLt, mLe, mGt, mGe, Res.bind_ok, flD, List.getElem?_cons_zero, List.getElem?_cons_succ, List.set_cons_zero, List.set_cons_succ, List.length_cons, List.length_nil, if_true, reduceIte, decide_eq_true_eq, Bool.false_eq_true, Bool.true_eq_false, ok_ok, bnd_assoc, bind_ite, ok_ite, mkF_0, mkF_1, mkF_2, mkF_3, mkF_4, mkF_5, mkF_6, mkT_1, mkT_2, mkT_3, mkH_0, mkH_1, mkH_3, frame, List.map_cons, List.map_nil, List.cons_append, List.nil_append, List.replicate, Nat.sub_self, Nat.reduceSub, Nat.reduceAdd, Nat.reduceEqDiff]
      refine ⟨c, rfl, by omega, by omega, ?_⟩
      refine ok_forL (fun i ρ μ' => i ≤ c.toNat ∧ ∃ (a : Nat) (x : Option D) (ts : List (Int × Int)), ρ = [some (.hnd k), some (.int least), some (.int most), some (.int folds), some (.int many), some (.int n), some (.hnd a), x, none, none, none, none] ∧ μ'[a]? = some (some (.lst (ts.map enc))) ∧ IsTies n ts ∧ ts.length ≤ i * 1000 ∧ PileAt μ' k ∧ KeepX k μ μ' ∧ μ.length ≤ a ∧ k ≠ a)
        ⟨Nat.zero_le _, a, _, [], rfl, (u3.get ka.symm).trans c2, (fun t ht => by cases ht), Nat.zero_le _, u3.pile p2, k2.trans (upd_x u3), by omega, ka⟩ (fun _ _ _ _ _ => trivial) ?_ ?_
      · rintro i d ρ μ4 hd ⟨hic, a, x, ts, rfl, c4, ht, hl, p4, k4, la, ka⟩
        obtain ⟨hi, rfl⟩ := rngD_get hd
        simp only [gNm, List.length_cons, List.length_nil, ok_ok, List.set_cons_succ, List.set_cons_zero]
        try simp only [sSeq, sNil, sPass, sIf, sRet, sRetN, sExpr, sAsg, sAug, sPar, sBrk, sCont, eVar, eC, eBin, eNeg, eNot, eAnd, eOr, eIf, eChain, eLst, eTup, eCall, tst, tAndM, tOrM, tNotM, aNil, aCons, gNm, gsNil, gsCons, gTp, gSubM, oNone, oSome, mI0, mSub, mLt, mLe, mGt, mGe, Res.bind_ok, flD, List.getElem?_cons_zero, List.getElem?_cons_succ, List.set_cons_zero, List.set_cons_succ, List.length_cons, List.length_nil, if_true, reduceIte, decide_eq_true_eq, Bool.false_eq_true, Bool.true_eq_false, ok_ok, bnd_assoc, bind_ite, ok_ite, mkF_0, mkF_1, mkF_2, mkF_3, mkF_4, mkF_5, mkF_6, mkT_1, mkT_2, mkT_3, mkH_0, mkH_1, mkH_3, frame, List.map_cons, List.map_nil, List.cons_append, List.nil_append, List.replicate, Nat.sub_self, Nat.reduceSub, Nat.reduceAdd, Nat.reduceEqDiff]
        refine (m_ring_ok (n := n) p4 (by omega)).step ?_
        rintro _ μ5 ⟨b, qs, rfl, c5, hq, hql, p5, k5, lb⟩
        have c4' := k5 _ _ ka.symm c4
        have hi' : i * 1000 ≤ 100 * 1000 := Nat.mul_le_mul_right 1000 (by omega)
        rw [mAdd_ss (seqM_cell c4') (seqM_cell c5), ← List.map_append, mkH_ok (by rw [List.length_map, List.length_append]; omega)]
        simp only [sSeq, sNil, sPass, sIf, sRet, sRetN, sExpr, sAsg, sAug, sPar, sBrk, sCont, eVar, eC, eBin, eNeg, eNot, eAnd, eOr, eIf, eChain, eLst, eTup, eCall, tst, tAndM, tOrM, tNotM, aNil, aCons, gNm, gsNil, gsCons, gTp, gSubM, oNone, oSome, mI0, mSub, mLt, mLe, mGt, mGe, Res.bind_ok, flD, List.getElem?_cons_zero, List.getElem?_cons_succ, List.set_cons_zero, List.set_cons_succ, List.length_cons, List.length_nil, if_true, reduceIte, decide_eq_true_eq, Bool.false_eq_true, Bool.true_eq_false, ok_ok, bnd_assoc, bind_ite, ok_ite, mkF_0, mkF_1, mkF_2, mkF_3, mkF_4, mkF_5, mkF_6, mkT_1, mkT_2, mkT_3, mkH_0, mkH_1, mkH_3, frame, List.map_cons, List.map_nil, List.cons_append, List.nil_append, List.replicate, Nat.sub_self, Nat.reduceSub, Nat.reduceAdd, Nat.reduceEqDiff]
        have := (k4.trans k5)
        refine ⟨by omega, μ5.length, _, ts ++ qs, rfl, app_new, fun t htt => ?_, by rw [List.length_append, Nat.add_mul]; omega, pile_app p5, (k4.trans k5).trans (Keeps.x keeps_app), ?_, ?_⟩
        · rcases List.mem_append.mp htt with h | h
          · exact ht t h
          · exact hq t h
        · have := get_lt c4'; omega
        · have := pile_lt p5; omega
      · rintro ρ μ4 ⟨hic, a, x, ts, rfl, c4, ht, hl, p4, k4, la, ka⟩
        rw [rngD_len] at hl
        have hi' : c.toNat * 1000 ≤ 100 * 1000 := Nat.mul_le_mul_right 1000 (by omega)
        exact ⟨a, x, ts, rfl, c4, ht, by omega, p4, k4, la, ka⟩
    clear k1 ka p2 c2 k2 p1 hl1
    rintro _ μ3 ⟨a, x, ts, rfl, c3, ht, hl, p3, k3, la, ka⟩
    simp only
    subst hb
    refine ok_seq fun b' hb => ?_; try simp only [sSeq, sNil, sPass, sIf, sRet, sRetN, sExpr, sAsg, sAug, sPar, sBrk, sCont, eVar, eC, eBin, eNeg, eNot, eAnd, eOr, eIf, eChain, eLst, eTup, eCall, tst, tAndM, tOrM, tNotM, aNil, aCons, gNm, gsNil, gsCons, gTp, gSubM, oNone, oSome, mI0, mSub, mLt, mLe, mGt, mGe, Res.bind_ok, flD, List.getElem?_cons_zero, List.getElem?_cons_succ, List.set_cons_zero, List.set_cons_succ, List.length_cons, List.length_nil, if_true, reduceIte, decide_eq_true_eq, Bool.false_eq_true, Bool.true_eq_false, ok_ok, bnd_assoc, bind_ite, ok_ite, mkF_0, mkF_1, mkF_2, mkF_3, mkF_4, mkF_5, mkF_6, mkT_1, mkT_2, mkT_3, mkH_0, mkH_1, mkH_3, frame, List.map_cons, List.map_nil, List.cons_append, List.nil_append, List.replicate, Nat.sub_self, Nat.reduceSub, Nat.reduceAdd, Nat.reduceEqDiff]
    have hpn := p_pairs_ok n (by omega)
    rw [callP_ok_of rfl hpn]
    try simp only [sSeq, sNil, sPass, sIf, sRet, sRetN, sExpr, sAsg, sAug, sPar, sBrk, sCont, eVar, eC, eBin, eNeg, eNot, eAnd, eOr, eIf, eChain, eLst, eTup, eCall, tst, tAndM, tOrM, tNotM, aNil, aCons, gNm, gsNil, gsCons, gTp, gSubM, oNone, oSome, mI0, mSub, mLt, mLe, mGt, mGe, Res.bind_ok, flD, List.getElem?_cons_zero, List.getElem?_cons_succ, List.set_cons_zero, List.set_cons_succ, List.length_cons, List.length_nil, if_true, reduceIte, decide_eq_true_eq, Bool.false_eq_true, Bool.true_eq_false, ok_ok, bnd_assoc, bind_ite, ok_ite, mkF_0, mkF_1, mkF_2, mkF_3, mkF_4, mkF_5, mkF_6, mkT_1, mkT_2, mkT_3, mkH_0, mkH_1, mkH_3, frame, List.map_cons, List.map_nil, List.cons_append, List.nil_append, List.replicate, Nat.sub_self, Nat.reduceSub, Nat.reduceAdd, Nat.reduceEqDiff]
    subst hb
    -- drawn ties
    refine ok_seq fun b' hb => ?_
    refine Ok.imp (Q := fun f μ' => ∃ (a : Nat) (ts : List (Int × Int)), f = .nx [some (.hnd k), some (.int least), some (.int most), some (.int folds), some (.int many), some (.int n), some (.hnd a), x, some (.lst ((pairsL n).map enc)), none, none, none] ∧ μ'[a]? = some (some (.lst (ts.map enc))) ∧ IsTies n ts ∧ ts.length ≤ 102000 ∧ PileAt μ' k ∧ KeepX k μ μ' ∧ μ.length ≤ a ∧ k ≠ a) ?_ ?_
    · try simp only [sSeq, sNil, sPass, sIf, sRet, sRetN, sExpr, sAsg, sAug, sPar, sBrk, sCont, eVar, eC, eBin, eNeg, eNot, eAnd, eOr, eIf, eChain, eLst, eTup, eCall, tst, tAndM, tOrM, tNotM, aNil, aCons, gNm, gsNil, gsCons, gTp, gSubM, oNone, oSome, mI0, mSub, mLt, mLe, mGt, mGe, Res.bind_ok, flD, List.getElem?_cons_zero, List.getElem?_cons_succ, List.set_cons_zero, List.set_cons_succ, List.length_cons, List.length_nil, if_true, reduceIte, decide_eq_true_eq, Bool.false_eq_true, Bool.true_eq_false, ok_ok, bnd_assoc, bind_ite, ok_ite, mkF_0, mkF_1, mkF_2, mkF_3, mkF_4, mkF_5, mkF_6, mkT_1, mkT_2, mkT_3, mkH_0, mkH_1, mkH_3, frame, List.map_cons, List.map_nil, List.cons_append, List.nil_append, List.replicate, Nat.sub_self, Nat.reduceSub, Nat.reduceAdd, Nat.reduceEqDiff]
      rw [show D.lst ((pairsL n).map enc) = enc (pairsL n) from rfl, show D.lst [] = enc ([] : List (Int × Int)) from rfl, mNe_v (views_enc _ _) (views_enc _ _)]
      try simp only [sSeq, sNil, sPass, sIf, sRet, sRetN, sExpr, sAsg, sAug, sPar, sBrk, sCont, eVar, eC, eBin, eNeg, eNot, eAnd, eOr, eIf, eChain, eLst, eTup, eCall, tst, tAndM, tOrM, tNotM, aNil, aCons, gNm, gsNil, gsCons, gTp, gSubM, oNone, oSome, mI0, mSub, mLt, mLe, mGt, mGe, Res.bind_ok, flD, List.getElem?_cons_zero, List.getElem?_cons_succ, List.set_cons_zero, List.set_cons_succ, List.length_cons, List.length_nil, if_true, reduceIte, decide_eq_true_eq, Bool.false_eq_true, Bool.true_eq_false, ok_ok, bnd_assoc, bind_ite, ok_ite, mkF_0, mkF_1, mkF_2, mkF_3, mkF_4, mkF_5, mkF_6, mkT_1, mkT_2, mkT_3, mkH_0, mkH_1, mkH_3, frame, List.map_cons, List.map_nil, List.cons_append, List.nil_append, List.replicate, Nat.sub_self, Nat.reduceSub, Nat.reduceAdd, Nat.reduceEqDiff]
      split
      · rename_i hne
        have hlen := pairsL_len n
        have hl2 : n * n ≤ 1000 * 1000 := Nat.mul_le_mul (by omega) (by omega)
        have hl0 : 0 < (pairsL n).length := List.length_pos_iff.mpr (by simpa using hne)
        have hmem := @pairsL_mem n
        generalize pairsL n = ps at *
        refine Ok.step (Q' := fun d μ' => ∃ qs : List (Int × Int), d = enc qs ∧ Upd k μ3 μ' ∧ (∀ t ∈ qs, t ∈ ps) ∧ (qs.length : Int) ≤ many) (ok_eLc (ok_iRange1 ?_)) ?_
        · simp only [sSeq, sNil, sPass, sIf, sRet, sRetN, sExpr, sAsg, sAug, sPar, sBrk, sCont, eVar, eC, eBin, eNeg, eNot, eAnd, eOr, eIf, eChain, eLst, eTup, eCall, tst, tAndM, tOrM, tNotM, aNil, aCons, gNm, gsNil, gsCons, gTp, gSubM, oNone, oSome, mI0, mSub, mLt, mLe, mGt, mGe, Res.bind_ok, flD, List.getElem?_cons_zero, List.getElem?_cons_succ, List.set_cons_zero, List.set_cons_succ, List.length_cons, List.length_nil, if_true, reduceIte, decide_eq_true_eq, Bool.false_eq_true, Bool.true_eq_false, ok_ok, bnd_assoc, bind_ite, ok_ite, mkF_0, mkF_1, mkF_2, mkF_3, mkF_4, mkF_5, mkF_6, mkT_1, mkT_2, mkT_3, mkH_0, mkH_1, mkH_3, frame, List.map_cons, List.map_nil, List.cons_append, List.nil_append, List.replicate, Nat.sub_self, Nat.reduceSub, Nat.reduceAdd, Nat.reduceEqDiff, mAdd_int]
          refine (m_take_ok p3 (by omega) (by omega)).step ?_
          rintro _ μ4 ⟨c, rfl, hc0, hc1, u4⟩
          have p4 := u4.pile p3
          try simp only [sSeq, sNil, sPass, sIf, sRet, sRetN, sExpr, sAsg, sAug, sPar, sBrk, sCont, eVar, eC, eBin, eNeg, eNot, eAnd, eOr, eIf, eChain, eLst, eTup, eCall, tst, tAndM, tOrM, tNotM, aNil, aCons, gNm, gsNil, gsCons, gTp, gSubM, oNone, oSome, mI0, mSub, mLt, mLe, mGt, mGe, Res.bind_ok, flD, List.getElem?_cons_zero, List.getElem?_cons_succ, List.set_cons_zero, List.set_cons_succ, List.length_cons, List.length_nil, if_true, reduceIte, decide_eq_true_eq, Bool.false_eq_true, Bool.true_eq_false, ok_ok, bnd_assoc, bind_ite, ok_ite, mkF_0, mkF_1, mkF_2, mkF_3, mkF_4, mkF_5, mkF_6, mkT_1, mkT_2, mkT_3, mkH_0, mkH_1, mkH_3, frame, List.map_cons, List.map_nil, List.cons_append, List.nil_append, List.replicate, Nat.sub_self, Nat.reduceSub, Nat.reduceAdd, Nat.reduceEqDiff]
          refine ⟨c, rfl, by omega, by omega, by rw [rngD_len]; omega, ?_⟩
          refine ok_lcL (fun i ds μ' => Upd k μ4 μ' ∧ ∃ qs : List (Int × Int), ds = qs.map enc ∧ qs.length = i ∧ ∀ t ∈ qs, t ∈ ps) ⟨Upd.refl p4, [], rfl, rfl, fun t ht => by cases ht⟩ (fun _ _ _ _ _ => trivial) ?_ ?_
          · rintro i x' ds μ5 hx ⟨u5, qs, rfl, hts, hmem'⟩
            obtain ⟨hi, rfl⟩ := rngD_get hx
            simp only [wipeD, tYesM, sSeq, sNil, sPass, sIf, sRet, sRetN, sExpr, sAsg, sAug, sPar, sBrk, sCont, eVar, eC, eBin, eNeg, eNot, eAnd, eOr, eIf, eChain, eLst, eTup, eCall, tst, tAndM, tOrM, tNotM, aNil, aCons, gNm, gsNil, gsCons, gTp, gSubM, oNone, oSome, mI0, mSub, mLt, mLe, mGt, mGe, Res.bind_ok, flD, List.getElem?_cons_zero, List.getElem?_cons_succ, List.set_cons_zero, List.set_cons_succ, List.length_cons, List.length_nil, if_true, reduceIte, decide_eq_true_eq, Bool.false_eq_true, Bool.true_eq_false, ok_ok, bnd_assoc, bind_ite, ok_ite, mkF_0, mkF_1, mkF_2, mkF_3, mkF_4, mkF_5, mkF_6, mkT_1, mkT_2, mkT_3, mkH_0, mkH_1, mkH_3, frame, List.map_cons, List.map_nil, List.cons_append, List.nil_append, List.replicate, Nat.sub_self, Nat.reduceSub, Nat.reduceAdd, Nat.reduceEqDiff]
            rw [show mLen [enc ps] μ5 = .ok (.int ps.length) μ5 by rw [enc_list, mLen_lst, List.length_map]]
            try simp only [sSeq, sNil, sPass, sIf, sRet, sRetN, sExpr, sAsg, sAug, sPar, sBrk, sCont, eVar, eC, eBin, eNeg, eNot, eAnd, eOr, eIf, eChain, eLst, eTup, eCall, tst, tAndM, tOrM, tNotM, aNil, aCons, gNm, gsNil, gsCons, gTp, gSubM, oNone, oSome, mI0, mSub, mLt, mLe, mGt, mGe, Res.bind_ok, flD, List.getElem?_cons_zero, List.getElem?_cons_succ, List.set_cons_zero, List.set_cons_succ, List.length_cons, List.length_nil, if_true, reduceIte, decide_eq_true_eq, Bool.false_eq_true, Bool.true_eq_false, ok_ok, bnd_assoc, bind_ite, ok_ite, mkF_0, mkF_1, mkF_2, mkF_3, mkF_4, mkF_5, mkF_6, mkT_1, mkT_2, mkT_3, mkH_0, mkH_1, mkH_3, frame, List.map_cons, List.map_nil, List.cons_append, List.nil_append, List.replicate, Nat.sub_self, Nat.reduceSub, Nat.reduceAdd, Nat.reduceEqDiff]
            refine (m_take_ok (u5.pile p4) (by omega) (by omega)).step ?_
            rintro _ μ6 ⟨j, rfl, hj0, hj1, u6⟩
            try simp only [sSeq, sNil, sPass, sIf, sRet, sRetN, sExpr, sAsg, sAug, sPar, sBrk, sCont, eVar, eC, eBin, eNeg, eNot, eAnd, eOr, eIf, eChain, eLst, eTup, eCall, tst, tAndM, tOrM, tNotM, aNil, aCons, gNm, gsNil, gsCons, gTp, gSubM, oNone, oSome, mI0, mSub, mLt, mLe, mGt, mGe, Res.bind_ok, flD, List.getElem?_cons_zero, List.getElem?_cons_succ, List.set_cons_zero, List.set_cons_succ, List.length_cons, List.length_nil, if_true, reduceIte, decide_eq_true_eq, Bool.false_eq_true, Bool.true_eq_false, ok_ok, bnd_assoc, bind_ite, ok_ite, mkF_0, mkF_1, mkF_2, mkF_3, mkF_4, mkF_5, mkF_6, mkT_1, mkT_2, mkT_3, mkH_0, mkH_1, mkH_3, frame, List.map_cons, List.map_nil, List.cons_append, List.nil_append, List.replicate, Nat.sub_self, Nat.reduceSub, Nat.reduceAdd, Nat.reduceEqDiff]
            have hj : j.toNat < ps.length := by omega
            rw [enc_list, mIx_lst (i := j) (j := j.toNat) (d := enc ps[j.toNat]) (by omega) (by rw [List.getElem?_map, List.getElem?_eq_getElem hj]; rfl)]
            refine ⟨u5.trans u6, qs ++ [ps[j.toNat]], by rw [List.map_append]; rfl, by rw [List.length_append, hts]; rfl, fun t ht => ?_⟩
            rcases List.mem_append.mp ht with ht | ht
            · exact hmem' t ht
            · rw [List.mem_singleton.mp ht]; exact List.getElem_mem hj
          · rintro ds μ5 ⟨u5, qs, rfl, hts, hmem'⟩
            rw [rngD_len] at hts
            rw [mkF_ok (by rw [List.length_map]; omega)]
            exact ⟨qs, rfl, u4.trans u5, hmem', by omega⟩
        · rintro _ μ4 ⟨qs, rfl, u4, hqm, hql⟩
          have c4 := upd_x u4 _ _ ka.symm c3
          have p4 := u4.pile p3
          have k4 := k3.trans (upd_x u4)
          rw [mAdd_ss (a := ts.map enc) (b := qs.map enc) (seqM_cell c4) rfl, ← List.map_append, mkH_ok (by rw [List.length_map, List.length_append]; omega)]
          simp only [sSeq, sNil, sPass, sIf, sRet, sRetN, sExpr, sAsg, sAug, sPar, sBrk, sCont, eVar, eC, eBin, eNeg, eNot, eAnd, eOr, eIf, eChain, eLst, eTup, eCall, tst, tAndM, tOrM, tNotM, aNil, aCons, gNm, gsNil, gsCons, gTp, gSubM, oNone, oSome, mI0, mSub, mLt, mLe, mGt, mGe, Res.bind_ok, flD, List.getElem?_cons_zero, List.getElem?_cons_succ, List.set_cons_zero, List.set_cons_succ, List.length_cons, List.length_nil, if_true, reduceIte, decide_eq_true_eq, Bool.false_eq_true, Bool.true_eq_false, ok_ok, bnd_assoc, bind_ite, ok_ite, mkF_0, mkF_1, mkF_2, mkF_3, mkF_4, mkF_5, mkF_6, mkT_1, mkT_2, mkT_3, mkH_0, mkH_1, mkH_3, frame, List.map_cons, List.map_nil, List.cons_append, List.nil_append, List.replicate, Nat.sub_self, Nat.reduceSub, Nat.reduceAdd, Nat.reduceEqDiff]
          refine ⟨μ4.length, ts ++ qs, rfl, app_new, fun t htt => ?_, by rw [List.length_append]; omega, pile_app p4, k4.trans (Keeps.x keeps_app), ?_, ?_⟩
          · rcases List.mem_append.mp htt with h | h
            · exact ht t h
            · exact hmem (hqm t h)
          · have := get_lt c4; omega
          · have := pile_lt p4; omega
      · exact ⟨a, ts, rfl, c3, ht, by omega, p3, k3, la, ka⟩
    rintro _ μ4 ⟨a, ts, rfl, c4, ht, hl, p4, k4, la, ka⟩
    simp only
    clear c3 p3 k3 hpn
    subst hb
    -- some left out
    refine ok_seq fun b' hb => ?_
    refine Ok.imp (Q := fun f μ' => ∃ (a : Nat) (x y : Option D) (ts : List (Int × Int)), f = .nx [some (.hnd k), some (.int least), some (.int most), some (.int folds), some (.int many), some (.int n), some (.hnd a), x, some (.lst ((pairsL n).map enc)), y, none, none] ∧ μ'[a]? = some (some (.lst (ts.map enc))) ∧ IsTies n ts ∧ ts.length ≤ 102000 ∧ PileAt μ' k ∧ KeepX k μ μ' ∧ μ.length ≤ a ∧ k ≠ a) (ok_sFor (ok_iRange1 ?_)) ?_
    · simp only [sSeq, sNil, sPass, sIf, sRet, sRetN, sExpr, sAsg, sAug, sPar, sBrk, sCont, eVar, eC, eBin, eNeg, eNot, eAnd, eOr, eIf, eChain, eLst, eTup, eCall, tst, tAndM, tOrM, tNotM, aNil, aCons, gNm, gsNil, gsCons, gTp, gSubM, oNone, oSome, mI0, mSub, mLt, mLe, mGt, mGe, Res.bind_ok, flD, List.getElem?_cons_zero, List.getElem?_cons_succ, List.set_cons_zero, List.set_cons_succ, List.length_cons, List.length_nil, if_true, reduceIte, decide_eq_true_eq, Bool.false_eq_true, Bool.true_eq_false, ok_ok, bnd_assoc, bind_ite, ok_ite, mkF_0, mkF_1, mkF_2, mkF_3, mkF_4, mkF_5, mkF_6, mkT_1, mkT_2, mkT_3, mkH_0, mkH_1, mkH_3, frame, List.map_cons, List.map_nil, List.cons_append, List.nil_append, List.replicate, Nat.sub_self, Nat.reduceSub, Nat.reduceAdd, Nat.reduceEqDiff]
      refine (m_take_ok p4 (by decide) (by decide)).step ?_
      rintro _ μ5 ⟨v, rfl, hv0, hv1, u5⟩
      obtain ⟨c, hc, hc0, hc1⟩ : ∃ c : Int, mIx (.lst [.int 0, .int 0, .int 1, .int 2]) (.int v) μ5 = .ok (.int c) μ5 ∧ 0 ≤ c ∧ c ≤ 2 := by
        rcases (show v = 0 ∨ v = 1 ∨ v = 2 ∨ v = 3 by omega) with rfl | rfl | rfl | rfl
        · exact ⟨_, mIx_lst (j := 0) rfl rfl, by decide, by decide⟩
        · exact ⟨_, mIx_lst (j := 1) rfl rfl, by decide, by decide⟩
        · exact ⟨_, mIx_lst (j := 2) rfl rfl, by decide, by decide⟩
        · exact ⟨_, mIx_lst (j := 3) rfl rfl, by decide, by decide⟩
      simp only [sSeq, sNil, sPass, sIf, sRet, sRetN, sExpr, sAsg, sAug, sPar, sBrk, sCont, eVar, eC, eBin, eNeg, eNot, eAnd, eOr, eIf, eChain, eLst, eTup, eCall, tst, tAndM, tOrM, tNotM, aNil, aCons, gNm, gsNil, gsCons, gTp, gSubM, oNone, oSome, mI0, mSub, mLt, mLe, mGt, mGe, Res.bind_ok, flD, List.getElem?_cons_zero, List.getElem?_cons_succ, List.set_cons_zero, List.set_cons_succ, List.length_cons, List.length_nil, if_true, reduceIte, decide_eq_true_eq, Bool.false_eq_true, Bool.true_eq_false, ok_ok, bnd_assoc, bind_ite, ok_ite, mkF_0, mkF_1, mkF_2, mkF_3, mkF_4, mkF_5, mkF_6, mkT_1, mkT_2, mkT_3, mkH_0, mkH_1, mkH_3, frame, List.map_cons, List.map_nil, List.cons_append, List.nil_append, List.replicate, Nat.sub_self, Nat.reduceSub, Nat.reduceAdd, Nat.reduceEqDiff, hc]
      refine ⟨c, rfl, by omega, by omega, ?_⟩
      refine ok_forL (fun i ρ μ' => ∃ (a : Nat) (x y : Option D) (ts : List (Int × Int)), ρ = [some (.hnd k), some (.int least), some (.int most), some (.int folds), some (.int many), some (.int n), some (.hnd a), x, some (.lst ((pairsL n).map enc)), y, none, none] ∧ μ'[a]? = some (some (.lst (ts.map enc))) ∧ IsTies n ts ∧ ts.length ≤ 102000 ∧ PileAt μ' k ∧ KeepX k μ μ' ∧ μ.length ≤ a ∧ k ≠ a)
        ⟨a, _, _, ts, rfl, (u5.get ka.symm).trans c4, ht, hl, u5.pile p4, k4.trans (upd_x u5), la, ka⟩ (fun _ _ _ _ _ => trivial) ?_ (fun ρ μ' ⟨a, x, y, ts, e, h⟩ => ⟨a, x, y, ts, by rw [e], h⟩)
      rintro i d ρ μ6 hd ⟨a, x, y, ts, rfl, c6, ht, hl, p6, k6, la, ka⟩
      obtain ⟨hi, rfl⟩ := rngD_get hd
      simp only [gNm, List.length_cons, List.length_nil, ok_ok, List.set_cons_succ, List.set_cons_zero]
      refine ok_seq fun b2 hb2 => ?_
      simp only [sSeq, sNil, sPass, sIf, sRet, sRetN, sExpr, sAsg, sAug, sPar, sBrk, sCont, eVar, eC, eBin, eNeg, eNot, eAnd, eOr, eIf, eChain, eLst, eTup, eCall, tst, tAndM, tOrM, tNotM, aNil, aCons, gNm, gsNil, gsCons, gTp, gSubM, oNone, oSome, mI0, mSub, mLt, mLe, mGt, mGe, Res.bind_ok, flD, List.getElem?_cons_zero, List.getElem?_cons_succ, List.set_cons_zero, List.set_cons_succ, List.length_cons, List.length_nil, if_true, reduceIte, decide_eq_true_eq, Bool.false_eq_true, Bool.true_eq_false, ok_ok, bnd_assoc, bind_ite, ok_ite, mkF_0, mkF_1, mkF_2, mkF_3, mkF_4, mkF_5, mkF_6, mkT_1, mkT_2, mkT_3, mkH_0, mkH_1, mkH_3, frame, List.map_cons, List.map_nil, List.cons_append, List.nil_append, List.replicate, Nat.sub_self, Nat.reduceSub, Nat.reduceAdd, Nat.reduceEqDiff, mLen_cell c6, mAdd_int, List.length_map]
      refine (m_take_ok p6 (by omega) (by omega)).step ?_
      rintro _ μ7 ⟨w, rfl, hw0, hw1, u7⟩
      have c7 := (u7.get ka.symm).trans c6
      have p7 := u7.pile p6
      have k7 := k6.trans (upd_x u7)
      obtain ⟨w, rfl⟩ : ∃ m : Nat, w = (m : Int) := ⟨w.toNat, by omega⟩
      try simp only [sSeq, sNil, sPass, sIf, sRet, sRetN, sExpr, sAsg, sAug, sPar, sBrk, sCont, eVar, eC, eBin, eNeg, eNot, eAnd, eOr, eIf, eChain, eLst, eTup, eCall, tst, tAndM, tOrM, tNotM, aNil, aCons, gNm, gsNil, gsCons, gTp, gSubM, oNone, oSome, mI0, mSub, mLt, mLe, mGt, mGe, Res.bind_ok, flD, List.getElem?_cons_zero, List.getElem?_cons_succ, List.set_cons_zero, List.set_cons_succ, List.length_cons, List.length_nil, if_true, reduceIte, decide_eq_true_eq, Bool.false_eq_true, Bool.true_eq_false, ok_ok, bnd_assoc, bind_ite, ok_ite, mkF_0, mkF_1, mkF_2, mkF_3, mkF_4, mkF_5, mkF_6, mkT_1, mkT_2, mkT_3, mkH_0, mkH_1, mkH_3, frame, List.map_cons, List.map_nil, List.cons_append, List.nil_append, List.replicate, Nat.sub_self, Nat.reduceSub, Nat.reduceAdd, Nat.reduceEqDiff]
      subst hb2
      try simp only [sSeq, sNil, sPass, sIf, sRet, sRetN, sExpr, sAsg, sAug, sPar, sBrk, sCont, eVar, eC, eBin, eNeg, eNot, eAnd, eOr, eIf, eChain, eLst, eTup, eCall, tst, tAndM, tOrM, tNotM, aNil, aCons, gNm, gsNil, gsCons, gTp, gSubM, oNone, oSome, mI0, mSub, mLt, mLe, mGt, mGe, Res.bind_ok, flD, List.getElem?_cons_zero, List.getElem?_cons_succ, List.set_cons_zero, List.set_cons_succ, List.length_cons, List.length_nil, if_true, reduceIte, decide_eq_true_eq, Bool.false_eq_true, Bool.true_eq_false, ok_ok, bnd_assoc, bind_ite, ok_ite, mkF_0, mkF_1, mkF_2, mkF_3, mkF_4, mkF_5, mkF_6, mkT_1, mkT_2, mkT_3, mkH_0, mkH_1, mkH_3, frame, List.map_cons, List.map_nil, List.cons_append, List.nil_append, List.replicate, Nat.sub_self, Nat.reduceSub, Nat.reduceAdd, Nat.reduceEqDiff]
      have sa : seqL μ7 (.hnd a) = some (ts.map enc) := by rw [seqL, c7]
      rw [eSl_of (f := enc) (d := .hnd a) (xs := ts) (l := none) (u := some (w : Int)) rfl rfl rfl sa, cutA_to, mkF_ok (by rw [List.length_map, List.length_take]; omega)]
      simp only [Res.bind_ok]
      rw [eSl_of (f := enc) (d := .hnd a) (xs := ts) (l := some ((w + 1 : Nat) : Int)) (u := none) rfl rfl rfl sa, cutA_from, mkF_ok (by rw [List.length_map, List.length_drop]; omega)]
      simp only [Res.bind_ok, mAdd_lst]
      have hln : (ts.take w ++ ts.drop (w + 1)).length ≤ ts.length := by rw [List.length_append, List.length_take, List.length_drop]; omega
      rw [← List.map_append, mkH_ok (by rw [List.length_map]; omega)]
      simp only [Res.bind_ok, ok_ok]
      refine ⟨μ7.length, _, _, ts.take w ++ ts.drop (w + 1), rfl, app_new, fun t htt => ?_, by omega, pile_app p7, k7.trans (Keeps.x keeps_app), ?_, ?_⟩
      · rcases List.mem_append.mp htt with h | h
        · exact ht t (List.mem_of_mem_take h)
        · exact ht t (List.mem_of_mem_drop h)
      · have := get_lt c7; omega
      · have := pile_lt p7; omega
    rintro _ μ5 ⟨a, x, y, ts, rfl, c5, ht, hl, p5, k5, la, ka⟩
    simp only
    clear c4 p4 k4
    subst hb
    refine ok_seq fun b' hb => ?_; try simp only [sSeq, sNil, sPass, sIf, sRet, sRetN, sExpr, sAsg, sAug, sPar, sBrk, sCont, eVar, eC, eBin, eNeg, eNot, eAnd, eOr, eIf, eChain, eLst, eTup, eCall, tst, tAndM, tOrM, tNotM, aNil, aCons, gNm, gsNil, gsCons, gTp, gSubM, oNone, oSome, mI0, mSub, mLt, mLe, mGt, mGe, Res.bind_ok, flD, List.getElem?_cons_zero, List.getElem?_cons_succ, List.set_cons_zero, List.set_cons_succ, List.length_cons, List.length_nil, if_true, reduceIte, decide_eq_true_eq, Bool.false_eq_true, Bool.true_eq_false, ok_ok, bnd_assoc, bind_ite, ok_ite, mkF_0, mkF_1, mkF_2, mkF_3, mkF_4, mkF_5, mkF_6, mkT_1, mkT_2, mkT_3, mkH_0, mkH_1, mkH_3, frame, List.map_cons, List.map_nil, List.cons_append, List.nil_append, List.replicate, Nat.sub_self, Nat.reduceSub, Nat.reduceAdd, Nat.reduceEqDiff]
    have ab : a ≠ μ5.length := by have := get_lt c5; omega
    have kb : k ≠ μ5.length := by have := pile_lt p5; omega
    have lb : μ.length ≤ μ5.length := by have := get_lt c5; omega
    have p6 := pile_app (c := some (Cell.lst [])) p5
    have c6 := app_get (c' := some (Cell.lst [])) c5
    have d6 : (μ5 ++ [some (Cell.lst [])])[μ5.length]? = some (some (.lst [])) := app_new
    have k6 := k5.trans (Keeps.x (keeps_app (μ := μ5) (c := some (Cell.lst []))))
    generalize μ5 ++ [some (Cell.lst [])] = μ6 at *
    generalize μ5.length = b at *
    subst hb
    refine ok_seq fun b' hb => ?_
    refine (drain_ok (α := Int × Int) (by decide) (k := k) (a := a) (b := b) (i := 6) (j := 10) p6 rfl rfl rfl ka kb ab c6 d6 (by omega)).imp ?_
    rintro f μ7 ⟨rfl, ys, hys, d7, p7, l7, h7⟩
    have k7 : KeepX k μ μ7 := fun j c hj e => h7 j c hj (by have := get_lt e; omega) (by have := get_lt e; omega) (k6 _ _ hj e)
    simp only
    subst hb
    simp only [sSeq, sNil, sPass, sIf, sRet, sRetN, sExpr, sAsg, sAug, sPar, sBrk, sCont, eVar, eC, eBin, eNeg, eNot, eAnd, eOr, eIf, eChain, eLst, eTup, eCall, tst, tAndM, tOrM, tNotM, aNil, aCons, gNm, gsNil, gsCons, gTp, gSubM, oNone, oSome, mI0, mSub, mLt, mLe, mGt, mGe, Res.bind_ok, flD, List.getElem?_cons_zero, List.getElem?_cons_succ, List.set_cons_zero, List.set_cons_succ, List.length_cons, List.length_nil, if_true, reduceIte, decide_eq_true_eq, Bool.false_eq_true, Bool.true_eq_false, ok_ok, bnd_assoc, bind_ite, ok_ite, mkF_0, mkF_1, mkF_2, mkF_3, mkF_4, mkF_5, mkF_6, mkT_1, mkT_2, mkT_3, mkH_0, mkH_1, mkH_3, frame, List.map_cons, List.map_nil, List.cons_append, List.nil_append, List.replicate, Nat.sub_self, Nat.reduceSub, Nat.reduceAdd, Nat.reduceEqDiff]
    rw [eSl_of (f := enc) (d := .hnd b) (xs := ys) (l := none) (u := some ((40 : Nat) : Int)) rfl rfl rfl (by rw [seqL, d7]), cutA_to, mkF_ok (by rw [List.length_map, List.length_take]; omega)]
    simp only [sSeq, sNil, sPass, sIf, sRet, sRetN, sExpr, sAsg, sAug, sPar, sBrk, sCont, eVar, eC, eBin, eNeg, eNot, eAnd, eOr, eIf, eChain, eLst, eTup, eCall, tst, tAndM, tOrM, tNotM, aNil, aCons, gNm, gsNil, gsCons, gTp, gSubM, oNone, oSome, mI0, mSub, mLt, mLe, mGt, mGe, Res.bind_ok, flD, List.getElem?_cons_zero, List.getElem?_cons_succ, List.set_cons_zero, List.set_cons_succ, List.length_cons, List.length_nil, if_true, reduceIte, decide_eq_true_eq, Bool.false_eq_true, Bool.true_eq_false, ok_ok, bnd_assoc, bind_ite, ok_ite, mkF_0, mkF_1, mkF_2, mkF_3, mkF_4, mkF_5, mkF_6, mkT_1, mkT_2, mkT_3, mkH_0, mkH_1, mkH_3, frame, List.map_cons, List.map_nil, List.cons_append, List.nil_append, List.replicate, Nat.sub_self, Nat.reduceSub, Nat.reduceAdd, Nat.reduceEqDiff]
    exact ⟨n, ys.take 40, rfl, p7, k7, hn1, hn2, fun t htt => ht t (hys.mem_iff.mp (List.mem_of_mem_take htt)), by rw [List.length_take]; omega⟩
  · rintro _ μ' ⟨n, ts, rfl, h⟩
    simp only [flD, ok_ok]
    exact ⟨n, ts, rfl, h⟩
end Lw

namespace Lw
open PySem PySem.Spec PyProof.Rows L2 Md
open Md.Enc (enc)
/-! ### masks without a place -/
theorem hasB_iff {n m : Nat} {s : Int} (h0 : 0 ≤ s) (h1 : s < n) : s ∈ lotM n m ↔ hasB m s = true := by
  rw [lotM_mem]
  exact ⟨fun h => h.2.2, fun h => ⟨h0, h1, h⟩⟩
def othersM (n s : Nat) : Nat := 2 ^ n - (2 ^ s + 1)
theorem pow_lt {n s : Nat} (h : s < n) : 2 ^ s < 2 ^ n := Nat.pow_lt_pow_right (by decide) h
theorem others_bit {n s : Nat} (h : s < n) (i : Nat) : (othersM n s).testBit i = (decide (i < n) && !decide (s = i)) := by
  unfold othersM
  rw [Nat.testBit_two_pow_sub_succ (pow_lt h), Nat.testBit_two_pow]
theorem others_le {n s m : Nat} (h : s < n) (hm : m < 2 ^ n) (hs : m.testBit s = false) : m ≤ othersM n s := by
  have e : m &&& othersM n s = m := by
    refine Nat.eq_of_testBit_eq fun i => ?_
    rw [Nat.testBit_and, others_bit h]
    by_cases q : i < n
    · by_cases q2 : s = i
      · subst q2; rw [hs]; rfl
      · simp [q, q2]
    · rw [Nat.testBit_lt_two_pow (Nat.lt_of_lt_of_le hm (Nat.pow_le_pow_right (by decide) (by omega)))]
      rfl
  rw [← e]
  exact Nat.and_le_right
theorem lot_full {n s m : Nat} (h : s < n) (hm : m < 2 ^ n) (hs : m.testBit s = false) (hne : m ≠ othersM n s) : (lotM n m).length < n - 1 := by
  obtain ⟨p, hp, hps, hpm⟩ : ∃ p, p < n ∧ p ≠ s ∧ m.testBit p = false := by
    by_cases q : ∃ p, p < n ∧ p ≠ s ∧ m.testBit p = false
    · exact q
    · refine absurd (Nat.eq_of_testBit_eq fun i => ?_) hne
      rw [others_bit h]
      by_cases q1 : i < n
      · by_cases q2 : s = i
        · subst q2; rw [hs]; simp
        · have : m.testBit i = true := by
            cases e : m.testBit i with
            | true => rfl
            | false => exact absurd ⟨i, q1, fun z => q2 z.symm, e⟩ q
          rw [this]; simp [q1, q2]
      · rw [Nat.testBit_lt_two_pow (Nat.lt_of_lt_of_le hm (Nat.pow_le_pow_right (by decide) (by omega)))]
        simp [q1]
  have hlen := List.length_eq_countP_add_countP (fun p : Int => m.testBit p.toNat) (l := rangeL n)
  rw [rangeL_len, List.countP_eq_length_filter, List.countP_eq_length_filter] at hlen
  have h2 : 2 ≤ ((rangeL n).filter fun a => decide ¬(m.testBit a.toNat = true)).length := by
    have m1 : (s : Int) ∈ (rangeL n).filter fun a => decide ¬(m.testBit a.toNat = true) := List.mem_filter.mpr ⟨rangeL_mem.mpr ⟨by omega, by omega⟩, by simp [hs]⟩
    have m2 : (p : Int) ∈ (rangeL n).filter fun a => decide ¬(m.testBit a.toNat = true) := List.mem_filter.mpr ⟨rangeL_mem.mpr ⟨by omega, by omega⟩, by simp [hpm]⟩
    generalize (rangeL n).filter (fun a => decide ¬(m.testBit a.toNat = true)) = l at m1 m2
    match l, m1, m2 with
    | [x], m1, m2 =>
      have e1 := List.mem_singleton.mp m1
      have e2 := List.mem_singleton.mp m2
      omega
    | x :: y :: r, _, _ => simp
  show ((rangeL n).filter fun p => m.testBit p.toNat).length < n - 1
  omega
theorem lot_others {n s : Nat} (h : s < n) : ¬ (lotM n (othersM n s)).length < n - 1 := by
  have hlen := List.length_eq_countP_add_countP (fun p : Int => (othersM n s).testBit p.toNat) (l := rangeL n)
  rw [rangeL_len, List.countP_eq_length_filter, List.countP_eq_length_filter] at hlen
  have e : (rangeL n).filter (fun a => decide ¬((othersM n s).testBit a.toNat = true)) = (rangeL n).filter fun a => decide (a = (s : Int)) := by
    refine List.filter_congr fun a ha => ?_
    have := rangeL_mem.mp ha
    rw [others_bit h]
    by_cases q : s = a.toNat
    · have : a = s := by omega
      simp [this]
    · have q2 : ¬ a = (s : Int) := by omega
      have q3 : a.toNat < n := by omega
      simp [q, q2, q3]
  have h1 : ((rangeL n).filter fun a => decide (a = (s : Int))).length ≤ 1 := by
    have nd : ((rangeL n).filter fun a => decide (a = (s : Int))).Nodup := (rangeL_nodup n).filter _
    have al : ∀ x ∈ (rangeL n).filter (fun a => decide (a = (s : Int))), x = (s : Int) := fun x hx => by simpa using (List.mem_filter.mp hx).2
    generalize (rangeL n).filter (fun a => decide (a = (s : Int))) = l at nd al
    match l, nd, al with
    | [], _, _ => simp
    | [x], _, _ => simp
    | x :: y :: r, nd, al =>
      have e1 := al x (by simp)
      have e2 := al y (by simp)
      rw [List.nodup_cons] at nd
      exact absurd (by rw [e1, e2]; simp) nd.1
  rw [e] at hlen
  show ¬ ((rangeL n).filter fun p => (othersM n s).testBit p.toNat).length < n - 1
  omega
/-- the masks that hold_beside looks at -/
def besideM (n s : Nat) : List Nat := (List.range' 1 (othersM n s - 1)).filter fun m => !m.testBit s
def besideM' (n s : Nat) : List Nat := (List.range' 1 (2 ^ n - 1)).filter fun m => !m.testBit s && decide ((lotM n m).length < n - 1)
theorem beside_eq {n s : Nat} (h : s < n) (h3 : 3 ≤ n) : besideM' n s = besideM n s := by
  have hp := pow_lt h
  have h8 : (2 : Nat) ^ 3 ≤ 2 ^ n := Nat.pow_le_pow_right (by decide) h3
  have ho : 1 ≤ othersM n s := by
    have : 2 ^ s ≤ 2 ^ (n - 1) := Nat.pow_le_pow_right (by decide) (by omega)
    have e2 : 2 ^ n = 2 * 2 ^ (n - 1) := by rw [← Nat.pow_succ']; congr 1; omega
    unfold othersM
    omega
  have hlt : othersM n s < 2 ^ n := by unfold othersM; exact Nat.sub_lt (Nat.two_pow_pos n) (Nat.succ_pos _)
  have e : List.range' 1 (2 ^ n - 1) = List.range' 1 (othersM n s - 1) ++ List.range' (othersM n s) (2 ^ n - othersM n s) := by
    have := List.range'_append_1 (s := 1) (m := othersM n s - 1) (n := 2 ^ n - othersM n s)
    rw [show 1 + (othersM n s - 1) = othersM n s by omega, show othersM n s - 1 + (2 ^ n - othersM n s) = 2 ^ n - 1 by omega] at this
    exact this.symm
  unfold besideM' besideM
  rw [e, List.filter_append]
  have e1 : (List.range' 1 (othersM n s - 1)).filter (fun m => !m.testBit s && decide ((lotM n m).length < n - 1)) = (List.range' 1 (othersM n s - 1)).filter fun m => !m.testBit s := by
    refine List.filter_congr fun m hm => ?_
    rw [List.mem_range'_1] at hm
    cases hs : m.testBit s with
    | true => rfl
    | false => simp [lot_full h (by omega) hs (by omega)]
  have e2 : (List.range' (othersM n s) (2 ^ n - othersM n s)).filter (fun m => !m.testBit s && decide ((lotM n m).length < n - 1)) = [] := by
    refine List.filter_eq_nil_iff.mpr fun m hm => ?_
    rw [List.mem_range'_1] at hm
    cases hs : m.testBit s with
    | true => simp
    | false =>
      have := others_le h (by omega) hs
      have hm' : m = othersM n s := by omega
      rw [hm']
      simp [lot_others h]
  rw [e1, e2, List.append_nil]
theorem beside_ne {n s : Nat} (h : s < n) (h3 : 3 ≤ n) : besideM n s ≠ [] := by
  obtain ⟨p, q, hp, hq, hps, hqs, hpq⟩ : ∃ p q, p < n ∧ q < n ∧ p ≠ s ∧ q ≠ s ∧ p ≠ q := by
    by_cases s0 : s = 0
    · exact ⟨1, 2, by omega, by omega, by omega, by omega, by omega⟩
    · by_cases s1 : s = 1
      · exact ⟨0, 2, by omega, by omega, by omega, by omega, by omega⟩
      · exact ⟨0, 1, by omega, by omega, by omega, by omega, by omega⟩
  have hb : (2 ^ p).testBit s = false := by rw [Nat.testBit_two_pow]; exact decide_eq_false hps
  have hle := others_le h (pow_lt hp) hb
  have hne : 2 ^ p ≠ othersM n s := fun z => by
    have := others_bit h q
    rw [← z, Nat.testBit_two_pow, decide_eq_false hpq, decide_eq_true hq, decide_eq_false (fun z => hqs z.symm)] at this
    cases this
  have h1 := Nat.two_pow_pos p
  refine List.ne_nil_of_mem (a := 2 ^ p) (List.mem_filter.mpr ⟨List.mem_range'_1.mpr ⟨h1, by omega⟩, by rw [hb]; rfl⟩)
def heldV (n : Nat) (ts : List (Int × Int)) (s : Nat) : Int := minL ((besideM n s).map fun m => cutM ts m)
/-! ### held_beside and the law's own look -/
theorem dec_mem {n m : Nat} {x : Int} (h0 : 0 ≤ x) (h1 : x < n) : decide (x ∈ lotM n m) = hasB m x := by
  cases e : hasB m x with
  | true => exact decide_eq_true ((hasB_iff h0 h1).mpr e)
  | false => exact decide_eq_false fun z => by rw [(hasB_iff h0 h1).mp z] at e; cases e
theorem cut_count {n m : Nat} : ∀ {ts : List (Int × Int)}, IsTies n ts → ((ts.filter fun t => decide (t.1 ∈ lotM n m) != decide (t.2 ∈ lotM n m)).length : Int) = cutM ts m
  | [], _ => rfl
  | t :: ts, ht => by
    obtain ⟨h1, h2, h3⟩ := ht t List.mem_cons_self
    have ih := cut_count (n := n) (m := m) (ts := ts) fun u hu => ht u (List.mem_cons_of_mem _ hu)
    have e1 : decide (t.1 ∈ lotM n m) = hasB m t.1 := dec_mem h1 (by omega)
    have e2 : decide (t.2 ∈ lotM n m) = hasB m t.2 := dec_mem (by omega) h3
    unfold cutM at ih ⊢
    rw [List.filter_cons, List.map_cons, List.sum_cons, e1, e2, ← ih]
    unfold cut1
    split
    · rw [List.length_cons]; omega
    · omega
theorem mMin_of {d : D} {xs : List Int} {μ : Mem} (h : seqL μ d = some (xs.map D.int)) (hne : xs ≠ []) : mMin [d] μ = .ok (.int (minL xs)) μ := by
  unfold mMin intsOf
  simp only [h, Option.bind, asInts_map]
  cases xs with
  | nil => exact absurd rfl hne
  | cons x xs => rfl
theorem rngD_range' (c : Nat) : rngD 1 c = (List.range' 1 c).map fun m : Nat => D.int (m : Int) := by
  unfold rngD
  rw [List.range'_eq_map_range, List.map_map]
  refine List.map_congr_left fun i _ => ?_
  show D.int (1 + (i : Int)) = D.int ((1 + i : Nat) : Int)
  rw [Int.natCast_add]
  rfl
theorem p_beside_ok {n s : Nat} {ts : List (Int × Int)} (h3 : 3 ≤ n) (hn : n ≤ 20) (hs : s < n) (ht : IsTies n ts) (hl : ts.length ≤ 1000000) : p__law_beside [.int n, enc ts, .int s] = .ok (.int (heldV n ts s)) := by
  refine runP_of ?_ rfl
  unfold runM b__law_beside
  have hp20 : (2 : Nat) ^ n ≤ 2 ^ 20 := Nat.pow_le_pow_right (by decide) hn
  have hpp := Nat.two_pow_pos n
  try simp only [sSeq, sNil, sPass, sIf, sRet, sRetN, sExpr, sAsg, sAug, sPar, sBrk, sCont, eVar, eC, eBin, eNeg, eNot, eAnd, eOr, eIf, eChain, eLst, eTup, eCall, tst, tAndM, tOrM, tNotM, aNil, aCons, gNm, gsNil, gsCons, gTp, gSubM, oNone, oSome, mI0, mSub, mLt, mLe, mGt, mGe, Res.bind_ok, flD, List.getElem?_cons_zero, List.getElem?_cons_succ, List.set_cons_zero, List.set_cons_succ, List.length_cons, List.length_nil, if_true, reduceIte, decide_eq_true_eq, Bool.false_eq_true, Bool.true_eq_false, ok_ok, bnd_assoc, bind_ite, ok_ite, mkF_0, mkF_1, mkF_2, mkF_3, mkF_4, mkF_5, mkF_6, mkT_1, mkT_2, mkT_3, mkH_0, mkH_1, mkH_3, frame, List.map_cons, List.map_nil, List.cons_append, List.nil_append, List.replicate, Nat.sub_self, Nat.reduceSub, Nat.reduceAdd, Nat.reduceEqDiff]
  have c0 : ([some (Cell.lst [])] : Mem)[0]? = some (some (.lst ((((List.range' 1 0).filter fun m => !m.testBit s && decide ((lotM n m).length < n - 1)).map fun m => cutM ts m).map D.int))) := rfl
  refine Ok.step (Q' := fun f μ => ∃ a b c d e, f = .nx [some (.int n), some (enc ts), some (.int s), some (.hnd 0), a, b, c, d, e] ∧ μ[0]? = some (some (.lst (((besideM' n s).map fun m => cutM ts m).map D.int)))) (ok_sFor ?_) ?_
  · rw [iRange2_of (μ1 := [some (Cell.lst [])]) (i := 1) (j := ((2 ^ n : Nat) : Int)) (by simp only [sSeq, sNil, sPass, sIf, sRet, sRetN, sExpr, sAsg, sAug, sPar, sBrk, sCont, eVar, eC, eBin, eNeg, eNot, eAnd, eOr, eIf, eChain, eLst, eTup, eCall, tst, tAndM, tOrM, tNotM, aNil, aCons, gNm, gsNil, gsCons, gTp, gSubM, oNone, oSome, mI0, mSub, mLt, mLe, mGt, mGe, Res.bind_ok, flD, List.getElem?_cons_zero, List.getElem?_cons_succ, List.set_cons_zero, List.set_cons_succ, List.length_cons, List.length_nil, if_true, reduceIte, decide_eq_true_eq, Bool.false_eq_true, Bool.true_eq_false, ok_ok, bnd_assoc, bind_ite, ok_ite, mkF_0, mkF_1, mkF_2, mkF_3, mkF_4, mkF_5, mkF_6, mkT_1, mkT_2, mkT_3, mkH_0, mkH_1, mkH_3, frame, List.map_cons, List.map_nil, List.cons_append, List.nil_append, List.replicate, Nat.sub_self, Nat.reduceSub, Nat.reduceAdd, Nat.reduceEqDiff, mShl_one (show n ≤ 1000000 by omega)]) (by omega) (by omega) (by omega) (by omega), ok_ok]
    refine ok_forL (fun i ρ μ => (∃ a b c d e, ρ = [some (.int n), some (enc ts), some (.int s), some (.hnd 0), a, b, c, d, e]) ∧ μ[0]? = some (some (.lst ((((List.range' 1 i).filter fun m => !m.testBit s && decide ((lotM n m).length < n - 1)).map fun m => cutM ts m).map D.int)))) ⟨⟨_, _, _, _, _, rfl⟩, c0⟩ (fun _ _ _ _ _ => trivial) ?_ ?_
    · rintro i x ρ μ hx ⟨⟨a, b, c, d, e, rfl⟩, hc⟩
      obtain ⟨hi, rfl⟩ := rngD_get hx
      obtain ⟨m, hm⟩ : ∃ m, m = 1 + i := ⟨_, rfl⟩
      rw [show (1 : Int) + (i : Nat) = ((m : Nat) : Int) by omega]
      have er : List.range' 1 (i + 1) = List.range' 1 i ++ [m] := by rw [List.range'_concat, hm, Nat.one_mul]
      simp only [gNm, List.length_cons, List.length_nil, ok_ok, List.set_cons_succ, List.set_cons_zero]
      refine ok_seq fun b' hb => ?_
      simp only [sSeq, sNil, sPass, sIf, sRet, sRetN, sExpr, sAsg, sAug, sPar, sBrk, sCont, eVar, eC, eBin, eNeg, eNot, eAnd, eOr, eIf, eChain, eLst, eTup, eCall, tst, tAndM, tOrM, tNotM, aNil, aCons, gNm, gsNil, gsCons, gTp, gSubM, oNone, oSome, mI0, mSub, mLt, mLe, mGt, mGe, Res.bind_ok, flD, List.getElem?_cons_zero, List.getElem?_cons_succ, List.set_cons_zero, List.set_cons_succ, List.length_cons, List.length_nil, if_true, reduceIte, decide_eq_true_eq, Bool.false_eq_true, Bool.true_eq_false, ok_ok, bnd_assoc, bind_ite, ok_ite, mkF_0, mkF_1, mkF_2, mkF_3, mkF_4, mkF_5, mkF_6, mkT_1, mkT_2, mkT_3, mkH_0, mkH_1, mkH_3, frame, List.map_cons, List.map_nil, List.cons_append, List.nil_append, List.replicate, Nat.sub_self, Nat.reduceSub, Nat.reduceAdd, Nat.reduceEqDiff]
      rw [lc_flt (xs := rangeL n) (fun p => m.testBit p.toNat) (iRange1_L (by simp only [sSeq, sNil, sPass, sIf, sRet, sRetN, sExpr, sAsg, sAug, sPar, sBrk, sCont, eVar, eC, eBin, eNeg, eNot, eAnd, eOr, eIf, eChain, eLst, eTup, eCall, tst, tAndM, tOrM, tNotM, aNil, aCons, gNm, gsNil, gsCons, gTp, gSubM, oNone, oSome, mI0, mSub, mLt, mLe, mGt, mGe, Res.bind_ok, flD, List.getElem?_cons_zero, List.getElem?_cons_succ, List.set_cons_zero, List.set_cons_succ, List.length_cons, List.length_nil, if_true, reduceIte, decide_eq_true_eq, Bool.false_eq_true, Bool.true_eq_false, ok_ok, bnd_assoc, bind_ite, ok_ite, mkF_0, mkF_1, mkF_2, mkF_3, mkF_4, mkF_5, mkF_6, mkT_1, mkT_2, mkT_3, mkH_0, mkH_1, mkH_3, frame, List.map_cons, List.map_nil, List.cons_append, List.nil_append, List.replicate, Nat.sub_self, Nat.reduceSub, Nat.reduceAdd, Nat.reduceEqDiff]) (by omega)) trivial (by rw [rangeL_len]; omega) (by simp) (fun p hp => ?lot)]
      case lot =>
        obtain ⟨q0, q1⟩ := rangeL_mem.mp hp
        obtain ⟨p, rfl⟩ : ∃ q : Nat, p = (q : Int) := ⟨p.toNat, by omega⟩
        simp only [wipeD, sSeq, sNil, sPass, sIf, sRet, sRetN, sExpr, sAsg, sAug, sPar, sBrk, sCont, eVar, eC, eBin, eNeg, eNot, eAnd, eOr, eIf, eChain, eLst, eTup, eCall, tst, tAndM, tOrM, tNotM, aNil, aCons, gNm, gsNil, gsCons, gTp, gSubM, oNone, oSome, mI0, mSub, mLt, mLe, mGt, mGe, Res.bind_ok, flD, List.getElem?_cons_zero, List.getElem?_cons_succ, List.set_cons_zero, List.set_cons_succ, List.length_cons, List.length_nil, if_true, reduceIte, decide_eq_true_eq, Bool.false_eq_true, Bool.true_eq_false, ok_ok, bnd_assoc, bind_ite, ok_ite, mkF_0, mkF_1, mkF_2, mkF_3, mkF_4, mkF_5, mkF_6, mkT_1, mkT_2, mkT_3, mkH_0, mkH_1, mkH_3, frame, List.map_cons, List.map_nil, List.cons_append, List.nil_append, List.replicate, Nat.sub_self, Nat.reduceSub, Nat.reduceAdd, Nat.reduceEqDiff, enc_int, mShr_nat, mAnd_one, mEq_i, tb_eq, Int.toNat_natCast]
      rw [show (rangeL n).filter (fun p => m.testBit p.toNat) = lotM n m from rfl]
      simp only [Res.bind_ok, ok_ok]
      subst hb
      simp only [sSeq, sNil, sPass, sIf, sRet, sRetN, sExpr, sAsg, sAug, sPar, sBrk, sCont, eVar, eC, eBin, eNeg, eNot, eAnd, eOr, eIf, eChain, eLst, eTup, eCall, tst, tAndM, tOrM, tNotM, aNil, aCons, gNm, gsNil, gsCons, gTp, gSubM, oNone, oSome, mI0, mSub, mLt, mLe, mGt, mGe, Res.bind_ok, flD, List.getElem?_cons_zero, List.getElem?_cons_succ, List.set_cons_zero, List.set_cons_succ, List.length_cons, List.length_nil, if_true, reduceIte, decide_eq_true_eq, Bool.false_eq_true, Bool.true_eq_false, ok_ok, bnd_assoc, bind_ite, ok_ite, mkF_0, mkF_1, mkF_2, mkF_3, mkF_4, mkF_5, mkF_6, mkT_1, mkT_2, mkT_3, mkH_0, mkH_1, mkH_3, frame, List.map_cons, List.map_nil, List.cons_append, List.nil_append, List.replicate, Nat.sub_self, Nat.reduceSub, Nat.reduceAdd, Nat.reduceEqDiff]
      rw [mNotIn_iv (views_enc _ (lotM n m))]
      have hsm : decide ((s : Int) ∈ lotM n m) = m.testBit s := dec_mem (by omega) (by omega)
      rw [hsm]
      rw [er, List.filter_append, List.map_append, List.map_append]
      generalize hpre : (((List.range' 1 i).filter fun m => !m.testBit s && decide ((lotM n m).length < n - 1)).map fun m => cutM ts m).map D.int = pre at hc
      have hprl : pre.length ≤ i := by
        rw [← hpre, List.length_map, List.length_map]
        exact Nat.le_trans (List.length_filter_le _ _) (by simp)
      have hln : mLen [enc (lotM n m)] μ = .ok (.int (lotM n m).length) μ := by rw [enc_list, mLen_lst, List.length_map]
      rw [List.filter_cons, List.filter_nil]
      cases hb : m.testBit s with
      | true =>
        simp only [sSeq, sNil, sPass, sIf, sRet, sRetN, sExpr, sAsg, sAug, sPar, sBrk, sCont, eVar, eC, eBin, eNeg, eNot, eAnd, eOr, eIf, eChain, eLst, eTup, eCall, tst, tAndM, tOrM, tNotM, aNil, aCons, gNm, gsNil, gsCons, gTp, gSubM, oNone, oSome, mI0, mSub, mLt, mLe, mGt, mGe, Res.bind_ok, flD, List.getElem?_cons_zero, List.getElem?_cons_succ, List.set_cons_zero, List.set_cons_succ, List.length_cons, List.length_nil, if_true, reduceIte, decide_eq_true_eq, Bool.false_eq_true, Bool.true_eq_false, ok_ok, bnd_assoc, bind_ite, ok_ite, mkF_0, mkF_1, mkF_2, mkF_3, mkF_4, mkF_5, mkF_6, mkT_1, mkT_2, mkT_3, mkH_0, mkH_1, mkH_3, frame, List.map_cons, List.map_nil, List.cons_append, List.nil_append, List.replicate, Nat.sub_self, Nat.reduceSub, Nat.reduceAdd, Nat.reduceEqDiff, Bool.not_true, Bool.false_and, List.map_nil, List.append_nil]
        exact ⟨⟨_, _, _, _, _, rfl⟩, hc⟩
      | false =>
        simp only [sSeq, sNil, sPass, sIf, sRet, sRetN, sExpr, sAsg, sAug, sPar, sBrk, sCont, eVar, eC, eBin, eNeg, eNot, eAnd, eOr, eIf, eChain, eLst, eTup, eCall, tst, tAndM, tOrM, tNotM, aNil, aCons, gNm, gsNil, gsCons, gTp, gSubM, oNone, oSome, mI0, mSub, mLt, mLe, mGt, mGe, Res.bind_ok, flD, List.getElem?_cons_zero, List.getElem?_cons_succ, List.set_cons_zero, List.set_cons_succ, List.length_cons, List.length_nil, if_true, reduceIte, decide_eq_true_eq, Bool.false_eq_true, Bool.true_eq_false, ok_ok, bnd_assoc, bind_ite, ok_ite, mkF_0, mkF_1, mkF_2, mkF_3, mkF_4, mkF_5, mkF_6, mkT_1, mkT_2, mkT_3, mkH_0, mkH_1, mkH_3, frame, List.map_cons, List.map_nil, List.cons_append, List.nil_append, List.replicate, Nat.sub_self, Nat.reduceSub, Nat.reduceAdd, Nat.reduceEqDiff, Bool.not_false, Bool.true_and, hln]
        by_cases hlt : (lotM n m).length < n - 1
        · rw [if_pos (show ((lotM n m).length : Int) < (n : Int) - 1 by omega), if_pos hlt]
          rw [eBM_of (d := .hnd 0) (ds := [.int (cutM ts m)]) (μ1 := μ) (μ2 := μ) rfl (tyOk_cell hc) (by
            simp only [sSeq, sNil, sPass, sIf, sRet, sRetN, sExpr, sAsg, sAug, sPar, sBrk, sCont, eVar, eC, eBin, eNeg, eNot, eAnd, eOr, eIf, eChain, eLst, eTup, eCall, tst, tAndM, tOrM, tNotM, aNil, aCons, gNm, gsNil, gsCons, gTp, gSubM, oNone, oSome, mI0, mSub, mLt, mLe, mGt, mGe, Res.bind_ok, flD, List.getElem?_cons_zero, List.getElem?_cons_succ, List.set_cons_zero, List.set_cons_succ, List.length_cons, List.length_nil, if_true, reduceIte, decide_eq_true_eq, Bool.false_eq_true, Bool.true_eq_false, ok_ok, bnd_assoc, bind_ite, ok_ite, mkF_0, mkF_1, mkF_2, mkF_3, mkF_4, mkF_5, mkF_6, mkT_1, mkT_2, mkT_3, mkH_0, mkH_1, mkH_3, frame, List.map_cons, List.map_nil, List.cons_append, List.nil_append, List.replicate, Nat.sub_self, Nat.reduceSub, Nat.reduceAdd, Nat.reduceEqDiff]
            rw [eLc_ok (it := ⟨ts.map enc, fun μ' => seqL μ' (enc ts) = some (ts.map enc)⟩) (μ1 := μ) (μ2 := μ) (ds := (ts.filter fun t => decide (t.1 ∈ lotM n m) != decide (t.2 ∈ lotM n m)).map fun _ => D.int 1) (by simp only [iSeq, sSeq, sNil, sPass, sIf, sRet, sRetN, sExpr, sAsg, sAug, sPar, sBrk, sCont, eVar, eC, eBin, eNeg, eNot, eAnd, eOr, eIf, eChain, eLst, eTup, eCall, tst, tAndM, tOrM, tNotM, aNil, aCons, gNm, gsNil, gsCons, gTp, gSubM, oNone, oSome, mI0, mSub, mLt, mLe, mGt, mGe, Res.bind_ok, flD, List.getElem?_cons_zero, List.getElem?_cons_succ, List.set_cons_zero, List.set_cons_succ, List.length_cons, List.length_nil, if_true, reduceIte, decide_eq_true_eq, Bool.false_eq_true, Bool.true_eq_false, ok_ok, bnd_assoc, bind_ite, ok_ite, mkF_0, mkF_1, mkF_2, mkF_3, mkF_4, mkF_5, mkF_6, mkT_1, mkT_2, mkT_3, mkH_0, mkH_1, mkH_3, frame, List.map_cons, List.map_nil, List.cons_append, List.nil_append, List.replicate, Nat.sub_self, Nat.reduceSub, Nat.reduceAdd, Nat.reduceEqDiff]; rfl) (by rw [List.length_map]; omega) ?lc, mkF_ok (by rw [List.length_map]; exact Nat.le_trans (List.length_filter_le _ _) (by omega))]
            case lc =>
              refine lcL_pure (chk := fun μ' => seqL μ' (enc ts) = some (ts.map enc)) enc _ _ rfl ts fun t _ => ⟨_, rfl, ?_, fun _ => rfl⟩
              simp only [wipeD, sSeq, sNil, sPass, sIf, sRet, sRetN, sExpr, sAsg, sAug, sPar, sBrk, sCont, eVar, eC, eBin, eNeg, eNot, eAnd, eOr, eIf, eChain, eLst, eTup, eCall, tst, tAndM, tOrM, tNotM, aNil, aCons, gNm, gsNil, gsCons, gTp, gSubM, oNone, oSome, mI0, mSub, mLt, mLe, mGt, mGe, Res.bind_ok, flD, List.getElem?_cons_zero, List.getElem?_cons_succ, List.set_cons_zero, List.set_cons_succ, List.length_cons, List.length_nil, if_true, reduceIte, decide_eq_true_eq, Bool.false_eq_true, Bool.true_eq_false, ok_ok, bnd_assoc, bind_ite, ok_ite, mkF_0, mkF_1, mkF_2, mkF_3, mkF_4, mkF_5, mkF_6, mkT_1, mkT_2, mkT_3, mkH_0, mkH_1, mkH_3, frame, List.map_cons, List.map_nil, List.cons_append, List.nil_append, List.replicate, Nat.sub_self, Nat.reduceSub, Nat.reduceAdd, Nat.reduceEqDiff, enc_int]
              rw [mIn_iv (views_enc _ (lotM n m))]
              try simp only [sSeq, sNil, sPass, sIf, sRet, sRetN, sExpr, sAsg, sAug, sPar, sBrk, sCont, eVar, eC, eBin, eNeg, eNot, eAnd, eOr, eIf, eChain, eLst, eTup, eCall, tst, tAndM, tOrM, tNotM, aNil, aCons, gNm, gsNil, gsCons, gTp, gSubM, oNone, oSome, mI0, mSub, mLt, mLe, mGt, mGe, Res.bind_ok, flD, List.getElem?_cons_zero, List.getElem?_cons_succ, List.set_cons_zero, List.set_cons_succ, List.length_cons, List.length_nil, if_true, reduceIte, decide_eq_true_eq, Bool.false_eq_true, Bool.true_eq_false, ok_ok, bnd_assoc, bind_ite, ok_ite, mkF_0, mkF_1, mkF_2, mkF_3, mkF_4, mkF_5, mkF_6, mkT_1, mkT_2, mkT_3, mkH_0, mkH_1, mkH_3, frame, List.map_cons, List.map_nil, List.cons_append, List.nil_append, List.replicate, Nat.sub_self, Nat.reduceSub, Nat.reduceAdd, Nat.reduceEqDiff]
              rw [mIn_iv (views_enc _ (lotM n m))]
              try simp only [sSeq, sNil, sPass, sIf, sRet, sRetN, sExpr, sAsg, sAug, sPar, sBrk, sCont, eVar, eC, eBin, eNeg, eNot, eAnd, eOr, eIf, eChain, eLst, eTup, eCall, tst, tAndM, tOrM, tNotM, aNil, aCons, gNm, gsNil, gsCons, gTp, gSubM, oNone, oSome, mI0, mSub, mLt, mLe, mGt, mGe, Res.bind_ok, flD, List.getElem?_cons_zero, List.getElem?_cons_succ, List.set_cons_zero, List.set_cons_succ, List.length_cons, List.length_nil, if_true, reduceIte, decide_eq_true_eq, Bool.false_eq_true, Bool.true_eq_false, ok_ok, bnd_assoc, bind_ite, ok_ite, mkF_0, mkF_1, mkF_2, mkF_3, mkF_4, mkF_5, mkF_6, mkT_1, mkT_2, mkT_3, mkH_0, mkH_1, mkH_3, frame, List.map_cons, List.map_nil, List.cons_append, List.nil_append, List.replicate, Nat.sub_self, Nat.reduceSub, Nat.reduceAdd, Nat.reduceEqDiff]
              rw [mNe_b]
              try simp only [sSeq, sNil, sPass, sIf, sRet, sRetN, sExpr, sAsg, sAug, sPar, sBrk, sCont, eVar, eC, eBin, eNeg, eNot, eAnd, eOr, eIf, eChain, eLst, eTup, eCall, tst, tAndM, tOrM, tNotM, aNil, aCons, gNm, gsNil, gsCons, gTp, gSubM, oNone, oSome, mI0, mSub, mLt, mLe, mGt, mGe, Res.bind_ok, flD, List.getElem?_cons_zero, List.getElem?_cons_succ, List.set_cons_zero, List.set_cons_succ, List.length_cons, List.length_nil, if_true, reduceIte, decide_eq_true_eq, Bool.false_eq_true, Bool.true_eq_false, ok_ok, bnd_assoc, bind_ite, ok_ite, mkF_0, mkF_1, mkF_2, mkF_3, mkF_4, mkF_5, mkF_6, mkT_1, mkT_2, mkT_3, mkH_0, mkH_1, mkH_3, frame, List.map_cons, List.map_nil, List.cons_append, List.nil_append, List.replicate, Nat.sub_self, Nat.reduceSub, Nat.reduceAdd, Nat.reduceEqDiff]
              cases decide (t.1 ∈ lotM n m) <;> cases decide (t.2 ∈ lotM n m) <;> rfl
            simp only [sSeq, sNil, sPass, sIf, sRet, sRetN, sExpr, sAsg, sAug, sPar, sBrk, sCont, eVar, eC, eBin, eNeg, eNot, eAnd, eOr, eIf, eChain, eLst, eTup, eCall, tst, tAndM, tOrM, tNotM, aNil, aCons, gNm, gsNil, gsCons, gTp, gSubM, oNone, oSome, mI0, mSub, mLt, mLe, mGt, mGe, Res.bind_ok, flD, List.getElem?_cons_zero, List.getElem?_cons_succ, List.set_cons_zero, List.set_cons_succ, List.length_cons, List.length_nil, if_true, reduceIte, decide_eq_true_eq, Bool.false_eq_true, Bool.true_eq_false, ok_ok, bnd_assoc, bind_ite, ok_ite, mkF_0, mkF_1, mkF_2, mkF_3, mkF_4, mkF_5, mkF_6, mkT_1, mkT_2, mkT_3, mkH_0, mkH_1, mkH_3, frame, List.map_cons, List.map_nil, List.cons_append, List.nil_append, List.replicate, Nat.sub_self, Nat.reduceSub, Nat.reduceAdd, Nat.reduceEqDiff, mLen_lst, List.length_map]
            rw [cut_count ht]), mAppend_of hc (by omega)]
          try simp only [sSeq, sNil, sPass, sIf, sRet, sRetN, sExpr, sAsg, sAug, sPar, sBrk, sCont, eVar, eC, eBin, eNeg, eNot, eAnd, eOr, eIf, eChain, eLst, eTup, eCall, tst, tAndM, tOrM, tNotM, aNil, aCons, gNm, gsNil, gsCons, gTp, gSubM, oNone, oSome, mI0, mSub, mLt, mLe, mGt, mGe, Res.bind_ok, flD, List.getElem?_cons_zero, List.getElem?_cons_succ, List.set_cons_zero, List.set_cons_succ, List.length_cons, List.length_nil, if_true, reduceIte, decide_eq_true_eq, Bool.false_eq_true, Bool.true_eq_false, ok_ok, bnd_assoc, bind_ite, ok_ite, mkF_0, mkF_1, mkF_2, mkF_3, mkF_4, mkF_5, mkF_6, mkT_1, mkT_2, mkT_3, mkH_0, mkH_1, mkH_3, frame, List.map_cons, List.map_nil, List.cons_append, List.nil_append, List.replicate, Nat.sub_self, Nat.reduceSub, Nat.reduceAdd, Nat.reduceEqDiff]
          exact ⟨⟨_, _, _, _, _, rfl⟩, set_new hc⟩
        · rw [if_neg (show ¬ ((lotM n m).length : Int) < (n : Int) - 1 by omega), if_neg hlt]
          simp only [List.map_nil, List.append_nil]
          exact ⟨⟨_, _, _, _, _, rfl⟩, hc⟩
    · rintro ρ μ ⟨⟨a, b, c, d, e, rfl⟩, hc⟩
      rw [rngD_len, show (((2 ^ n : Nat) : Int) - 1).toNat = 2 ^ n - 1 by omega] at hc
      exact ⟨_, _, _, _, _, rfl, hc⟩
  · rintro _ μ ⟨a, b, c, d, e, rfl, hc⟩
    try simp only [sSeq, sNil, sPass, sIf, sRet, sRetN, sExpr, sAsg, sAug, sPar, sBrk, sCont, eVar, eC, eBin, eNeg, eNot, eAnd, eOr, eIf, eChain, eLst, eTup, eCall, tst, tAndM, tOrM, tNotM, aNil, aCons, gNm, gsNil, gsCons, gTp, gSubM, oNone, oSome, mI0, mSub, mLt, mLe, mGt, mGe, Res.bind_ok, flD, List.getElem?_cons_zero, List.getElem?_cons_succ, List.set_cons_zero, List.set_cons_succ, List.length_cons, List.length_nil, if_true, reduceIte, decide_eq_true_eq, Bool.false_eq_true, Bool.true_eq_false, ok_ok, bnd_assoc, bind_ite, ok_ite, mkF_0, mkF_1, mkF_2, mkF_3, mkF_4, mkF_5, mkF_6, mkT_1, mkT_2, mkT_3, mkH_0, mkH_1, mkH_3, frame, List.map_cons, List.map_nil, List.cons_append, List.nil_append, List.replicate, Nat.sub_self, Nat.reduceSub, Nat.reduceAdd, Nat.reduceEqDiff]
    rw [mMin_of (xs := (besideM' n s).map fun m => cutM ts m) (by rw [seqL, hc]) (by rw [beside_eq hs h3]; intro z; exact beside_ne hs h3 (List.map_eq_nil_iff.mp z))]
    simp only [sSeq, sNil, sPass, sIf, sRet, sRetN, sExpr, sAsg, sAug, sPar, sBrk, sCont, eVar, eC, eBin, eNeg, eNot, eAnd, eOr, eIf, eChain, eLst, eTup, eCall, tst, tAndM, tOrM, tNotM, aNil, aCons, gNm, gsNil, gsCons, gTp, gSubM, oNone, oSome, mI0, mSub, mLt, mLe, mGt, mGe, Res.bind_ok, flD, List.getElem?_cons_zero, List.getElem?_cons_succ, List.set_cons_zero, List.set_cons_succ, List.length_cons, List.length_nil, if_true, reduceIte, decide_eq_true_eq, Bool.false_eq_true, Bool.true_eq_false, ok_ok, bnd_assoc, bind_ite, ok_ite, mkF_0, mkF_1, mkF_2, mkF_3, mkF_4, mkF_5, mkF_6, mkT_1, mkT_2, mkT_3, mkH_0, mkH_1, mkH_3, frame, List.map_cons, List.map_nil, List.cons_append, List.nil_append, List.replicate, Nat.sub_self, Nat.reduceSub, Nat.reduceAdd, Nat.reduceEqDiff, beside_eq hs h3]
    rfl
theorem p_look_n {n s : Nat} (h : s < n) : p_look_at_place [.int n, .int s] = .ok .non := p_look_ok (by omega) (by omega)
theorem p_whole_ok {n : Nat} (hn : n ≤ 1000) : p_whole [.int n] = .ok (.int (((2 ^ n : Nat) : Int) - 1)) := by
  refine runP_of ?_ rfl
  unfold runM b_whole
  simp only [sSeq, sNil, sPass, sIf, sRet, sRetN, sExpr, sAsg, sAug, sPar, sBrk, sCont, eVar, eC, eBin, eNeg, eNot, eAnd, eOr, eIf, eChain, eLst, eTup, eCall, tst, tAndM, tOrM, tNotM, aNil, aCons, gNm, gsNil, gsCons, gTp, gSubM, oNone, oSome, mI0, mSub, mLt, mLe, mGt, mGe, Res.bind_ok, flD, List.getElem?_cons_zero, List.getElem?_cons_succ, List.set_cons_zero, List.set_cons_succ, List.length_cons, List.length_nil, if_true, reduceIte, decide_eq_true_eq, Bool.false_eq_true, Bool.true_eq_false, ok_ok, bnd_assoc, bind_ite, ok_ite, mkF_0, mkF_1, mkF_2, mkF_3, mkF_4, mkF_5, mkF_6, mkT_1, mkT_2, mkT_3, mkH_0, mkH_1, mkH_3, frame, List.map_cons, List.map_nil, List.cons_append, List.nil_append, List.replicate, Nat.sub_self, Nat.reduceSub, Nat.reduceAdd, Nat.reduceEqDiff, mShl_one (show n ≤ 1000000 by omega)]
theorem p_held_beside_ok {n s : Nat} {ts : List (Int × Int)} (h3 : 3 ≤ n) (hn : n ≤ 20) (hs : s < n) (ht : IsTies n ts) (hl : ts.length ≤ 1000000) : p_held_beside [enc ((n : Int), ts), .int s] = .ok (.int (heldV n ts s)) := by
  refine runP_of ?_ rfl
  unfold runM b_held_beside
  have hp20 : (2 : Nat) ^ n ≤ 2 ^ 20 := Nat.pow_le_pow_right (by decide) hn
  have hpl := pow_lt hs
  simp only [sSeq, sNil, sPass, sIf, sRet, sRetN, sExpr, sAsg, sAug, sPar, sBrk, sCont, eVar, eC, eBin, eNeg, eNot, eAnd, eOr, eIf, eChain, eLst, eTup, eCall, tst, tAndM, tOrM, tNotM, aNil, aCons, gNm, gsNil, gsCons, gTp, gSubM, oNone, oSome, mI0, mSub, mLt, mLe, mGt, mGe, Res.bind_ok, flD, List.getElem?_cons_zero, List.getElem?_cons_succ, List.set_cons_zero, List.set_cons_succ, List.length_cons, List.length_nil, if_true, reduceIte, decide_eq_true_eq, Bool.false_eq_true, Bool.true_eq_false, ok_ok, bnd_assoc, bind_ite, ok_ite, mkF_0, mkF_1, mkF_2, mkF_3, mkF_4, mkF_5, mkF_6, mkT_1, mkT_2, mkT_3, mkH_0, mkH_1, mkH_3, frame, List.map_cons, List.map_nil, List.cons_append, List.nil_append, List.replicate, Nat.sub_self, Nat.reduceSub, Nat.reduceAdd, Nat.reduceEqDiff, enc_pair, enc_int]
  rw [if_neg (by omega), callP_ok_of rfl (p_look_n hs)]
  try simp only [sSeq, sNil, sPass, sIf, sRet, sRetN, sExpr, sAsg, sAug, sPar, sBrk, sCont, eVar, eC, eBin, eNeg, eNot, eAnd, eOr, eIf, eChain, eLst, eTup, eCall, tst, tAndM, tOrM, tNotM, aNil, aCons, gNm, gsNil, gsCons, gTp, gSubM, oNone, oSome, mI0, mSub, mLt, mLe, mGt, mGe, Res.bind_ok, flD, List.getElem?_cons_zero, List.getElem?_cons_succ, List.set_cons_zero, List.set_cons_succ, List.length_cons, List.length_nil, if_true, reduceIte, decide_eq_true_eq, Bool.false_eq_true, Bool.true_eq_false, ok_ok, bnd_assoc, bind_ite, ok_ite, mkF_0, mkF_1, mkF_2, mkF_3, mkF_4, mkF_5, mkF_6, mkT_1, mkT_2, mkT_3, mkH_0, mkH_1, mkH_3, frame, List.map_cons, List.map_nil, List.cons_append, List.nil_append, List.replicate, Nat.sub_self, Nat.reduceSub, Nat.reduceAdd, Nat.reduceEqDiff]
  rw [callP_ok_of rfl (p_whole_ok (by omega))]
  simp only [sSeq, sNil, sPass, sIf, sRet, sRetN, sExpr, sAsg, sAug, sPar, sBrk, sCont, eVar, eC, eBin, eNeg, eNot, eAnd, eOr, eIf, eChain, eLst, eTup, eCall, tst, tAndM, tOrM, tNotM, aNil, aCons, gNm, gsNil, gsCons, gTp, gSubM, oNone, oSome, mI0, mSub, mLt, mLe, mGt, mGe, Res.bind_ok, flD, List.getElem?_cons_zero, List.getElem?_cons_succ, List.set_cons_zero, List.set_cons_succ, List.length_cons, List.length_nil, if_true, reduceIte, decide_eq_true_eq, Bool.false_eq_true, Bool.true_eq_false, ok_ok, bnd_assoc, bind_ite, ok_ite, mkF_0, mkF_1, mkF_2, mkF_3, mkF_4, mkF_5, mkF_6, mkT_1, mkT_2, mkT_3, mkH_0, mkH_1, mkH_3, frame, List.map_cons, List.map_nil, List.cons_append, List.nil_append, List.replicate, Nat.sub_self, Nat.reduceSub, Nat.reduceAdd, Nat.reduceEqDiff, mShl_one (show s ≤ 1000000 by omega)]
  rw [callP_ok_of (by simp [hfrees, hfree, Enc.hf]) (p_outs_ok hn ht hl)]
  try simp only [sSeq, sNil, sPass, sIf, sRet, sRetN, sExpr, sAsg, sAug, sPar, sBrk, sCont, eVar, eC, eBin, eNeg, eNot, eAnd, eOr, eIf, eChain, eLst, eTup, eCall, tst, tAndM, tOrM, tNotM, aNil, aCons, gNm, gsNil, gsCons, gTp, gSubM, oNone, oSome, mI0, mSub, mLt, mLe, mGt, mGe, Res.bind_ok, flD, List.getElem?_cons_zero, List.getElem?_cons_succ, List.set_cons_zero, List.set_cons_succ, List.length_cons, List.length_nil, if_true, reduceIte, decide_eq_true_eq, Bool.false_eq_true, Bool.true_eq_false, ok_ok, bnd_assoc, bind_ite, ok_ite, mkF_0, mkF_1, mkF_2, mkF_3, mkF_4, mkF_5, mkF_6, mkT_1, mkT_2, mkT_3, mkH_0, mkH_1, mkH_3, frame, List.map_cons, List.map_nil, List.cons_append, List.nil_append, List.replicate, Nat.sub_self, Nat.reduceSub, Nat.reduceAdd, Nat.reduceEqDiff]
  have ho : ((2 ^ n : Nat) : Int) - 1 - ((2 ^ s : Nat) : Int) = (othersM n s : Int) := by unfold othersM; omega
  rw [ho]
  have hlt : othersM n s < 2 ^ n := by unfold othersM; exact Nat.sub_lt (Nat.two_pow_pos n) (Nat.succ_pos _)
  rw [eLc_ok (it := ⟨(List.range' 1 (othersM n s - 1)).map fun m : Nat => D.int (m : Int), fun _ => True⟩) (μ1 := []) (μ2 := []) (ds := ((besideM n s).map fun m => cutM ts m).map D.int) (by
    rw [iRange2_of (μ1 := []) (i := 1) (j := (othersM n s : Int)) (by simp only [sSeq, sNil, sPass, sIf, sRet, sRetN, sExpr, sAsg, sAug, sPar, sBrk, sCont, eVar, eC, eBin, eNeg, eNot, eAnd, eOr, eIf, eChain, eLst, eTup, eCall, tst, tAndM, tOrM, tNotM, aNil, aCons, gNm, gsNil, gsCons, gTp, gSubM, oNone, oSome, mI0, mSub, mLt, mLe, mGt, mGe, Res.bind_ok, flD, List.getElem?_cons_zero, List.getElem?_cons_succ, List.set_cons_zero, List.set_cons_succ, List.length_cons, List.length_nil, if_true, reduceIte, decide_eq_true_eq, Bool.false_eq_true, Bool.true_eq_false, ok_ok, bnd_assoc, bind_ite, ok_ite, mkF_0, mkF_1, mkF_2, mkF_3, mkF_4, mkF_5, mkF_6, mkT_1, mkT_2, mkT_3, mkH_0, mkH_1, mkH_3, frame, List.map_cons, List.map_nil, List.cons_append, List.nil_append, List.replicate, Nat.sub_self, Nat.reduceSub, Nat.reduceAdd, Nat.reduceEqDiff]) (by omega) (by omega) (by omega) (by omega), rngD_range', show ((othersM n s : Int) - 1).toNat = othersM n s - 1 by omega]) (by simp; omega) ?lc, mkF_ok (by rw [List.length_map, List.length_map]; exact Nat.le_trans (List.length_filter_le _ _) (by simp; omega))]
  case lc =>
    refine (lcL_pure (chk := fun _ => True) (fun m : Nat => D.int (m : Int)) (fun m => !m.testBit s) (fun m => D.int (cutM ts m)) trivial (List.range' 1 (othersM n s - 1)) fun m hm => ⟨_, rfl, ?_, fun _ => ?_⟩).trans ?_
    · simp only [wipeD, sSeq, sNil, sPass, sIf, sRet, sRetN, sExpr, sAsg, sAug, sPar, sBrk, sCont, eVar, eC, eBin, eNeg, eNot, eAnd, eOr, eIf, eChain, eLst, eTup, eCall, tst, tAndM, tOrM, tNotM, aNil, aCons, gNm, gsNil, gsCons, gTp, gSubM, oNone, oSome, mI0, mSub, mLt, mLe, mGt, mGe, Res.bind_ok, flD, List.getElem?_cons_zero, List.getElem?_cons_succ, List.set_cons_zero, List.set_cons_succ, List.length_cons, List.length_nil, if_true, reduceIte, decide_eq_true_eq, Bool.false_eq_true, Bool.true_eq_false, ok_ok, bnd_assoc, bind_ite, ok_ite, mkF_0, mkF_1, mkF_2, mkF_3, mkF_4, mkF_5, mkF_6, mkT_1, mkT_2, mkT_3, mkH_0, mkH_1, mkH_3, frame, List.map_cons, List.map_nil, List.cons_append, List.nil_append, List.replicate, Nat.sub_self, Nat.reduceSub, Nat.reduceAdd, Nat.reduceEqDiff]
      rw [callP_ok_of rfl (p_has_ok m s)]
      simp only [sSeq, sNil, sPass, sIf, sRet, sRetN, sExpr, sAsg, sAug, sPar, sBrk, sCont, eVar, eC, eBin, eNeg, eNot, eAnd, eOr, eIf, eChain, eLst, eTup, eCall, tst, tAndM, tOrM, tNotM, aNil, aCons, gNm, gsNil, gsCons, gTp, gSubM, oNone, oSome, mI0, mSub, mLt, mLe, mGt, mGe, Res.bind_ok, flD, List.getElem?_cons_zero, List.getElem?_cons_succ, List.set_cons_zero, List.set_cons_succ, List.length_cons, List.length_nil, if_true, reduceIte, decide_eq_true_eq, Bool.false_eq_true, Bool.true_eq_false, ok_ok, bnd_assoc, bind_ite, ok_ite, mkF_0, mkF_1, mkF_2, mkF_3, mkF_4, mkF_5, mkF_6, mkT_1, mkT_2, mkT_3, mkH_0, mkH_1, mkH_3, frame, List.map_cons, List.map_nil, List.cons_append, List.nil_append, List.replicate, Nat.sub_self, Nat.reduceSub, Nat.reduceAdd, Nat.reduceEqDiff]
    · rw [List.mem_range'_1] at hm
      simp only [wipeD, sSeq, sNil, sPass, sIf, sRet, sRetN, sExpr, sAsg, sAug, sPar, sBrk, sCont, eVar, eC, eBin, eNeg, eNot, eAnd, eOr, eIf, eChain, eLst, eTup, eCall, tst, tAndM, tOrM, tNotM, aNil, aCons, gNm, gsNil, gsCons, gTp, gSubM, oNone, oSome, mI0, mSub, mLt, mLe, mGt, mGe, Res.bind_ok, flD, List.getElem?_cons_zero, List.getElem?_cons_succ, List.set_cons_zero, List.set_cons_succ, List.length_cons, List.length_nil, if_true, reduceIte, decide_eq_true_eq, Bool.false_eq_true, Bool.true_eq_false, ok_ok, bnd_assoc, bind_ite, ok_ite, mkF_0, mkF_1, mkF_2, mkF_3, mkF_4, mkF_5, mkF_6, mkT_1, mkT_2, mkT_3, mkH_0, mkH_1, mkH_3, frame, List.map_cons, List.map_nil, List.cons_append, List.nil_append, List.replicate, Nat.sub_self, Nat.reduceSub, Nat.reduceAdd, Nat.reduceEqDiff]
      rw [enc_list, mIx_lst (j := m) rfl (by rw [List.getElem?_map, outsL, List.getElem?_map, List.getElem?_range (by omega)]; rfl)]
      rfl
    · rw [besideM, List.map_map]; rfl
  try simp only [sSeq, sNil, sPass, sIf, sRet, sRetN, sExpr, sAsg, sAug, sPar, sBrk, sCont, eVar, eC, eBin, eNeg, eNot, eAnd, eOr, eIf, eChain, eLst, eTup, eCall, tst, tAndM, tOrM, tNotM, aNil, aCons, gNm, gsNil, gsCons, gTp, gSubM, oNone, oSome, mI0, mSub, mLt, mLe, mGt, mGe, Res.bind_ok, flD, List.getElem?_cons_zero, List.getElem?_cons_succ, List.set_cons_zero, List.set_cons_succ, List.length_cons, List.length_nil, if_true, reduceIte, decide_eq_true_eq, Bool.false_eq_true, Bool.true_eq_false, ok_ok, bnd_assoc, bind_ite, ok_ite, mkF_0, mkF_1, mkF_2, mkF_3, mkF_4, mkF_5, mkF_6, mkT_1, mkT_2, mkT_3, mkH_0, mkH_1, mkH_3, frame, List.map_cons, List.map_nil, List.cons_append, List.nil_append, List.replicate, Nat.sub_self, Nat.reduceSub, Nat.reduceAdd, Nat.reduceEqDiff]
  rw [mMin_of (xs := (besideM n s).map fun m => cutM ts m) rfl (fun z => beside_ne hs h3 (List.map_eq_nil_iff.mp z))]
  try simp only [sSeq, sNil, sPass, sIf, sRet, sRetN, sExpr, sAsg, sAug, sPar, sBrk, sCont, eVar, eC, eBin, eNeg, eNot, eAnd, eOr, eIf, eChain, eLst, eTup, eCall, tst, tAndM, tOrM, tNotM, aNil, aCons, gNm, gsNil, gsCons, gTp, gSubM, oNone, oSome, mI0, mSub, mLt, mLe, mGt, mGe, Res.bind_ok, flD, List.getElem?_cons_zero, List.getElem?_cons_succ, List.set_cons_zero, List.set_cons_succ, List.length_cons, List.length_nil, if_true, reduceIte, decide_eq_true_eq, Bool.false_eq_true, Bool.true_eq_false, ok_ok, bnd_assoc, bind_ite, ok_ite, mkF_0, mkF_1, mkF_2, mkF_3, mkF_4, mkF_5, mkF_6, mkT_1, mkT_2, mkT_3, mkH_0, mkH_1, mkH_3, frame, List.map_cons, List.map_nil, List.cons_append, List.nil_append, List.replicate, Nat.sub_self, Nat.reduceSub, Nat.reduceAdd, Nat.reduceEqDiff]
  rfl
/-! ### a split leads out no more -/
theorem perm_sum {a b : List Int} (h : a.Perm b) : a.sum = b.sum := by
  induction h with
  | nil => rfl
  | cons x _ ih => rw [List.sum_cons, List.sum_cons, ih]
  | swap x y l => rw [List.sum_cons, List.sum_cons, List.sum_cons, List.sum_cons]; omega
  | trans _ _ h1 h2 => rw [h1, h2]
theorem sum_part {α : Type} (f : α → Int) (c : α → Bool) : ∀ l : List α, (l.map f).sum = ((l.filter fun x => !c x).map f).sum + ((l.filter c).map f).sum
  | [] => rfl
  | x :: l => by
    rw [List.map_cons, List.sum_cons, sum_part f c l, List.filter_cons, List.filter_cons]
    cases c x <;> simp <;> omega
theorem cut1_nn (m : Nat) (t : Int × Int) : 0 ≤ cut1 m t := by unfold cut1; split <;> omega
theorem cutM_append (a b : List (Int × Int)) (m : Nat) : cutM (a ++ b) m = cutM a m + cutM b m := by unfold cutM; rw [List.map_append, List.sum_append]
theorem gone_sum (m : Nat) (ts : List (Int × Int)) : ∀ ps : List (Int × Int), ((goneL ps).map fun i => cut1 m (tieAt ts i)).sum = (ps.map fun p => cut1 m (tieAt ts p.1) + cut1 m (tieAt ts p.2)).sum
  | [] => rfl
  | p :: r => by
    show (([p.1, p.2] ++ goneL r).map fun i => cut1 m (tieAt ts i)).sum = _
    rw [List.map_append, List.sum_append, gone_sum m ts r, List.map_cons, List.sum_cons]
    simp
theorem cut1_oth {m : Nat} {s : Int} {t : Int × Int} (hs : hasB m s = false) (h : Inc s t) : cut1 m t = if hasB m (oth s t) = true then 1 else 0 := by
  unfold cut1 oth
  rcases h with h | h
  · rw [if_pos h, h, hs]
    cases hasB m t.2 <;> rfl
  · by_cases h' : t.1 = s
    · rw [if_pos h', h', hs]
      cases hasB m t.2 <;> rfl
    · rw [if_neg h', h, hs]
      cases hasB m t.1 <;> rfl
theorem new_le {m : Nat} {s : Int} {ts : List (Int × Int)} {p : Int × Int} (hs : hasB m s = false) (h1 : Inc s (tieAt ts p.1)) (h2 : Inc s (tieAt ts p.2)) : cutM (newOf s ts p) m ≤ cut1 m (tieAt ts p.1) + cut1 m (tieAt ts p.2) := by
  rw [cut1_oth hs h1, cut1_oth hs h2]
  unfold newOf
  generalize oth s (tieAt ts p.1) = u
  generalize oth s (tieAt ts p.2) = v
  split
  · show (0 : Int) ≤ _
    split <;> split <;> omega
  · show cut1 m (min u v, max u v) + 0 ≤ _
    unfold cut1
    by_cases hle : u ≤ v
    · rw [show min u v = u by omega, show max u v = v by omega]
      cases hasB m u <;> cases hasB m v <;> decide
    · rw [show min u v = v by omega, show max u v = u by omega]
      cases hasB m u <;> cases hasB m v <;> decide
theorem newT_le {m : Nat} {s : Int} {ts : List (Int × Int)} (hs : hasB m s = false) : ∀ {ps : List (Int × Int)}, (∀ p ∈ ps, PairOk s ts p) → cutM (newT s ts ps) m ≤ (ps.map fun p => cut1 m (tieAt ts p.1) + cut1 m (tieAt ts p.2)).sum
  | [], _ => Int.le_refl _
  | p :: r, h => by
    have hp := h p List.mem_cons_self
    have ih := newT_le hs (ps := r) fun q hq => h q (List.mem_cons_of_mem _ hq)
    have := new_le (m := m) hs hp.2.2.2.1 hp.2.2.2.2
    rw [show newT s ts (p :: r) = newOf s ts p ++ newT s ts r from rfl, cutM_append, List.map_cons, List.sum_cons]
    omega
theorem idx_perm {ts : List (Int × Int)} {g : List Int} (hg : g.Nodup) (hb : ∀ i ∈ g, 0 ≤ i ∧ i < ts.length) : ((ts.zipIdx.filter fun p => decide ((p.2 : Int) ∈ g)).map fun p => (p.2 : Int)).Perm g := by
  have nd : ((ts.zipIdx).map fun p => (p.2 : Int)).Nodup := by
    have e : (ts.zipIdx).map (fun p => (p.2 : Int)) = ((ts.zipIdx).map Prod.snd).map fun i : Nat => (i : Int) := by rw [List.map_map]; rfl
    rw [e, List.zipIdx_map_snd]
    unfold List.Nodup
    rw [List.pairwise_map]
    exact (List.nodup_range' (step := 1)).imp fun h z => h (by omega)
  refine (List.perm_ext_iff_of_nodup (nd.sublist ((List.filter_sublist).map _)) hg).mpr fun x => ?_
  rw [List.mem_map]
  constructor
  · rintro ⟨p, hp, rfl⟩
    simpa using (List.mem_filter.mp hp).2
  · intro hx
    obtain ⟨h0, h1⟩ := hb x hx
    have h2 : x.toNat < ts.length := by omega
    refine ⟨(ts[x.toNat], x.toNat), List.mem_filter.mpr ⟨List.mem_zipIdx_iff_getElem?.mpr (List.getElem?_eq_getElem h2), ?_⟩, by simp only; omega⟩
    simp only [decide_eq_true_eq]
    rw [show ((x.toNat : Nat) : Int) = x by omega]
    exact hx
theorem gone_mem {s : Int} {ts ps : List (Int × Int)} (h : PairsOk s ts ps) : ∀ i ∈ goneL ps, 0 ≤ i ∧ i < ts.length := fun i hi => by
  obtain ⟨p, hp, hi⟩ := List.mem_flatMap.mp hi
  obtain ⟨h1, h2, h3, _⟩ := h.1 p hp
  simp only [List.mem_cons, List.not_mem_nil, or_false] at hi
  rcases hi with rfl | rfl
  · omega
  · omega
theorem split_le {m : Nat} {s : Int} {ts ps : List (Int × Int)} (hs : hasB m s = false) (h : PairsOk s ts ps) : cutM (splitV s ts ps) m ≤ cutM ts m := by
  have e0 : cutM ts m = (ts.zipIdx.map fun p => cut1 m p.1).sum := by
    unfold cutM
    congr 1
    rw [show (fun p : (Int × Int) × Nat => cut1 m p.1) = cut1 m ∘ Prod.fst from rfl, ← List.map_map, List.zipIdx_map_fst]
  have e1 := sum_part (fun p : (Int × Int) × Nat => cut1 m p.1) (fun p => decide ((p.2 : Int) ∈ goneL ps)) ts.zipIdx
  have e2 : cutM (stayT ts ps) m = ((ts.zipIdx.filter fun p => !decide ((p.2 : Int) ∈ goneL ps)).map fun p => cut1 m p.1).sum := by
    unfold cutM stayT
    rw [List.map_map]
    rfl
  have e3 : ((ts.zipIdx.filter fun p => decide ((p.2 : Int) ∈ goneL ps)).map fun p => cut1 m p.1).sum = ((goneL ps).map fun i => cut1 m (tieAt ts i)).sum := by
    rw [← perm_sum ((idx_perm h.2 (gone_mem h)).map fun i => cut1 m (tieAt ts i)), List.map_map]
    congr 1
    refine List.map_congr_left fun p hp => ?_
    have h3 := List.mem_zipIdx_iff_getElem?.mp (List.mem_filter.mp hp).1
    show cut1 m p.1 = cut1 m (tieAt ts (p.2 : Int))
    unfold tieAt
    rw [Int.toNat_natCast, List.getD_eq_getElem?_getD, h3]
    rfl
  have e4 := newT_le hs h.1
  rw [gone_sum] at e3
  rw [splitV, cutM_append]
  omega
theorem split_ties {n s : Int} {ts ps : List (Int × Int)} (ht : IsTies n ts) (h : PairsOk s ts ps) : IsTies n (splitV s ts ps) := fun t htt => by
  rcases List.mem_append.mp htt with h1 | h1
  · obtain ⟨p, hp, rfl⟩ := List.mem_map.mp h1
    have h3 := List.mem_zipIdx_iff_getElem?.mp (List.mem_filter.mp hp).1
    exact ht _ (List.mem_of_getElem? h3)
  · obtain ⟨p, hp, h2⟩ := List.mem_flatMap.mp h1
    obtain ⟨q1, q2, q3, q4, q5⟩ := h.1 p hp
    have mem : ∀ i : Int, 0 ≤ i → i < ts.length → tieAt ts i ∈ ts := fun i a b => by
      unfold tieAt
      rw [List.getD_eq_getElem?_getD, List.getElem?_eq_getElem (show i.toNat < ts.length by omega)]
      exact List.getElem_mem _
    have r1 := ht _ (mem p.1 q1 (by omega))
    have r2 := ht _ (mem p.2 (by omega) q3)
    have o : ∀ t : Int × Int, (0 ≤ t.1 ∧ t.1 < t.2 ∧ t.2 < n) → 0 ≤ oth s t ∧ oth s t < n := fun t z => by unfold oth; split <;> omega
    have o1 := o _ r1
    have o2 := o _ r2
    unfold newOf at h2
    split at h2
    · cases h2
    · rw [List.mem_singleton.mp h2]
      simp only
      omega
theorem heldV_le {n s : Nat} {ts ts' : List (Int × Int)} (hs : s < n) (h3 : 3 ≤ n) (h : ∀ m : Nat, m.testBit s = false → cutM ts' m ≤ cutM ts m) : heldV n ts' s ≤ heldV n ts s := by
  unfold heldV
  obtain ⟨m, hm, e⟩ := List.mem_map.mp (minL_mem (ns := (besideM n s).map fun m => cutM ts m) fun z => beside_ne hs h3 (List.map_eq_nil_iff.mp z))
  rw [← e]
  have hb : m.testBit s = false := by simpa using (List.mem_filter.mp hm).2
  exact Int.le_trans (minL_le (List.mem_map.mpr ⟨m, hm, rfl⟩)) (h m hb)
/-! ### each two of a list -/
def pairs2 : List Int → List (Int × Int)
  | a :: b :: r => (a, b) :: pairs2 r
  | _ => []
theorem pairs2_gone : ∀ xs : List Int, (goneL (pairs2 xs)).Sublist xs
  | [] => .slnil
  | [a] => List.nil_sublist _
  | a :: b :: r => by
    show ([a, b] ++ goneL (pairs2 r)).Sublist ([a, b] ++ r)
    exact (List.Sublist.refl _).append (pairs2_gone r)
theorem pairs2_mem : ∀ {xs : List Int} {p : Int × Int}, xs.Pairwise (· < ·) → p ∈ pairs2 xs → p.1 ∈ xs ∧ p.2 ∈ xs ∧ p.1 < p.2
  | a :: b :: r, p, h, hp => by
    rw [List.pairwise_cons, List.pairwise_cons] at h
    rcases List.mem_cons.mp hp with rfl | hp
    · exact ⟨by simp, by simp, h.1 b (by simp)⟩
    · obtain ⟨x, y, z⟩ := pairs2_mem h.2.2 hp
      exact ⟨by simp [x], by simp [y], z⟩
theorem goneL_sub {a b : List (Int × Int)} (h : a.Sublist b) : (goneL a).Sublist (goneL b) := by
  induction h with
  | slnil => exact .slnil
  | cons p _ ih => exact ih.trans (List.sublist_append_right [p.1, p.2] _)
  | cons_cons p _ ih => exact (List.Sublist.refl [p.1, p.2]).append ih
theorem pairs2_get : ∀ (xs : List Int) (i : Nat), (pairs2 xs)[i]? = (xs[2 * i]?).bind fun a => (xs[2 * i + 1]?).map fun b => (a, b)
  | [], i => by simp [pairs2]
  | [a], i => by
    simp only [pairs2]
    cases i <;> simp
  | a :: b :: r, 0 => rfl
  | a :: b :: r, i + 1 => by
    rw [pairs2, List.getElem?_cons_succ, pairs2_get r i, show 2 * (i + 1) = 2 * i + 1 + 1 by omega, show 2 * i + 1 + 1 + 1 = (2 * i + 1) + 1 + 1 by omega]
    simp only [List.getElem?_cons_succ]
theorem fm_get {xs : List Int} {f : Nat → Nat} : ∀ {is : List Nat}, (∀ i ∈ is, f i < xs.length) → ∀ k : Nat, ((is.map f).filterMap fun j => xs[j]?)[k]? = (is[k]?).bind fun i => xs[f i]?
  | [], _, k => by simp
  | i :: is, h, k => by
    have hi := h i List.mem_cons_self
    rw [List.map_cons, List.filterMap_cons, List.getElem?_eq_getElem hi]
    cases k with
    | zero => simp [List.getElem?_eq_getElem hi]
    | succ k =>
      rw [List.getElem?_cons_succ]
      exact fm_get (fun j hj => h j (List.mem_cons_of_mem _ hj)) k
theorem range_bind {c k : Nat} {α : Type} (g : Nat → Option α) (h : c ≤ k → g k = none) : ((List.range c)[k]?).bind g = g k := by
  by_cases q : k < c
  · rw [List.getElem?_range q]; rfl
  · rw [List.getElem?_eq_none (by rw [List.length_range]; omega), h (by omega)]; rfl
theorem pick_even (xs : List Int) (k : Nat) : (pickA xs none none 2)[k]? = xs[2 * k]? := by
  have e : idxS xs.length none none 2 = (List.range ((xs.length + 1) / 2)).map fun k : Nat => ((0 : Int) + 2 * (k : Int)).toNat := by
    unfold idxS sliceBounds sliceRange
    simp only [Option.getD_some, gt_iff_lt, show ((0 : Int) < 2) = True by simp, if_true]
    congr 2
    split <;> omega
  unfold pickA
  rw [e, fm_get (f := fun k : Nat => ((0 : Int) + 2 * (k : Int)).toNat) (fun i hi => by rw [List.mem_range] at hi; omega)]
  refine (range_bind (fun i : Nat => xs[((0 : Int) + 2 * (i : Int)).toNat]?) (fun h => List.getElem?_eq_none (by omega))).trans ?_
  congr 1
  omega
theorem pick_odd (xs : List Int) (k : Nat) : (pickA xs (some 1) none 2)[k]? = xs[2 * k + 1]? := by
  have e : idxS xs.length (some 1) none 2 = (List.range (xs.length / 2)).map fun k : Nat => ((1 : Int) + 2 * (k : Int)).toNat := by
    unfold idxS sliceBounds sliceRange
    simp only [Option.getD_some, gt_iff_lt, show ((0 : Int) < 2) = True by simp, if_true, show ¬ ((1 : Int) < 0) by decide, if_false]
    by_cases h0 : xs.length = 0
    · rw [h0]; rfl
    · rw [show max 0 (min 1 (xs.length : Int)) = 1 by omega]
      congr 2
      split <;> omega
  unfold pickA
  rw [e, fm_get (f := fun k : Nat => ((1 : Int) + 2 * (k : Int)).toNat) (fun i hi => by rw [List.mem_range] at hi; omega)]
  refine (range_bind (fun i : Nat => xs[((1 : Int) + 2 * (i : Int)).toNat]?) (fun h => List.getElem?_eq_none (by omega))).trans ?_
  congr 1
  omega
theorem zip_get {α β : Type} : ∀ (a : List α) (b : List β) (i : Nat), (a.zip b)[i]? = (a[i]?).bind fun x => (b[i]?).map fun y => (x, y)
  | [], _, i => by simp
  | x :: a, [], i => by
    cases i with
    | zero => rfl
    | succ i => simp
  | x :: a, y :: b, 0 => rfl
  | x :: a, y :: b, i + 1 => by
    rw [List.zip_cons_cons, List.getElem?_cons_succ, List.getElem?_cons_succ, List.getElem?_cons_succ]
    exact zip_get a b i
theorem zip_pick (xs : List Int) : (pickA xs none none 2).zip (pickA xs (some 1) none 2) = pairs2 xs := by
  refine List.ext_getElem? fun i => ?_
  rw [pairs2_get, zip_get, pick_even, pick_odd]
/-! ### the number of pairs -/
theorem pairsL_count : ∀ n : Nat, 2 * (pairsL n).length = n * (n - 1)
  | 0 => rfl
  | n + 1 => by
    have ih := pairsL_count n
    rw [pairsL, List.length_append, List.length_map, List.length_range, Nat.mul_add, ih]
    cases n with
    | zero => rfl
    | succ n =>
      simp only [Nat.add_sub_cancel]
      rw [Nat.mul_comm 2 (n + 1), ← Nat.mul_add, Nat.mul_comm]
theorem zipIdx_sorted {α : Type} : ∀ (xs : List α) (i : Nat), ((xs.zipIdx i).map fun p => (p.2 : Int)).Pairwise (· < ·)
  | [], _ => .nil
  | x :: xs, i => by
    rw [List.zipIdx_cons, List.map_cons, List.pairwise_cons]
    refine ⟨fun y hy => ?_, zipIdx_sorted xs (i + 1)⟩
    obtain ⟨p, hp, rfl⟩ := List.mem_map.mp hy
    have := List.le_snd_of_mem_zipIdx hp
    omega
def inL (s : Int) (ts : List (Int × Int)) : List Int := (ts.zipIdx.filter fun p => decide (Inc s p.1)).map fun p => (p.2 : Int)
theorem inL_ok {s : Int} {ts : List (Int × Int)} {x : Int} (h : x ∈ inL s ts) : 0 ≤ x ∧ x < ts.length ∧ Inc s (tieAt ts x) := by
  unfold inL at h
  obtain ⟨p, hp, rfl⟩ := List.mem_map.mp h
  obtain ⟨h1, h2⟩ := List.mem_filter.mp hp
  have h3 := List.mem_zipIdx_iff_getElem?.mp h1
  have h4 := (List.getElem?_eq_some_iff.mp h3).1
  refine ⟨by omega, by omega, ?_⟩
  unfold tieAt
  rw [Int.toNat_natCast, List.getD_eq_getElem?_getD, h3]
  simpa using h2
theorem inL_sorted (s : Int) (ts : List (Int × Int)) : (inL s ts).Pairwise (· < ·) := (zipIdx_sorted ts 0).sublist ((List.filter_sublist).map _)
theorem inL_len (s : Int) (ts : List (Int × Int)) : (inL s ts).length ≤ ts.length := by
  unfold inL
  rw [List.length_map]
  exact Nat.le_trans (List.length_filter_le _ _) (by simp)
theorem pairs2_ok {s : Int} {ts ps : List (Int × Int)} (h : ps.Sublist (pairs2 (inL s ts))) : PairsOk s ts ps := by
  refine ⟨fun p hp => ?_, ?_⟩
  · obtain ⟨h1, h2, h3⟩ := pairs2_mem (inL_sorted s ts) (h.subset hp)
    have a := inL_ok h1
    have b := inL_ok h2
    exact ⟨a.1, h3, b.2.1, a.2.2, b.2.2⟩
  · have nd : (inL s ts).Nodup := (inL_sorted s ts).imp fun h z => by omega
    exact nd.sublist ((goneL_sub h).trans (pairs2_gone _))
theorem mPop_of {k : Nat} {ds : List D} {d : D} {μ : Mem} (h : μ[k]? = some (some (.lst (ds ++ [d])))) : mPop (.hnd k) [] μ = .ok d (μ.set k (some (.lst ds))) := by
  refine onLst_of h ?_
  unfold fPop
  simp only [List.length_append, List.length_cons, List.length_nil, Nat.zero_add, Nat.add_sub_cancel]
  rw [List.getElem?_append_right (Nat.le_refl _), Nat.sub_self, List.dropLast_concat]
  rfl
theorem law_true (ns : List Int) (h63 : ns.length ≤ 63) : p_law [.scr ns] = .ok (.bl true) := by
  refine runP_of ?_ rfl
  unfold runM b_law
  rw [sSeq, bnd_assoc]
  refine Ok.step (Q' := fun f μ => ∃ ρ, f = .nx ρ) (ok_sFor ?_) ?_
  · rw [iRange1_of (μ1 := []) (j := 5) (by try simp only [sSeq, sNil, sPass, sIf, sRet, sRetN, sExpr, sAsg, sAug, sPar, sBrk, sCont, eVar, eC, eBin, eNeg, eNot, eAnd, eOr, eIf, eChain, eLst, eTup, eCall, tst, tAndM, tOrM, tNotM, aNil, aCons, gNm, gsNil, gsCons, gTp, gSubM, oNone, oSome, mI0, mSub, mLt, mLe, mGt, mGe, Res.bind_ok, flD, List.getElem?_cons_zero, List.getElem?_cons_succ, List.set_cons_zero, List.set_cons_succ, List.length_cons, List.length_nil, if_true, reduceIte, decide_eq_true_eq, Bool.false_eq_true, Bool.true_eq_false, ok_ok, bnd_assoc, bind_ite, ok_ite, mkF_0, mkF_1, mkF_2, mkF_3, mkF_4, mkF_5, mkF_6, mkT_1, mkT_2, mkT_3, mkH_0, mkH_1, mkH_3, frame, List.map_cons, List.map_nil, List.cons_append, List.nil_append, List.replicate, Nat.sub_self, Nat.reduceSub, Nat.reduceAdd, Nat.reduceEqDiff]) (by decide) (by decide), ok_ok]
    refine ok_forL (fun i ρ μ => ρ.length = 16 ∧ ρ[0]? = some (some (.scr ns))) ⟨rfl, rfl⟩ (fun _ _ _ _ _ => trivial) ?_ (fun ρ μ _ => ⟨ρ, rfl⟩)
    rintro i x ρ μ hx ⟨hρ, h0⟩
    obtain ⟨hi, rfl⟩ := rngD_get hx
    match ρ, hρ, h0 with
    | [r0, r1, r2, r3, r4, r5, r6, r7, r8, r9, r10, r11, r12, r13, r14, r15], _, h0 =>
    have e0 : r0 = some (.scr ns) := by simpa using h0
    subst e0
    simp only [gNm, List.length_cons, List.length_nil, ok_ok, List.set_cons_succ, List.set_cons_zero]
    refine ok_seq fun b' hb => ?_; try simp only [sSeq, sNil, sPass, sIf, sRet, sRetN, sExpr, sAsg, sAug, sPar, sBrk, sCont, eVar, eC, eBin, eNeg, eNot, eAnd, eOr, eIf, eChain, eLst, eTup, eCall, tst, tAndM, tOrM, tNotM, aNil, aCons, gNm, gsNil, gsCons, gTp, gSubM, oNone, oSome, mI0, mSub, mLt, mLe, mGt, mGe, Res.bind_ok, flD, List.getElem?_cons_zero, List.getElem?_cons_succ, List.set_cons_zero, List.set_cons_succ, List.length_cons, List.length_nil, if_true, reduceIte, decide_eq_true_eq, Bool.false_eq_true, Bool.true_eq_false, ok_ok, bnd_assoc, bind_ite, ok_ite, mkF_0, mkF_1, mkF_2, mkF_3, mkF_4, mkF_5, mkF_6, mkT_1, mkT_2, mkT_3, mkH_0, mkH_1, mkH_3, frame, List.map_cons, List.map_nil, List.cons_append, List.nil_append, List.replicate, Nat.sub_self, Nat.reduceSub, Nat.reduceAdd, Nat.reduceEqDiff]
    refine (m_pile_ok (ns := ns) (j := 0 + (i : Int)) (μ := μ) (by omega)).step ?_
    rintro _ _ ⟨x1, y1, z1, rfl, rfl⟩
    have p1 : PileAt (μ ++ [some (PileC x1 y1 z1)]) μ.length := ⟨_, _, _, app_new⟩
    generalize μ ++ [some (PileC x1 y1 z1)] = μ1 at p1
    generalize μ.length = k at p1
    try simp only [sSeq, sNil, sPass, sIf, sRet, sRetN, sExpr, sAsg, sAug, sPar, sBrk, sCont, eVar, eC, eBin, eNeg, eNot, eAnd, eOr, eIf, eChain, eLst, eTup, eCall, tst, tAndM, tOrM, tNotM, aNil, aCons, gNm, gsNil, gsCons, gTp, gSubM, oNone, oSome, mI0, mSub, mLt, mLe, mGt, mGe, Res.bind_ok, flD, List.getElem?_cons_zero, List.getElem?_cons_succ, List.set_cons_zero, List.set_cons_succ, List.length_cons, List.length_nil, if_true, reduceIte, decide_eq_true_eq, Bool.false_eq_true, Bool.true_eq_false, ok_ok, bnd_assoc, bind_ite, ok_ite, mkF_0, mkF_1, mkF_2, mkF_3, mkF_4, mkF_5, mkF_6, mkT_1, mkT_2, mkT_3, mkH_0, mkH_1, mkH_3, frame, List.map_cons, List.map_nil, List.cons_append, List.nil_append, List.replicate, Nat.sub_self, Nat.reduceSub, Nat.reduceAdd, Nat.reduceEqDiff]
    subst hb
    refine ok_seq fun b' hb => ?_; try simp only [sSeq, sNil, sPass, sIf, sRet, sRetN, sExpr, sAsg, sAug, sPar, sBrk, sCont, eVar, eC, eBin, eNeg, eNot, eAnd, eOr, eIf, eChain, eLst, eTup, eCall, tst, tAndM, tOrM, tNotM, aNil, aCons, gNm, gsNil, gsCons, gTp, gSubM, oNone, oSome, mI0, mSub, mLt, mLe, mGt, mGe, Res.bind_ok, flD, List.getElem?_cons_zero, List.getElem?_cons_succ, List.set_cons_zero, List.set_cons_succ, List.length_cons, List.length_nil, if_true, reduceIte, decide_eq_true_eq, Bool.false_eq_true, Bool.true_eq_false, ok_ok, bnd_assoc, bind_ite, ok_ite, mkF_0, mkF_1, mkF_2, mkF_3, mkF_4, mkF_5, mkF_6, mkT_1, mkT_2, mkT_3, mkH_0, mkH_1, mkH_3, frame, List.map_cons, List.map_nil, List.cons_append, List.nil_append, List.replicate, Nat.sub_self, Nat.reduceSub, Nat.reduceAdd, Nat.reduceEqDiff]
    refine (m_held_ok p1 (by decide) (by decide) (by decide) (by decide) (by decide) (by decide) (by decide)).step ?_
    rintro _ μ2 ⟨n, ts, rfl, p2, _, hn1, hn2, ht, hl⟩
    try simp only [sSeq, sNil, sPass, sIf, sRet, sRetN, sExpr, sAsg, sAug, sPar, sBrk, sCont, eVar, eC, eBin, eNeg, eNot, eAnd, eOr, eIf, eChain, eLst, eTup, eCall, tst, tAndM, tOrM, tNotM, aNil, aCons, gNm, gsNil, gsCons, gTp, gSubM, oNone, oSome, mI0, mSub, mLt, mLe, mGt, mGe, Res.bind_ok, flD, List.getElem?_cons_zero, List.getElem?_cons_succ, List.set_cons_zero, List.set_cons_succ, List.length_cons, List.length_nil, if_true, reduceIte, decide_eq_true_eq, Bool.false_eq_true, Bool.true_eq_false, ok_ok, bnd_assoc, bind_ite, ok_ite, mkF_0, mkF_1, mkF_2, mkF_3, mkF_4, mkF_5, mkF_6, mkT_1, mkT_2, mkT_3, mkH_0, mkH_1, mkH_3, frame, List.map_cons, List.map_nil, List.cons_append, List.nil_append, List.replicate, Nat.sub_self, Nat.reduceSub, Nat.reduceAdd, Nat.reduceEqDiff]
    subst hb
    -- sometimes another web
    refine ok_seq fun b' hb => ?_
    refine Ok.imp (Q := fun f μ' => ∃ (n : Nat) (ts : List (Int × Int)) (y : Option D), f = .nx [some (.scr ns), some (.int (0 + (i : Int))), some (.hnd k), some (enc ((n : Int), ts)), r4, r5, r6, r7, r8, r9, r10, r11, y, r13, r14, r15] ∧ 3 ≤ n ∧ n ≤ 7 ∧ IsTies n ts ∧ ts.length ≤ 40 ∧ PileAt μ' k) ?_ ?_
    · try simp only [sSeq, sNil, sPass, sIf, sRet, sRetN, sExpr, sAsg, sAug, sPar, sBrk, sCont, eVar, eC, eBin, eNeg, eNot, eAnd, eOr, eIf, eChain, eLst, eTup, eCall, tst, tAndM, tOrM, tNotM, aNil, aCons, gNm, gsNil, gsCons, gTp, gSubM, oNone, oSome, mI0, mSub, mLt, mLe, mGt, mGe, Res.bind_ok, flD, List.getElem?_cons_zero, List.getElem?_cons_succ, List.set_cons_zero, List.set_cons_succ, List.length_cons, List.length_nil, if_true, reduceIte, decide_eq_true_eq, Bool.false_eq_true, Bool.true_eq_false, ok_ok, bnd_assoc, bind_ite, ok_ite, mkF_0, mkF_1, mkF_2, mkF_3, mkF_4, mkF_5, mkF_6, mkT_1, mkT_2, mkT_3, mkH_0, mkH_1, mkH_3, frame, List.map_cons, List.map_nil, List.cons_append, List.nil_append, List.replicate, Nat.sub_self, Nat.reduceSub, Nat.reduceAdd, Nat.reduceEqDiff]
      refine (m_take_ok p2 (by decide) (by decide)).step ?_
      rintro _ μ3 ⟨v, rfl, hv0, hv1, u3⟩
      have p3 := u3.pile p2
      simp only [sSeq, sNil, sPass, sIf, sRet, sRetN, sExpr, sAsg, sAug, sPar, sBrk, sCont, eVar, eC, eBin, eNeg, eNot, eAnd, eOr, eIf, eChain, eLst, eTup, eCall, tst, tAndM, tOrM, tNotM, aNil, aCons, gNm, gsNil, gsCons, gTp, gSubM, oNone, oSome, mI0, mSub, mLt, mLe, mGt, mGe, Res.bind_ok, flD, List.getElem?_cons_zero, List.getElem?_cons_succ, List.set_cons_zero, List.set_cons_succ, List.length_cons, List.length_nil, if_true, reduceIte, decide_eq_true_eq, Bool.false_eq_true, Bool.true_eq_false, ok_ok, bnd_assoc, bind_ite, ok_ite, mkF_0, mkF_1, mkF_2, mkF_3, mkF_4, mkF_5, mkF_6, mkT_1, mkT_2, mkT_3, mkH_0, mkH_1, mkH_3, frame, List.map_cons, List.map_nil, List.cons_append, List.nil_append, List.replicate, Nat.sub_self, Nat.reduceSub, Nat.reduceAdd, Nat.reduceEqDiff, mEq_i]
      by_cases hv : v = 1
      · simp only [hv, decide_true, sSeq, sNil, sPass, sIf, sRet, sRetN, sExpr, sAsg, sAug, sPar, sBrk, sCont, eVar, eC, eBin, eNeg, eNot, eAnd, eOr, eIf, eChain, eLst, eTup, eCall, tst, tAndM, tOrM, tNotM, aNil, aCons, gNm, gsNil, gsCons, gTp, gSubM, oNone, oSome, mI0, mSub, mLt, mLe, mGt, mGe, Res.bind_ok, flD, List.getElem?_cons_zero, List.getElem?_cons_succ, List.set_cons_zero, List.set_cons_succ, List.length_cons, List.length_nil, if_true, reduceIte, decide_eq_true_eq, Bool.false_eq_true, Bool.true_eq_false, ok_ok, bnd_assoc, bind_ite, ok_ite, mkF_0, mkF_1, mkF_2, mkF_3, mkF_4, mkF_5, mkF_6, mkT_1, mkT_2, mkT_3, mkH_0, mkH_1, mkH_3, frame, List.map_cons, List.map_nil, List.cons_append, List.nil_append, List.replicate, Nat.sub_self, Nat.reduceSub, Nat.reduceAdd, Nat.reduceEqDiff]
        have hpn := p_pairs_ok 3 (by decide)
        refine Ok.step (Q' := fun d μ' => ∃ qs : List (Int × Int), d = enc qs ∧ PileAt μ' k ∧ IsTies 3 qs ∧ qs.length = 40) (ok_eLc (ok_iRange1 ?_)) ?_
        · simp only [sSeq, sNil, sPass, sIf, sRet, sRetN, sExpr, sAsg, sAug, sPar, sBrk, sCont, eVar, eC, eBin, eNeg, eNot, eAnd, eOr, eIf, eChain, eLst, eTup, eCall, tst, tAndM, tOrM, tNotM, aNil, aCons, gNm, gsNil, gsCons, gTp, gSubM, oNone, oSome, mI0, mSub, mLt, mLe, mGt, mGe, Res.bind_ok, flD, List.getElem?_cons_zero, List.getElem?_cons_succ, List.set_cons_zero, List.set_cons_succ, List.length_cons, List.length_nil, if_true, reduceIte, decide_eq_true_eq, Bool.false_eq_true, Bool.true_eq_false, ok_ok, bnd_assoc, bind_ite, ok_ite, mkF_0, mkF_1, mkF_2, mkF_3, mkF_4, mkF_5, mkF_6, mkT_1, mkT_2, mkT_3, mkH_0, mkH_1, mkH_3, frame, List.map_cons, List.map_nil, List.cons_append, List.nil_append, List.replicate, Nat.sub_self, Nat.reduceSub, Nat.reduceAdd, Nat.reduceEqDiff]
          refine ⟨40, rfl, by decide, by decide, by decide, ?_⟩
          refine ok_lcL (fun i ds μ' => PileAt μ' k ∧ ∃ qs : List (Int × Int), ds = qs.map enc ∧ qs.length = i ∧ IsTies 3 qs) ⟨p3, [], rfl, rfl, fun t ht => by cases ht⟩ (fun _ _ _ _ _ => trivial) ?_ ?_
          · rintro i' x' ds μ5 hx ⟨p5, qs, rfl, hts, hq⟩
            obtain ⟨hi, rfl⟩ := rngD_get hx
            simp only [wipeD, tYesM, sSeq, sNil, sPass, sIf, sRet, sRetN, sExpr, sAsg, sAug, sPar, sBrk, sCont, eVar, eC, eBin, eNeg, eNot, eAnd, eOr, eIf, eChain, eLst, eTup, eCall, tst, tAndM, tOrM, tNotM, aNil, aCons, gNm, gsNil, gsCons, gTp, gSubM, oNone, oSome, mI0, mSub, mLt, mLe, mGt, mGe, Res.bind_ok, flD, List.getElem?_cons_zero, List.getElem?_cons_succ, List.set_cons_zero, List.set_cons_succ, List.length_cons, List.length_nil, if_true, reduceIte, decide_eq_true_eq, Bool.false_eq_true, Bool.true_eq_false, ok_ok, bnd_assoc, bind_ite, ok_ite, mkF_0, mkF_1, mkF_2, mkF_3, mkF_4, mkF_5, mkF_6, mkT_1, mkT_2, mkT_3, mkH_0, mkH_1, mkH_3, frame, List.map_cons, List.map_nil, List.cons_append, List.nil_append, List.replicate, Nat.sub_self, Nat.reduceSub, Nat.reduceAdd, Nat.reduceEqDiff]
            rw [callP_ok_of rfl (show p__law_pairs [.int 3] = _ from hpn)]
            try simp only [sSeq, sNil, sPass, sIf, sRet, sRetN, sExpr, sAsg, sAug, sPar, sBrk, sCont, eVar, eC, eBin, eNeg, eNot, eAnd, eOr, eIf, eChain, eLst, eTup, eCall, tst, tAndM, tOrM, tNotM, aNil, aCons, gNm, gsNil, gsCons, gTp, gSubM, oNone, oSome, mI0, mSub, mLt, mLe, mGt, mGe, Res.bind_ok, flD, List.getElem?_cons_zero, List.getElem?_cons_succ, List.set_cons_zero, List.set_cons_succ, List.length_cons, List.length_nil, if_true, reduceIte, decide_eq_true_eq, Bool.false_eq_true, Bool.true_eq_false, ok_ok, bnd_assoc, bind_ite, ok_ite, mkF_0, mkF_1, mkF_2, mkF_3, mkF_4, mkF_5, mkF_6, mkT_1, mkT_2, mkT_3, mkH_0, mkH_1, mkH_3, frame, List.map_cons, List.map_nil, List.cons_append, List.nil_append, List.replicate, Nat.sub_self, Nat.reduceSub, Nat.reduceAdd, Nat.reduceEqDiff]
            refine (m_take_ok p5 (by decide) (by decide)).step ?_
            rintro _ μ6 ⟨j, rfl, hj0, hj1, u6⟩
            try simp only [sSeq, sNil, sPass, sIf, sRet, sRetN, sExpr, sAsg, sAug, sPar, sBrk, sCont, eVar, eC, eBin, eNeg, eNot, eAnd, eOr, eIf, eChain, eLst, eTup, eCall, tst, tAndM, tOrM, tNotM, aNil, aCons, gNm, gsNil, gsCons, gTp, gSubM, oNone, oSome, mI0, mSub, mLt, mLe, mGt, mGe, Res.bind_ok, flD, List.getElem?_cons_zero, List.getElem?_cons_succ, List.set_cons_zero, List.set_cons_succ, List.length_cons, List.length_nil, if_true, reduceIte, decide_eq_true_eq, Bool.false_eq_true, Bool.true_eq_false, ok_ok, bnd_assoc, bind_ite, ok_ite, mkF_0, mkF_1, mkF_2, mkF_3, mkF_4, mkF_5, mkF_6, mkT_1, mkT_2, mkT_3, mkH_0, mkH_1, mkH_3, frame, List.map_cons, List.map_nil, List.cons_append, List.nil_append, List.replicate, Nat.sub_self, Nat.reduceSub, Nat.reduceAdd, Nat.reduceEqDiff]
            have hj : j.toNat < (pairsL 3).length := by have : (pairsL 3).length = 3 := by decide +kernel
                                                        omega
            rw [mIx_lst (i := j) (j := j.toNat) (d := enc (pairsL 3)[j.toNat]) (by omega) (by rw [List.getElem?_map, List.getElem?_eq_getElem hj]; rfl)]
            refine ⟨u6.pile p5, qs ++ [(pairsL 3)[j.toNat]], by rw [List.map_append]; rfl, by rw [List.length_append, hts]; rfl, fun t ht => ?_⟩
            rcases List.mem_append.mp ht with ht | ht
            · exact hq t ht
            · rw [List.mem_singleton.mp ht]; exact pairsL_mem (List.getElem_mem hj)
          · rintro ds μ5 ⟨p5, qs, rfl, hts, hq⟩
            rw [rngD_len] at hts
            rw [mkF_ok (by rw [List.length_map]; omega)]
            exact ⟨qs, rfl, p5, hq, hts⟩
        · rintro _ μ4 ⟨qs, rfl, p4, hq, hql⟩
          simp only [sSeq, sNil, sPass, sIf, sRet, sRetN, sExpr, sAsg, sAug, sPar, sBrk, sCont, eVar, eC, eBin, eNeg, eNot, eAnd, eOr, eIf, eChain, eLst, eTup, eCall, tst, tAndM, tOrM, tNotM, aNil, aCons, gNm, gsNil, gsCons, gTp, gSubM, oNone, oSome, mI0, mSub, mLt, mLe, mGt, mGe, Res.bind_ok, flD, List.getElem?_cons_zero, List.getElem?_cons_succ, List.set_cons_zero, List.set_cons_succ, List.length_cons, List.length_nil, if_true, reduceIte, decide_eq_true_eq, Bool.false_eq_true, Bool.true_eq_false, ok_ok, bnd_assoc, bind_ite, ok_ite, mkF_0, mkF_1, mkF_2, mkF_3, mkF_4, mkF_5, mkF_6, mkT_1, mkT_2, mkT_3, mkH_0, mkH_1, mkH_3, frame, List.map_cons, List.map_nil, List.cons_append, List.nil_append, List.replicate, Nat.sub_self, Nat.reduceSub, Nat.reduceAdd, Nat.reduceEqDiff]
          exact ⟨3, qs, r12, rfl, by decide, by decide, hq, by omega, p4⟩
      · simp only [hv, decide_false, sSeq, sNil, sPass, sIf, sRet, sRetN, sExpr, sAsg, sAug, sPar, sBrk, sCont, eVar, eC, eBin, eNeg, eNot, eAnd, eOr, eIf, eChain, eLst, eTup, eCall, tst, tAndM, tOrM, tNotM, aNil, aCons, gNm, gsNil, gsCons, gTp, gSubM, oNone, oSome, mI0, mSub, mLt, mLe, mGt, mGe, Res.bind_ok, flD, List.getElem?_cons_zero, List.getElem?_cons_succ, List.set_cons_zero, List.set_cons_succ, List.length_cons, List.length_nil, if_true, reduceIte, decide_eq_true_eq, Bool.false_eq_true, Bool.true_eq_false, ok_ok, bnd_assoc, bind_ite, ok_ite, mkF_0, mkF_1, mkF_2, mkF_3, mkF_4, mkF_5, mkF_6, mkT_1, mkT_2, mkT_3, mkH_0, mkH_1, mkH_3, frame, List.map_cons, List.map_nil, List.cons_append, List.nil_append, List.replicate, Nat.sub_self, Nat.reduceSub, Nat.reduceAdd, Nat.reduceEqDiff]
        exact ⟨n, ts, r12, rfl, by omega, by omega, ht, hl, p3⟩
    clear hn1 hn2 ht hl p2 p1
    rintro _ μ3 ⟨n, ts, y, rfl, hn1, hn2, ht, hl, p3⟩
    simp only
    subst hb
    rw [show enc ((n : Int), ts) = D.tup [.int n, enc ts] from rfl]
    refine ok_seq fun b' hb => ?_; try simp only [sSeq, sNil, sPass, sIf, sRet, sRetN, sExpr, sAsg, sAug, sPar, sBrk, sCont, eVar, eC, eBin, eNeg, eNot, eAnd, eOr, eIf, eChain, eLst, eTup, eCall, tst, tAndM, tOrM, tNotM, aNil, aCons, gNm, gsNil, gsCons, gTp, gSubM, oNone, oSome, mI0, mSub, mLt, mLe, mGt, mGe, Res.bind_ok, flD, List.getElem?_cons_zero, List.getElem?_cons_succ, List.set_cons_zero, List.set_cons_succ, List.length_cons, List.length_nil, if_true, reduceIte, decide_eq_true_eq, Bool.false_eq_true, Bool.true_eq_false, ok_ok, bnd_assoc, bind_ite, ok_ite, mkF_0, mkF_1, mkF_2, mkF_3, mkF_4, mkF_5, mkF_6, mkT_1, mkT_2, mkT_3, mkH_0, mkH_1, mkH_3, frame, List.map_cons, List.map_nil, List.cons_append, List.nil_append, List.replicate, Nat.sub_self, Nat.reduceSub, Nat.reduceAdd, Nat.reduceEqDiff]
    subst hb
    refine ok_seq fun b' hb => ?_; try simp only [sSeq, sNil, sPass, sIf, sRet, sRetN, sExpr, sAsg, sAug, sPar, sBrk, sCont, eVar, eC, eBin, eNeg, eNot, eAnd, eOr, eIf, eChain, eLst, eTup, eCall, tst, tAndM, tOrM, tNotM, aNil, aCons, gNm, gsNil, gsCons, gTp, gSubM, oNone, oSome, mI0, mSub, mLt, mLe, mGt, mGe, Res.bind_ok, flD, List.getElem?_cons_zero, List.getElem?_cons_succ, List.set_cons_zero, List.set_cons_succ, List.length_cons, List.length_nil, if_true, reduceIte, decide_eq_true_eq, Bool.false_eq_true, Bool.true_eq_false, ok_ok, bnd_assoc, bind_ite, ok_ite, mkF_0, mkF_1, mkF_2, mkF_3, mkF_4, mkF_5, mkF_6, mkT_1, mkT_2, mkT_3, mkH_0, mkH_1, mkH_3, frame, List.map_cons, List.map_nil, List.cons_append, List.nil_append, List.replicate, Nat.sub_self, Nat.reduceSub, Nat.reduceAdd, Nat.reduceEqDiff]
    rw [mList_seq (es := ts.map enc) rfl, mkH_ok (by rw [List.length_map]; omega)]
    try simp only [sSeq, sNil, sPass, sIf, sRet, sRetN, sExpr, sAsg, sAug, sPar, sBrk, sCont, eVar, eC, eBin, eNeg, eNot, eAnd, eOr, eIf, eChain, eLst, eTup, eCall, tst, tAndM, tOrM, tNotM, aNil, aCons, gNm, gsNil, gsCons, gTp, gSubM, oNone, oSome, mI0, mSub, mLt, mLe, mGt, mGe, Res.bind_ok, flD, List.getElem?_cons_zero, List.getElem?_cons_succ, List.set_cons_zero, List.set_cons_succ, List.length_cons, List.length_nil, if_true, reduceIte, decide_eq_true_eq, Bool.false_eq_true, Bool.true_eq_false, ok_ok, bnd_assoc, bind_ite, ok_ite, mkF_0, mkF_1, mkF_2, mkF_3, mkF_4, mkF_5, mkF_6, mkT_1, mkT_2, mkT_3, mkH_0, mkH_1, mkH_3, frame, List.map_cons, List.map_nil, List.cons_append, List.nil_append, List.replicate, Nat.sub_self, Nat.reduceSub, Nat.reduceAdd, Nat.reduceEqDiff]
    have ka : k ≠ μ3.length := by have := pile_lt p3; omega
    have p4 := pile_app (c := some (Cell.lst (ts.map enc))) p3
    have c4 : (μ3 ++ [some (Cell.lst (ts.map enc))])[μ3.length]? = some (some (.lst (ts.map enc))) := app_new
    generalize μ3 ++ [some (Cell.lst (ts.map enc))] = μ4 at *
    generalize μ3.length = a at *
    subst hb
    refine ok_seq fun b' hb => ?_; try simp only [sSeq, sNil, sPass, sIf, sRet, sRetN, sExpr, sAsg, sAug, sPar, sBrk, sCont, eVar, eC, eBin, eNeg, eNot, eAnd, eOr, eIf, eChain, eLst, eTup, eCall, tst, tAndM, tOrM, tNotM, aNil, aCons, gNm, gsNil, gsCons, gTp, gSubM, oNone, oSome, mI0, mSub, mLt, mLe, mGt, mGe, Res.bind_ok, flD, List.getElem?_cons_zero, List.getElem?_cons_succ, List.set_cons_zero, List.set_cons_succ, List.length_cons, List.length_nil, if_true, reduceIte, decide_eq_true_eq, Bool.false_eq_true, Bool.true_eq_false, ok_ok, bnd_assoc, bind_ite, ok_ite, mkF_0, mkF_1, mkF_2, mkF_3, mkF_4, mkF_5, mkF_6, mkT_1, mkT_2, mkT_3, mkH_0, mkH_1, mkH_3, frame, List.map_cons, List.map_nil, List.cons_append, List.nil_append, List.replicate, Nat.sub_self, Nat.reduceSub, Nat.reduceAdd, Nat.reduceEqDiff]
    refine (m_take_ok p4 (by omega) (by omega)).step ?_
    rintro _ μ5 ⟨s, rfl, hs0, hs1, u5⟩
    have p5 := u5.pile p4
    have c5 := (u5.get ka.symm).trans c4
    obtain ⟨s, rfl⟩ : ∃ m : Nat, s = (m : Int) := ⟨s.toNat, by omega⟩
    have hs : s < n := by omega
    try simp only [sSeq, sNil, sPass, sIf, sRet, sRetN, sExpr, sAsg, sAug, sPar, sBrk, sCont, eVar, eC, eBin, eNeg, eNot, eAnd, eOr, eIf, eChain, eLst, eTup, eCall, tst, tAndM, tOrM, tNotM, aNil, aCons, gNm, gsNil, gsCons, gTp, gSubM, oNone, oSome, mI0, mSub, mLt, mLe, mGt, mGe, Res.bind_ok, flD, List.getElem?_cons_zero, List.getElem?_cons_succ, List.set_cons_zero, List.set_cons_succ, List.length_cons, List.length_nil, if_true, reduceIte, decide_eq_true_eq, Bool.false_eq_true, Bool.true_eq_false, ok_ok, bnd_assoc, bind_ite, ok_ite, mkF_0, mkF_1, mkF_2, mkF_3, mkF_4, mkF_5, mkF_6, mkT_1, mkT_2, mkT_3, mkH_0, mkH_1, mkH_3, frame, List.map_cons, List.map_nil, List.cons_append, List.nil_append, List.replicate, Nat.sub_self, Nat.reduceSub, Nat.reduceAdd, Nat.reduceEqDiff]
    subst hb
    refine ok_seq fun b' hb => ?_; try simp only [sSeq, sNil, sPass, sIf, sRet, sRetN, sExpr, sAsg, sAug, sPar, sBrk, sCont, eVar, eC, eBin, eNeg, eNot, eAnd, eOr, eIf, eChain, eLst, eTup, eCall, tst, tAndM, tOrM, tNotM, aNil, aCons, gNm, gsNil, gsCons, gTp, gSubM, oNone, oSome, mI0, mSub, mLt, mLe, mGt, mGe, Res.bind_ok, flD, List.getElem?_cons_zero, List.getElem?_cons_succ, List.set_cons_zero, List.set_cons_succ, List.length_cons, List.length_nil, if_true, reduceIte, decide_eq_true_eq, Bool.false_eq_true, Bool.true_eq_false, ok_ok, bnd_assoc, bind_ite, ok_ite, mkF_0, mkF_1, mkF_2, mkF_3, mkF_4, mkF_5, mkF_6, mkT_1, mkT_2, mkT_3, mkH_0, mkH_1, mkH_3, frame, List.map_cons, List.map_nil, List.cons_append, List.nil_append, List.replicate, Nat.sub_self, Nat.reduceSub, Nat.reduceAdd, Nat.reduceEqDiff]
    have hl6 : ts.length ≤ 1000000 := by omega
    rw [callP_ok_of (by simp [hfrees, hfree, Enc.hf]) (p_beside_ok hn1 (by omega) hs ht hl6)]
    try simp only [sSeq, sNil, sPass, sIf, sRet, sRetN, sExpr, sAsg, sAug, sPar, sBrk, sCont, eVar, eC, eBin, eNeg, eNot, eAnd, eOr, eIf, eChain, eLst, eTup, eCall, tst, tAndM, tOrM, tNotM, aNil, aCons, gNm, gsNil, gsCons, gTp, gSubM, oNone, oSome, mI0, mSub, mLt, mLe, mGt, mGe, Res.bind_ok, flD, List.getElem?_cons_zero, List.getElem?_cons_succ, List.set_cons_zero, List.set_cons_succ, List.length_cons, List.length_nil, if_true, reduceIte, decide_eq_true_eq, Bool.false_eq_true, Bool.true_eq_false, ok_ok, bnd_assoc, bind_ite, ok_ite, mkF_0, mkF_1, mkF_2, mkF_3, mkF_4, mkF_5, mkF_6, mkT_1, mkT_2, mkT_3, mkH_0, mkH_1, mkH_3, frame, List.map_cons, List.map_nil, List.cons_append, List.nil_append, List.replicate, Nat.sub_self, Nat.reduceSub, Nat.reduceAdd, Nat.reduceEqDiff]
    subst hb
    refine ok_seq fun b' hb => ?_; try simp only [sSeq, sNil, sPass, sIf, sRet, sRetN, sExpr, sAsg, sAug, sPar, sBrk, sCont, eVar, eC, eBin, eNeg, eNot, eAnd, eOr, eIf, eChain, eLst, eTup, eCall, tst, tAndM, tOrM, tNotM, aNil, aCons, gNm, gsNil, gsCons, gTp, gSubM, oNone, oSome, mI0, mSub, mLt, mLe, mGt, mGe, Res.bind_ok, flD, List.getElem?_cons_zero, List.getElem?_cons_succ, List.set_cons_zero, List.set_cons_succ, List.length_cons, List.length_nil, if_true, reduceIte, decide_eq_true_eq, Bool.false_eq_true, Bool.true_eq_false, ok_ok, bnd_assoc, bind_ite, ok_ite, mkF_0, mkF_1, mkF_2, mkF_3, mkF_4, mkF_5, mkF_6, mkT_1, mkT_2, mkT_3, mkH_0, mkH_1, mkH_3, frame, List.map_cons, List.map_nil, List.cons_append, List.nil_append, List.replicate, Nat.sub_self, Nat.reduceSub, Nat.reduceAdd, Nat.reduceEqDiff]
    have dd : ∀ {μ : Mem} {V : List (Int × Int)}, μ[a]? = some (some (.lst (V.map enc))) → deref μ (.tup [.int n, .hnd a]) = some (enc ((n : Int), V)) := fun h => deref_pair (deref_enc _ (n : Int)) (deref_cell h)
    have hhb : ∀ {μ : Mem} {V : List (Int × Int)}, μ[a]? = some (some (.lst (V.map enc))) → IsTies n V → V.length ≤ 1000000 → callP p_held_beside [.tup [.int n, .hnd a], .int s] μ = .ok (.int (heldV n V s)) μ := fun h h1 h2 => callP_ok_deref (derefs_two (dd h) (deref_enc _ (s : Int))) (p_held_beside_ok hn1 (by omega) hs h1 h2) rfl
    have hbe : ∀ {μ : Mem} {V : List (Int × Int)}, μ[a]? = some (some (.lst (V.map enc))) → IsTies n V → V.length ≤ 1000000 → callP p__law_beside [.int n, .hnd a, .int s] μ = .ok (.int (heldV n V s)) μ := fun h h1 h2 => callP_ok_deref (by simp only [derefs, deref_cell h, deref_enc _ (n : Int), deref_enc _ (s : Int)]; rfl) (p_beside_ok hn1 (by omega) hs h1 h2) rfl
    have vv : ∀ {μ : Mem} {V : List (Int × Int)}, μ[a]? = some (some (.lst (V.map enc))) → Views μ (.tup [.int n, .hnd a]) ((n : Int), V) := fun h => views_pair (views_enc _ (n : Int)) (views_cell h)
    rw [hhb c5 ht hl6]
    try simp only [sSeq, sNil, sPass, sIf, sRet, sRetN, sExpr, sAsg, sAug, sPar, sBrk, sCont, eVar, eC, eBin, eNeg, eNot, eAnd, eOr, eIf, eChain, eLst, eTup, eCall, tst, tAndM, tOrM, tNotM, aNil, aCons, gNm, gsNil, gsCons, gTp, gSubM, oNone, oSome, mI0, mSub, mLt, mLe, mGt, mGe, Res.bind_ok, flD, List.getElem?_cons_zero, List.getElem?_cons_succ, List.set_cons_zero, List.set_cons_succ, List.length_cons, List.length_nil, if_true, reduceIte, decide_eq_true_eq, Bool.false_eq_true, Bool.true_eq_false, ok_ok, bnd_assoc, bind_ite, ok_ite, mkF_0, mkF_1, mkF_2, mkF_3, mkF_4, mkF_5, mkF_6, mkT_1, mkT_2, mkT_3, mkH_0, mkH_1, mkH_3, frame, List.map_cons, List.map_nil, List.cons_append, List.nil_append, List.replicate, Nat.sub_self, Nat.reduceSub, Nat.reduceAdd, Nat.reduceEqDiff]
    subst hb
    refine ok_seq fun b' hb => ?_; try simp only [sSeq, sNil, sPass, sIf, sRet, sRetN, sExpr, sAsg, sAug, sPar, sBrk, sCont, eVar, eC, eBin, eNeg, eNot, eAnd, eOr, eIf, eChain, eLst, eTup, eCall, tst, tAndM, tOrM, tNotM, aNil, aCons, gNm, gsNil, gsCons, gTp, gSubM, oNone, oSome, mI0, mSub, mLt, mLe, mGt, mGe, Res.bind_ok, flD, List.getElem?_cons_zero, List.getElem?_cons_succ, List.set_cons_zero, List.set_cons_succ, List.length_cons, List.length_nil, if_true, reduceIte, decide_eq_true_eq, Bool.false_eq_true, Bool.true_eq_false, ok_ok, bnd_assoc, bind_ite, ok_ite, mkF_0, mkF_1, mkF_2, mkF_3, mkF_4, mkF_5, mkF_6, mkT_1, mkT_2, mkT_3, mkH_0, mkH_1, mkH_3, frame, List.map_cons, List.map_nil, List.cons_append, List.nil_append, List.replicate, Nat.sub_self, Nat.reduceSub, Nat.reduceAdd, Nat.reduceEqDiff]
    simp only [sSeq, sNil, sPass, sIf, sRet, sRetN, sExpr, sAsg, sAug, sPar, sBrk, sCont, eVar, eC, eBin, eNeg, eNot, eAnd, eOr, eIf, eChain, eLst, eTup, eCall, tst, tAndM, tOrM, tNotM, aNil, aCons, gNm, gsNil, gsCons, gTp, gSubM, oNone, oSome, mI0, mSub, mLt, mLe, mGt, mGe, Res.bind_ok, flD, List.getElem?_cons_zero, List.getElem?_cons_succ, List.set_cons_zero, List.set_cons_succ, List.length_cons, List.length_nil, if_true, reduceIte, decide_eq_true_eq, Bool.false_eq_true, Bool.true_eq_false, ok_ok, bnd_assoc, bind_ite, ok_ite, mkF_0, mkF_1, mkF_2, mkF_3, mkF_4, mkF_5, mkF_6, mkT_1, mkT_2, mkT_3, mkH_0, mkH_1, mkH_3, frame, List.map_cons, List.map_nil, List.cons_append, List.nil_append, List.replicate, Nat.sub_self, Nat.reduceSub, Nat.reduceAdd, Nat.reduceEqDiff, mNe_i, decide_true, Bool.not_true, eIsT, isIntD, isBoolD]
    rw [mNe_v (y := .tup [.int n, enc ts]) (b := ((n : Int), ts)) (vv c5) (views_enc _ ((n : Int), ts))]
    simp only [sSeq, sNil, sPass, sIf, sRet, sRetN, sExpr, sAsg, sAug, sPar, sBrk, sCont, eVar, eC, eBin, eNeg, eNot, eAnd, eOr, eIf, eChain, eLst, eTup, eCall, tst, tAndM, tOrM, tNotM, aNil, aCons, gNm, gsNil, gsCons, gTp, gSubM, oNone, oSome, mI0, mSub, mLt, mLe, mGt, mGe, Res.bind_ok, flD, List.getElem?_cons_zero, List.getElem?_cons_succ, List.set_cons_zero, List.set_cons_succ, List.length_cons, List.length_nil, if_true, reduceIte, decide_eq_true_eq, Bool.false_eq_true, Bool.true_eq_false, ok_ok, bnd_assoc, bind_ite, ok_ite, mkF_0, mkF_1, mkF_2, mkF_3, mkF_4, mkF_5, mkF_6, mkT_1, mkT_2, mkT_3, mkH_0, mkH_1, mkH_3, frame, List.map_cons, List.map_nil, List.cons_append, List.nil_append, List.replicate, Nat.sub_self, Nat.reduceSub, Nat.reduceAdd, Nat.reduceEqDiff, decide_true, Bool.not_true]
    subst hb
    -- the ties at the place
    refine ok_seq fun b' hb => ?_; try simp only [sSeq, sNil, sPass, sIf, sRet, sRetN, sExpr, sAsg, sAug, sPar, sBrk, sCont, eVar, eC, eBin, eNeg, eNot, eAnd, eOr, eIf, eChain, eLst, eTup, eCall, tst, tAndM, tOrM, tNotM, aNil, aCons, gNm, gsNil, gsCons, gTp, gSubM, oNone, oSome, mI0, mSub, mLt, mLe, mGt, mGe, Res.bind_ok, flD, List.getElem?_cons_zero, List.getElem?_cons_succ, List.set_cons_zero, List.set_cons_succ, List.length_cons, List.length_nil, if_true, reduceIte, decide_eq_true_eq, Bool.false_eq_true, Bool.true_eq_false, ok_ok, bnd_assoc, bind_ite, ok_ite, mkF_0, mkF_1, mkF_2, mkF_3, mkF_4, mkF_5, mkF_6, mkT_1, mkT_2, mkT_3, mkH_0, mkH_1, mkH_3, frame, List.map_cons, List.map_nil, List.cons_append, List.nil_append, List.replicate, Nat.sub_self, Nat.reduceSub, Nat.reduceAdd, Nat.reduceEqDiff]
    have hin := inL_len s ts
    rw [eLc_ok (it := ⟨enumD 0 (ts.map enc), fun μ' => seqL μ' (enc ts) = some (ts.map enc)⟩) (μ1 := μ5) (μ2 := μ5) (ds := (inL s ts).map enc) (by simp only [iEnumM, sSeq, sNil, sPass, sIf, sRet, sRetN, sExpr, sAsg, sAug, sPar, sBrk, sCont, eVar, eC, eBin, eNeg, eNot, eAnd, eOr, eIf, eChain, eLst, eTup, eCall, tst, tAndM, tOrM, tNotM, aNil, aCons, gNm, gsNil, gsCons, gTp, gSubM, oNone, oSome, mI0, mSub, mLt, mLe, mGt, mGe, Res.bind_ok, flD, List.getElem?_cons_zero, List.getElem?_cons_succ, List.set_cons_zero, List.set_cons_succ, List.length_cons, List.length_nil, if_true, reduceIte, decide_eq_true_eq, Bool.false_eq_true, Bool.true_eq_false, ok_ok, bnd_assoc, bind_ite, ok_ite, mkF_0, mkF_1, mkF_2, mkF_3, mkF_4, mkF_5, mkF_6, mkT_1, mkT_2, mkT_3, mkH_0, mkH_1, mkH_3, frame, List.map_cons, List.map_nil, List.cons_append, List.nil_append, List.replicate, Nat.sub_self, Nat.reduceSub, Nat.reduceAdd, Nat.reduceEqDiff, enc_list, seqL]) (by rw [enumD_len, List.length_map]; omega) ?lc, mkF_ok (by rw [List.length_map]; omega)]
    case lc =>
      rw [enumD_map]
      refine (lcL_pure (chk := fun μ' => seqL μ' (enc ts) = some (ts.map enc)) (fun p : (Int × Int) × Nat => .tup [.int (p.2 : Nat), enc p.1]) (fun p => decide (Inc s p.1)) (fun p => .int (p.2 : Nat)) rfl (ts.zipIdx 0) fun q _ => ⟨_, rfl, ?_, fun _ => ?_⟩).trans ?_
      · simp only [wipeD, sSeq, sNil, sPass, sIf, sRet, sRetN, sExpr, sAsg, sAug, sPar, sBrk, sCont, eVar, eC, eBin, eNeg, eNot, eAnd, eOr, eIf, eChain, eLst, eTup, eCall, tst, tAndM, tOrM, tNotM, aNil, aCons, gNm, gsNil, gsCons, gTp, gSubM, oNone, oSome, mI0, mSub, mLt, mLe, mGt, mGe, Res.bind_ok, flD, List.getElem?_cons_zero, List.getElem?_cons_succ, List.set_cons_zero, List.set_cons_succ, List.length_cons, List.length_nil, if_true, reduceIte, decide_eq_true_eq, Bool.false_eq_true, Bool.true_eq_false, ok_ok, bnd_assoc, bind_ite, ok_ite, mkF_0, mkF_1, mkF_2, mkF_3, mkF_4, mkF_5, mkF_6, mkT_1, mkT_2, mkT_3, mkH_0, mkH_1, mkH_3, frame, List.map_cons, List.map_nil, List.cons_append, List.nil_append, List.replicate, Nat.sub_self, Nat.reduceSub, Nat.reduceAdd, Nat.reduceEqDiff]
        rw [mIn_e]
        rfl
      · simp only [wipeD, sSeq, sNil, sPass, sIf, sRet, sRetN, sExpr, sAsg, sAug, sPar, sBrk, sCont, eVar, eC, eBin, eNeg, eNot, eAnd, eOr, eIf, eChain, eLst, eTup, eCall, tst, tAndM, tOrM, tNotM, aNil, aCons, gNm, gsNil, gsCons, gTp, gSubM, oNone, oSome, mI0, mSub, mLt, mLe, mGt, mGe, Res.bind_ok, flD, List.getElem?_cons_zero, List.getElem?_cons_succ, List.set_cons_zero, List.set_cons_succ, List.length_cons, List.length_nil, if_true, reduceIte, decide_eq_true_eq, Bool.false_eq_true, Bool.true_eq_false, ok_ok, bnd_assoc, bind_ite, ok_ite, mkF_0, mkF_1, mkF_2, mkF_3, mkF_4, mkF_5, mkF_6, mkT_1, mkT_2, mkT_3, mkH_0, mkH_1, mkH_3, frame, List.map_cons, List.map_nil, List.cons_append, List.nil_append, List.replicate, Nat.sub_self, Nat.reduceSub, Nat.reduceAdd, Nat.reduceEqDiff]
      · rw [inL, List.map_map]; rfl
    try simp only [sSeq, sNil, sPass, sIf, sRet, sRetN, sExpr, sAsg, sAug, sPar, sBrk, sCont, eVar, eC, eBin, eNeg, eNot, eAnd, eOr, eIf, eChain, eLst, eTup, eCall, tst, tAndM, tOrM, tNotM, aNil, aCons, gNm, gsNil, gsCons, gTp, gSubM, oNone, oSome, mI0, mSub, mLt, mLe, mGt, mGe, Res.bind_ok, flD, List.getElem?_cons_zero, List.getElem?_cons_succ, List.set_cons_zero, List.set_cons_succ, List.length_cons, List.length_nil, if_true, reduceIte, decide_eq_true_eq, Bool.false_eq_true, Bool.true_eq_false, ok_ok, bnd_assoc, bind_ite, ok_ite, mkF_0, mkF_1, mkF_2, mkF_3, mkF_4, mkF_5, mkF_6, mkT_1, mkT_2, mkT_3, mkH_0, mkH_1, mkH_3, frame, List.map_cons, List.map_nil, List.cons_append, List.nil_append, List.replicate, Nat.sub_self, Nat.reduceSub, Nat.reduceAdd, Nat.reduceEqDiff]
    subst hb
    -- pairs of them
    refine ok_seq fun b' hb => ?_; try simp only [sSeq, sNil, sPass, sIf, sRet, sRetN, sExpr, sAsg, sAug, sPar, sBrk, sCont, eVar, eC, eBin, eNeg, eNot, eAnd, eOr, eIf, eChain, eLst, eTup, eCall, tst, tAndM, tOrM, tNotM, aNil, aCons, gNm, gsNil, gsCons, gTp, gSubM, oNone, oSome, mI0, mSub, mLt, mLe, mGt, mGe, Res.bind_ok, flD, List.getElem?_cons_zero, List.getElem?_cons_succ, List.set_cons_zero, List.set_cons_succ, List.length_cons, List.length_nil, if_true, reduceIte, decide_eq_true_eq, Bool.false_eq_true, Bool.true_eq_false, ok_ok, bnd_assoc, bind_ite, ok_ite, mkF_0, mkF_1, mkF_2, mkF_3, mkF_4, mkF_5, mkF_6, mkT_1, mkT_2, mkT_3, mkH_0, mkH_1, mkH_3, frame, List.map_cons, List.map_nil, List.cons_append, List.nil_append, List.replicate, Nat.sub_self, Nat.reduceSub, Nat.reduceAdd, Nat.reduceEqDiff]
    refine Ok.step (Q' := fun d μ' => ∃ ps : List (Int × Int), d = enc ps ∧ ps.Sublist (pairs2 (inL s ts)) ∧ Upd k μ5 μ') (ok_eLc ?_) ?_
    · have pl1 := pickA_len (inL s ts) none none (show (0 : Int) < 2 by decide)
      have pl2 := pickA_len (inL s ts) (some 1) none (show (0 : Int) < 2 by decide)
      have sl : ∀ (ρ : DEnv) (μ : Mem) (lo : Option Int) (lm : OM), ρ[10]? = some (some (.lst ((inL s ts).map enc))) → lm ρ μ = .ok lo μ → eSlS mkF 2 (eVar 10) lm oNone ρ μ = .ok (.lst ((pickA (inL s ts) lo none 2).map enc)) μ := fun ρ μ lo lm h1 h2 => by
        have := pickA_len (inL s ts) lo none (show (0 : Int) < 2 by decide)
        unfold eSlS
        simp only [eVar, h1, Res.bind_ok, h2, oNone, seqL]
        rw [show pickA ((inL s ts).map enc) lo none 2 = (pickA (inL s ts) lo none 2).map enc by
          unfold pickA
          rw [List.length_map, List.map_filterMap]
          congr 1
          funext j
          rw [List.getElem?_map], mkF_ok (by rw [List.length_map]; omega)]
      simp only [iZipM, aCons, aNil]
      rw [sl _ _ none oNone rfl rfl]
      simp only [Res.bind_ok]
      rw [sl _ _ (some 1) _ rfl rfl]
      simp only [Res.bind_ok, seqL, ok_ok, zipD_map, zip_pick]
      have hpl : (pairs2 (inL s ts)).length ≤ 1000 := by
        have h1 := goneL_len (pairs2 (inL s ts))
        have h2 := (pairs2_gone (inL s ts)).length_le
        omega
      refine ⟨by rw [List.length_map]; omega, ?_⟩
      refine ok_lcL (fun i ds μ' => Upd k μ5 μ' ∧ ∃ ps : List (Int × Int), ds = ps.map enc ∧ ps.Sublist ((pairs2 (inL s ts)).take i)) ⟨Upd.refl p5, [], rfl, List.nil_sublist _⟩ (fun _ _ _ _ _ => by simp only [and_self]) ?_ ?_
      · rintro j d ds μ6 hd ⟨u6, ps, rfl, hsub⟩
        rw [List.getElem?_map] at hd
        obtain ⟨q, hq, rfl⟩ := Option.map_eq_some_iff.mp hd
        have et : (pairs2 (inL s ts)).take (j + 1) = (pairs2 (inL s ts)).take j ++ [q] := by rw [List.take_succ, hq]; rfl
        simp only [wipeD, gTp, gsCons, gsNil, gNm, List.length_cons, List.length_nil, if_true, Res.bind_ok, ok_ok, List.set_cons_succ, List.set_cons_zero]
        try simp only [sSeq, sNil, sPass, sIf, sRet, sRetN, sExpr, sAsg, sAug, sPar, sBrk, sCont, eVar, eC, eBin, eNeg, eNot, eAnd, eOr, eIf, eChain, eLst, eTup, eCall, tst, tAndM, tOrM, tNotM, aNil, aCons, gNm, gsNil, gsCons, gTp, gSubM, oNone, oSome, mI0, mSub, mLt, mLe, mGt, mGe, Res.bind_ok, flD, List.getElem?_cons_zero, List.getElem?_cons_succ, List.set_cons_zero, List.set_cons_succ, List.length_cons, List.length_nil, if_true, reduceIte, decide_eq_true_eq, Bool.false_eq_true, Bool.true_eq_false, ok_ok, bnd_assoc, bind_ite, ok_ite, mkF_0, mkF_1, mkF_2, mkF_3, mkF_4, mkF_5, mkF_6, mkT_1, mkT_2, mkT_3, mkH_0, mkH_1, mkH_3, frame, List.map_cons, List.map_nil, List.cons_append, List.nil_append, List.replicate, Nat.sub_self, Nat.reduceSub, Nat.reduceAdd, Nat.reduceEqDiff]
        refine (m_take_ok (u6.pile p5) (by decide) (by decide)).step ?_
        rintro _ μ7 ⟨v, rfl, hv0, hv1, u7⟩
        simp only [sSeq, sNil, sPass, sIf, sRet, sRetN, sExpr, sAsg, sAug, sPar, sBrk, sCont, eVar, eC, eBin, eNeg, eNot, eAnd, eOr, eIf, eChain, eLst, eTup, eCall, tst, tAndM, tOrM, tNotM, aNil, aCons, gNm, gsNil, gsCons, gTp, gSubM, oNone, oSome, mI0, mSub, mLt, mLe, mGt, mGe, Res.bind_ok, flD, List.getElem?_cons_zero, List.getElem?_cons_succ, List.set_cons_zero, List.set_cons_succ, List.length_cons, List.length_nil, if_true, reduceIte, decide_eq_true_eq, Bool.false_eq_true, Bool.true_eq_false, ok_ok, bnd_assoc, bind_ite, ok_ite, mkF_0, mkF_1, mkF_2, mkF_3, mkF_4, mkF_5, mkF_6, mkT_1, mkT_2, mkT_3, mkH_0, mkH_1, mkH_3, frame, List.map_cons, List.map_nil, List.cons_append, List.nil_append, List.replicate, Nat.sub_self, Nat.reduceSub, Nat.reduceAdd, Nat.reduceEqDiff, enc_int]
        split
        · exact ⟨u6.trans u7, ps ++ [q], by rw [List.map_append]; rfl, by rw [et]; exact hsub.append (List.Sublist.refl _)⟩
        · exact ⟨u6.trans u7, ps, rfl, by rw [et]; exact hsub.trans (List.sublist_append_left _ _)⟩
      · rintro ds μ6 ⟨u6, ps, rfl, hsub⟩
        rw [List.length_map, List.take_length] at hsub
        have := hsub.length_le
        rw [mkF_ok (by rw [List.length_map]; omega)]
        exact ⟨ps, rfl, hsub, u6⟩
    rintro _ μ6 ⟨ps, rfl, hsub, u6⟩
    have c6 := (u6.get ka.symm).trans c5
    have p6 := u6.pile p5
    have hps := pairs2_ok hsub
    have hpsl : ps.length ≤ 1000 := by
      have h1 := goneL_len ps
      have h2 := (goneL_sub hsub).length_le
      have h3 := (pairs2_gone (inL s ts)).length_le
      omega
    clear u6 c5 p5 u5 c4 p4
    try simp only [sSeq, sNil, sPass, sIf, sRet, sRetN, sExpr, sAsg, sAug, sPar, sBrk, sCont, eVar, eC, eBin, eNeg, eNot, eAnd, eOr, eIf, eChain, eLst, eTup, eCall, tst, tAndM, tOrM, tNotM, aNil, aCons, gNm, gsNil, gsCons, gTp, gSubM, oNone, oSome, mI0, mSub, mLt, mLe, mGt, mGe, Res.bind_ok, flD, List.getElem?_cons_zero, List.getElem?_cons_succ, List.set_cons_zero, List.set_cons_succ, List.length_cons, List.length_nil, if_true, reduceIte, decide_eq_true_eq, Bool.false_eq_true, Bool.true_eq_false, ok_ok, bnd_assoc, bind_ite, ok_ite, mkF_0, mkF_1, mkF_2, mkF_3, mkF_4, mkF_5, mkF_6, mkT_1, mkT_2, mkT_3, mkH_0, mkH_1, mkH_3, frame, List.map_cons, List.map_nil, List.cons_append, List.nil_append, List.replicate, Nat.sub_self, Nat.reduceSub, Nat.reduceAdd, Nat.reduceEqDiff]
    subst hb
    -- split off: no more
    refine ok_seq fun b' hb => ?_; try simp only [sSeq, sNil, sPass, sIf, sRet, sRetN, sExpr, sAsg, sAug, sPar, sBrk, sCont, eVar, eC, eBin, eNeg, eNot, eAnd, eOr, eIf, eChain, eLst, eTup, eCall, tst, tAndM, tOrM, tNotM, aNil, aCons, gNm, gsNil, gsCons, gTp, gSubM, oNone, oSome, mI0, mSub, mLt, mLe, mGt, mGe, Res.bind_ok, flD, List.getElem?_cons_zero, List.getElem?_cons_succ, List.set_cons_zero, List.set_cons_succ, List.length_cons, List.length_nil, if_true, reduceIte, decide_eq_true_eq, Bool.false_eq_true, Bool.true_eq_false, ok_ok, bnd_assoc, bind_ite, ok_ite, mkF_0, mkF_1, mkF_2, mkF_3, mkF_4, mkF_5, mkF_6, mkT_1, mkT_2, mkT_3, mkH_0, mkH_1, mkH_3, frame, List.map_cons, List.map_nil, List.cons_append, List.nil_append, List.replicate, Nat.sub_self, Nat.reduceSub, Nat.reduceAdd, Nat.reduceEqDiff]
    refine (m_split_ok (n := n) (s := s) (ts := ts) (ps := ps) (x := .hnd a) (y := enc ps) (μ := μ6) (by rw [seqL, c6]) rfl hs0 hs1 hps (by omega) hpsl).step ?_
    rintro _ μ7 ⟨w, rfl, q7, _, k7⟩
    have c7 := k7 _ _ c6
    have p7 := pile_keep k7 p6
    have hle := heldV_le (ts' := splitV s ts ps) hs hn1 fun m hm => split_le (s := (s : Int)) hm hps
    try simp only [sSeq, sNil, sPass, sIf, sRet, sRetN, sExpr, sAsg, sAug, sPar, sBrk, sCont, eVar, eC, eBin, eNeg, eNot, eAnd, eOr, eIf, eChain, eLst, eTup, eCall, tst, tAndM, tOrM, tNotM, aNil, aCons, gNm, gsNil, gsCons, gTp, gSubM, oNone, oSome, mI0, mSub, mLt, mLe, mGt, mGe, Res.bind_ok, flD, List.getElem?_cons_zero, List.getElem?_cons_succ, List.set_cons_zero, List.set_cons_succ, List.length_cons, List.length_nil, if_true, reduceIte, decide_eq_true_eq, Bool.false_eq_true, Bool.true_eq_false, ok_ok, bnd_assoc, bind_ite, ok_ite, mkF_0, mkF_1, mkF_2, mkF_3, mkF_4, mkF_5, mkF_6, mkT_1, mkT_2, mkT_3, mkH_0, mkH_1, mkH_3, frame, List.map_cons, List.map_nil, List.cons_append, List.nil_append, List.replicate, Nat.sub_self, Nat.reduceSub, Nat.reduceAdd, Nat.reduceEqDiff]
    rw [callP_ok_deref (ds := [.tup [.int n, .hnd w], .int s]) (μ := μ7) (derefs_two (deref_pair (deref_enc _ (n : Int)) (deref_cell q7)) (deref_enc _ (s : Int))) (p_held_beside_ok hn1 (by omega) hs (split_ties ht hps) (splitV_len (by omega) hpsl)) rfl]
    try simp only [sSeq, sNil, sPass, sIf, sRet, sRetN, sExpr, sAsg, sAug, sPar, sBrk, sCont, eVar, eC, eBin, eNeg, eNot, eAnd, eOr, eIf, eChain, eLst, eTup, eCall, tst, tAndM, tOrM, tNotM, aNil, aCons, gNm, gsNil, gsCons, gTp, gSubM, oNone, oSome, mI0, mSub, mLt, mLe, mGt, mGe, Res.bind_ok, flD, List.getElem?_cons_zero, List.getElem?_cons_succ, List.set_cons_zero, List.set_cons_succ, List.length_cons, List.length_nil, if_true, reduceIte, decide_eq_true_eq, Bool.false_eq_true, Bool.true_eq_false, ok_ok, bnd_assoc, bind_ite, ok_ite, mkF_0, mkF_1, mkF_2, mkF_3, mkF_4, mkF_5, mkF_6, mkT_1, mkT_2, mkT_3, mkH_0, mkH_1, mkH_3, frame, List.map_cons, List.map_nil, List.cons_append, List.nil_append, List.replicate, Nat.sub_self, Nat.reduceSub, Nat.reduceAdd, Nat.reduceEqDiff]
    rw [if_neg (by omega)]
    subst hb
    -- one tie more
    refine ok_seq fun b' hb => ?_
    refine Ok.imp (Q := fun f μ' => ∃ V : List (Int × Int), f = .nx [some (.scr ns), some (.int (0 + (i : Int))), some (.hnd k), some (.tup [.int n, enc ts]), some (.int n), some (enc ts), some (.tup [.int n, .hnd a]), some (.int s), some (.int (heldV n ts s)), some (.int (heldV n ts s)), some (.lst ((inL s ts).map enc)), some (enc ps), y, r13, r14, r15] ∧ μ'[a]? = some (some (.lst (V.map enc))) ∧ IsTies n V ∧ V.length ≤ 40 ∧ PileAt μ' k) ?_ ?_
    · simp only [sSeq, sNil, sPass, sIf, sRet, sRetN, sExpr, sAsg, sAug, sPar, sBrk, sCont, eVar, eC, eBin, eNeg, eNot, eAnd, eOr, eIf, eChain, eLst, eTup, eCall, tst, tAndM, tOrM, tNotM, aNil, aCons, gNm, gsNil, gsCons, gTp, gSubM, oNone, oSome, mI0, mSub, mLt, mLe, mGt, mGe, Res.bind_ok, flD, List.getElem?_cons_zero, List.getElem?_cons_succ, List.set_cons_zero, List.set_cons_succ, List.length_cons, List.length_nil, if_true, reduceIte, decide_eq_true_eq, Bool.false_eq_true, Bool.true_eq_false, ok_ok, bnd_assoc, bind_ite, ok_ite, mkF_0, mkF_1, mkF_2, mkF_3, mkF_4, mkF_5, mkF_6, mkT_1, mkT_2, mkT_3, mkH_0, mkH_1, mkH_3, frame, List.map_cons, List.map_nil, List.cons_append, List.nil_append, List.replicate, Nat.sub_self, Nat.reduceSub, Nat.reduceAdd, Nat.reduceEqDiff, mEq_i]
      rw [mLen_seq (x := enc ts) (ds := ts.map enc) rfl]
      simp only [sSeq, sNil, sPass, sIf, sRet, sRetN, sExpr, sAsg, sAug, sPar, sBrk, sCont, eVar, eC, eBin, eNeg, eNot, eAnd, eOr, eIf, eChain, eLst, eTup, eCall, tst, tAndM, tOrM, tNotM, aNil, aCons, gNm, gsNil, gsCons, gTp, gSubM, oNone, oSome, mI0, mSub, mLt, mLe, mGt, mGe, Res.bind_ok, flD, List.getElem?_cons_zero, List.getElem?_cons_succ, List.set_cons_zero, List.set_cons_succ, List.length_cons, List.length_nil, if_true, reduceIte, decide_eq_true_eq, Bool.false_eq_true, Bool.true_eq_false, ok_ok, bnd_assoc, bind_ite, ok_ite, mkF_0, mkF_1, mkF_2, mkF_3, mkF_4, mkF_5, mkF_6, mkT_1, mkT_2, mkT_3, mkH_0, mkH_1, mkH_3, frame, List.map_cons, List.map_nil, List.cons_append, List.nil_append, List.replicate, Nat.sub_self, Nat.reduceSub, Nat.reduceAdd, Nat.reduceEqDiff, mEq_i, List.length_map]
      by_cases h40 : (ts.length : Int) = 40
      · simp only [h40, decide_true, sSeq, sNil, sPass, sIf, sRet, sRetN, sExpr, sAsg, sAug, sPar, sBrk, sCont, eVar, eC, eBin, eNeg, eNot, eAnd, eOr, eIf, eChain, eLst, eTup, eCall, tst, tAndM, tOrM, tNotM, aNil, aCons, gNm, gsNil, gsCons, gTp, gSubM, oNone, oSome, mI0, mSub, mLt, mLe, mGt, mGe, Res.bind_ok, flD, List.getElem?_cons_zero, List.getElem?_cons_succ, List.set_cons_zero, List.set_cons_succ, List.length_cons, List.length_nil, if_true, reduceIte, decide_eq_true_eq, Bool.false_eq_true, Bool.true_eq_false, ok_ok, bnd_assoc, bind_ite, ok_ite, mkF_0, mkF_1, mkF_2, mkF_3, mkF_4, mkF_5, mkF_6, mkT_1, mkT_2, mkT_3, mkH_0, mkH_1, mkH_3, frame, List.map_cons, List.map_nil, List.cons_append, List.nil_append, List.replicate, Nat.sub_self, Nat.reduceSub, Nat.reduceAdd, Nat.reduceEqDiff]
        obtain ⟨V, q, rfl⟩ : ∃ V q, ts = V ++ [q] := ⟨ts.dropLast, ts.getLast (fun z => by subst z; simp at h40), (List.dropLast_concat_getLast _).symm⟩
        rw [List.map_append] at c7
        rw [eBM_of (d := .hnd a) (ds := []) (μ1 := μ7) (μ2 := μ7) (by try simp only [sSeq, sNil, sPass, sIf, sRet, sRetN, sExpr, sAsg, sAug, sPar, sBrk, sCont, eVar, eC, eBin, eNeg, eNot, eAnd, eOr, eIf, eChain, eLst, eTup, eCall, tst, tAndM, tOrM, tNotM, aNil, aCons, gNm, gsNil, gsCons, gTp, gSubM, oNone, oSome, mI0, mSub, mLt, mLe, mGt, mGe, Res.bind_ok, flD, List.getElem?_cons_zero, List.getElem?_cons_succ, List.set_cons_zero, List.set_cons_succ, List.length_cons, List.length_nil, if_true, reduceIte, decide_eq_true_eq, Bool.false_eq_true, Bool.true_eq_false, ok_ok, bnd_assoc, bind_ite, ok_ite, mkF_0, mkF_1, mkF_2, mkF_3, mkF_4, mkF_5, mkF_6, mkT_1, mkT_2, mkT_3, mkH_0, mkH_1, mkH_3, frame, List.map_cons, List.map_nil, List.cons_append, List.nil_append, List.replicate, Nat.sub_self, Nat.reduceSub, Nat.reduceAdd, Nat.reduceEqDiff]; exact mIx_tup (j := 1) rfl rfl) (tyOk_cell c7) rfl, mPop_of c7]
        try simp only [sSeq, sNil, sPass, sIf, sRet, sRetN, sExpr, sAsg, sAug, sPar, sBrk, sCont, eVar, eC, eBin, eNeg, eNot, eAnd, eOr, eIf, eChain, eLst, eTup, eCall, tst, tAndM, tOrM, tNotM, aNil, aCons, gNm, gsNil, gsCons, gTp, gSubM, oNone, oSome, mI0, mSub, mLt, mLe, mGt, mGe, Res.bind_ok, flD, List.getElem?_cons_zero, List.getElem?_cons_succ, List.set_cons_zero, List.set_cons_succ, List.length_cons, List.length_nil, if_true, reduceIte, decide_eq_true_eq, Bool.false_eq_true, Bool.true_eq_false, ok_ok, bnd_assoc, bind_ite, ok_ite, mkF_0, mkF_1, mkF_2, mkF_3, mkF_4, mkF_5, mkF_6, mkT_1, mkT_2, mkT_3, mkH_0, mkH_1, mkH_3, frame, List.map_cons, List.map_nil, List.cons_append, List.nil_append, List.replicate, Nat.sub_self, Nat.reduceSub, Nat.reduceAdd, Nat.reduceEqDiff]
        refine ⟨V, trivial, set_new c7, fun t htt => ht t (List.mem_append_left _ htt), by rw [List.length_append] at hl; omega, pile_set p7 ka⟩
      · simp only [h40, decide_false, sSeq, sNil, sPass, sIf, sRet, sRetN, sExpr, sAsg, sAug, sPar, sBrk, sCont, eVar, eC, eBin, eNeg, eNot, eAnd, eOr, eIf, eChain, eLst, eTup, eCall, tst, tAndM, tOrM, tNotM, aNil, aCons, gNm, gsNil, gsCons, gTp, gSubM, oNone, oSome, mI0, mSub, mLt, mLe, mGt, mGe, Res.bind_ok, flD, List.getElem?_cons_zero, List.getElem?_cons_succ, List.set_cons_zero, List.set_cons_succ, List.length_cons, List.length_nil, if_true, reduceIte, decide_eq_true_eq, Bool.false_eq_true, Bool.true_eq_false, ok_ok, bnd_assoc, bind_ite, ok_ite, mkF_0, mkF_1, mkF_2, mkF_3, mkF_4, mkF_5, mkF_6, mkT_1, mkT_2, mkT_3, mkH_0, mkH_1, mkH_3, frame, List.map_cons, List.map_nil, List.cons_append, List.nil_append, List.replicate, Nat.sub_self, Nat.reduceSub, Nat.reduceAdd, Nat.reduceEqDiff]
        exact ⟨ts, trivial, c7, ht, hl, p7⟩
    rintro _ μ8 ⟨V, rfl, c8, hV, hVl, p8⟩
    simp only
    subst hb
    have ix1 : ∀ μ, mIx (.tup [.int n, .hnd a]) (.int 1) μ = .ok (.hnd a) μ := fun μ => mIx_tup (j := 1) rfl rfl
    refine ok_seq fun b' hb => ?_; try simp only [sSeq, sNil, sPass, sIf, sRet, sRetN, sExpr, sAsg, sAug, sPar, sBrk, sCont, eVar, eC, eBin, eNeg, eNot, eAnd, eOr, eIf, eChain, eLst, eTup, eCall, tst, tAndM, tOrM, tNotM, aNil, aCons, gNm, gsNil, gsCons, gTp, gSubM, oNone, oSome, mI0, mSub, mLt, mLe, mGt, mGe, Res.bind_ok, flD, List.getElem?_cons_zero, List.getElem?_cons_succ, List.set_cons_zero, List.set_cons_succ, List.length_cons, List.length_nil, if_true, reduceIte, decide_eq_true_eq, Bool.false_eq_true, Bool.true_eq_false, ok_ok, bnd_assoc, bind_ite, ok_ite, mkF_0, mkF_1, mkF_2, mkF_3, mkF_4, mkF_5, mkF_6, mkT_1, mkT_2, mkT_3, mkH_0, mkH_1, mkH_3, frame, List.map_cons, List.map_nil, List.cons_append, List.nil_append, List.replicate, Nat.sub_self, Nat.reduceSub, Nat.reduceAdd, Nat.reduceEqDiff]
    simp only [sSeq, sNil, sPass, sIf, sRet, sRetN, sExpr, sAsg, sAug, sPar, sBrk, sCont, eVar, eC, eBin, eNeg, eNot, eAnd, eOr, eIf, eChain, eLst, eTup, eCall, tst, tAndM, tOrM, tNotM, aNil, aCons, gNm, gsNil, gsCons, gTp, gSubM, oNone, oSome, mI0, mSub, mLt, mLe, mGt, mGe, Res.bind_ok, flD, List.getElem?_cons_zero, List.getElem?_cons_succ, List.set_cons_zero, List.set_cons_succ, List.length_cons, List.length_nil, if_true, reduceIte, decide_eq_true_eq, Bool.false_eq_true, Bool.true_eq_false, ok_ok, bnd_assoc, bind_ite, ok_ite, mkF_0, mkF_1, mkF_2, mkF_3, mkF_4, mkF_5, mkF_6, mkT_1, mkT_2, mkT_3, mkH_0, mkH_1, mkH_3, frame, List.map_cons, List.map_nil, List.cons_append, List.nil_append, List.replicate, Nat.sub_self, Nat.reduceSub, Nat.reduceAdd, Nat.reduceEqDiff, ix1]
    rw [hbe c8 hV (by omega)]
    try simp only [sSeq, sNil, sPass, sIf, sRet, sRetN, sExpr, sAsg, sAug, sPar, sBrk, sCont, eVar, eC, eBin, eNeg, eNot, eAnd, eOr, eIf, eChain, eLst, eTup, eCall, tst, tAndM, tOrM, tNotM, aNil, aCons, gNm, gsNil, gsCons, gTp, gSubM, oNone, oSome, mI0, mSub, mLt, mLe, mGt, mGe, Res.bind_ok, flD, List.getElem?_cons_zero, List.getElem?_cons_succ, List.set_cons_zero, List.set_cons_succ, List.length_cons, List.length_nil, if_true, reduceIte, decide_eq_true_eq, Bool.false_eq_true, Bool.true_eq_false, ok_ok, bnd_assoc, bind_ite, ok_ite, mkF_0, mkF_1, mkF_2, mkF_3, mkF_4, mkF_5, mkF_6, mkT_1, mkT_2, mkT_3, mkH_0, mkH_1, mkH_3, frame, List.map_cons, List.map_nil, List.cons_append, List.nil_append, List.replicate, Nat.sub_self, Nat.reduceSub, Nat.reduceAdd, Nat.reduceEqDiff]
    subst hb
    refine ok_seq fun b' hb => ?_
    have hpn := p_pairs_ok n (by omega)
    have hcnt := pairsL_count n
    have hn0 : 0 < n - 1 := by omega
    have hpos : 0 < n * (n - 1) := Nat.mul_pos (by omega) hn0
    have hpos2 : 2 ≤ n * (n - 1) := by
      have : 3 * 2 ≤ n * (n - 1) := Nat.mul_le_mul hn1 (by omega)
      omega
    have hbig : n * (n - 1) ≤ 7 * 6 := Nat.mul_le_mul hn2 (by omega)
    have emul : (n : Int) * ((n : Int) - 1) = ((n * (n - 1) : Nat) : Int) := by
      rw [Int.natCast_mul, Int.natCast_sub (by omega)]; rfl
    simp only [sExpr]
    unfold eBM
    simp only [sSeq, sNil, sPass, sIf, sRet, sRetN, sExpr, sAsg, sAug, sPar, sBrk, sCont, eVar, eC, eBin, eNeg, eNot, eAnd, eOr, eIf, eChain, eLst, eTup, eCall, tst, tAndM, tOrM, tNotM, aNil, aCons, gNm, gsNil, gsCons, gTp, gSubM, oNone, oSome, mI0, mSub, mLt, mLe, mGt, mGe, Res.bind_ok, flD, List.getElem?_cons_zero, List.getElem?_cons_succ, List.set_cons_zero, List.set_cons_succ, List.length_cons, List.length_nil, if_true, reduceIte, decide_eq_true_eq, Bool.false_eq_true, Bool.true_eq_false, ok_ok, bnd_assoc, bind_ite, ok_ite, mkF_0, mkF_1, mkF_2, mkF_3, mkF_4, mkF_5, mkF_6, mkT_1, mkT_2, mkT_3, mkH_0, mkH_1, mkH_3, frame, List.map_cons, List.map_nil, List.cons_append, List.nil_append, List.replicate, Nat.sub_self, Nat.reduceSub, Nat.reduceAdd, Nat.reduceEqDiff, ix1, if_pos (tyOk_cell c8)]
    rw [callP_ok_of rfl hpn]
    simp only [sSeq, sNil, sPass, sIf, sRet, sRetN, sExpr, sAsg, sAug, sPar, sBrk, sCont, eVar, eC, eBin, eNeg, eNot, eAnd, eOr, eIf, eChain, eLst, eTup, eCall, tst, tAndM, tOrM, tNotM, aNil, aCons, gNm, gsNil, gsCons, gTp, gSubM, oNone, oSome, mI0, mSub, mLt, mLe, mGt, mGe, Res.bind_ok, flD, List.getElem?_cons_zero, List.getElem?_cons_succ, List.set_cons_zero, List.set_cons_succ, List.length_cons, List.length_nil, if_true, reduceIte, decide_eq_true_eq, Bool.false_eq_true, Bool.true_eq_false, ok_ok, bnd_assoc, bind_ite, ok_ite, mkF_0, mkF_1, mkF_2, mkF_3, mkF_4, mkF_5, mkF_6, mkT_1, mkT_2, mkT_3, mkH_0, mkH_1, mkH_3, frame, List.map_cons, List.map_nil, List.cons_append, List.nil_append, List.replicate, Nat.sub_self, Nat.reduceSub, Nat.reduceAdd, Nat.reduceEqDiff]
    rw [mMul_int (mulOk_l (by omega) (by omega)), emul]
    try simp only [sSeq, sNil, sPass, sIf, sRet, sRetN, sExpr, sAsg, sAug, sPar, sBrk, sCont, eVar, eC, eBin, eNeg, eNot, eAnd, eOr, eIf, eChain, eLst, eTup, eCall, tst, tAndM, tOrM, tNotM, aNil, aCons, gNm, gsNil, gsCons, gTp, gSubM, oNone, oSome, mI0, mSub, mLt, mLe, mGt, mGe, Res.bind_ok, flD, List.getElem?_cons_zero, List.getElem?_cons_succ, List.set_cons_zero, List.set_cons_succ, List.length_cons, List.length_nil, if_true, reduceIte, decide_eq_true_eq, Bool.false_eq_true, Bool.true_eq_false, ok_ok, bnd_assoc, bind_ite, ok_ite, mkF_0, mkF_1, mkF_2, mkF_3, mkF_4, mkF_5, mkF_6, mkT_1, mkT_2, mkT_3, mkH_0, mkH_1, mkH_3, frame, List.map_cons, List.map_nil, List.cons_append, List.nil_append, List.replicate, Nat.sub_self, Nat.reduceSub, Nat.reduceAdd, Nat.reduceEqDiff]
    rw [mDiv_int (by decide) (by decide)]
    try simp only [sSeq, sNil, sPass, sIf, sRet, sRetN, sExpr, sAsg, sAug, sPar, sBrk, sCont, eVar, eC, eBin, eNeg, eNot, eAnd, eOr, eIf, eChain, eLst, eTup, eCall, tst, tAndM, tOrM, tNotM, aNil, aCons, gNm, gsNil, gsCons, gTp, gSubM, oNone, oSome, mI0, mSub, mLt, mLe, mGt, mGe, Res.bind_ok, flD, List.getElem?_cons_zero, List.getElem?_cons_succ, List.set_cons_zero, List.set_cons_succ, List.length_cons, List.length_nil, if_true, reduceIte, decide_eq_true_eq, Bool.false_eq_true, Bool.true_eq_false, ok_ok, bnd_assoc, bind_ite, ok_ite, mkF_0, mkF_1, mkF_2, mkF_3, mkF_4, mkF_5, mkF_6, mkT_1, mkT_2, mkT_3, mkH_0, mkH_1, mkH_3, frame, List.map_cons, List.map_nil, List.cons_append, List.nil_append, List.replicate, Nat.sub_self, Nat.reduceSub, Nat.reduceAdd, Nat.reduceEqDiff]
    refine (m_take_ok p8 (by omega) (by omega)).step ?_
    rintro _ μ9 ⟨v, rfl, hv0, hv1, u9⟩
    have c9 := (u9.get ka.symm).trans c8
    have hv : v.toNat < (pairsL n).length := by omega
    try simp only [sSeq, sNil, sPass, sIf, sRet, sRetN, sExpr, sAsg, sAug, sPar, sBrk, sCont, eVar, eC, eBin, eNeg, eNot, eAnd, eOr, eIf, eChain, eLst, eTup, eCall, tst, tAndM, tOrM, tNotM, aNil, aCons, gNm, gsNil, gsCons, gTp, gSubM, oNone, oSome, mI0, mSub, mLt, mLe, mGt, mGe, Res.bind_ok, flD, List.getElem?_cons_zero, List.getElem?_cons_succ, List.set_cons_zero, List.set_cons_succ, List.length_cons, List.length_nil, if_true, reduceIte, decide_eq_true_eq, Bool.false_eq_true, Bool.true_eq_false, ok_ok, bnd_assoc, bind_ite, ok_ite, mkF_0, mkF_1, mkF_2, mkF_3, mkF_4, mkF_5, mkF_6, mkT_1, mkT_2, mkT_3, mkH_0, mkH_1, mkH_3, frame, List.map_cons, List.map_nil, List.cons_append, List.nil_append, List.replicate, Nat.sub_self, Nat.reduceSub, Nat.reduceAdd, Nat.reduceEqDiff]
    rw [mIx_lst (i := v) (j := v.toNat) (d := enc (pairsL n)[v.toNat]) (by omega) (by rw [List.getElem?_map, List.getElem?_eq_getElem hv]; rfl)]
    have hq := pairsL_mem (List.getElem_mem hv)
    generalize (pairsL n)[v.toNat] = q at hq
    try simp only [sSeq, sNil, sPass, sIf, sRet, sRetN, sExpr, sAsg, sAug, sPar, sBrk, sCont, eVar, eC, eBin, eNeg, eNot, eAnd, eOr, eIf, eChain, eLst, eTup, eCall, tst, tAndM, tOrM, tNotM, aNil, aCons, gNm, gsNil, gsCons, gTp, gSubM, oNone, oSome, mI0, mSub, mLt, mLe, mGt, mGe, Res.bind_ok, flD, List.getElem?_cons_zero, List.getElem?_cons_succ, List.set_cons_zero, List.set_cons_succ, List.length_cons, List.length_nil, if_true, reduceIte, decide_eq_true_eq, Bool.false_eq_true, Bool.true_eq_false, ok_ok, bnd_assoc, bind_ite, ok_ite, mkF_0, mkF_1, mkF_2, mkF_3, mkF_4, mkF_5, mkF_6, mkT_1, mkT_2, mkT_3, mkH_0, mkH_1, mkH_3, frame, List.map_cons, List.map_nil, List.cons_append, List.nil_append, List.replicate, Nat.sub_self, Nat.reduceSub, Nat.reduceAdd, Nat.reduceEqDiff]
    rw [mAppend_of c9 (by rw [List.length_map]; omega), show V.map enc ++ [enc q] = (V ++ [q]).map enc by rw [List.map_append]; rfl]
    try simp only [sSeq, sNil, sPass, sIf, sRet, sRetN, sExpr, sAsg, sAug, sPar, sBrk, sCont, eVar, eC, eBin, eNeg, eNot, eAnd, eOr, eIf, eChain, eLst, eTup, eCall, tst, tAndM, tOrM, tNotM, aNil, aCons, gNm, gsNil, gsCons, gTp, gSubM, oNone, oSome, mI0, mSub, mLt, mLe, mGt, mGe, Res.bind_ok, flD, List.getElem?_cons_zero, List.getElem?_cons_succ, List.set_cons_zero, List.set_cons_succ, List.length_cons, List.length_nil, if_true, reduceIte, decide_eq_true_eq, Bool.false_eq_true, Bool.true_eq_false, ok_ok, bnd_assoc, bind_ite, ok_ite, mkF_0, mkF_1, mkF_2, mkF_3, mkF_4, mkF_5, mkF_6, mkT_1, mkT_2, mkT_3, mkH_0, mkH_1, mkH_3, frame, List.map_cons, List.map_nil, List.cons_append, List.nil_append, List.replicate, Nat.sub_self, Nat.reduceSub, Nat.reduceAdd, Nat.reduceEqDiff]
    have c10 := set_new (c := some (.lst ((V ++ [q]).map enc))) c9
    generalize μ9.set a (some (.lst ((V ++ [q]).map enc))) = μ10 at c10
    subst hb
    have hV2 : IsTies n (V ++ [q]) := fun t htt => by
      rcases List.mem_append.mp htt with h | h
      · exact hV t h
      · rw [List.mem_singleton.mp h]; exact hq
    have hge := heldV_le (ts := V ++ [q]) (ts' := V) hs hn1 fun m _ => by
      rw [cutM_append]
      have := cut1_nn m q
      show cutM V m ≤ cutM V m + (cut1 m q + 0)
      omega
    simp only [sSeq, sNil, sPass, sIf, sRet, sRetN, sExpr, sAsg, sAug, sPar, sBrk, sCont, eVar, eC, eBin, eNeg, eNot, eAnd, eOr, eIf, eChain, eLst, eTup, eCall, tst, tAndM, tOrM, tNotM, aNil, aCons, gNm, gsNil, gsCons, gTp, gSubM, oNone, oSome, mI0, mSub, mLt, mLe, mGt, mGe, Res.bind_ok, flD, List.getElem?_cons_zero, List.getElem?_cons_succ, List.set_cons_zero, List.set_cons_succ, List.length_cons, List.length_nil, if_true, reduceIte, decide_eq_true_eq, Bool.false_eq_true, Bool.true_eq_false, ok_ok, bnd_assoc, bind_ite, ok_ite, mkF_0, mkF_1, mkF_2, mkF_3, mkF_4, mkF_5, mkF_6, mkT_1, mkT_2, mkT_3, mkH_0, mkH_1, mkH_3, frame, List.map_cons, List.map_nil, List.cons_append, List.nil_append, List.replicate, Nat.sub_self, Nat.reduceSub, Nat.reduceAdd, Nat.reduceEqDiff, ix1]
    rw [hhb c10 hV2 (by rw [List.length_append]; simp; omega)]
    try simp only [sSeq, sNil, sPass, sIf, sRet, sRetN, sExpr, sAsg, sAug, sPar, sBrk, sCont, eVar, eC, eBin, eNeg, eNot, eAnd, eOr, eIf, eChain, eLst, eTup, eCall, tst, tAndM, tOrM, tNotM, aNil, aCons, gNm, gsNil, gsCons, gTp, gSubM, oNone, oSome, mI0, mSub, mLt, mLe, mGt, mGe, Res.bind_ok, flD, List.getElem?_cons_zero, List.getElem?_cons_succ, List.set_cons_zero, List.set_cons_succ, List.length_cons, List.length_nil, if_true, reduceIte, decide_eq_true_eq, Bool.false_eq_true, Bool.true_eq_false, ok_ok, bnd_assoc, bind_ite, ok_ite, mkF_0, mkF_1, mkF_2, mkF_3, mkF_4, mkF_5, mkF_6, mkT_1, mkT_2, mkT_3, mkH_0, mkH_1, mkH_3, frame, List.map_cons, List.map_nil, List.cons_append, List.nil_append, List.replicate, Nat.sub_self, Nat.reduceSub, Nat.reduceAdd, Nat.reduceEqDiff]
    rw [if_neg (by omega), hhb c10 hV2 (by rw [List.length_append]; simp; omega)]
    try simp only [sSeq, sNil, sPass, sIf, sRet, sRetN, sExpr, sAsg, sAug, sPar, sBrk, sCont, eVar, eC, eBin, eNeg, eNot, eAnd, eOr, eIf, eChain, eLst, eTup, eCall, tst, tAndM, tOrM, tNotM, aNil, aCons, gNm, gsNil, gsCons, gTp, gSubM, oNone, oSome, mI0, mSub, mLt, mLe, mGt, mGe, Res.bind_ok, flD, List.getElem?_cons_zero, List.getElem?_cons_succ, List.set_cons_zero, List.set_cons_succ, List.length_cons, List.length_nil, if_true, reduceIte, decide_eq_true_eq, Bool.false_eq_true, Bool.true_eq_false, ok_ok, bnd_assoc, bind_ite, ok_ite, mkF_0, mkF_1, mkF_2, mkF_3, mkF_4, mkF_5, mkF_6, mkT_1, mkT_2, mkT_3, mkH_0, mkH_1, mkH_3, frame, List.map_cons, List.map_nil, List.cons_append, List.nil_append, List.replicate, Nat.sub_self, Nat.reduceSub, Nat.reduceAdd, Nat.reduceEqDiff]
    rw [hbe c10 hV2 (by rw [List.length_append]; simp; omega)]
    simp only [sSeq, sNil, sPass, sIf, sRet, sRetN, sExpr, sAsg, sAug, sPar, sBrk, sCont, eVar, eC, eBin, eNeg, eNot, eAnd, eOr, eIf, eChain, eLst, eTup, eCall, tst, tAndM, tOrM, tNotM, aNil, aCons, gNm, gsNil, gsCons, gTp, gSubM, oNone, oSome, mI0, mSub, mLt, mLe, mGt, mGe, Res.bind_ok, flD, List.getElem?_cons_zero, List.getElem?_cons_succ, List.set_cons_zero, List.set_cons_succ, List.length_cons, List.length_nil, if_true, reduceIte, decide_eq_true_eq, Bool.false_eq_true, Bool.true_eq_false, ok_ok, bnd_assoc, bind_ite, ok_ite, mkF_0, mkF_1, mkF_2, mkF_3, mkF_4, mkF_5, mkF_6, mkT_1, mkT_2, mkT_3, mkH_0, mkH_1, mkH_3, frame, List.map_cons, List.map_nil, List.cons_append, List.nil_append, List.replicate, Nat.sub_self, Nat.reduceSub, Nat.reduceAdd, Nat.reduceEqDiff, mNe_i, decide_true, Bool.not_true]
    exact ⟨trivial, trivial⟩
  · rintro _ μ ⟨ρ, rfl⟩
    try simp only [sSeq, sNil, sPass, sIf, sRet, sRetN, sExpr, sAsg, sAug, sPar, sBrk, sCont, eVar, eC, eBin, eNeg, eNot, eAnd, eOr, eIf, eChain, eLst, eTup, eCall, tst, tAndM, tOrM, tNotM, aNil, aCons, gNm, gsNil, gsCons, gTp, gSubM, oNone, oSome, mI0, mSub, mLt, mLe, mGt, mGe, Res.bind_ok, flD, List.getElem?_cons_zero, List.getElem?_cons_succ, List.set_cons_zero, List.set_cons_succ, List.length_cons, List.length_nil, if_true, reduceIte, decide_eq_true_eq, Bool.false_eq_true, Bool.true_eq_false, ok_ok, bnd_assoc, bind_ite, ok_ite, mkF_0, mkF_1, mkF_2, mkF_3, mkF_4, mkF_5, mkF_6, mkT_1, mkT_2, mkT_3, mkH_0, mkH_1, mkH_3, frame, List.map_cons, List.map_nil, List.cons_append, List.nil_append, List.replicate, Nat.sub_self, Nat.reduceSub, Nat.reduceAdd, Nat.reduceEqDiff]
end Lw

/-! The walk of the text's defs (printed by gen.py). -/
namespace Lw
open PySem PySem.Spec PyProof.Rows L2 Md

def topS (i : Nat) : Stmt := PySem.Challenge.pw_holdfast_k18_held_beside.main.body.getD i (.Pass ⟨0, 0, 0, 0⟩)
abbrev s_has : Stmt := topS 6
abbrev s_lot_of : Stmt := topS 7
abbrev s_whole : Stmt := topS 8
abbrev s_outs : Stmt := topS 9
abbrev s_other_end : Stmt := topS 11
abbrev s_look_at_place : Stmt := topS 12
abbrev s_split : Stmt := topS 13
abbrev s_held_beside : Stmt := topS 14
abbrev s__law_mixed : Stmt := topS 16
abbrev s__law_pile : Stmt := topS 17
abbrev s__law_take : Stmt := topS 18
abbrev s__law_pairs : Stmt := topS 19
abbrev s__law_ring : Stmt := topS 20
abbrev s__law_held : Stmt := topS 21
abbrev s__law_beside : Stmt := topS 22
abbrev s_law : Stmt := topS 23
theorem sc_has : FnScope ["mask", "place"] ["mask", "place"] (defScope s_has) := ⟨rfl, rfl, rfl, by decide +kernel, rfl, by decide +kernel, by decide +kernel⟩
theorem sc_lot_of : FnScope ["mask", "n", "place"] ["mask", "n"] (defScope s_lot_of) := ⟨rfl, rfl, rfl, by decide +kernel, rfl, by decide +kernel, by decide +kernel⟩
theorem sc_whole : FnScope ["n"] ["n"] (defScope s_whole) := ⟨rfl, rfl, rfl, by decide +kernel, rfl, by decide +kernel, by decide +kernel⟩
theorem sc_outs : FnScope ["n", "ties", "near", "a", "b", "found", "mask", "place", "rest", "inner", "other"] ["n", "ties"] (defScope s_outs) := ⟨rfl, rfl, rfl, by decide +kernel, rfl, by decide +kernel, by decide +kernel⟩
theorem sc_other_end : FnScope ["tie", "s"] ["tie", "s"] (defScope s_other_end) := ⟨rfl, rfl, rfl, by decide +kernel, rfl, by decide +kernel, by decide +kernel⟩
theorem sc_look_at_place : FnScope ["n", "s"] ["n", "s"] (defScope s_look_at_place) := ⟨rfl, rfl, rfl, by decide +kernel, rfl, by decide +kernel, by decide +kernel⟩
theorem sc_split : FnScope ["web", "s", "pairs", "n", "ties", "gone", "new", "number", "i", "j", "u", "v", "tie"] ["web", "s", "pairs"] (defScope s_split) := ⟨rfl, rfl, rfl, by decide +kernel, rfl, by decide +kernel, by decide +kernel⟩
theorem sc_held_beside : FnScope ["web", "s", "n", "ties", "others", "table", "mask"] ["web", "s"] (defScope s_held_beside) := ⟨rfl, rfl, rfl, by decide +kernel, rfl, by decide +kernel, by decide +kernel⟩
theorem sc__law_mixed : FnScope ["_law_cell", "_law_k", "_law_number"] ["_law_cell", "_law_k"] (defScope s__law_mixed) := ⟨rfl, rfl, rfl, by decide +kernel, rfl, by decide +kernel, by decide +kernel⟩
theorem sc__law_pile : FnScope ["_law_script", "_law_k", "_law_cell"] ["_law_script", "_law_k"] (defScope s__law_pile) := ⟨rfl, rfl, rfl, by decide +kernel, rfl, by decide +kernel, by decide +kernel⟩
theorem sc__law_take : FnScope ["_law_pile_here", "_law_many", "_law_digit"] ["_law_pile_here", "_law_many"] (defScope s__law_take) := ⟨rfl, rfl, rfl, by decide +kernel, rfl, by decide +kernel, by decide +kernel⟩
theorem sc__law_pairs : FnScope ["_law_n", "_law_found", "_law_b", "_law_a"] ["_law_n"] (defScope s__law_pairs) := ⟨rfl, rfl, rfl, by decide +kernel, rfl, by decide +kernel, by decide +kernel⟩
theorem sc__law_ring : FnScope ["_law_pile_here", "_law_n", "_law_left", "_law_order", "_law_found", "_law_a", "_law_b"] ["_law_pile_here", "_law_n"] (defScope s__law_ring) := ⟨rfl, rfl, rfl, by decide +kernel, rfl, by decide +kernel, by decide +kernel⟩
theorem sc__law_held : FnScope ["_law_pile_here", "_law_least", "_law_most", "_law_folds", "_law_many", "_law_n", "_law_ties", "_law_turn", "_law_pairs_here", "_law_at", "_law_found", "_law_k"] ["_law_pile_here", "_law_least", "_law_most", "_law_folds", "_law_many"] (defScope s__law_held) := ⟨rfl, rfl, rfl, by decide +kernel, rfl, by decide +kernel, by decide +kernel⟩
theorem sc__law_beside : FnScope ["_law_n", "_law_ties", "_law_s", "_law_found", "_law_mask", "_law_lot", "_law_place", "_law_a", "_law_b"] ["_law_n", "_law_ties", "_law_s"] (defScope s__law_beside) := ⟨rfl, rfl, rfl, by decide +kernel, rfl, by decide +kernel, by decide +kernel⟩
theorem sc_law : FnScope ["_law_script", "_law_at", "_law_pile_here", "_law_web", "_law_n", "_law_ties", "_law_handed", "_law_s", "_law_due", "_law_told", "_law_mine", "_law_pairs_here", "_law_k", "_law_tie", "_law_one", "_law_other"] ["_law_script"] (defScope s_law) := ⟨rfl, rfl, rfl, by decide +kernel, rfl, by decide +kernel, by decide +kernel⟩
/-- where the defs stand -/
structure Ad where
  f_has : Addr
  d_has : FuncData
  f_lot_of : Addr
  d_lot_of : FuncData
  f_whole : Addr
  d_whole : FuncData
  f_outs : Addr
  d_outs : FuncData
  f_other_end : Addr
  d_other_end : FuncData
  f_look_at_place : Addr
  d_look_at_place : FuncData
  f_split : Addr
  d_split : FuncData
  f_held_beside : Addr
  d_held_beside : FuncData
  f__law_mixed : Addr
  d__law_mixed : FuncData
  f__law_pile : Addr
  d__law_pile : FuncData
  f__law_take : Addr
  d__law_take : FuncData
  f__law_pairs : Addr
  d__law_pairs : FuncData
  f__law_ring : Addr
  d__law_ring : FuncData
  f__law_held : Addr
  d__law_held : FuncData
  f__law_beside : Addr
  d__law_beside : FuncData
  f_law : Addr
  d_law : FuncData
/-- what the top has written -/
structure Tops (K : PySem.W.Frag) (mg : Str → Option Value) (a : Ad) : Prop where
  F_has : Fun K "has" "has" s_has a.f_has a.d_has
  m_has : mg "has" = some (.ref a.f_has)
  b_has : L2.Binds K a.d_has ["mask", "place"] []
  F_lot_of : Fun K "lot_of" "lot_of" s_lot_of a.f_lot_of a.d_lot_of
  m_lot_of : mg "lot_of" = some (.ref a.f_lot_of)
  b_lot_of : L2.Binds K a.d_lot_of ["mask", "n"] []
  F_whole : Fun K "whole" "whole" s_whole a.f_whole a.d_whole
  m_whole : mg "whole" = some (.ref a.f_whole)
  b_whole : L2.Binds K a.d_whole ["n"] []
  F_outs : Fun K "outs" "outs" s_outs a.f_outs a.d_outs
  m_outs : mg "outs" = some (.ref a.f_outs)
  b_outs : L2.Binds K a.d_outs ["n", "ties"] []
  F_other_end : Fun K "other_end" "other_end" s_other_end a.f_other_end a.d_other_end
  m_other_end : mg "other_end" = some (.ref a.f_other_end)
  b_other_end : L2.Binds K a.d_other_end ["tie", "s"] []
  F_look_at_place : Fun K "look_at_place" "look_at_place" s_look_at_place a.f_look_at_place a.d_look_at_place
  m_look_at_place : mg "look_at_place" = some (.ref a.f_look_at_place)
  b_look_at_place : L2.Binds K a.d_look_at_place ["n", "s"] []
  F_split : Fun K "split" "split" s_split a.f_split a.d_split
  m_split : mg "split" = some (.ref a.f_split)
  b_split : L2.Binds K a.d_split ["web", "s", "pairs"] []
  F_held_beside : Fun K "held_beside" "held_beside" s_held_beside a.f_held_beside a.d_held_beside
  m_held_beside : mg "held_beside" = some (.ref a.f_held_beside)
  b_held_beside : L2.Binds K a.d_held_beside ["web", "s"] []
  F__law_mixed : Fun K "_law_mixed" "_law_mixed" s__law_mixed a.f__law_mixed a.d__law_mixed
  m__law_mixed : mg "_law_mixed" = some (.ref a.f__law_mixed)
  b__law_mixed : L2.Binds K a.d__law_mixed ["_law_cell", "_law_k"] []
  F__law_pile : Fun K "_law_pile" "_law_pile" s__law_pile a.f__law_pile a.d__law_pile
  m__law_pile : mg "_law_pile" = some (.ref a.f__law_pile)
  b__law_pile : L2.Binds K a.d__law_pile ["_law_script", "_law_k"] []
  F__law_take : Fun K "_law_take" "_law_take" s__law_take a.f__law_take a.d__law_take
  m__law_take : mg "_law_take" = some (.ref a.f__law_take)
  b__law_take : L2.Binds K a.d__law_take ["_law_pile_here", "_law_many"] []
  F__law_pairs : Fun K "_law_pairs" "_law_pairs" s__law_pairs a.f__law_pairs a.d__law_pairs
  m__law_pairs : mg "_law_pairs" = some (.ref a.f__law_pairs)
  b__law_pairs : L2.Binds K a.d__law_pairs ["_law_n"] []
  F__law_ring : Fun K "_law_ring" "_law_ring" s__law_ring a.f__law_ring a.d__law_ring
  m__law_ring : mg "_law_ring" = some (.ref a.f__law_ring)
  b__law_ring : L2.Binds K a.d__law_ring ["_law_pile_here", "_law_n"] []
  F__law_held : Fun K "_law_held" "_law_held" s__law_held a.f__law_held a.d__law_held
  m__law_held : mg "_law_held" = some (.ref a.f__law_held)
  b__law_held : L2.Binds K a.d__law_held ["_law_pile_here", "_law_least", "_law_most", "_law_folds", "_law_many"] []
  F__law_beside : Fun K "_law_beside" "_law_beside" s__law_beside a.f__law_beside a.d__law_beside
  m__law_beside : mg "_law_beside" = some (.ref a.f__law_beside)
  b__law_beside : L2.Binds K a.d__law_beside ["_law_n", "_law_ties", "_law_s"] []
  F_law : Fun K "law" "law" s_law a.f_law a.d_law
  m_law : mg "law" = some (.ref a.f_law)
  b_law : L2.Binds K a.d_law ["_law_script"] []
  z_abs : mg "abs" = none
  z_bool : mg "bool" = none
  z_enumerate : mg "enumerate" = none
  z_int : mg "int" = none
  z_isinstance : mg "isinstance" = none
  z_len : mg "len" = none
  z_list : mg "list" = none
  z_max : mg "max" = none
  z_min : mg "min" = none
  z_range : mg "range" = none
  z_sum : mg "sum" = none
  z_zip : mg "zip" = none
section
variable {P : Program} {w : World} {K : PySem.W.Frag} {mg : Str → Option Value} {base : Heap} {a : Ad}
theorem bd_has (T : Tops K mg a) : ∀ (cdv : Value) (A : Around) (outer : List PySem.Env) (s : Shared) (H : Hp) (E : XK), Room 0 (A.deeper (envOfC "has" (defScope s_has) s.heap.objs.size a.f_has cdv)) →
    PSs (cxOf (L2.CX P w) P w K mg base ["mask", "place"] "has" (defScope s_has) a.f_has cdv A outer s H E) (defBody s_has) (tS (cxOf (L2.CX P w) P w K mg base ["mask", "place"] "has" (defScope s_has) a.f_has cdv A outer s H E) (Md.WE E) b_has) := fun cdv A outer s H E hr => by
  have S := sc_has
  unfold b_has
  exact (s_one (s_ret (q_cmp (op_eqD hr.units) om_eq (q_op op_and om_and (q_op op_shr om_shr (qv 0) (qv 1)) q_int) q_int (nomark _))))
theorem okM_has (T : Tops K mg a) : FnOk P w K mg base (L2.CX P w) 1 a.f_has a.d_has ["mask", "place"] (spM K mg 2 m_has) := fn_M T.F_has sc_has (bd_has T)
theorem okP_has (T : Tops K mg a) : FnOk P w K mg base (L2.CX P w) 1 a.f_has a.d_has ["mask", "place"] (spP K mg 2 p_has) := fn_P T.F_has sc_has (bd_has T)
theorem bd_whole (T : Tops K mg a) : ∀ (cdv : Value) (A : Around) (outer : List PySem.Env) (s : Shared) (H : Hp) (E : XK), Room 0 (A.deeper (envOfC "whole" (defScope s_whole) s.heap.objs.size a.f_whole cdv)) →
    PSs (cxOf (L2.CX P w) P w K mg base ["n"] "whole" (defScope s_whole) a.f_whole cdv A outer s H E) (defBody s_whole) (tS (cxOf (L2.CX P w) P w K mg base ["n"] "whole" (defScope s_whole) a.f_whole cdv A outer s H E) (Md.WE E) b_whole) := fun cdv A outer s H E hr => by
  have S := sc_whole
  unfold b_whole
  exact (s_one (s_ret (q_op op_sub om_sub (q_op op_shl om_shl q_int (qv 0)) q_int)))
theorem okM_whole (T : Tops K mg a) : FnOk P w K mg base (L2.CX P w) 1 a.f_whole a.d_whole ["n"] (spM K mg 1 m_whole) := fn_M T.F_whole sc_whole (bd_whole T)
theorem okP_whole (T : Tops K mg a) : FnOk P w K mg base (L2.CX P w) 1 a.f_whole a.d_whole ["n"] (spP K mg 1 p_whole) := fn_P T.F_whole sc_whole (bd_whole T)
theorem bd_other_end (T : Tops K mg a) : ∀ (cdv : Value) (A : Around) (outer : List PySem.Env) (s : Shared) (H : Hp) (E : XK), Room 0 (A.deeper (envOfC "other_end" (defScope s_other_end) s.heap.objs.size a.f_other_end cdv)) →
    PSs (cxOf (L2.CX P w) P w K mg base ["tie", "s"] "other_end" (defScope s_other_end) a.f_other_end cdv A outer s H E) (defBody s_other_end) (tS (cxOf (L2.CX P w) P w K mg base ["tie", "s"] "other_end" (defScope s_other_end) a.f_other_end cdv A outer s H E) (Md.WE E) b_other_end) := fun cdv A outer s H E hr => by
  have S := sc_other_end
  unfold b_other_end
  exact (s_one (s_ret (q_if (t_cmp (op_eqD hr.units) om_eq (q_ix (qv 0) q_int) (qv 1) (nomark _)) (q_ix (qv 0) q_int) (q_ix (qv 0) q_int))))
theorem okM_other_end (T : Tops K mg a) : FnOk P w K mg base (L2.CX P w) 1 a.f_other_end a.d_other_end ["tie", "s"] (spM K mg 2 m_other_end) := fn_M T.F_other_end sc_other_end (bd_other_end T)
theorem okP_other_end (T : Tops K mg a) : FnOk P w K mg base (L2.CX P w) 1 a.f_other_end a.d_other_end ["tie", "s"] (spP K mg 2 p_other_end) := fn_P T.F_other_end sc_other_end (bd_other_end T)
theorem bd_look_at_place (T : Tops K mg a) : ∀ (cdv : Value) (A : Around) (outer : List PySem.Env) (s : Shared) (H : Hp) (E : XK), Room 0 (A.deeper (envOfC "look_at_place" (defScope s_look_at_place) s.heap.objs.size a.f_look_at_place cdv)) →
    PSs (cxOf (L2.CX P w) P w K mg base ["n", "s"] "look_at_place" (defScope s_look_at_place) a.f_look_at_place cdv A outer s H E) (defBody s_look_at_place) (tS (cxOf (L2.CX P w) P w K mg base ["n", "s"] "look_at_place" (defScope s_look_at_place) a.f_look_at_place cdv A outer s H E) (Md.WE E) b_look_at_place) := fun cdv A outer s H E hr => by
  have S := sc_look_at_place
  unfold b_look_at_place
  exact (s_one (s_if (w_or (t_cmp op_lt om_lt (qv 1) q_int (nomark _)) (w_or1 (t_cmp op_ge om_ge (qv 1) (qv 0) (nomark _)))).pt (s_one s_never) s_nil))
theorem okM_look_at_place (T : Tops K mg a) : FnOk P w K mg base (L2.CX P w) 1 a.f_look_at_place a.d_look_at_place ["n", "s"] (spM K mg 2 m_look_at_place) := fn_M T.F_look_at_place sc_look_at_place (bd_look_at_place T)
theorem okP_look_at_place (T : Tops K mg a) : FnOk P w K mg base (L2.CX P w) 1 a.f_look_at_place a.d_look_at_place ["n", "s"] (spP K mg 2 p_look_at_place) := fn_P T.F_look_at_place sc_look_at_place (bd_look_at_place T)
theorem bd__law_mixed (T : Tops K mg a) : ∀ (cdv : Value) (A : Around) (outer : List PySem.Env) (s : Shared) (H : Hp) (E : XK), Room 0 (A.deeper (envOfC "_law_mixed" (defScope s__law_mixed) s.heap.objs.size a.f__law_mixed cdv)) →
    PSs (cxOf (L2.CX P w) P w K mg base ["_law_cell", "_law_k", "_law_number"] "_law_mixed" (defScope s__law_mixed) a.f__law_mixed cdv A outer s H E) (defBody s__law_mixed) (tS (cxOf (L2.CX P w) P w K mg base ["_law_cell", "_law_k", "_law_number"] "_law_mixed" (defScope s__law_mixed) a.f__law_mixed cdv A outer s H E) (Md.WE E) b__law_mixed) := fun cdv A outer s H E hr => by
  have S := sc__law_mixed
  unfold b__law_mixed
  exact (s_cons (s_set (i := 2) S.nd rfl (by first | exact Or.inl rfl | exact Or.inr rfl) (q_op op_mod om_mod (q_op op_addA (om_add mk_F) (q_op op_addA (om_add mk_F) (q_op op_mulA (om_mul mk_F) (q_op op_mod om_mod (qv 0) q_int) q_int) (q_op op_mulA (om_mul mk_F) (qv 1) q_int)) q_int) q_int))
      (s_cons (s_set (i := 2) S.nd rfl (by first | exact Or.inl rfl | exact Or.inr rfl) (q_op op_mod om_mod (q_op op_mulA (om_mul mk_F) (qv 2) (qv 2)) q_int))
      (s_one (s_ret (q_op op_fdivW om_div (q_op op_mod om_mod (q_op op_mulA (om_mul mk_F) (qv 2) (qv 2)) q_int) q_int)))))
theorem okM__law_mixed (T : Tops K mg a) : FnOk P w K mg base (L2.CX P w) 1 a.f__law_mixed a.d__law_mixed ["_law_cell", "_law_k"] (spM K mg 2 m__law_mixed) := fn_M T.F__law_mixed sc__law_mixed (bd__law_mixed T)
theorem okP__law_mixed (T : Tops K mg a) : FnOk P w K mg base (L2.CX P w) 1 a.f__law_mixed a.d__law_mixed ["_law_cell", "_law_k"] (spP K mg 2 p__law_mixed) := fn_P T.F__law_mixed sc__law_mixed (bd__law_mixed T)
theorem bd__law_pile (T : Tops K mg a) : ∀ (cdv : Value) (A : Around) (outer : List PySem.Env) (s : Shared) (H : Hp) (E : XK), Room 0 (A.deeper (envOfC "_law_pile" (defScope s__law_pile) s.heap.objs.size a.f__law_pile cdv)) →
    PSs (cxOf (L2.CX P w) P w K mg base ["_law_script", "_law_k", "_law_cell"] "_law_pile" (defScope s__law_pile) a.f__law_pile cdv A outer s H E) (defBody s__law_pile) (tS (cxOf (L2.CX P w) P w K mg base ["_law_script", "_law_k", "_law_cell"] "_law_pile" (defScope s__law_pile) a.f__law_pile cdv A outer s H E) (Md.WE E) b__law_pile) := fun cdv A outer s H E hr => by
  have S := sc__law_pile
  unfold b__law_pile
  exact (s_cons (s_set (i := 2) S.nd rfl (by first | exact Or.inl rfl | exact Or.inr rfl) q_int)
      (s_cons (s_if (t_cmp op_lt om_lt (qv 1) (q_callB cr_len cm_len (by rfl) T.z_len bt_len (a_cons (qv 0) a_nil)) (nomark _)) (s_one (s_set (i := 2) S.nd rfl (by first | exact Or.inl rfl | exact Or.inr rfl) (q_ix (qv 0) (qv 1)))) s_nil)
      (s_one (s_ret (q_lst mk_H (a_cons (q_ix (q_lst mk_F (a_cons q_int (a_cons (q_op op_mod om_mod (qv 2) (q_op op_mulA (om_mul mk_F) (q_op op_mulA (om_mul mk_F) (q_op op_pow om_pow q_int q_int) (q_op op_pow om_pow q_int q_int)) (q_op op_pow om_pow q_int q_int))) a_nil))) (q_callT call_int1 cm_int (by rfl) T.z_int bt_int (a_cons (q_cmp op_ge om_ge (q_callB call_abs cm_abs (by rfl) T.z_abs bt_abs (a_cons (qv 2) a_nil)) (q_op op_pow om_pow q_int q_int) (nomark _)) a_nil))) (a_cons (q_op op_mod om_mod (qv 2) q_int) (a_cons (q_op op_mulA (om_mul mk_F) q_int (qv 1)) a_nil))))))))
theorem okM__law_pile (T : Tops K mg a) : FnOk P w K mg base (L2.CX P w) 1 a.f__law_pile a.d__law_pile ["_law_script", "_law_k"] (spM K mg 2 m__law_pile) := fn_M T.F__law_pile sc__law_pile (bd__law_pile T)
theorem okP__law_pile (T : Tops K mg a) : FnOk P w K mg base (L2.CX P w) 1 a.f__law_pile a.d__law_pile ["_law_script", "_law_k"] (spP K mg 2 p__law_pile) := fn_P T.F__law_pile sc__law_pile (bd__law_pile T)
theorem bd__law_pairs (T : Tops K mg a) : ∀ (cdv : Value) (A : Around) (outer : List PySem.Env) (s : Shared) (H : Hp) (E : XK), Room 0 (A.deeper (envOfC "_law_pairs" (defScope s__law_pairs) s.heap.objs.size a.f__law_pairs cdv)) →
    PSs (cxOf (L2.CX P w) P w K mg base ["_law_n", "_law_found", "_law_b", "_law_a"] "_law_pairs" (defScope s__law_pairs) a.f__law_pairs cdv A outer s H E) (defBody s__law_pairs) (tS (cxOf (L2.CX P w) P w K mg base ["_law_n", "_law_found", "_law_b", "_law_a"] "_law_pairs" (defScope s__law_pairs) a.f__law_pairs cdv A outer s H E) (Md.WE E) b__law_pairs) := fun cdv A outer s H E hr => by
  have S := sc__law_pairs
  unfold b__law_pairs
  exact (s_cons (s_set (i := 1) S.nd rfl (by first | exact Or.inl rfl | exact Or.inr rfl) (q_lst mk_F a_nil))
      (s_cons (s_for (passes_of rfl) rfl (i_range1 (by rfl) T.z_range (a_cons (qv 0) a_nil)) (g_name (i := 2) S.nd rfl (by first | exact Or.inl rfl | exact Or.inr rfl))
      (s_one (s_set (i := 1) S.nd rfl (by first | exact Or.inl rfl | exact Or.inr rfl) (q_op op_addA (om_add mk_F) (qv 1) (q_lc (own := [("_law_a", 3)]) mk_F (gr_name (by decide)) rfl S.nd (i_range1 (by rfl) T.z_range (a_cons (qv 2) a_nil)) (blkOk_by (N := ["_law_n", "_law_found", "_law_b", "_law_a"]) (sc := defScope s__law_pairs) (by decide +kernel)) (fun _ _ _ _ _ => (pg_name (i := 3) S.nd rfl (Or.inl rfl))) (fun _ _ _ _ _ => ts_nil) (fun _ _ _ _ _ => (q_tup (a_cons (qv 3) (a_cons (qv 2) a_nil)))))))))
      (s_one (s_ret (qv 1)))))
theorem okM__law_pairs (T : Tops K mg a) : FnOk P w K mg base (L2.CX P w) 1 a.f__law_pairs a.d__law_pairs ["_law_n"] (spM K mg 1 m__law_pairs) := fn_M T.F__law_pairs sc__law_pairs (bd__law_pairs T)
theorem okP__law_pairs (T : Tops K mg a) : FnOk P w K mg base (L2.CX P w) 1 a.f__law_pairs a.d__law_pairs ["_law_n"] (spP K mg 1 p__law_pairs) := fn_P T.F__law_pairs sc__law_pairs (bd__law_pairs T)
theorem bd__law_beside (T : Tops K mg a) : ∀ (cdv : Value) (A : Around) (outer : List PySem.Env) (s : Shared) (H : Hp) (E : XK), Room 0 (A.deeper (envOfC "_law_beside" (defScope s__law_beside) s.heap.objs.size a.f__law_beside cdv)) →
    PSs (cxOf (L2.CX P w) P w K mg base ["_law_n", "_law_ties", "_law_s", "_law_found", "_law_mask", "_law_lot", "_law_place", "_law_a", "_law_b"] "_law_beside" (defScope s__law_beside) a.f__law_beside cdv A outer s H E) (defBody s__law_beside) (tS (cxOf (L2.CX P w) P w K mg base ["_law_n", "_law_ties", "_law_s", "_law_found", "_law_mask", "_law_lot", "_law_place", "_law_a", "_law_b"] "_law_beside" (defScope s__law_beside) a.f__law_beside cdv A outer s H E) (Md.WE E) b__law_beside) := fun cdv A outer s H E hr => by
  have S := sc__law_beside
  unfold b__law_beside
  exact (s_cons (s_set (i := 3) S.nd rfl (by first | exact Or.inl rfl | exact Or.inr rfl) (q_lst mk_H a_nil))
      (s_cons (s_for (passes_of rfl) rfl (i_range2 (by rfl) T.z_range (a_cons q_int (a_cons (q_op op_shl om_shl q_int (qv 0)) a_nil))) (g_name (i := 4) S.nd rfl (by first | exact Or.inl rfl | exact Or.inr rfl))
      (s_cons (s_set (i := 5) S.nd rfl (by first | exact Or.inl rfl | exact Or.inr rfl) (q_lc (own := [("_law_place", 6)]) mk_F (gr_name (by decide)) rfl S.nd (i_range1 (by rfl) T.z_range (a_cons (qv 0) a_nil)) (blkOk_by (N := ["_law_n", "_law_ties", "_law_s", "_law_found", "_law_mask", "_law_lot", "_law_place", "_law_a", "_law_b"]) (sc := defScope s__law_beside) (by decide +kernel)) (fun _ _ _ _ _ => (pg_name (i := 6) S.nd rfl (Or.inl rfl))) (fun _ _ _ _ _ => (ts_one (t_cmp (op_eqD hr.units) om_eq (q_op op_and om_and (q_op op_shr om_shr (qv 4) (qv 6)) q_int) q_int (nomark _)))) (fun _ _ _ _ _ => (qv 6))))
      (s_one (s_if (w_and (t_cmp (op_notInA (hu65 hr)) om_notIn (qv 2) (qv 5) (by rfl)) (w_and1 (t_cmp op_lt om_lt (q_callB cr_len cm_len (by rfl) T.z_len bt_len (a_cons (qv 5) a_nil)) (q_op op_sub om_sub (qv 0) q_int) (nomark _)))).pt (s_one (s_expr (q_bm PySem.F.plainAttrs_list PySem.F.slot_list_append PySem.F.type_list_append mt_append mm_append (qv 3) (a_cons (q_callB cr_len cm_len (by rfl) T.z_len bt_len (a_cons (q_lc (own := [("_law_a", 7), ("_law_b", 8)]) mk_F (gr_tup (grs_cons (gr_name (by decide)) (grs_cons (gr_name (by decide)) grs_nil))) rfl S.nd (i_list (qv 1)) (blkOk_by (N := ["_law_n", "_law_ties", "_law_s", "_law_found", "_law_mask", "_law_lot", "_law_place", "_law_a", "_law_b"]) (sc := defScope s__law_beside) (by decide +kernel)) (fun _ _ _ _ _ => (pg_tup rfl (pgs_cons (pg_name (i := 7) S.nd rfl (Or.inl rfl)) (pgs_cons (pg_name (i := 8) S.nd rfl (Or.inl rfl)) pgs_nil)))) (fun _ _ _ _ _ => (ts_one (t_cmp (op_neD hr.units) om_ne (q_cmp (op_inA (hu65 hr)) om_in (qv 7) (qv 5) (by rfl)) (q_cmp (op_inA (hu65 hr)) om_in (qv 8) (qv 5) (by rfl)) (nomark _)))) (fun _ _ _ _ _ => q_int)) a_nil)) a_nil)))) s_nil))))
      (s_one (s_ret (q_callB (cr_min rfl) cm_min (by rfl) T.z_min bt_min (a_cons (qv 3) a_nil))))))
theorem okM__law_beside (T : Tops K mg a) : FnOk P w K mg base (L2.CX P w) 1 a.f__law_beside a.d__law_beside ["_law_n", "_law_ties", "_law_s"] (spM K mg 3 m__law_beside) := fn_M T.F__law_beside sc__law_beside (bd__law_beside T)
theorem okP__law_beside (T : Tops K mg a) : FnOk P w K mg base (L2.CX P w) 1 a.f__law_beside a.d__law_beside ["_law_n", "_law_ties", "_law_s"] (spP K mg 3 p__law_beside) := fn_P T.F__law_beside sc__law_beside (bd__law_beside T)
theorem bd_lot_of (T : Tops K mg a) : ∀ (cdv : Value) (A : Around) (outer : List PySem.Env) (s : Shared) (H : Hp) (E : XK), Room 1 (A.deeper (envOfC "lot_of" (defScope s_lot_of) s.heap.objs.size a.f_lot_of cdv)) →
    PSs (cxOf (L2.CX P w) P w K mg base ["mask", "n", "place"] "lot_of" (defScope s_lot_of) a.f_lot_of cdv A outer s H E) (defBody s_lot_of) (tS (cxOf (L2.CX P w) P w K mg base ["mask", "n", "place"] "lot_of" (defScope s_lot_of) a.f_lot_of cdv A outer s H E) (Md.WE E) b_lot_of) := fun cdv A outer s H E hr => by
  have S := sc_lot_of
  unfold b_lot_of
  exact (s_one (s_ret (q_lc (own := [("place", 2)]) mk_F (gr_name (by decide)) rfl S.nd (i_range1 (by rfl) T.z_range (a_cons (qv 1) a_nil)) (blkOk_by (N := ["mask", "n", "place"]) (sc := defScope s_lot_of) (by decide +kernel)) (fun _ _ _ _ _ => (pg_name (i := 2) S.nd rfl (Or.inl rfl))) (fun _ _ _ _ _ => (ts_one (t_val (q_call sp_P rfl (okP_has T) (hr.mono (by decide)) (by rfl) T.m_has T.F_has.kp T.b_has takes0 (a_cons (qv 0) (a_cons (qv 2) a_nil)) (aCons_len (aCons_len aNil_len)))))) (fun _ _ _ _ _ => (qv 2)))))
theorem okM_lot_of (T : Tops K mg a) : FnOk P w K mg base (L2.CX P w) 2 a.f_lot_of a.d_lot_of ["mask", "n"] (spM K mg 2 m_lot_of) := fn_M T.F_lot_of sc_lot_of (bd_lot_of T)
theorem okP_lot_of (T : Tops K mg a) : FnOk P w K mg base (L2.CX P w) 2 a.f_lot_of a.d_lot_of ["mask", "n"] (spP K mg 2 p_lot_of) := fn_P T.F_lot_of sc_lot_of (bd_lot_of T)
theorem bd_split (T : Tops K mg a) : ∀ (cdv : Value) (A : Around) (outer : List PySem.Env) (s : Shared) (H : Hp) (E : XK), Room 1 (A.deeper (envOfC "split" (defScope s_split) s.heap.objs.size a.f_split cdv)) →
    PSs (cxOf (L2.CX P w) P w K mg base ["web", "s", "pairs", "n", "ties", "gone", "new", "number", "i", "j", "u", "v", "tie"] "split" (defScope s_split) a.f_split cdv A outer s H E) (defBody s_split) (tS (cxOf (L2.CX P w) P w K mg base ["web", "s", "pairs", "n", "ties", "gone", "new", "number", "i", "j", "u", "v", "tie"] "split" (defScope s_split) a.f_split cdv A outer s H E) (Md.WE E) b_split) := fun cdv A outer s H E hr => by
  have S := sc_split
  unfold b_split
  exact (s_cons (s_asg (qv 0) (g_tup rfl (gs_cons (g_name (i := 3) S.nd rfl (by first | exact Or.inl rfl | exact Or.inr rfl)) (gs_cons (g_name (i := 4) S.nd rfl (by first | exact Or.inl rfl | exact Or.inr rfl)) gs_nil))))
      (s_cons (s_expr (q_call sp_P rfl (okP_look_at_place T) (hr.mono (by decide)) (by rfl) T.m_look_at_place T.F_look_at_place.kp T.b_look_at_place (takes_of rfl rfl rfl rfl) (a_cons (qv 3) (a_cons (qv 1) a_nil)) (aCons_len (aCons_len aNil_len))))
      (s_cons (s_set (i := 5) S.nd rfl (by first | exact Or.inl rfl | exact Or.inr rfl) (q_lst mk_H a_nil))
      (s_cons (s_set (i := 6) S.nd rfl (by first | exact Or.inl rfl | exact Or.inr rfl) (q_lst mk_H a_nil))
      (s_cons (s_for (passes_of rfl) rfl (i_enum (by rfl) T.z_enumerate (a_cons (qv 2) a_nil)) (g_tup rfl (gs_cons (g_name (i := 7) S.nd rfl (by first | exact Or.inl rfl | exact Or.inr rfl)) (gs_cons (g_tup rfl (gs_cons (g_name (i := 8) S.nd rfl (by first | exact Or.inl rfl | exact Or.inr rfl)) (gs_cons (g_name (i := 9) S.nd rfl (by first | exact Or.inl rfl | exact Or.inr rfl)) gs_nil))) gs_nil)))
      (s_cons (s_if (w_or (t_cmp op_lt om_lt (qv 8) q_int (nomark _)) (w_or (t_cmp op_ge om_ge (qv 9) (q_callB cr_len cm_len (by rfl) T.z_len bt_len (a_cons (qv 4) a_nil)) (nomark _)) (w_or (t_cmp op_ge om_ge (qv 8) (qv 9) (nomark _)) (w_or (t_cmp (op_inA (hu65 hr)) om_in (qv 8) (qv 5) (by rfl)) (w_or1 (t_cmp (op_inA (hu65 hr)) om_in (qv 9) (qv 5) (by rfl))))))).pt (s_one s_never) s_nil)
      (s_cons (s_if (w_or (t_cmp (op_notInA (hu65 hr)) om_notIn (qv 1) (q_ix (qv 4) (qv 8)) (by rfl)) (w_or1 (t_cmp (op_notInA (hu65 hr)) om_notIn (qv 1) (q_ix (qv 4) (qv 9)) (by rfl)))).pt (s_one s_never) s_nil)
      (s_cons (s_expr (q_bm PySem.F.plainAttrs_list PySem.F.slot_list_extend PySem.F.type_list_extend mt_extend mm_extend (qv 5) (a_cons (q_lst mk_F (a_cons (qv 8) (a_cons (qv 9) a_nil))) a_nil)))
      (s_cons (s_par (i := 10) (j := 11) rfl S.nd rfl rfl (by decide) rfl rfl (a_cons (q_call sp_P rfl (okP_other_end T) (hr.mono (by decide)) (by rfl) T.m_other_end T.F_other_end.kp T.b_other_end (takes_of rfl rfl rfl rfl) (a_cons (q_ix (qv 4) (qv 8)) (a_cons (qv 1) a_nil)) (aCons_len (aCons_len aNil_len))) (a_cons (q_call sp_P rfl (okP_other_end T) (hr.mono (by decide)) (by rfl) T.m_other_end T.F_other_end.kp T.b_other_end (takes_of rfl rfl rfl rfl) (a_cons (q_ix (qv 4) (qv 9)) (a_cons (qv 1) a_nil)) (aCons_len (aCons_len aNil_len))) a_nil)) rfl)
      (s_one (s_if (t_cmp (op_neD hr.units) om_ne (qv 10) (qv 11) (nomark _)) (s_one (s_expr (q_bm PySem.F.plainAttrs_list PySem.F.slot_list_append PySem.F.type_list_append mt_append mm_append (qv 6) (a_cons (q_tup (a_cons (q_callB (call_min2 rfl) cm_min2 (by rfl) T.z_min bt_min (a_cons (qv 10) (a_cons (qv 11) a_nil))) (a_cons (q_callB (call_max2 rfl) cm_max2 (by rfl) T.z_max bt_max (a_cons (qv 10) (a_cons (qv 11) a_nil))) a_nil))) a_nil)))) s_nil)))))))
      (s_one (s_ret (q_tup (a_cons (qv 3) (a_cons (q_op op_addA (om_add mk_H) (q_lc (own := [("number", 7), ("tie", 12)]) mk_F (gr_tup (grs_cons (gr_name (by decide)) (grs_cons (gr_name (by decide)) grs_nil))) rfl S.nd (i_enum (by rfl) T.z_enumerate (a_cons (qv 4) a_nil)) (blkOk_by (N := ["web", "s", "pairs", "n", "ties", "gone", "new", "number", "i", "j", "u", "v", "tie"]) (sc := defScope s_split) (by decide +kernel)) (fun _ _ _ _ _ => (pg_tup rfl (pgs_cons (pg_name (i := 7) S.nd rfl (Or.inl rfl)) (pgs_cons (pg_name (i := 12) S.nd rfl (Or.inl rfl)) pgs_nil)))) (fun _ _ _ _ _ => (ts_one (t_cmp (op_notInA (hu65 hr)) om_notIn (qv 7) (qv 5) (by rfl)))) (fun _ _ _ _ _ => (qv 12))) (qv 6)) a_nil))))))))))
theorem okM_split (T : Tops K mg a) : FnOk P w K mg base (L2.CX P w) 2 a.f_split a.d_split ["web", "s", "pairs"] (spM K mg 3 m_split) := fn_M T.F_split sc_split (bd_split T)
theorem okP_split (T : Tops K mg a) : FnOk P w K mg base (L2.CX P w) 2 a.f_split a.d_split ["web", "s", "pairs"] (spP K mg 3 p_split) := fn_P T.F_split sc_split (bd_split T)
theorem bd__law_take (T : Tops K mg a) : ∀ (cdv : Value) (A : Around) (outer : List PySem.Env) (s : Shared) (H : Hp) (E : XK), Room 1 (A.deeper (envOfC "_law_take" (defScope s__law_take) s.heap.objs.size a.f__law_take cdv)) →
    PSs (cxOf (L2.CX P w) P w K mg base ["_law_pile_here", "_law_many", "_law_digit"] "_law_take" (defScope s__law_take) a.f__law_take cdv A outer s H E) (defBody s__law_take) (tS (cxOf (L2.CX P w) P w K mg base ["_law_pile_here", "_law_many", "_law_digit"] "_law_take" (defScope s__law_take) a.f__law_take cdv A outer s H E) (Md.WE E) b__law_take) := fun cdv A outer s H E hr => by
  have S := sc__law_take
  unfold b__law_take
  exact (s_cons (s_if (t_cmp (op_inA (hu65 hr)) om_in (q_ix (qv 0) q_int) (q_lst mk_F (a_cons q_int (a_cons (q_neg q_int) a_nil))) (by rfl)) (s_cons (s_asg (q_op op_addA (om_add mk_F) (q_ix (qv 0) q_int) q_int) (g_sub (fun _ _ _ _ _ h => h) (qv 0) q_int))
      (s_one (s_ret (q_op op_mod om_mod (q_call sp_P rfl (okP__law_mixed T) (hr.mono (by decide)) (by rfl) T.m__law_mixed T.F__law_mixed.kp T.b__law_mixed (takes_of rfl rfl rfl rfl) (a_cons (q_ix (qv 0) q_int) (a_cons (q_ix (qv 0) q_int) a_nil)) (aCons_len (aCons_len aNil_len))) (qv 1))))) s_nil)
      (s_cons (s_set (i := 2) S.nd rfl (by first | exact Or.inl rfl | exact Or.inr rfl) (q_op op_mod om_mod (q_ix (qv 0) q_int) (qv 1)))
      (s_cons (s_asg (q_op op_fdivW om_div (q_ix (qv 0) q_int) (qv 1)) (g_sub (fun _ _ _ _ _ h => h) (qv 0) q_int))
      (s_one (s_ret (qv 2))))))
theorem okM__law_take (T : Tops K mg a) : FnOk P w K mg base (L2.CX P w) 2 a.f__law_take a.d__law_take ["_law_pile_here", "_law_many"] (spM K mg 2 m__law_take) := fn_M T.F__law_take sc__law_take (bd__law_take T)
theorem okP__law_take (T : Tops K mg a) : FnOk P w K mg base (L2.CX P w) 2 a.f__law_take a.d__law_take ["_law_pile_here", "_law_many"] (spP K mg 2 p__law_take) := fn_P T.F__law_take sc__law_take (bd__law_take T)
theorem bd_outs (T : Tops K mg a) : ∀ (cdv : Value) (A : Around) (outer : List PySem.Env) (s : Shared) (H : Hp) (E : XK), Room 2 (A.deeper (envOfC "outs" (defScope s_outs) s.heap.objs.size a.f_outs cdv)) →
    PSs (cxOf (L2.CX P w) P w K mg base ["n", "ties", "near", "a", "b", "found", "mask", "place", "rest", "inner", "other"] "outs" (defScope s_outs) a.f_outs cdv A outer s H E) (defBody s_outs) (tS (cxOf (L2.CX P w) P w K mg base ["n", "ties", "near", "a", "b", "found", "mask", "place", "rest", "inner", "other"] "outs" (defScope s_outs) a.f_outs cdv A outer s H E) (Md.WE E) b_outs) := fun cdv A outer s H E hr => by
  have S := sc_outs
  unfold b_outs
  exact (s_cons (s_set (i := 2) S.nd rfl (by first | exact Or.inl rfl | exact Or.inr rfl) (q_lc (own := [("place", 7)]) mk_F (gr_name (by decide)) rfl S.nd (i_range1 (by rfl) T.z_range (a_cons (qv 0) a_nil)) (blkOk_by (N := ["n", "ties", "near", "a", "b", "found", "mask", "place", "rest", "inner", "other"]) (sc := defScope s_outs) (by decide +kernel)) (fun _ _ _ _ _ => (pg_name (i := 7) S.nd rfl (Or.inl rfl))) (fun _ _ _ _ _ => ts_nil) (fun _ _ _ _ _ => (q_op op_mulA (om_mul mk_H) (q_lst mk_F (a_cons q_int a_nil)) (qv 0)))))
      (s_cons (s_for (passes_of rfl) rfl (i_list (qv 1)) (g_tup rfl (gs_cons (g_name (i := 3) S.nd rfl (by first | exact Or.inl rfl | exact Or.inr rfl)) (gs_cons (g_name (i := 4) S.nd rfl (by first | exact Or.inl rfl | exact Or.inr rfl)) gs_nil)))
      (s_cons (s_augS (q_ix (qv 2) (qv 3)) (qv 4) q_int ip_add om_ipAdd)
      (s_one (s_augS (q_ix (qv 2) (qv 4)) (qv 3) q_int ip_add om_ipAdd))))
      (s_cons (s_set (i := 5) S.nd rfl (by first | exact Or.inl rfl | exact Or.inr rfl) (q_lst mk_H (a_cons q_int a_nil)))
      (s_cons (s_for (passes_of rfl) rfl (i_range2 (by rfl) T.z_range (a_cons q_int (a_cons (q_op op_shl om_shl q_int (qv 0)) a_nil))) (g_name (i := 6) S.nd rfl (by first | exact Or.inl rfl | exact Or.inr rfl))
      (s_cons (s_set (i := 7) S.nd rfl (by first | exact Or.inl rfl | exact Or.inr rfl) (q_op op_sub om_sub (q_bits (qv 6)) q_int))
      (s_cons (s_set (i := 8) S.nd rfl (by first | exact Or.inl rfl | exact Or.inr rfl) (q_op op_sub om_sub (qv 6) (q_op op_shl om_shl q_int (qv 7))))
      (s_cons (s_set (i := 9) S.nd rfl (by first | exact Or.inl rfl | exact Or.inr rfl) (q_callB (cr_sumT rfl) cm_sumA (by rfl) T.z_sum bt_sum (a_cons (q_lc (own := [("other", 10)]) mk_F (gr_name (by decide)) rfl S.nd (i_list (q_call sp_P rfl (okP_lot_of T) (hr.mono (by decide)) (by rfl) T.m_lot_of T.F_lot_of.kp T.b_lot_of (takes_of rfl rfl rfl rfl) (a_cons (qv 8) (a_cons (qv 7) a_nil)) (aCons_len (aCons_len aNil_len)))) (blkOk_by (N := ["n", "ties", "near", "a", "b", "found", "mask", "place", "rest", "inner", "other"]) (sc := defScope s_outs) (by decide +kernel)) (fun _ _ _ _ _ => (pg_name (i := 10) S.nd rfl (Or.inl rfl))) (fun _ _ _ _ _ => ts_nil) (fun _ _ _ _ _ => (q_ix (q_ix (qv 2) (qv 7)) (qv 10)))) a_nil)))
      (s_one (s_expr (q_bm PySem.F.plainAttrs_list PySem.F.slot_list_append PySem.F.type_list_append mt_append mm_append (qv 5) (a_cons (q_op op_sub om_sub (q_op op_addA (om_add mk_F) (q_ix (qv 5) (qv 8)) (q_callB (cr_sumT rfl) cm_sumA (by rfl) T.z_sum bt_sum (a_cons (q_ix (qv 2) (qv 7)) a_nil))) (q_op op_mulA (om_mul mk_F) q_int (qv 9))) a_nil))))))))
      (s_one (s_ret (qv 5)))))))
theorem okM_outs (T : Tops K mg a) : FnOk P w K mg base (L2.CX P w) 3 a.f_outs a.d_outs ["n", "ties"] (spM K mg 2 m_outs) := fn_M T.F_outs sc_outs (bd_outs T)
theorem okP_outs (T : Tops K mg a) : FnOk P w K mg base (L2.CX P w) 3 a.f_outs a.d_outs ["n", "ties"] (spP K mg 2 p_outs) := fn_P T.F_outs sc_outs (bd_outs T)
theorem bd__law_ring (T : Tops K mg a) : ∀ (cdv : Value) (A : Around) (outer : List PySem.Env) (s : Shared) (H : Hp) (E : XK), Room 2 (A.deeper (envOfC "_law_ring" (defScope s__law_ring) s.heap.objs.size a.f__law_ring cdv)) →
    PSs (cxOf (L2.CX P w) P w K mg base ["_law_pile_here", "_law_n", "_law_left", "_law_order", "_law_found", "_law_a", "_law_b"] "_law_ring" (defScope s__law_ring) a.f__law_ring cdv A outer s H E) (defBody s__law_ring) (tS (cxOf (L2.CX P w) P w K mg base ["_law_pile_here", "_law_n", "_law_left", "_law_order", "_law_found", "_law_a", "_law_b"] "_law_ring" (defScope s__law_ring) a.f__law_ring cdv A outer s H E) (Md.WE E) b__law_ring) := fun cdv A outer s H E hr => by
  have S := sc__law_ring
  unfold b__law_ring
  exact (s_cons (s_set (i := 2) S.nd rfl (by first | exact Or.inl rfl | exact Or.inr rfl) (q_listRange1 mk_H T.z_list T.z_range (qv 1)))
      (s_cons (s_set (i := 3) S.nd rfl (by first | exact Or.inl rfl | exact Or.inr rfl) (q_lst mk_H a_nil))
      (s_cons (s_while (passes_of rfl) (t_cmp (op_neD hr.units) om_ne (qv 2) (q_lst mk_F a_nil) (nomark _))
      (s_one (s_expr (q_bm PySem.F.plainAttrs_list PySem.F.slot_list_append PySem.F.type_list_append mt_append mm_append (qv 3) (a_cons (q_bm PySem.F.plainAttrs_list PySem.F.slot_list_pop PySem.F.type_list_pop mt_popAt mm_popAt (qv 2) (a_cons (q_call sp_M rfl (okM__law_take T) (hr.mono (by decide)) (by rfl) T.m__law_take T.F__law_take.kp T.b__law_take (takes_of rfl rfl rfl rfl) (a_cons (qv 0) (a_cons (q_callB cr_len cm_len (by rfl) T.z_len bt_len (a_cons (qv 2) a_nil)) a_nil)) (aCons_len (aCons_len aNil_len))) a_nil)) a_nil)))))
      (s_cons (s_set (i := 4) S.nd rfl (by first | exact Or.inl rfl | exact Or.inr rfl) (q_lst mk_H a_nil))
      (s_cons (s_for (passes_of rfl) rfl (i_zip (by rfl) T.z_zip (a_cons (qv 3) (a_cons (q_op op_addA (om_add mk_F) (q_slice mk_F (qv 3) (o_some q_int) o_none) (q_slice mk_F (qv 3) o_none (o_some q_int))) a_nil))) (g_tup rfl (gs_cons (g_name (i := 5) S.nd rfl (by first | exact Or.inl rfl | exact Or.inr rfl)) (gs_cons (g_name (i := 6) S.nd rfl (by first | exact Or.inl rfl | exact Or.inr rfl)) gs_nil)))
      (s_one (s_if (t_cmp (op_neD hr.units) om_ne (qv 5) (qv 6) (nomark _)) (s_one (s_expr (q_bm PySem.F.plainAttrs_list PySem.F.slot_list_append PySem.F.type_list_append mt_append mm_append (qv 4) (a_cons (q_tup (a_cons (q_callB (call_min2 rfl) cm_min2 (by rfl) T.z_min bt_min (a_cons (qv 5) (a_cons (qv 6) a_nil))) (a_cons (q_callB (call_max2 rfl) cm_max2 (by rfl) T.z_max bt_max (a_cons (qv 5) (a_cons (qv 6) a_nil))) a_nil))) a_nil)))) s_nil)))
      (s_one (s_ret (qv 4))))))))
theorem okM__law_ring (T : Tops K mg a) : FnOk P w K mg base (L2.CX P w) 3 a.f__law_ring a.d__law_ring ["_law_pile_here", "_law_n"] (spM K mg 2 m__law_ring) := fn_M T.F__law_ring sc__law_ring (bd__law_ring T)
theorem okP__law_ring (T : Tops K mg a) : FnOk P w K mg base (L2.CX P w) 3 a.f__law_ring a.d__law_ring ["_law_pile_here", "_law_n"] (spP K mg 2 p__law_ring) := fn_P T.F__law_ring sc__law_ring (bd__law_ring T)
theorem bd_held_beside (T : Tops K mg a) : ∀ (cdv : Value) (A : Around) (outer : List PySem.Env) (s : Shared) (H : Hp) (E : XK), Room 3 (A.deeper (envOfC "held_beside" (defScope s_held_beside) s.heap.objs.size a.f_held_beside cdv)) →
    PSs (cxOf (L2.CX P w) P w K mg base ["web", "s", "n", "ties", "others", "table", "mask"] "held_beside" (defScope s_held_beside) a.f_held_beside cdv A outer s H E) (defBody s_held_beside) (tS (cxOf (L2.CX P w) P w K mg base ["web", "s", "n", "ties", "others", "table", "mask"] "held_beside" (defScope s_held_beside) a.f_held_beside cdv A outer s H E) (Md.WE E) b_held_beside) := fun cdv A outer s H E hr => by
  have S := sc_held_beside
  unfold b_held_beside
  exact (s_cons (s_asg (qv 0) (g_tup rfl (gs_cons (g_name (i := 2) S.nd rfl (by first | exact Or.inl rfl | exact Or.inr rfl)) (gs_cons (g_name (i := 3) S.nd rfl (by first | exact Or.inl rfl | exact Or.inr rfl)) gs_nil))))
      (s_cons (s_if (t_cmp op_lt om_lt (qv 2) q_int (nomark _)) (s_one s_never) s_nil)
      (s_cons (s_expr (q_call sp_P rfl (okP_look_at_place T) (hr.mono (by decide)) (by rfl) T.m_look_at_place T.F_look_at_place.kp T.b_look_at_place (takes_of rfl rfl rfl rfl) (a_cons (qv 2) (a_cons (qv 1) a_nil)) (aCons_len (aCons_len aNil_len))))
      (s_cons (s_set (i := 4) S.nd rfl (by first | exact Or.inl rfl | exact Or.inr rfl) (q_op op_sub om_sub (q_call sp_P rfl (okP_whole T) (hr.mono (by decide)) (by rfl) T.m_whole T.F_whole.kp T.b_whole (takes_of rfl rfl rfl rfl) (a_cons (qv 2) a_nil) (aCons_len aNil_len)) (q_op op_shl om_shl q_int (qv 1))))
      (s_cons (s_set (i := 5) S.nd rfl (by first | exact Or.inl rfl | exact Or.inr rfl) (q_call sp_P rfl (okP_outs T) (hr.mono (by decide)) (by rfl) T.m_outs T.F_outs.kp T.b_outs (takes_of rfl rfl rfl rfl) (a_cons (qv 2) (a_cons (qv 3) a_nil)) (aCons_len (aCons_len aNil_len))))
      (s_one (s_ret (q_callB (cr_min rfl) cm_min (by rfl) T.z_min bt_min (a_cons (q_lc (own := [("mask", 6)]) mk_F (gr_name (by decide)) rfl S.nd (i_range2 (by rfl) T.z_range (a_cons q_int (a_cons (qv 4) a_nil))) (blkOk_by (N := ["web", "s", "n", "ties", "others", "table", "mask"]) (sc := defScope s_held_beside) (by decide +kernel)) (fun _ _ _ _ _ => (pg_name (i := 6) S.nd rfl (Or.inl rfl))) (fun _ _ _ _ _ => (ts_one (t_not (t_val (q_call sp_P rfl (okP_has T) (hr.mono (by decide)) (by rfl) T.m_has T.F_has.kp T.b_has takes0 (a_cons (qv 6) (a_cons (qv 1) a_nil)) (aCons_len (aCons_len aNil_len))))))) (fun _ _ _ _ _ => (q_ix (qv 5) (qv 6)))) a_nil)))))))))
theorem okM_held_beside (T : Tops K mg a) : FnOk P w K mg base (L2.CX P w) 4 a.f_held_beside a.d_held_beside ["web", "s"] (spM K mg 2 m_held_beside) := fn_M T.F_held_beside sc_held_beside (bd_held_beside T)
theorem okP_held_beside (T : Tops K mg a) : FnOk P w K mg base (L2.CX P w) 4 a.f_held_beside a.d_held_beside ["web", "s"] (spP K mg 2 p_held_beside) := fn_P T.F_held_beside sc_held_beside (bd_held_beside T)
theorem bd__law_held (T : Tops K mg a) : ∀ (cdv : Value) (A : Around) (outer : List PySem.Env) (s : Shared) (H : Hp) (E : XK), Room 3 (A.deeper (envOfC "_law_held" (defScope s__law_held) s.heap.objs.size a.f__law_held cdv)) →
    PSs (cxOf (L2.CX P w) P w K mg base ["_law_pile_here", "_law_least", "_law_most", "_law_folds", "_law_many", "_law_n", "_law_ties", "_law_turn", "_law_pairs_here", "_law_at", "_law_found", "_law_k"] "_law_held" (defScope s__law_held) a.f__law_held cdv A outer s H E) (defBody s__law_held) (tS (cxOf (L2.CX P w) P w K mg base ["_law_pile_here", "_law_least", "_law_most", "_law_folds", "_law_many", "_law_n", "_law_ties", "_law_turn", "_law_pairs_here", "_law_at", "_law_found", "_law_k"] "_law_held" (defScope s__law_held) a.f__law_held cdv A outer s H E) (Md.WE E) b__law_held) := fun cdv A outer s H E hr => by
  have S := sc__law_held
  unfold b__law_held
  exact (s_cons (s_set (i := 5) S.nd rfl (by first | exact Or.inl rfl | exact Or.inr rfl) (q_op op_addA (om_add mk_F) (qv 1) (q_call sp_M rfl (okM__law_take T) (hr.mono (by decide)) (by rfl) T.m__law_take T.F__law_take.kp T.b__law_take (takes_of rfl rfl rfl rfl) (a_cons (qv 0) (a_cons (q_op op_sub om_sub (q_op op_addA (om_add mk_F) (qv 2) q_int) (qv 1)) a_nil)) (aCons_len (aCons_len aNil_len)))))
      (s_cons (s_set (i := 6) S.nd rfl (by first | exact Or.inl rfl | exact Or.inr rfl) (q_lst mk_H a_nil))
      (s_cons (s_for (passes_of rfl) rfl (i_range1 (by rfl) T.z_range (a_cons (q_call sp_M rfl (okM__law_take T) (hr.mono (by decide)) (by rfl) T.m__law_take T.F__law_take.kp T.b__law_take (takes_of rfl rfl rfl rfl) (a_cons (qv 0) (a_cons (q_op op_addA (om_add mk_F) (qv 3) q_int) a_nil)) (aCons_len (aCons_len aNil_len))) a_nil)) (g_name (i := 7) S.nd rfl (by first | exact Or.inl rfl | exact Or.inr rfl))
      (s_one (s_set (i := 6) S.nd rfl (by first | exact Or.inl rfl | exact Or.inr rfl) (q_op op_addA (om_add mk_H) (qv 6) (q_call sp_M rfl (okM__law_ring T) (hr.mono (by decide)) (by rfl) T.m__law_ring T.F__law_ring.kp T.b__law_ring (takes_of rfl rfl rfl rfl) (a_cons (qv 0) (a_cons (qv 5) a_nil)) (aCons_len (aCons_len aNil_len)))))))
      (s_cons (s_set (i := 8) S.nd rfl (by first | exact Or.inl rfl | exact Or.inr rfl) (q_call sp_P rfl (okP__law_pairs T) (hr.mono (by decide)) (by rfl) T.m__law_pairs T.F__law_pairs.kp T.b__law_pairs (takes_of rfl rfl rfl rfl) (a_cons (qv 5) a_nil) (aCons_len aNil_len)))
      (s_cons (s_if (t_cmp (op_neD hr.units) om_ne (qv 8) (q_lst mk_F a_nil) (nomark _)) (s_one (s_set (i := 6) S.nd rfl (by first | exact Or.inl rfl | exact Or.inr rfl) (q_op op_addA (om_add mk_H) (qv 6) (q_lc (own := [("_law_k", 11)]) mk_F (gr_name (by decide)) rfl S.nd (i_range1 (by rfl) T.z_range (a_cons (q_call sp_M rfl (okM__law_take T) (hr.mono (by decide)) (by rfl) T.m__law_take T.F__law_take.kp T.b__law_take (takes_of rfl rfl rfl rfl) (a_cons (qv 0) (a_cons (q_op op_addA (om_add mk_F) (qv 4) q_int) a_nil)) (aCons_len (aCons_len aNil_len))) a_nil)) (blkOk_by (N := ["_law_pile_here", "_law_least", "_law_most", "_law_folds", "_law_many", "_law_n", "_law_ties", "_law_turn", "_law_pairs_here", "_law_at", "_law_found", "_law_k"]) (sc := defScope s__law_held) (by decide +kernel)) (fun _ _ _ _ _ => (pg_name (i := 11) S.nd rfl (Or.inl rfl))) (fun _ _ _ _ _ => ts_nil) (fun _ _ _ _ _ => (q_ix (qv 8) (q_call sp_M rfl (okM__law_take T) (hr.mono (by decide)) (by rfl) T.m__law_take T.F__law_take.kp T.b__law_take takes0 (a_cons (qv 0) (a_cons (q_callB cr_len cm_len (by rfl) T.z_len bt_len (a_cons (qv 8) a_nil)) a_nil)) (aCons_len (aCons_len aNil_len))))))))) s_nil)
      (s_cons (s_for (passes_of rfl) rfl (i_range1 (by rfl) T.z_range (a_cons (q_ix (q_lst mk_F (a_cons q_int (a_cons q_int (a_cons q_int (a_cons q_int a_nil))))) (q_call sp_M rfl (okM__law_take T) (hr.mono (by decide)) (by rfl) T.m__law_take T.F__law_take.kp T.b__law_take (takes_of rfl rfl rfl rfl) (a_cons (qv 0) (a_cons q_int a_nil)) (aCons_len (aCons_len aNil_len)))) a_nil)) (g_name (i := 7) S.nd rfl (by first | exact Or.inl rfl | exact Or.inr rfl))
      (s_cons (s_set (i := 9) S.nd rfl (by first | exact Or.inl rfl | exact Or.inr rfl) (q_call sp_M rfl (okM__law_take T) (hr.mono (by decide)) (by rfl) T.m__law_take T.F__law_take.kp T.b__law_take (takes_of rfl rfl rfl rfl) (a_cons (qv 0) (a_cons (q_op op_addA (om_add mk_F) (q_callB cr_len cm_len (by rfl) T.z_len bt_len (a_cons (qv 6) a_nil)) q_int) a_nil)) (aCons_len (aCons_len aNil_len))))
      (s_one (s_set (i := 6) S.nd rfl (by first | exact Or.inl rfl | exact Or.inr rfl) (q_op op_addA (om_add mk_H) (q_slice mk_F (qv 6) o_none (o_some (qv 9))) (q_slice mk_F (qv 6) (o_some (q_op op_addA (om_add mk_F) (qv 9) q_int)) o_none))))))
      (s_cons (s_set (i := 10) S.nd rfl (by first | exact Or.inl rfl | exact Or.inr rfl) (q_lst mk_H a_nil))
      (s_cons (s_while (passes_of rfl) (t_cmp (op_neD hr.units) om_ne (qv 6) (q_lst mk_F a_nil) (nomark _))
      (s_one (s_expr (q_bm PySem.F.plainAttrs_list PySem.F.slot_list_append PySem.F.type_list_append mt_append mm_append (qv 10) (a_cons (q_bm PySem.F.plainAttrs_list PySem.F.slot_list_pop PySem.F.type_list_pop mt_popAt mm_popAt (qv 6) (a_cons (q_call sp_M rfl (okM__law_take T) (hr.mono (by decide)) (by rfl) T.m__law_take T.F__law_take.kp T.b__law_take (takes_of rfl rfl rfl rfl) (a_cons (qv 0) (a_cons (q_callB cr_len cm_len (by rfl) T.z_len bt_len (a_cons (qv 6) a_nil)) a_nil)) (aCons_len (aCons_len aNil_len))) a_nil)) a_nil)))))
      (s_one (s_ret (q_tup (a_cons (qv 5) (a_cons (q_slice mk_F (qv 10) o_none (o_some q_int)) a_nil)))))))))))))
theorem okM__law_held (T : Tops K mg a) : FnOk P w K mg base (L2.CX P w) 4 a.f__law_held a.d__law_held ["_law_pile_here", "_law_least", "_law_most", "_law_folds", "_law_many"] (spM K mg 5 m__law_held) := fn_M T.F__law_held sc__law_held (bd__law_held T)
theorem okP__law_held (T : Tops K mg a) : FnOk P w K mg base (L2.CX P w) 4 a.f__law_held a.d__law_held ["_law_pile_here", "_law_least", "_law_most", "_law_folds", "_law_many"] (spP K mg 5 p__law_held) := fn_P T.F__law_held sc__law_held (bd__law_held T)
theorem bd_law (T : Tops K mg a) : ∀ (cdv : Value) (A : Around) (outer : List PySem.Env) (s : Shared) (H : Hp) (E : XK), Room 4 (A.deeper (envOfC "law" (defScope s_law) s.heap.objs.size a.f_law cdv)) →
    PSs (cxOf (L2.CX P w) P w K mg base ["_law_script", "_law_at", "_law_pile_here", "_law_web", "_law_n", "_law_ties", "_law_handed", "_law_s", "_law_due", "_law_told", "_law_mine", "_law_pairs_here", "_law_k", "_law_tie", "_law_one", "_law_other"] "law" (defScope s_law) a.f_law cdv A outer s H E) (defBody s_law) (tS (cxOf (L2.CX P w) P w K mg base ["_law_script", "_law_at", "_law_pile_here", "_law_web", "_law_n", "_law_ties", "_law_handed", "_law_s", "_law_due", "_law_told", "_law_mine", "_law_pairs_here", "_law_k", "_law_tie", "_law_one", "_law_other"] "law" (defScope s_law) a.f_law cdv A outer s H E) (Md.WE E) b_law) := fun cdv A outer s H E hr => by
  have S := sc_law
  unfold b_law
  exact (s_cons (s_for (passes_of rfl) rfl (i_range1 (by rfl) T.z_range (a_cons q_int a_nil)) (g_name (i := 1) S.nd rfl (by first | exact Or.inl rfl | exact Or.inr rfl))
      (s_cons (s_set (i := 2) S.nd rfl (by first | exact Or.inl rfl | exact Or.inr rfl) (q_call sp_M rfl (okM__law_pile T) (hr.mono (by decide)) (by rfl) T.m__law_pile T.F__law_pile.kp T.b__law_pile (takes_of rfl rfl rfl rfl) (a_cons (qv 0) (a_cons (qv 1) a_nil)) (aCons_len (aCons_len aNil_len))))
      (s_cons (s_set (i := 3) S.nd rfl (by first | exact Or.inl rfl | exact Or.inr rfl) (q_call sp_M rfl (okM__law_held T) (hr.mono (by decide)) (by rfl) T.m__law_held T.F__law_held.kp T.b__law_held (takes_of rfl rfl rfl rfl) (a_cons (qv 2) (a_cons q_int (a_cons q_int (a_cons q_int (a_cons q_int a_nil))))) (aCons_len (aCons_len (aCons_len (aCons_len (aCons_len aNil_len)))))))
      (s_cons (s_if (t_cmp (op_eqD hr.units) om_eq (q_call sp_M rfl (okM__law_take T) (hr.mono (by decide)) (by rfl) T.m__law_take T.F__law_take.kp T.b__law_take (takes_of rfl rfl rfl rfl) (a_cons (qv 2) (a_cons q_int a_nil)) (aCons_len (aCons_len aNil_len))) q_int (nomark _)) (s_one (s_set (i := 3) S.nd rfl (by first | exact Or.inl rfl | exact Or.inr rfl) (q_tup (a_cons q_int (a_cons (q_lc (own := [("_law_k", 12)]) mk_F (gr_name (by decide)) rfl S.nd (i_range1 (by rfl) T.z_range (a_cons q_int a_nil)) (blkOk_by (N := ["_law_script", "_law_at", "_law_pile_here", "_law_web", "_law_n", "_law_ties", "_law_handed", "_law_s", "_law_due", "_law_told", "_law_mine", "_law_pairs_here", "_law_k", "_law_tie", "_law_one", "_law_other"]) (sc := defScope s_law) (by decide +kernel)) (fun _ _ _ _ _ => (pg_name (i := 12) S.nd rfl (Or.inl rfl))) (fun _ _ _ _ _ => ts_nil) (fun _ _ _ _ _ => (q_ix (q_call sp_P rfl (okP__law_pairs T) (hr.mono (by decide)) (by rfl) T.m__law_pairs T.F__law_pairs.kp T.b__law_pairs takes0 (a_cons q_int a_nil) (aCons_len aNil_len)) (q_call sp_M rfl (okM__law_take T) (hr.mono (by decide)) (by rfl) T.m__law_take T.F__law_take.kp T.b__law_take takes0 (a_cons (qv 2) (a_cons q_int a_nil)) (aCons_len (aCons_len aNil_len)))))) a_nil))))) s_nil)
      (s_cons (s_asg (qv 3) (g_tup rfl (gs_cons (g_name (i := 4) S.nd rfl (by first | exact Or.inl rfl | exact Or.inr rfl)) (gs_cons (g_name (i := 5) S.nd rfl (by first | exact Or.inl rfl | exact Or.inr rfl)) gs_nil))))
      (s_cons (s_set (i := 6) S.nd rfl (by first | exact Or.inl rfl | exact Or.inr rfl) (q_tup (a_cons (qv 4) (a_cons (q_callT call_list_of (cm_list mk_H) (by rfl) T.z_list bt_list (a_cons (qv 5) a_nil)) a_nil))))
      (s_cons (s_set (i := 7) S.nd rfl (by first | exact Or.inl rfl | exact Or.inr rfl) (q_call sp_M rfl (okM__law_take T) (hr.mono (by decide)) (by rfl) T.m__law_take T.F__law_take.kp T.b__law_take (takes_of rfl rfl rfl rfl) (a_cons (qv 2) (a_cons (qv 4) a_nil)) (aCons_len (aCons_len aNil_len))))
      (s_cons (s_set (i := 8) S.nd rfl (by first | exact Or.inl rfl | exact Or.inr rfl) (q_call sp_P rfl (okP__law_beside T) (hr.mono (by decide)) (by rfl) T.m__law_beside T.F__law_beside.kp T.b__law_beside (takes_of rfl rfl rfl rfl) (a_cons (qv 4) (a_cons (qv 5) (a_cons (qv 7) a_nil))) (aCons_len (aCons_len (aCons_len aNil_len)))))
      (s_cons (s_set (i := 9) S.nd rfl (by first | exact Or.inl rfl | exact Or.inr rfl) (q_call sp_P rfl (okP_held_beside T) (hr.mono (by decide)) (by rfl) T.m_held_beside T.F_held_beside.kp T.b_held_beside (takes_of rfl rfl rfl rfl) (a_cons (qv 6) (a_cons (qv 7) a_nil)) (aCons_len (aCons_len aNil_len))))
      (s_cons (s_if (w_or (t_cmp (op_neD hr.units) om_ne (qv 9) (qv 8) (nomark _)) (w_or (t_not (t_val (q_is_int T.z_isinstance T.z_int (qv 9)))) (w_or (t_val (q_is_bool T.z_isinstance T.z_bool (qv 9))) (w_or1 (t_cmp (op_neD hr.units) om_ne (qv 6) (qv 3) (nomark _)))))).pt (s_one (s_ret q_bl)) s_nil)
      (s_cons (s_setLc (i := 10) (own := [("_law_k", 12), ("_law_tie", 13)]) mk_F (gr_tup (grs_cons (gr_name (by decide)) (grs_cons (gr_name (by decide)) grs_nil))) rfl S.nd rfl rfl (sw_true rfl rfl rfl (by decide +kernel)) (i_enum (by rfl) T.z_enumerate (a_cons (qv 5) a_nil)) (blkOk_by (N := ["_law_script", "_law_at", "_law_pile_here", "_law_web", "_law_n", "_law_ties", "_law_handed", "_law_s", "_law_due", "_law_told", "_law_mine", "_law_pairs_here", "_law_k", "_law_tie", "_law_one", "_law_other"]) (sc := defScope s_law) (by decide +kernel)) (fun _ _ _ _ _ => (pg_tup rfl (pgs_cons (pg_name (i := 12) S.nd rfl (Or.inl rfl)) (pgs_cons (pg_name (i := 13) S.nd rfl (Or.inl rfl)) pgs_nil)))) (fun _ _ _ _ _ => (ts_one (t_cmp (op_inA (hu65 hr)) om_in (qv 7) (qv 13) (by rfl)))) (fun _ _ _ _ _ => (qv 12)))
      (s_cons (s_setLc (i := 11) (own := [("_law_one", 14), ("_law_other", 15)]) mk_F (gr_tup (grs_cons (gr_name (by decide)) (grs_cons (gr_name (by decide)) grs_nil))) rfl S.nd rfl rfl (sw_true rfl rfl rfl (by decide +kernel)) (i_zip (by rfl) T.z_zip (a_cons (q_sliceS (by decide) mk_F (qv 10) o_none o_none) (a_cons (q_sliceS (by decide) mk_F (qv 10) (o_some q_int) o_none) a_nil))) (blkOk_by (N := ["_law_script", "_law_at", "_law_pile_here", "_law_web", "_law_n", "_law_ties", "_law_handed", "_law_s", "_law_due", "_law_told", "_law_mine", "_law_pairs_here", "_law_k", "_law_tie", "_law_one", "_law_other"]) (sc := defScope s_law) (by decide +kernel)) (fun _ _ _ _ _ => (pg_tup rfl (pgs_cons (pg_name (i := 14) S.nd rfl (Or.inl rfl)) (pgs_cons (pg_name (i := 15) S.nd rfl (Or.inl rfl)) pgs_nil)))) (fun _ _ _ _ _ => (ts_one (t_cmp op_gt om_gt (q_call sp_M rfl (okM__law_take T) (hr.mono (by decide)) (by rfl) T.m__law_take T.F__law_take.kp T.b__law_take takes0 (a_cons (qv 2) (a_cons q_int a_nil)) (aCons_len (aCons_len aNil_len))) q_int (nomark _)))) (fun _ _ _ _ _ => (q_tup (a_cons (qv 14) (a_cons (qv 15) a_nil)))))
      (s_cons (s_if (t_cmp op_gt om_gt (q_call sp_P rfl (okP_held_beside T) (hr.mono (by decide)) (by rfl) T.m_held_beside T.F_held_beside.kp T.b_held_beside (takes_of rfl rfl rfl rfl) (a_cons (q_call sp_M rfl (okM_split T) (hr.mono (by decide)) (by rfl) T.m_split T.F_split.kp T.b_split (takes_of rfl rfl rfl rfl) (a_cons (qv 6) (a_cons (qv 7) (a_cons (qv 11) a_nil))) (aCons_len (aCons_len (aCons_len aNil_len)))) (a_cons (qv 7) a_nil)) (aCons_len (aCons_len aNil_len))) (qv 8) (nomark _)) (s_one (s_ret q_bl)) s_nil)
      (s_cons (s_if (t_cmp (op_eqD hr.units) om_eq (q_callB cr_len cm_len (by rfl) T.z_len bt_len (a_cons (qv 5) a_nil)) q_int (nomark _)) (s_one (s_expr (q_bm0 PySem.F.plainAttrs_list PySem.F.slot_list_pop PySem.F.type_list_pop mt_pop mm_pop (q_ix (qv 6) q_int)))) s_nil)
      (s_cons (s_set (i := 8) S.nd rfl (by first | exact Or.inl rfl | exact Or.inr rfl) (q_call sp_P rfl (okP__law_beside T) (hr.mono (by decide)) (by rfl) T.m__law_beside T.F__law_beside.kp T.b__law_beside (takes_of rfl rfl rfl rfl) (a_cons (qv 4) (a_cons (q_ix (qv 6) q_int) (a_cons (qv 7) a_nil))) (aCons_len (aCons_len (aCons_len aNil_len)))))
      (s_cons (s_expr (q_bm PySem.F.plainAttrs_list PySem.F.slot_list_append PySem.F.type_list_append mt_append mm_append (q_ix (qv 6) q_int) (a_cons (q_ix (q_call sp_P rfl (okP__law_pairs T) (hr.mono (by decide)) (by rfl) T.m__law_pairs T.F__law_pairs.kp T.b__law_pairs (takes_of rfl rfl rfl rfl) (a_cons (qv 4) a_nil) (aCons_len aNil_len)) (q_call sp_M rfl (okM__law_take T) (hr.mono (by decide)) (by rfl) T.m__law_take T.F__law_take.kp T.b__law_take (takes_of rfl rfl rfl rfl) (a_cons (qv 2) (a_cons (q_op op_fdivW om_div (q_op op_mulA (om_mul mk_F) (qv 4) (q_op op_sub om_sub (qv 4) q_int)) q_int) a_nil)) (aCons_len (aCons_len aNil_len)))) a_nil)))
      (s_one (s_if (w_or (t_cmp op_lt om_lt (q_call sp_P rfl (okP_held_beside T) (hr.mono (by decide)) (by rfl) T.m_held_beside T.F_held_beside.kp T.b_held_beside (takes_of rfl rfl rfl rfl) (a_cons (qv 6) (a_cons (qv 7) a_nil)) (aCons_len (aCons_len aNil_len))) (qv 8) (nomark _)) (w_or1 (t_cmp (op_neD hr.units) om_ne (q_call sp_P rfl (okP_held_beside T) (hr.mono (by decide)) (by rfl) T.m_held_beside T.F_held_beside.kp T.b_held_beside (takes_of rfl rfl rfl rfl) (a_cons (qv 6) (a_cons (qv 7) a_nil)) (aCons_len (aCons_len aNil_len))) (q_call sp_P rfl (okP__law_beside T) (hr.mono (by decide)) (by rfl) T.m__law_beside T.F__law_beside.kp T.b__law_beside (takes_of rfl rfl rfl rfl) (a_cons (qv 4) (a_cons (q_ix (qv 6) q_int) (a_cons (qv 7) a_nil))) (aCons_len (aCons_len (aCons_len aNil_len)))) (nomark _)))).pt (s_one (s_ret q_bl)) s_nil))))))))))))))))))
      (s_one (s_ret q_bl)))
theorem okM_law (T : Tops K mg a) : FnOk P w K mg base (L2.CX P w) 5 a.f_law a.d_law ["_law_script"] (spM K mg 1 m_law) := fn_M T.F_law sc_law (bd_law T)
theorem okP_law (T : Tops K mg a) : FnOk P w K mg base (L2.CX P w) 5 a.f_law a.d_law ["_law_script"] (spP K mg 1 p_law) := fn_P T.F_law sc_law (bd_law T)
end
end Lw

/-! The end: the row from the law's run (printed by gen.py). -/
namespace Lw
open PySem PySem.Spec PyProof.Rows L2 Md
def spLaw (K : PySem.W.Frag) : Sp := fun vs H Q _ => ∃ (a : Addr) (ns : List Int), vs = [.ref a] ∧ SqL K H a (ns.map V.int) ∧ ns.length ≤ 63 ∧ ∀ H', Q (.bl true) H'

theorem all_mk {P : Program} {w : World} {K : PySem.W.Frag} {h : Heap} {mg : Str → Option Value} {fa : Addr} (X : K.In h) (G : h.Ns mainGlobals mg) (hfa : mg "law" = some (.ref fa))
    {od1 an1 : Option Addr} {sl1 : Array (Option Value)} {oc1 kV1 dc1 pm1 cd1 ct1 : Value} {f1 : Addr}
    {od2 an2 : Option Addr} {sl2 : Array (Option Value)} {oc2 kV2 dc2 pm2 cd2 ct2 : Value} {f2 : Addr}
    {od3 an3 : Option Addr} {sl3 : Array (Option Value)} {oc3 kV3 dc3 pm3 cd3 ct3 : Value} {f3 : Addr}
    {od4 an4 : Option Addr} {sl4 : Array (Option Value)} {oc4 kV4 dc4 pm4 cd4 ct4 : Value} {f4 : Addr}
    {od5 an5 : Option Addr} {sl5 : Array (Option Value)} {oc5 kV5 dc5 pm5 cd5 ct5 : Value} {f5 : Addr}
    {od6 an6 : Option Addr} {sl6 : Array (Option Value)} {oc6 kV6 dc6 pm6 cd6 ct6 : Value} {f6 : Addr}
    {od7 an7 : Option Addr} {sl7 : Array (Option Value)} {oc7 kV7 dc7 pm7 cd7 ct7 : Value} {f7 : Addr}
    {od8 an8 : Option Addr} {sl8 : Array (Option Value)} {oc8 kV8 dc8 pm8 cd8 ct8 : Value} {f8 : Addr}
    {od9 an9 : Option Addr} {sl9 : Array (Option Value)} {oc9 kV9 dc9 pm9 cd9 ct9 : Value} {f9 : Addr}
    {od10 an10 : Option Addr} {sl10 : Array (Option Value)} {oc10 kV10 dc10 pm10 cd10 ct10 : Value} {f10 : Addr}
    {od11 an11 : Option Addr} {sl11 : Array (Option Value)} {oc11 kV11 dc11 pm11 cd11 ct11 : Value} {f11 : Addr}
    {od12 an12 : Option Addr} {sl12 : Array (Option Value)} {oc12 kV12 dc12 pm12 cd12 ct12 : Value} {f12 : Addr}
    {od13 an13 : Option Addr} {sl13 : Array (Option Value)} {oc13 kV13 dc13 pm13 cd13 ct13 : Value} {f13 : Addr}
    {od14 an14 : Option Addr} {sl14 : Array (Option Value)} {oc14 kV14 dc14 pm14 cd14 ct14 : Value} {f14 : Addr}
    {od15 an15 : Option Addr} {sl15 : Array (Option Value)} {oc15 kV15 dc15 pm15 cd15 ct15 : Value} {f15 : Addr}
    {od16 an16 : Option Addr} {sl16 : Array (Option Value)} {oc16 kV16 dc16 pm16 cd16 ct16 : Value} {f16 : Addr}
    (a1 : PySem.W.nsIn K mainGlobals "has" = some (some (.ref f1))) (l1 : K.lookup f1 = some ⟨oc1, od1, .func (PySem.W.fnOf "has" "has" (defArgs s_has) (defBody s_has) (defScope s_has) .none kV1 dc1 pm1 an1 cd1 ct1), sl1⟩) (c1 : PySem.W.codeIn K cd1 "has" = true) (k1 : PySem.W.keepIn K (.ref f1) = true)
    (a2 : PySem.W.nsIn K mainGlobals "lot_of" = some (some (.ref f2))) (l2 : K.lookup f2 = some ⟨oc2, od2, .func (PySem.W.fnOf "lot_of" "lot_of" (defArgs s_lot_of) (defBody s_lot_of) (defScope s_lot_of) .none kV2 dc2 pm2 an2 cd2 ct2), sl2⟩) (c2 : PySem.W.codeIn K cd2 "lot_of" = true) (k2 : PySem.W.keepIn K (.ref f2) = true)
    (a3 : PySem.W.nsIn K mainGlobals "whole" = some (some (.ref f3))) (l3 : K.lookup f3 = some ⟨oc3, od3, .func (PySem.W.fnOf "whole" "whole" (defArgs s_whole) (defBody s_whole) (defScope s_whole) .none kV3 dc3 pm3 an3 cd3 ct3), sl3⟩) (c3 : PySem.W.codeIn K cd3 "whole" = true) (k3 : PySem.W.keepIn K (.ref f3) = true)
    (a4 : PySem.W.nsIn K mainGlobals "outs" = some (some (.ref f4))) (l4 : K.lookup f4 = some ⟨oc4, od4, .func (PySem.W.fnOf "outs" "outs" (defArgs s_outs) (defBody s_outs) (defScope s_outs) .none kV4 dc4 pm4 an4 cd4 ct4), sl4⟩) (c4 : PySem.W.codeIn K cd4 "outs" = true) (k4 : PySem.W.keepIn K (.ref f4) = true)
    (a5 : PySem.W.nsIn K mainGlobals "other_end" = some (some (.ref f5))) (l5 : K.lookup f5 = some ⟨oc5, od5, .func (PySem.W.fnOf "other_end" "other_end" (defArgs s_other_end) (defBody s_other_end) (defScope s_other_end) .none kV5 dc5 pm5 an5 cd5 ct5), sl5⟩) (c5 : PySem.W.codeIn K cd5 "other_end" = true) (k5 : PySem.W.keepIn K (.ref f5) = true)
    (a6 : PySem.W.nsIn K mainGlobals "look_at_place" = some (some (.ref f6))) (l6 : K.lookup f6 = some ⟨oc6, od6, .func (PySem.W.fnOf "look_at_place" "look_at_place" (defArgs s_look_at_place) (defBody s_look_at_place) (defScope s_look_at_place) .none kV6 dc6 pm6 an6 cd6 ct6), sl6⟩) (c6 : PySem.W.codeIn K cd6 "look_at_place" = true) (k6 : PySem.W.keepIn K (.ref f6) = true)
    (a7 : PySem.W.nsIn K mainGlobals "split" = some (some (.ref f7))) (l7 : K.lookup f7 = some ⟨oc7, od7, .func (PySem.W.fnOf "split" "split" (defArgs s_split) (defBody s_split) (defScope s_split) .none kV7 dc7 pm7 an7 cd7 ct7), sl7⟩) (c7 : PySem.W.codeIn K cd7 "split" = true) (k7 : PySem.W.keepIn K (.ref f7) = true)
    (a8 : PySem.W.nsIn K mainGlobals "held_beside" = some (some (.ref f8))) (l8 : K.lookup f8 = some ⟨oc8, od8, .func (PySem.W.fnOf "held_beside" "held_beside" (defArgs s_held_beside) (defBody s_held_beside) (defScope s_held_beside) .none kV8 dc8 pm8 an8 cd8 ct8), sl8⟩) (c8 : PySem.W.codeIn K cd8 "held_beside" = true) (k8 : PySem.W.keepIn K (.ref f8) = true)
    (a9 : PySem.W.nsIn K mainGlobals "_law_mixed" = some (some (.ref f9))) (l9 : K.lookup f9 = some ⟨oc9, od9, .func (PySem.W.fnOf "_law_mixed" "_law_mixed" (defArgs s__law_mixed) (defBody s__law_mixed) (defScope s__law_mixed) .none kV9 dc9 pm9 an9 cd9 ct9), sl9⟩) (c9 : PySem.W.codeIn K cd9 "_law_mixed" = true) (k9 : PySem.W.keepIn K (.ref f9) = true)
    (a10 : PySem.W.nsIn K mainGlobals "_law_pile" = some (some (.ref f10))) (l10 : K.lookup f10 = some ⟨oc10, od10, .func (PySem.W.fnOf "_law_pile" "_law_pile" (defArgs s__law_pile) (defBody s__law_pile) (defScope s__law_pile) .none kV10 dc10 pm10 an10 cd10 ct10), sl10⟩) (c10 : PySem.W.codeIn K cd10 "_law_pile" = true) (k10 : PySem.W.keepIn K (.ref f10) = true)
    (a11 : PySem.W.nsIn K mainGlobals "_law_take" = some (some (.ref f11))) (l11 : K.lookup f11 = some ⟨oc11, od11, .func (PySem.W.fnOf "_law_take" "_law_take" (defArgs s__law_take) (defBody s__law_take) (defScope s__law_take) .none kV11 dc11 pm11 an11 cd11 ct11), sl11⟩) (c11 : PySem.W.codeIn K cd11 "_law_take" = true) (k11 : PySem.W.keepIn K (.ref f11) = true)
    (a12 : PySem.W.nsIn K mainGlobals "_law_pairs" = some (some (.ref f12))) (l12 : K.lookup f12 = some ⟨oc12, od12, .func (PySem.W.fnOf "_law_pairs" "_law_pairs" (defArgs s__law_pairs) (defBody s__law_pairs) (defScope s__law_pairs) .none kV12 dc12 pm12 an12 cd12 ct12), sl12⟩) (c12 : PySem.W.codeIn K cd12 "_law_pairs" = true) (k12 : PySem.W.keepIn K (.ref f12) = true)
    (a13 : PySem.W.nsIn K mainGlobals "_law_ring" = some (some (.ref f13))) (l13 : K.lookup f13 = some ⟨oc13, od13, .func (PySem.W.fnOf "_law_ring" "_law_ring" (defArgs s__law_ring) (defBody s__law_ring) (defScope s__law_ring) .none kV13 dc13 pm13 an13 cd13 ct13), sl13⟩) (c13 : PySem.W.codeIn K cd13 "_law_ring" = true) (k13 : PySem.W.keepIn K (.ref f13) = true)
    (a14 : PySem.W.nsIn K mainGlobals "_law_held" = some (some (.ref f14))) (l14 : K.lookup f14 = some ⟨oc14, od14, .func (PySem.W.fnOf "_law_held" "_law_held" (defArgs s__law_held) (defBody s__law_held) (defScope s__law_held) .none kV14 dc14 pm14 an14 cd14 ct14), sl14⟩) (c14 : PySem.W.codeIn K cd14 "_law_held" = true) (k14 : PySem.W.keepIn K (.ref f14) = true)
    (a15 : PySem.W.nsIn K mainGlobals "_law_beside" = some (some (.ref f15))) (l15 : K.lookup f15 = some ⟨oc15, od15, .func (PySem.W.fnOf "_law_beside" "_law_beside" (defArgs s__law_beside) (defBody s__law_beside) (defScope s__law_beside) .none kV15 dc15 pm15 an15 cd15 ct15), sl15⟩) (c15 : PySem.W.codeIn K cd15 "_law_beside" = true) (k15 : PySem.W.keepIn K (.ref f15) = true)
    (a16 : PySem.W.nsIn K mainGlobals "law" = some (some (.ref f16))) (l16 : K.lookup f16 = some ⟨oc16, od16, .func (PySem.W.fnOf "law" "law" (defArgs s_law) (defBody s_law) (defScope s_law) .none kV16 dc16 pm16 an16 cd16 ct16), sl16⟩) (c16 : PySem.W.codeIn K cd16 "law" = true) (k16 : PySem.W.keepIn K (.ref f16) = true)
    (z1 : PySem.W.nsIn K mainGlobals "abs" = some none)
    (z2 : PySem.W.nsIn K mainGlobals "bool" = some none)
    (z3 : PySem.W.nsIn K mainGlobals "enumerate" = some none)
    (z4 : PySem.W.nsIn K mainGlobals "int" = some none)
    (z5 : PySem.W.nsIn K mainGlobals "isinstance" = some none)
    (z6 : PySem.W.nsIn K mainGlobals "len" = some none)
    (z7 : PySem.W.nsIn K mainGlobals "list" = some none)
    (z8 : PySem.W.nsIn K mainGlobals "max" = some none)
    (z9 : PySem.W.nsIn K mainGlobals "min" = some none)
    (z10 : PySem.W.nsIn K mainGlobals "range" = some none)
    (z11 : PySem.W.nsIn K mainGlobals "sum" = some none)
    (z12 : PySem.W.nsIn K mainGlobals "zip" = some none) :
    ∃ fd : FuncData, (∀ (s : Shared) (v : Value), BindsTo s fd ⟨[v], []⟩ [("_law_script", v)]) ∧ ∀ base : Heap, K.In base → base.Ns mainGlobals mg → FnOk P w K mg base (L2.CX P w) 5 fa fd ["_law_script"] (spLaw K) := by
  have e := hfa.symm.trans (PySem.W.mg_of X G a16)
  cases e
  have F1 := fun_mk (st := s_has) l1 c1 k1
  have b1 := F1.binds (ps := ["mask", "place"]) fun _ _ _ _ _ _ us hl => match us, hl with | [_, _], _ => rfl
  have F2 := fun_mk (st := s_lot_of) l2 c2 k2
  have b2 := F2.binds (ps := ["mask", "n"]) fun _ _ _ _ _ _ us hl => match us, hl with | [_, _], _ => rfl
  have F3 := fun_mk (st := s_whole) l3 c3 k3
  have b3 := F3.binds (ps := ["n"]) fun _ _ _ _ _ _ us hl => match us, hl with | [_], _ => rfl
  have F4 := fun_mk (st := s_outs) l4 c4 k4
  have b4 := F4.binds (ps := ["n", "ties"]) fun _ _ _ _ _ _ us hl => match us, hl with | [_, _], _ => rfl
  have F5 := fun_mk (st := s_other_end) l5 c5 k5
  have b5 := F5.binds (ps := ["tie", "s"]) fun _ _ _ _ _ _ us hl => match us, hl with | [_, _], _ => rfl
  have F6 := fun_mk (st := s_look_at_place) l6 c6 k6
  have b6 := F6.binds (ps := ["n", "s"]) fun _ _ _ _ _ _ us hl => match us, hl with | [_, _], _ => rfl
  have F7 := fun_mk (st := s_split) l7 c7 k7
  have b7 := F7.binds (ps := ["web", "s", "pairs"]) fun _ _ _ _ _ _ us hl => match us, hl with | [_, _, _], _ => rfl
  have F8 := fun_mk (st := s_held_beside) l8 c8 k8
  have b8 := F8.binds (ps := ["web", "s"]) fun _ _ _ _ _ _ us hl => match us, hl with | [_, _], _ => rfl
  have F9 := fun_mk (st := s__law_mixed) l9 c9 k9
  have b9 := F9.binds (ps := ["_law_cell", "_law_k"]) fun _ _ _ _ _ _ us hl => match us, hl with | [_, _], _ => rfl
  have F10 := fun_mk (st := s__law_pile) l10 c10 k10
  have b10 := F10.binds (ps := ["_law_script", "_law_k"]) fun _ _ _ _ _ _ us hl => match us, hl with | [_, _], _ => rfl
  have F11 := fun_mk (st := s__law_take) l11 c11 k11
  have b11 := F11.binds (ps := ["_law_pile_here", "_law_many"]) fun _ _ _ _ _ _ us hl => match us, hl with | [_, _], _ => rfl
  have F12 := fun_mk (st := s__law_pairs) l12 c12 k12
  have b12 := F12.binds (ps := ["_law_n"]) fun _ _ _ _ _ _ us hl => match us, hl with | [_], _ => rfl
  have F13 := fun_mk (st := s__law_ring) l13 c13 k13
  have b13 := F13.binds (ps := ["_law_pile_here", "_law_n"]) fun _ _ _ _ _ _ us hl => match us, hl with | [_, _], _ => rfl
  have F14 := fun_mk (st := s__law_held) l14 c14 k14
  have b14 := F14.binds (ps := ["_law_pile_here", "_law_least", "_law_most", "_law_folds", "_law_many"]) fun _ _ _ _ _ _ us hl => match us, hl with | [_, _, _, _, _], _ => rfl
  have F15 := fun_mk (st := s__law_beside) l15 c15 k15
  have b15 := F15.binds (ps := ["_law_n", "_law_ties", "_law_s"]) fun _ _ _ _ _ _ us hl => match us, hl with | [_, _, _], _ => rfl
  have F16 := fun_mk (st := s_law) l16 c16 k16
  have b16 := F16.binds (ps := ["_law_script"]) fun _ _ _ _ _ _ us hl => match us, hl with | [_], _ => rfl
  have T : Tops K mg ⟨f1, _, f2, _, f3, _, f4, _, f5, _, f6, _, f7, _, f8, _, f9, _, f10, _, f11, _, f12, _, f13, _, f14, _, f15, _, fa, _⟩ := ⟨F1, PySem.W.mg_of X G a1, b1, F2, PySem.W.mg_of X G a2, b2, F3, PySem.W.mg_of X G a3, b3, F4, PySem.W.mg_of X G a4, b4, F5, PySem.W.mg_of X G a5, b5, F6, PySem.W.mg_of X G a6, b6, F7, PySem.W.mg_of X G a7, b7, F8, PySem.W.mg_of X G a8, b8, F9, PySem.W.mg_of X G a9, b9, F10, PySem.W.mg_of X G a10, b10, F11, PySem.W.mg_of X G a11, b11, F12, PySem.W.mg_of X G a12, b12, F13, PySem.W.mg_of X G a13, b13, F14, PySem.W.mg_of X G a14, b14, F15, PySem.W.mg_of X G a15, b15, F16, PySem.W.mg_of X G a16, b16, PySem.W.mg_none_of X G z1, PySem.W.mg_none_of X G z2, PySem.W.mg_none_of X G z3, PySem.W.mg_none_of X G z4, PySem.W.mg_none_of X G z5, PySem.W.mg_none_of X G z6, PySem.W.mg_none_of X G z7, PySem.W.mg_none_of X G z8, PySem.W.mg_none_of X G z9, PySem.W.mg_none_of X G z10, PySem.W.mg_none_of X G z11, PySem.W.mg_none_of X G z12⟩
  refine ⟨_, fun s v => .of_eq rfl, fun base _ _ => (okP_law T).imp fun vs H Q E hs => ?_⟩
  obtain ⟨a, ns, rfl, hS, h63, q⟩ := hs
  refine ⟨rfl, H, [.scr ns], Same.refl H, ⟨.ref a, [], rfl, ⟨a, rfl, hS⟩, rfl⟩, ?_⟩
  rw [law_true ns h63]
  intro G' H' v _ _ _ _ rv
  rw [show v = V.bl true from rv]
  exact q H'
end Lw
open PySem PySem.W PyProof.Rows
set_option maxHeartbeats 0 in
theorem PySem.Challenge.cw_holdfast_k18_held_beside_holds : PySem.Challenge.rw_holdfast_k18_held_beside.Holds := by
  w_on; o_law; k_head; (case hw => w_witness2)
  k_fill
  refine L2.walk_of (l := PySem.Challenge.rw_holdfast_k18_held_beside) (n := 63) (k := 5) (x := "_law_script") (CX := fun w => L2.CX PySem.Challenge.rw_holdfast_k18_held_beside.prog w) (sp := fun w => Lw.spLaw _) rfl (by decide) rfl ⟨rfl, by decide, by decide⟩ (fun w h Y => PySem.W.kIn_of Y) ?F (fun _ _ a ns hl _ hS => ⟨a, ns, rfl, hS, hl, fun _ => rfl⟩) (fun _ _ _ _ _ hx => by obtain ⟨_, _, _, _, _, _, _, _, _, _, _, _, z⟩ := hx; exact z)
  case F =>
    intro w mg fa h KX G hmg
    refine' Lw.all_mk KX G hmg ?a1 ?l1 ?c1 ?k1 ?a2 ?l2 ?c2 ?k2 ?a3 ?l3 ?c3 ?k3 ?a4 ?l4 ?c4 ?k4 ?a5 ?l5 ?c5 ?k5 ?a6 ?l6 ?c6 ?k6 ?a7 ?l7 ?c7 ?k7 ?a8 ?l8 ?c8 ?k8 ?a9 ?l9 ?c9 ?k9 ?a10 ?l10 ?c10 ?k10 ?a11 ?l11 ?c11 ?k11 ?a12 ?l12 ?c12 ?k12 ?a13 ?l13 ?c13 ?k13 ?a14 ?l14 ?c14 ?k14 ?a15 ?l15 ?c15 ?k15 ?a16 ?l16 ?c16 ?k16 ?z1 ?z2 ?z3 ?z4 ?z5 ?z6 ?z7 ?z8 ?z9 ?z10 ?z11 ?z12
    (case a1 => k_is); (case l1 => k_is); (case c1 => k_is); (case k1 => k_is); (case a2 => k_is); (case l2 => k_is); (case c2 => k_is); (case k2 => k_is); (case a3 => k_is); (case l3 => k_is); (case c3 => k_is); (case k3 => k_is); (case a4 => k_is); (case l4 => k_is); (case c4 => k_is); (case k4 => k_is); (case a5 => k_is); (case l5 => k_is); (case c5 => k_is); (case k5 => k_is); (case a6 => k_is); (case l6 => k_is); (case c6 => k_is); (case k6 => k_is); (case a7 => k_is); (case l7 => k_is); (case c7 => k_is); (case k7 => k_is); (case a8 => k_is); (case l8 => k_is); (case c8 => k_is); (case k8 => k_is); (case a9 => k_is); (case l9 => k_is); (case c9 => k_is); (case k9 => k_is); (case a10 => k_is); (case l10 => k_is); (case c10 => k_is); (case k10 => k_is); (case a11 => k_is); (case l11 => k_is); (case c11 => k_is); (case k11 => k_is); (case a12 => k_is); (case l12 => k_is); (case c12 => k_is); (case k12 => k_is); (case a13 => k_is); (case l13 => k_is); (case c13 => k_is); (case k13 => k_is); (case a14 => k_is); (case l14 => k_is); (case c14 => k_is); (case k14 => k_is); (case a15 => k_is); (case l15 => k_is); (case c15 => k_is); (case k15 => k_is); (case a16 => k_is); (case l16 => k_is); (case c16 => k_is); (case k16 => k_is); (case z1 => k_is); (case z2 => k_is); (case z3 => k_is); (case z4 => k_is); (case z5 => k_is); (case z6 => k_is); (case z7 => k_is); (case z8 => k_is); (case z9 => k_is); (case z10 => k_is); (case z11 => k_is); (case z12 => k_is)

