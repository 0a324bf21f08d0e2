import PyProof.Rows.All
import Wide.All
import OpenK.AllK
import Wide.FinOn
import PySem.Challenge.RW_nearerstill_k05_whole_fractions_planted
import HandS.ForMost
import HandS.ForExc
import HandS.Wide
import HandS.Lambda
import HandS.EndTab
import HandS.IsInst
import HandS.Style
import HandS.CallSlots
import HandS.Defaults
import KE.KExcSuper
import HandS.ExcSuper
import KE.KExcIs
import PyProof.ReprLen
set_option Elab.async false
set_option linter.all false
section
set_option maxRecDepth 100000
set_option maxHeartbeats 4000000
namespace J
open PySem PySem.Spec PyProof.Rows L2

/-! ### values as trees -/
inductive D where
  | non | bl (b : Bool) | int (i : Int) | str (x : Str) | lst (l : List D) | lok (l : List D) | tup (l : List D) | dic (ks : List Key) (vs : List D) | ref (a : Addr) | exc (C : Addr) (d : D)

/-- an exception object of the class at C, its own dict at dx -/
def ExV (C dx a : Addr) : HO := .ext fun h => ∃ (oe : Obj) (vs : Array Value), h.get? a = some oe ∧ Zc (.ref C) (some dx) oe ∧ oe.data = .fields vs

mutual
def Rep (K : PySem.W.Frag) (F : Hp) : D → V → Prop
  | .non, v => v = .non
  | .bl b, v => v = .bl b
  | .int i, v => v = .int i
  | .str x, v => v = .str x
  | .lst l, v => ∃ a xs, v = .ref a ∧ F a = some (.lst xs) ∧ RepL K F l xs
  | .lok l, v => ∃ a xs, v = .ref a ∧ SqL K F a xs ∧ RepL K F l xs
  | .tup l, v => ∃ a xs, v = .ref a ∧ SqT K F a xs ∧ RepL K F l xs
  | .dic ks vs, v => ∃ a xs, v = .ref a ∧ F a = some (.dK (ks.zip xs)) ∧ RepL K F vs xs
  | .ref a, v => v = .ref a
  | .exc C d, v => ∃ a dx x, v = .ref a ∧ F a = some (ExV C dx a) ∧ F dx = some (.xd [(("value" : Str), x)]) ∧ Rep K F d x
def RepL (K : PySem.W.Frag) (F : Hp) : List D → List V → Prop
  | [], xs => xs = []
  | d :: l, xs => ∃ x r, xs = x :: r ∧ Rep K F d x ∧ RepL K F l r
end

theorem Same.sqt {K : PySem.W.Frag} {H H' : Hp} {a : Addr} {xs : List V} (e : Same H H') (h : SqT K H a xs) : SqT K H' a xs := by
  rcases h with (h | ⟨o, h⟩) | h
  · exact .inl (.inl (e _ _ h))
  · exact .inl (.inr ⟨o, e _ _ h⟩)
  · exact .inr h
mutual
theorem Rep.mono {K : PySem.W.Frag} {F F' : Hp} (s : Same F F') : ∀ {d : D} {v : V}, Rep K F d v → Rep K F' d v
  | .non, _, h => h
  | .bl _, _, h => h
  | .int _, _, h => h
  | .str _, _, h => h
  | .lst l, v, h => by
    obtain ⟨a, xs, e, h1, h2⟩ := h
    exact ⟨a, xs, e, s _ _ h1, RepL.mono s h2⟩
  | .lok l, v, h => by
    obtain ⟨a, xs, e, h1, h2⟩ := h
    exact ⟨a, xs, e, s.seq h1, RepL.mono s h2⟩
  | .tup l, v, h => by
    obtain ⟨a, xs, e, h1, h2⟩ := h
    exact ⟨a, xs, e, Same.sqt s h1, RepL.mono s h2⟩
  | .dic ks vs, v, h => by
    obtain ⟨a, xs, e, h1, h2⟩ := h
    exact ⟨a, xs, e, s _ _ h1, RepL.mono s h2⟩
  | .ref _, _, h => h
  | .exc C d, v, h => by
    obtain ⟨a, dx, x, e, h1, h2, h3⟩ := h
    exact ⟨a, dx, x, e, s _ _ h1, s _ _ h2, Rep.mono s h3⟩
theorem RepL.mono {K : PySem.W.Frag} {F F' : Hp} (s : Same F F') : ∀ {l : List D} {xs : List V}, RepL K F l xs → RepL K F' l xs
  | [], _, h => h
  | d :: l, xs, h => by
    obtain ⟨x, r, e, h1, h2⟩ := h
    exact ⟨x, r, e, Rep.mono s h1, RepL.mono s h2⟩
end
theorem RepL.length {K : PySem.W.Frag} {F : Hp} : ∀ {l : List D} {xs : List V}, RepL K F l xs → xs.length = l.length
  | [], _, h => by
    have h : _ = [] := h
    rw [h]
    rfl
  | d :: l, xs, h => by
    obtain ⟨x, r, e, _, h2⟩ := h
    rw [e, List.length_cons, List.length_cons, RepL.length h2]
theorem RepL.get {K : PySem.W.Frag} {F : Hp} : ∀ {l : List D} {xs : List V} {i : Nat} {d : D}, RepL K F l xs → l[i]? = some d → ∃ x, xs[i]? = some x ∧ Rep K F d x
  | [], _, _, _, _, e => by simp at e
  | d :: l, xs, 0, d', h, e => by
    obtain ⟨x, r, e2, h1, _⟩ := h
    have e : d = d' := by simpa using e
    subst e
    exact ⟨x, by rw [e2]; rfl, h1⟩
  | d :: l, xs, i + 1, d', h, e => by
    obtain ⟨x, r, e2, _, h2⟩ := h
    obtain ⟨y, q1, q2⟩ := RepL.get (i := i) (d := d') h2 (by simpa using e)
    exact ⟨y, by rw [e2]; simpa using q1, q2⟩
theorem RepL.get' {K : PySem.W.Frag} {F : Hp} {l : List D} {xs : List V} {i : Nat} {x : V} (h : RepL K F l xs) (e : xs[i]? = some x) : ∃ d, l[i]? = some d ∧ Rep K F d x := by
  have hl := h.length
  have hi : i < l.length := by
    obtain ⟨q, _⟩ := List.getElem?_eq_some_iff.mp e
    omega
  obtain ⟨y, q1, q2⟩ := h.get (List.getElem?_eq_getElem hi)
  rw [e] at q1
  cases q1
  exact ⟨_, List.getElem?_eq_getElem hi, q2⟩
theorem RepL.append {K : PySem.W.Frag} {F : Hp} : ∀ {l l' : List D} {xs ys : List V}, RepL K F l xs → RepL K F l' ys → RepL K F (l ++ l') (xs ++ ys)
  | [], _, _, _, h, h' => by
    have h : _ = [] := h
    rw [h]
    exact h'
  | d :: l, _, xs, _, h, h' => by
    obtain ⟨x, r, e, h1, h2⟩ := h
    rw [e]
    exact ⟨x, _, rfl, h1, RepL.append h2 h'⟩
theorem RepL.one {K : PySem.W.Frag} {F : Hp} {d : D} {x : V} (h : Rep K F d x) : RepL K F [d] [x] := ⟨x, [], rfl, h, rfl⟩
theorem RepL.set {K : PySem.W.Frag} {F : Hp} {d : D} {x : V} (q : Rep K F d x) : ∀ {l : List D} {xs : List V} (i : Nat), RepL K F l xs → RepL K F (l.set i d) (xs.set i x)
  | [], _, _, h => by
    have h : _ = [] := h
    rw [h]
    exact rfl
  | c :: l, xs, 0, h => by
    obtain ⟨y, r, e, _, h2⟩ := h
    rw [e]
    exact ⟨x, r, rfl, q, h2⟩
  | c :: l, xs, i + 1, h => by
    obtain ⟨y, r, e, h1, h2⟩ := h
    rw [e]
    exact ⟨y, _, rfl, h1, RepL.set q i h2⟩
theorem RepL.drop {K : PySem.W.Frag} {F : Hp} : ∀ {l : List D} {xs : List V} (n : Nat), RepL K F l xs → RepL K F (l.drop n) (xs.drop n)
  | _, _, 0, h => by
    rw [List.drop_zero, List.drop_zero]
    exact h
  | [], _, n + 1, h => by
    have h : _ = [] := h
    rw [h]
    exact rfl
  | d :: l, _, n + 1, h => by
    obtain ⟨x, r, e, _, h2⟩ := h
    rw [e, List.drop_succ_cons, List.drop_succ_cons]
    exact RepL.drop n h2
theorem RepL.take {K : PySem.W.Frag} {F : Hp} : ∀ {l : List D} {xs : List V} (n : Nat), RepL K F l xs → RepL K F (l.take n) (xs.take n)
  | _, _, 0, h => by
    rw [List.take_zero, List.take_zero]
    exact rfl
  | [], _, n + 1, h => by
    have h : _ = [] := h
    rw [h]
    exact rfl
  | d :: l, _, n + 1, h => by
    obtain ⟨x, r, e, h1, h2⟩ := h
    rw [e]
    exact ⟨x, _, rfl, h1, RepL.take n h2⟩
theorem RepL.reverse {K : PySem.W.Frag} {F : Hp} : ∀ {l : List D} {xs : List V}, RepL K F l xs → RepL K F l.reverse xs.reverse
  | [], _, h => by
    have h : _ = [] := h
    rw [h]
    exact rfl
  | d :: l, _, h => by
    obtain ⟨x, r, e, h1, h2⟩ := h
    rw [e, List.reverse_cons, List.reverse_cons]
    exact (RepL.reverse h2).append (.one h1)
theorem RepL.eraseIdx {K : PySem.W.Frag} {F : Hp} : ∀ {l : List D} {xs : List V} (i : Nat), RepL K F l xs → RepL K F (l.eraseIdx i) (xs.eraseIdx i)
  | [], _, _, h => by
    have h : _ = [] := h
    rw [h]
    exact rfl
  | d :: l, _, 0, h => by
    obtain ⟨x, r, e, h1, h2⟩ := h
    rw [e]
    exact h2
  | d :: l, _, i + 1, h => by
    obtain ⟨x, r, e, h1, h2⟩ := h
    rw [e]
    exact ⟨x, _, rfl, h1, RepL.eraseIdx i h2⟩
theorem RepL.ints {K : PySem.W.Frag} {F : Hp} : ∀ {ns : List Int} {xs : List V}, RepL K F (ns.map D.int) xs → xs = ns.map V.int
  | [], _, h => h
  | n :: ns, xs, h => by
    obtain ⟨x, r, e, h1, h2⟩ := h
    have h1 : x = V.int n := h1
    rw [e, h1, RepL.ints h2]
    rfl
theorem RepL.ofInts {K : PySem.W.Frag} {F : Hp} : ∀ (ns : List Int), RepL K F (ns.map D.int) (ns.map V.int)
  | [] => rfl
  | n :: ns => ⟨_, _, rfl, rfl, RepL.ofInts ns⟩

/-! ### slots, the state -/
inductive Sl where
  | no | val (d : D) | own (a : Addr) (l : List D)

structure JC where
  F0 : Hp
  H0 : Hp
  W : Addr → Prop
  T : List (Addr × Str)

/-- from (F0, H0) to (F, H): F frozen, H what stands; W may be written -/
structure JX (c : JC) (F H : Hp) : Prop where
  ff : Same c.F0 F
  fh : Same F H
  hh : ∀ a o, c.H0 a = some o → ¬ c.W a → (∀ ps, o ≠ .tbl ps) → H a = some o
  dm : ∀ a, c.H0 a ≠ none → H a ≠ none
  nf : ∀ a, c.H0 a ≠ none → c.F0 a = none → F a = none
  tab : LamX.Tabs c.T H
  tabF : ∀ p ∈ c.T, F p.1 = none
  sys : ∃ φ, H sysModules = some (.ext φ)
  tb : ∀ a ps, H a = some (.tbl ps) → ∃ q, (a, q) ∈ c.T

structure JI (K : PySem.W.Frag) (c : JC) (F H : Hp) (σ : L2.St) (G : List Sl) : Prop where
  jx : JX c F H
  len : σ.length = G.length
  val : ∀ (i : Nat) d, G[i]? = some (Sl.val d) → ∃ v, σ[i]? = some (some v) ∧ Rep K F d v
  own : ∀ (i : Nat) a l, G[i]? = some (Sl.own a l) → σ[i]? = some (some (.ref a)) ∧ F a = none ∧ (c.W a ∨ c.H0 a = none) ∧ ∃ xs, H a = some (.lst xs) ∧ RepL K F l xs
  sep : ∀ (i j : Nat) a l l', G[i]? = some (Sl.own a l) → G[j]? = some (Sl.own a l') → i = j

section
variable {K : PySem.W.Frag} {c : JC} {F H F' H' : Hp} {σ : L2.St} {G : List Sl} {p : Addr} {o : HO}
theorem JX.gone (x : JX c F H) (h : H p = none) : c.H0 p = none := by
  cases e : c.H0 p with
  | none => rfl
  | some u => exact absurd h (x.dm p (by rw [e]; simp))
theorem JX.fnone (x : JX c F H) (h : H p = none) : F p = none := Same.free x.fh h
theorem same_new (h : F p = none) : Same F (upd F p o) := fun b u e => by
  rw [upd_ne (ne_of_none e h)]
  exact e
theorem tabs_upd {T : List (Addr × Str)} (t : LamX.Tabs T H) (h : H p = none) : LamX.Tabs T (upd H p o) := t.ext fun b u e => by
  rw [upd_ne (ne_of_none e h)]
  exact e
theorem tab_ne {T : List (Addr × Str)} (t : LamX.Tabs T H) {q : Addr × Str} (hq : q ∈ T) (h : H p = none) : q.1 ≠ p := by
  obtain ⟨ps, e, _⟩ := t q hq
  exact ne_of_none e h
/-- a new object, frozen at once -/
theorem JX.new (x : JX c F H) (h : H p = none) (ho : ∀ ps, o ≠ HO.tbl ps := by first | (intro _ z; cases z) | (intro _ z; unfold ExV at z; cases z)) : JX c (upd F p o) (upd H p o) where
  ff := x.ff.trans (same_new (x.fnone h))
  fh := fun b u e => by
    by_cases hb : b = p
    · subst hb
      rw [upd_same] at e
      rw [upd_same]
      exact e
    · rw [upd_ne hb] at e ⊢
      exact x.fh b u e
  hh := fun a u e w t => by
    rw [upd_ne (ne_of_none e (x.gone h))]
    exact x.hh a u e w t
  dm := fun a e => by
    have q := x.dm a e
    by_cases hb : a = p
    · rw [hb, upd_same]
      simp
    · rw [upd_ne hb]
      exact q
  nf := fun a e e2 => by
    have q := x.nf a e e2
    have n : a ≠ p := fun z => by
      rw [z] at e
      exact e (x.gone h)
    rw [upd_ne n]
    exact q
  tab := tabs_upd x.tab h
  tabF := fun q hq => by
    rw [upd_ne (tab_ne x.tab hq h)]
    exact x.tabF q hq
  sys := by
    obtain ⟨φ, e⟩ := x.sys
    exact ⟨φ, by rw [upd_ne (ne_of_none e h)]; exact e⟩
  tb := fun a ps e => by
    by_cases hb : a = p
    · rw [hb, upd_same] at e
      exact absurd (Option.some.inj e) (ho ps)
    · rw [upd_ne hb] at e
      exact x.tb a ps e
/-- a new object, not frozen yet -/
theorem JX.newO (x : JX c F H) (h : H p = none) (ho : ∀ ps, o ≠ HO.tbl ps := by first | (intro _ z; cases z) | (intro _ z; unfold ExV at z; cases z)) : JX c F (upd H p o) where
  ff := x.ff
  fh := fun b u e => by
    have e' := x.fh b u e
    rw [upd_ne (ne_of_none e' h)]
    exact e'
  hh := fun a u e w t => by
    rw [upd_ne (ne_of_none e (x.gone h))]
    exact x.hh a u e w t
  dm := fun a e => by
    have q := x.dm a e
    by_cases hb : a = p
    · rw [hb, upd_same]
      simp
    · rw [upd_ne hb]
      exact q
  nf := x.nf
  tab := tabs_upd x.tab h
  tabF := x.tabF
  sys := by
    obtain ⟨φ, e⟩ := x.sys
    exact ⟨φ, by rw [upd_ne (ne_of_none e h)]; exact e⟩
  tb := fun a ps e => by
    by_cases hb : a = p
    · rw [hb, upd_same] at e
      exact absurd (Option.some.inj e) (ho ps)
    · rw [upd_ne hb] at e
      exact x.tb a ps e
/-- an owned list is written -/
theorem JX.write (x : JX c F H) (hF : F p = none) (hW : c.W p ∨ c.H0 p = none) {xs : List V} (hp : H p = some (.lst xs)) (ho : ∀ ps, o ≠ HO.tbl ps := by first | (intro _ z; cases z) | (intro _ z; unfold ExV at z; cases z)) : JX c F (upd H p o) where
  ff := x.ff
  fh := fun b u e => by
    rw [upd_ne (ne_of_none e hF)]
    exact x.fh b u e
  hh := fun a u e w t => by
    have n : a ≠ p := fun z => by
      subst z
      rcases hW with q | q
      · exact w q
      · rw [q] at e
        cases e
    rw [upd_ne n]
    exact x.hh a u e w t
  dm := fun a e => by
    have q := x.dm a e
    by_cases hb : a = p
    · rw [hb, upd_same]
      simp
    · rw [upd_ne hb]
      exact q
  nf := x.nf
  tab := fun q hq => by
    obtain ⟨ps, e1, e2, e3⟩ := x.tab q hq
    have n : q.1 ≠ p := ne_of e1 hp (by intro z; cases z)
    refine ⟨ps, by rw [upd_ne n]; exact e1, e2, fun pos cv hc => ?_⟩
    obtain ⟨cc, f1, f2⟩ := e3 pos cv hc
    exact ⟨cc, f1, by rw [upd_ne (ne_of f2 hp (by unfold LamX.CodeO; intro z; cases z))]; exact f2⟩
  tabF := x.tabF
  sys := by
    obtain ⟨φ, e⟩ := x.sys
    exact ⟨φ, by rw [upd_ne (ne_of e hp (by intro z; cases z))]; exact e⟩
  tb := fun a ps e => by
    by_cases hb : a = p
    · rw [hb, upd_same] at e
      exact absurd (Option.some.inj e) (ho ps)
    · rw [upd_ne hb] at e
      exact x.tb a ps e
theorem JX.trans {W' : Addr → Prop} (x : JX c F H) (y : JX ⟨F, H, W', c.T⟩ F' H') (hw : ∀ a, W' a → c.W a ∨ c.H0 a = none) : JX c F' H' where
  ff := x.ff.trans y.ff
  fh := y.fh
  hh := fun a u e w t => y.hh a u (x.hh a u e w t) (fun z => (hw a z).elim w fun q => by rw [q] at e; cases e) t
  dm := fun a e => y.dm a (x.dm a e)
  nf := fun a e e2 => y.nf a (x.dm a e) (x.nf a e e2)
  tab := y.tab
  tabF := y.tabF
  sys := y.sys
  tb := y.tb
theorem JX.start {W : Addr → Prop} {T : List (Addr × Str)} (s : Same F H) (t : LamX.Tabs T H) (tf : ∀ p ∈ T, F p.1 = none) (sy : ∃ φ, H sysModules = some (.ext φ)) (tb : ∀ a ps, H a = some (.tbl ps) → ∃ q, (a, q) ∈ T) : JX ⟨F, H, W, T⟩ F H :=
  ⟨Same.refl _, s, fun _ _ e _ _ => e, fun _ e => e, fun _ _ e => e, t, tf, sy, tb⟩
theorem JX.again {W : Addr → Prop} (x : JX c F H) : JX ⟨F, H, W, c.T⟩ F H := JX.start x.fh x.tab x.tabF x.sys x.tb

/-! ### the state through a step -/
theorem JI.mono (I : JI K c F H σ G) (x : JX c F' H') (s : Same F F') (ho : ∀ (i : Nat) a l, G[i]? = some (Sl.own a l) → F' a = none ∧ H' a = H a) : JI K c F' H' σ G where
  jx := x
  len := I.len
  val := fun i d e => by
    obtain ⟨v, h1, h2⟩ := I.val i d e
    exact ⟨v, h1, h2.mono s⟩
  own := fun i a l e => by
    obtain ⟨h1, _, h3, xs, h4, h5⟩ := I.own i a l e
    obtain ⟨q1, q2⟩ := ho i a l e
    exact ⟨h1, q1, h3, xs, q2.trans h4, h5.mono s⟩
  sep := I.sep
theorem JI.new (I : JI K c F H σ G) (h : H p = none) (ho : ∀ ps, o ≠ HO.tbl ps := by first | (intro _ z; cases z) | (intro _ z; unfold ExV at z; cases z)) : JI K c (upd F p o) (upd H p o) σ G :=
  I.mono (I.jx.new h ho) (same_new (I.jx.fnone h)) fun i a l e => by
    obtain ⟨_, h2, _, xs, h4, _⟩ := I.own i a l e
    have n : a ≠ p := ne_of_none h4 h
    rw [upd_ne n, upd_ne n]
    exact ⟨h2, rfl⟩
theorem JI.newO (I : JI K c F H σ G) (h : H p = none) (ho : ∀ ps, o ≠ HO.tbl ps := by first | (intro _ z; cases z) | (intro _ z; unfold ExV at z; cases z)) : JI K c F (upd H p o) σ G :=
  I.mono (I.jx.newO h ho) (Same.refl _) fun i a l e => by
    obtain ⟨_, h2, _, xs, h4, _⟩ := I.own i a l e
    have n : a ≠ p := ne_of_none h4 h
    rw [upd_ne n]
    exact ⟨h2, rfl⟩
/-- a call: nothing of ours was written -/
theorem JI.call {W' : Addr → Prop} (I : JI K c F H σ G) (y : JX ⟨F, H, W', c.T⟩ F' H') (hw : ∀ a, ¬ W' a) : JI K c F' H' σ G :=
  I.mono (I.jx.trans y fun a z => (hw a z).elim) y.ff fun i a l e => by
    obtain ⟨_, h2, _, xs, h4, _⟩ := I.own i a l e
    have q : H' a = some (.lst xs) := y.hh a _ h4 (hw a) fun ps z => by cases z
    exact ⟨y.nf a (show H a ≠ none by rw [h4]; simp) h2, q.trans h4.symm⟩
/-- a call that writes our list at a -/
theorem JI.callW {i : Nat} {a : Addr} {l l' : List D} {xs' : List V} (I : JI K c F H σ G) (hi : G[i]? = some (Sl.own a l)) (y : JX ⟨F, H, (· = a), c.T⟩ F' H') (h1 : F' a = none) (h2 : H' a = some (.lst xs')) (h3 : RepL K F' l' xs') :
    JI K c F' H' σ (G.set i (Sl.own a l')) where
  jx := I.jx.trans y fun b z => by
    have z : b = a := z
    rw [z]
    exact (I.own i a l hi).2.2.1
  len := by rw [List.length_set]; exact I.len
  val := fun j d e => by
    by_cases hj : i = j
    · subst hj
      obtain ⟨hlt, _⟩ := List.getElem?_eq_some_iff.mp hi
      rw [List.getElem?_set_self hlt] at e
      cases e
    · rw [List.getElem?_set_ne hj] at e
      obtain ⟨v, q1, q2⟩ := I.val j d e
      exact ⟨v, q1, q2.mono y.ff⟩
  own := fun j b lb e => by
    by_cases hj : i = j
    · subst hj
      obtain ⟨hlt, _⟩ := List.getElem?_eq_some_iff.mp hi
      rw [List.getElem?_set_self hlt] at e
      cases e
      obtain ⟨q1, _, q3, _⟩ := I.own i a l hi
      exact ⟨q1, h1, q3, xs', h2, h3⟩
    · rw [List.getElem?_set_ne hj] at e
      obtain ⟨q1, q2, q3, ys, q4, q5⟩ := I.own j b lb e
      have n : b ≠ a := fun z => hj (I.sep i j a l lb hi (z ▸ e))
      have q : H' b = some (.lst ys) := y.hh b _ q4 n fun ps z => by cases z
      exact ⟨q1, y.nf b (show H b ≠ none by rw [q4]; simp) q2, q3, ys, q, q5.mono y.ff⟩
  sep := fun j k b l1 l2 e1 e2 => by
    obtain ⟨hlt, _⟩ := List.getElem?_eq_some_iff.mp hi
    have back : ∀ (j : Nat) lb, (G.set i (Sl.own a l'))[j]? = some (Sl.own b lb) → ∃ lc, G[j]? = some (Sl.own b lc) := fun j lb e => by
      by_cases hj : i = j
      · subst hj
        rw [List.getElem?_set_self hlt] at e
        cases e
        exact ⟨l, hi⟩
      · rw [List.getElem?_set_ne hj] at e
        exact ⟨lb, e⟩
    obtain ⟨m1, f1⟩ := back j l1 e1
    obtain ⟨m2, f2⟩ := back k l2 e2
    exact I.sep j k b m1 m2 f1 f2
/-- our list at a is written here -/
theorem JI.writeO {i : Nat} {a : Addr} {l l' : List D} {xs' : List V} (I : JI K c F H σ G) (hi : G[i]? = some (Sl.own a l)) (h3 : RepL K F l' xs') : JI K c F (upd H a (.lst xs')) σ (G.set i (Sl.own a l')) := by
  obtain ⟨_, q2, q3, xs, q4, _⟩ := I.own i a l hi
  exact I.callW (F' := F) (H' := upd H a (.lst xs')) hi
    (JX.write (c := ⟨F, H, (· = a), c.T⟩) I.jx.again q2 (.inl rfl) q4) q2 upd_same h3
/-- a slot takes a value -/
theorem JI.setV {i : Nat} {d : D} {v : V} (I : JI K c F H σ G) (h : Rep K F d v) (hi : i < G.length) : JI K c F H (σ.set i (some v)) (G.set i (Sl.val d)) where
  jx := I.jx
  len := by rw [List.length_set, List.length_set]; exact I.len
  val := fun j e q => by
    by_cases hj : i = j
    · subst hj
      rw [List.getElem?_set_self hi] at q
      cases q
      exact ⟨v, List.getElem?_set_self (by rw [I.len]; exact hi), h⟩
    · rw [List.getElem?_set_ne hj] at q ⊢
      exact I.val j e q
  own := fun j a l q => by
    by_cases hj : i = j
    · subst hj
      rw [List.getElem?_set_self hi] at q
      cases q
    · rw [List.getElem?_set_ne hj] at q ⊢
      exact I.own j a l q
  sep := fun j k a l l' e1 e2 => by
    have back : ∀ (j : Nat) l, (G.set i (Sl.val d))[j]? = some (Sl.own a l) → G[j]? = some (Sl.own a l) := fun j l e => by
      by_cases hj : i = j
      · subst hj
        rw [List.getElem?_set_self hi] at e
        cases e
      · rw [List.getElem?_set_ne hj] at e
        exact e
    exact I.sep j k a l l' (back j l e1) (back k l' e2)
/-- a slot takes a new list of ours -/
theorem JI.setO {i : Nat} {a : Addr} {l : List D} {xs : List V} (I : JI K c F H σ G) (h1 : F a = none) (h2 : c.H0 a = none) (h3 : H a = some (.lst xs)) (h4 : RepL K F l xs) (hn : ∀ (j : Nat) l', G[j]? ≠ some (Sl.own a l')) (hi : i < G.length) :
    JI K c F H (σ.set i (some (.ref a))) (G.set i (Sl.own a l)) where
  jx := I.jx
  len := by rw [List.length_set, List.length_set]; exact I.len
  val := fun j e q => by
    by_cases hj : i = j
    · subst hj
      rw [List.getElem?_set_self hi] at q
      cases q
    · rw [List.getElem?_set_ne hj] at q ⊢
      exact I.val j e q
  own := fun j b lb q => by
    by_cases hj : i = j
    · subst hj
      rw [List.getElem?_set_self hi] at q
      cases q
      exact ⟨List.getElem?_set_self (by rw [I.len]; exact hi), h1, .inr h2, xs, h3, h4⟩
    · rw [List.getElem?_set_ne hj] at q ⊢
      exact I.own j b lb q
  sep := fun j k b l1 l2 e1 e2 => by
    by_cases hj : i = j
    · subst hj
      rw [List.getElem?_set_self hi] at e1
      cases e1
      by_cases hk : i = k
      · exact hk
      · rw [List.getElem?_set_ne hk] at e2
        exact absurd e2 (hn k l2)
    · rw [List.getElem?_set_ne hj] at e1
      by_cases hk : i = k
      · subst hk
        rw [List.getElem?_set_self hi] at e2
        cases e2
        exact absurd e1 (hn j l1)
      · rw [List.getElem?_set_ne hk] at e2
        exact I.sep j k b l1 l2 e1 e2
/-- forgetting -/
theorem JI.weak {σ' : L2.St} {G' : List Sl} (I : JI K c F H σ G) (hl : σ'.length = G'.length) (hv : ∀ (i : Nat) d, G'[i]? = some (Sl.val d) → G[i]? = some (Sl.val d) ∧ σ'[i]? = σ[i]?)
    (ho : ∀ (i : Nat) a l, G'[i]? = some (Sl.own a l) → G[i]? = some (Sl.own a l) ∧ σ'[i]? = σ[i]?) : JI K c F H σ' G' where
  jx := I.jx
  len := hl
  val := fun i d e => by
    obtain ⟨e1, e2⟩ := hv i d e
    rw [e2]
    exact I.val i d e1
  own := fun i a l e => by
    obtain ⟨e1, e2⟩ := ho i a l e
    rw [e2]
    exact I.own i a l e1
  sep := fun i j a l l' e1 e2 => I.sep i j a l l' (ho i a l e1).1 (ho j a l' e2).1
/-- a list of ours is frozen -/
theorem JI.freeze {i : Nat} {a : Addr} {l : List D} (I : JI K c F H σ G) (hi : G[i]? = some (Sl.own a l)) (hc : c.H0 a = none) : ∃ F', Same F F' ∧ JI K c F' H σ (G.set i (Sl.val (.lst l))) := by
  obtain ⟨q1, q2, _, xs, q4, q5⟩ := I.own i a l hi
  have sF : Same F (upd F a (.lst xs)) := same_new q2
  obtain ⟨hlt, _⟩ := List.getElem?_eq_some_iff.mp hi
  refine ⟨upd F a (.lst xs), sF, ⟨⟨I.jx.ff.trans sF, fun b u e => ?_, I.jx.hh, I.jx.dm, fun b e e2 => ?_, I.jx.tab, fun q hq => ?_, I.jx.sys, I.jx.tb⟩, by rw [List.length_set]; exact I.len, fun j d e => ?_, fun j b lb e => ?_, fun j k b l1 l2 e1 e2 => ?_⟩⟩
  · by_cases hb : b = a
    · subst hb
      rw [upd_same] at e
      cases e
      exact q4
    · rw [upd_ne hb] at e
      exact I.jx.fh b u e
  · have n : b ≠ a := fun z => by rw [z] at e; exact e hc
    rw [upd_ne n]
    exact I.jx.nf b e e2
  · obtain ⟨ps, e1, _⟩ := I.jx.tab q hq
    have n : q.1 ≠ a := ne_of e1 q4 (by intro z; cases z)
    rw [upd_ne n]
    exact I.jx.tabF q hq
  · by_cases hj : i = j
    · subst hj
      rw [List.getElem?_set_self hlt] at e
      cases e
      exact ⟨.ref a, q1, a, xs, rfl, upd_same, q5.mono sF⟩
    · rw [List.getElem?_set_ne hj] at e
      obtain ⟨v, h1, h2⟩ := I.val j d e
      exact ⟨v, h1, h2.mono sF⟩
  · by_cases hj : i = j
    · subst hj
      rw [List.getElem?_set_self hlt] at e
      cases e
    · rw [List.getElem?_set_ne hj] at e
      obtain ⟨h1, h2, h3, ys, h4, h5⟩ := I.own j b lb e
      have n : b ≠ a := fun z => hj (I.sep i j a l lb hi (z ▸ e))
      exact ⟨h1, by rw [upd_ne n]; exact h2, h3, ys, h4, h5.mono sF⟩
  · have back : ∀ (j : Nat) l', (G.set i (Sl.val (.lst l)))[j]? = some (Sl.own b l') → G[j]? = some (Sl.own b l') := fun j l' e => by
      by_cases hj : i = j
      · subst hj
        rw [List.getElem?_set_self hlt] at e
        cases e
      · rw [List.getElem?_set_ne hj] at e
        exact e
    exact I.sep j k b l1 l2 (back j l1 e1) (back k l2 e2)
/-- a new list in the air is frozen -/
theorem JI.freezeA {a : Addr} {l : List D} {xs : List V} (I : JI K c F H σ G) (h1 : F a = none) (h2 : c.H0 a = none) (h3 : H a = some (.lst xs)) (h4 : RepL K F l xs) (hn : ∀ (j : Nat) l', G[j]? ≠ some (Sl.own a l')) :
    Same F (upd F a (.lst xs)) ∧ JI K c (upd F a (.lst xs)) H σ G ∧ Rep K (upd F a (.lst xs)) (.lst l) (.ref a) := by
  have sF : Same F (upd F a (.lst xs)) := same_new h1
  refine ⟨sF, I.mono ⟨I.jx.ff.trans sF, fun b u e => ?_, I.jx.hh, I.jx.dm, fun b e e2 => ?_, I.jx.tab, fun q hq => ?_, I.jx.sys, I.jx.tb⟩ sF fun i b lb e => ?_, a, xs, rfl, upd_same, h4.mono sF⟩
  · by_cases hb : b = a
    · subst hb
      rw [upd_same] at e
      cases e
      exact h3
    · rw [upd_ne hb] at e
      exact I.jx.fh b u e
  · have n : b ≠ a := fun z => by rw [z] at e; exact e h2
    rw [upd_ne n]
    exact I.jx.nf b e e2
  · obtain ⟨ps, e1, _⟩ := I.jx.tab q hq
    have n : q.1 ≠ a := ne_of e1 h3 (by intro z; cases z)
    rw [upd_ne n]
    exact I.jx.tabF q hq
  · have n : b ≠ a := fun z => hn i lb (z ▸ e)
    rw [upd_ne n]
    exact ⟨(I.own i b lb e).2.1, rfl⟩
end
end J
end
section
set_option maxRecDepth 100000
set_option maxHeartbeats 4000000
namespace J
open PySem PySem.Spec PyProof.Rows L2

/-! ### the widest readings -/
section
variable {X : Cx} {e : Expr} {es : List Expr} {st : Stmt} {sts : List Stmt} {σ : L2.St} {H : Hp}
def wE (X : Cx) (e : Expr) : TE := fun σ H Q => ∀ pins s, Inv X pins σ H s → wpAny (model X.prog X.w) X.A (eval e X.env) (EP X pins σ Q) X.xe s
theorem pe_w : PE X e (wE X e) := ⟨fun pins s σ H Q I h => h pins s I⟩
theorem wE_of {t : TE} {Q : VK} (h : PE X e t) (q : t σ H Q) : wE X e σ H Q := fun pins s I => h.run pins s σ H Q I q
theorem wE_mono {Q Q' : VK} (h : wE X e σ H Q) (k : ∀ v H', Q v H' → Q' v H') : wE X e σ H Q' := fun pins s I => thn (h pins s I) fun _ _ ⟨v, H', I', r, q⟩ => ⟨v, H', I', r, k v H' q⟩
def wT (X : Cx) (e : Expr) : TT := fun σ H Q => ∀ pins s, Inv X pins σ H s → wpAny (model X.prog X.w) X.A (isTrue e X.env (eval e X.env)) (TP X pins σ Q) X.xe s
theorem pt_w : PT X e (wT X e) := ⟨fun pins s σ H Q I h => h pins s I⟩
theorem wT_of {t : TT} {Q : Bool → Hp → Prop} (h : PT X e t) (q : t σ H Q) : wT X e σ H Q := fun pins s I => h.run pins s σ H Q I q
theorem wT_mono {Q Q' : Bool → Hp → Prop} (h : wT X e σ H Q) (k : ∀ v H', Q v H' → Q' v H') : wT X e σ H Q' := fun pins s I => thn (h pins s I) fun _ _ ⟨H', I', q⟩ => ⟨H', I', k _ H' q⟩
def wA (X : Cx) (es : List Expr) : TA := fun σ H Q => ∀ pos pins s, Inv X pins σ H s → wpAny (model X.prog X.w) X.A (spliced (backTo pos (starEach es X.env))) (AP X pins σ Q) X.xe s
theorem pa_w : PA X es (wA X es) := ⟨fun pos pins s σ H Q I h => h pos pins s I⟩
theorem wA_of {t : TA} {Q : List V → Hp → Prop} (h : PA X es t) (q : t σ H Q) : wA X es σ H Q := fun pos pins s I => h.run pos pins s σ H Q I q
theorem wA_mono {Q Q' : List V → Hp → Prop} (h : wA X es σ H Q) (k : ∀ v H', Q v H' → Q' v H') : wA X es σ H Q' := fun pos pins s I => thn (h pos pins s I) fun _ _ ⟨v, H', I', r, q⟩ => ⟨v, H', I', r, k v H' q⟩
def wS (X : Cx) (st : Stmt) : TS := fun D σ H => ∀ pins s, Inv X pins σ H s → wpAny (model X.prog X.w) X.A (exec st X.env) (SP X pins D) X.xe s
theorem ps_w : PS X st (wS X st) := ⟨fun pins s σ H D I h => h pins s I⟩
theorem wS_of {t : TS} {D : Ends} (h : PS X st t) (q : t D σ H) : wS X st D σ H := fun pins s I => h.run pins s σ H D I q
def wSs (X : Cx) (sts : List Stmt) : TS := fun D σ H => ∀ pins s, Inv X pins σ H s → wpAny (model X.prog X.w) X.A (execs sts X.env) (SP X pins D) X.xe s
theorem pss_w : PSs X sts (wSs X sts) := ⟨fun pins s σ H D I h => h pins s I⟩
theorem wSs_of {t : TS} {D : Ends} (h : PSs X sts t) (q : t D σ H) : wSs X sts D σ H := fun pins s I => h.run pins s σ H D I q
theorem wS_mono {D D' : Ends} (h : wS X st D σ H) (k1 : ∀ σ H, D.nx σ H → D'.nx σ H) (k2 : ∀ v H, D.rt v H → D'.rt v H) (k3 : ∀ σ H, D.bk σ H → D'.bk σ H) (k4 : ∀ σ H, D.ct σ H → D'.ct σ H) : wS X st D' σ H := fun pins s I => thn (h pins s I) fun f s' q => by
  cases f with
  | next => obtain ⟨σ', H', I', q⟩ := q; exact ⟨σ', H', I', k1 _ _ q⟩
  | brk => obtain ⟨σ', H', I', q⟩ := q; exact ⟨σ', H', I', k3 _ _ q⟩
  | cont => obtain ⟨σ', H', I', q⟩ := q; exact ⟨σ', H', I', k4 _ _ q⟩
  | ret u => obtain ⟨v, σ', H', I', r, q⟩ := q; exact ⟨v, σ', H', I', r, k2 _ _ q⟩
theorem wSs_mono {D D' : Ends} (h : wSs X sts D σ H) (k1 : ∀ σ H, D.nx σ H → D'.nx σ H) (k2 : ∀ v H, D.rt v H → D'.rt v H) (k3 : ∀ σ H, D.bk σ H → D'.bk σ H) (k4 : ∀ σ H, D.ct σ H → D'.ct σ H) : wSs X sts D' σ H := fun pins s I => thn (h pins s I) fun f s' q => by
  cases f with
  | next => obtain ⟨σ', H', I', q⟩ := q; exact ⟨σ', H', I', k1 _ _ q⟩
  | brk => obtain ⟨σ', H', I', q⟩ := q; exact ⟨σ', H', I', k3 _ _ q⟩
  | cont => obtain ⟨σ', H', I', q⟩ := q; exact ⟨σ', H', I', k4 _ _ q⟩
  | ret u => obtain ⟨v, σ', H', I', r, q⟩ := q; exact ⟨v, σ', H', I', r, k2 _ _ q⟩
end

/-! ### the judgements -/
abbrev XQ := Addr → D → List Sl → Prop
abbrev NoX : XQ := fun _ _ _ => False
def XOk (X : Cx) (c : JC) (Ex : XQ) (W : WX) : Prop := ∀ F H σ G C d dx x, JI X.K c F H σ G → F dx = some (.xd [(("value" : Str), x)]) → Rep X.K F d x → Ex C d G → W (.ref C) (some dx) σ H
def Xt (X : Cx) (c : JC) (Ex : XQ) : Prop := ∃ W, Takes X W ∧ XOk X c Ex W
theorem Xt.no {X : Cx} {c : JC} : Xt X c NoX := ⟨_, takes0, fun _ _ _ _ _ _ _ _ _ _ _ h => h.elim⟩
theorem Xt.imp {X : Cx} {c : JC} {Ex Ex' : XQ} (x : Xt X c Ex') (h : ∀ C d G, Ex C d G → Ex' C d G) : Xt X c Ex := by
  obtain ⟨W, t, k⟩ := x
  exact ⟨W, t, fun F H σ G C d dx x a b e q => k F H σ G C d dx x a b e (h _ _ _ q)⟩

def QE (X : Cx) (c : JC) (F : Hp) (σ : L2.St) (Q : D → List Sl → Prop) : VK := fun v H' => ∃ F' d G', Same F F' ∧ JI X.K c F' H' σ G' ∧ Rep X.K F' d v ∧ Q d G'
def QT (X : Cx) (c : JC) (F : Hp) (σ : L2.St) (Q : Bool → List Sl → Prop) : Bool → Hp → Prop := fun b H' => ∃ F' G', Same F F' ∧ JI X.K c F' H' σ G' ∧ Q b G'
def QA (X : Cx) (c : JC) (F : Hp) (σ : L2.St) (Q : List D → List Sl → Prop) : List V → Hp → Prop := fun vs H' => ∃ F' ds G', Same F F' ∧ JI X.K c F' H' σ G' ∧ RepL X.K F' ds vs ∧ Q ds G'
structure AirL (X : Cx) (c : JC) (F H : Hp) (σ : L2.St) (G : List Sl) (a : Addr) (l : List D) : Prop where
  ji : JI X.K c F H σ G
  fn : F a = none
  h0 : c.H0 a = none
  at_ : ∃ xs, H a = some (.lst xs) ∧ RepL X.K F l xs
  ne : ∀ (j : Nat) l', G[j]? ≠ some (Sl.own a l')
def QN (X : Cx) (c : JC) (F : Hp) (σ : L2.St) (Q : Addr → List D → List Sl → Prop) : VK := fun v H' => ∃ F' a l G', Same F F' ∧ v = .ref a ∧ AirL X c F' H' σ G' a l ∧ Q a l G'
def JE (X : Cx) (c : JC) (e : Expr) (G : List Sl) (Q : D → List Sl → Prop) (Ex : XQ) : Prop := Xt X c Ex → ∀ F σ H, JI X.K c F H σ G → wE X e σ H (QE X c F σ Q)
def JN (X : Cx) (c : JC) (e : Expr) (G : List Sl) (Q : Addr → List D → List Sl → Prop) (Ex : XQ) : Prop := Xt X c Ex → ∀ F σ H, JI X.K c F H σ G → wE X e σ H (QN X c F σ Q)
def JT (X : Cx) (c : JC) (e : Expr) (G : List Sl) (Q : Bool → List Sl → Prop) (Ex : XQ) : Prop := Xt X c Ex → ∀ F σ H, JI X.K c F H σ G → wT X e σ H (QT X c F σ Q)
def JA (X : Cx) (c : JC) (es : List Expr) (G : List Sl) (Q : List D → List Sl → Prop) (Ex : XQ) : Prop := Xt X c Ex → ∀ F σ H, JI X.K c F H σ G → wA X es σ H (QA X c F σ Q)
structure JD where
  nx : List Sl → Prop := fun _ => False
  rt : D → List Sl → Prop := fun _ _ => False
  bk : List Sl → Prop := fun _ => False
  ct : List Sl → Prop := fun _ => False
def JD.en (X : Cx) (c : JC) (F : Hp) (D : JD) : Ends where
  nx := fun σ' H' => ∃ F' G', Same F F' ∧ JI X.K c F' H' σ' G' ∧ D.nx G'
  rt := fun v H' => ∃ F' d σ' G', Same F F' ∧ JI X.K c F' H' σ' G' ∧ Rep X.K F' d v ∧ D.rt d G'
  bk := fun σ' H' => ∃ F' G', Same F F' ∧ JI X.K c F' H' σ' G' ∧ D.bk G'
  ct := fun σ' H' => ∃ F' G', Same F F' ∧ JI X.K c F' H' σ' G' ∧ D.ct G'
def JS (X : Cx) (c : JC) (st : Stmt) (G : List Sl) (D : JD) (Ex : XQ) : Prop := Xt X c Ex → ∀ F σ H, JI X.K c F H σ G → wS X st (D.en X c F) σ H
def JSs (X : Cx) (c : JC) (sts : List Stmt) (G : List Sl) (D : JD) (Ex : XQ) : Prop := Xt X c Ex → ∀ F σ H, JI X.K c F H σ G → wSs X sts (D.en X c F) σ H

section
variable {X : Cx} {c : JC} {e a b : Expr} {es : List Expr} {st : Stmt} {sts : List Stmt} {G : List Sl} {Ex : XQ} {pos : Pos} {Q : D → List Sl → Prop} {F F' : Hp} {σ : L2.St} {H : Hp}
theorem QE.mono {Q' : D → List Sl → Prop} {v : V} (s : Same F F') (h : QE X c F' σ Q v H) (k : ∀ d G, Q d G → Q' d G) : QE X c F σ Q' v H := by
  obtain ⟨F2, d, G', s2, I, r, q⟩ := h
  exact ⟨F2, d, G', s.trans s2, I, r, k _ _ q⟩
theorem JE.imp {Q' : D → List Sl → Prop} (h : JE X c e G Q Ex) (k : ∀ d G, Q d G → Q' d G) : JE X c e G Q' Ex := fun x F σ H I => wE_mono (h x F σ H I) fun v H' q => q.mono (Same.refl _) k
theorem JE.noX (h : JE X c e G Q NoX) : JE X c e G Q Ex := fun x F σ H I => h Xt.no F σ H I
theorem JSs.noX {D : JD} (h : JSs X c sts G D NoX) : JSs X c sts G D Ex := fun x F σ H I => h Xt.no F σ H I
/-- an expression that is read by a rule of the hand layer -/
theorem je_of {t : TE} (h : PE X e t) (k : Xt X c Ex → ∀ F σ H, JI X.K c F H σ G → t σ H (QE X c F σ Q)) : JE X c e G Q Ex := fun x F σ H I => wE_of h (k x F σ H I)
theorem JE.of_air (h : JN X c e G (fun _ l G' => Q (.lst l) G') Ex) : JE X c e G Q Ex := fun x F σ H I => wE_mono (h x F σ H I) fun v H' ⟨F', a, l, G', s, ev, A, q⟩ => by
  obtain ⟨xs, h1, h2⟩ := A.at_
  obtain ⟨s2, I2, r⟩ := A.ji.freezeA A.fn A.h0 h1 h2 A.ne
  subst ev
  exact ⟨_, _, G', s.trans s2, I2, r, q⟩

/-! ### names and constants -/
theorem je_var {i : Nat} {x : Str} {d : D} (hN : X.N[i]? = some x) (hv : Vis X.env.scope x) (hg : G[i]? = some (Sl.val d)) (q : Q d G) (hd : (x == ("__debug__" : Str)) = false := by decide) (hcd : (x == ("__classdict__" : Str)) = false := by decide) : JE X c (.Name x pos) G Q Ex :=
  je_of (pe_var hN hv hd hcd) fun _ F σ H I => by
    obtain ⟨v, h1, h2⟩ := I.val i d hg
    exact ⟨v, h1, F, d, G, Same.refl _, I, h2, q⟩
theorem je_int {i : Int} {j} (q : Q (.int i) G) : JE X c (.Constant (.int i) j pos) G Q Ex := je_of pe_int fun _ F σ H I => ⟨F, .int i, G, Same.refl _, I, (show Rep X.K F _ _ from rfl), q⟩
theorem je_bl {i : Bool} {j} (q : Q (.bl i) G) : JE X c (.Constant (.bool i) j pos) G Q Ex := je_of pe_bl fun _ F σ H I => ⟨F, .bl i, G, Same.refl _, I, (show Rep X.K F _ _ from rfl), q⟩
theorem je_non {j} (q : Q .non G) : JE X c (.Constant .none j pos) G Q Ex := je_of pe_non fun _ F σ H I => ⟨F, .non, G, Same.refl _, I, (show Rep X.K F _ _ from rfl), q⟩
theorem je_str {x : Str} {j} (q : Q (.str x) G) : JE X c (.Constant (.str x) j pos) G Q Ex := je_of pe_str fun _ F σ H I => ⟨F, .str x, G, Same.refl _, I, (show Rep X.K F _ _ from rfl), q⟩
/-- a name of the module: a def, a class, a constant -/
theorem je_glob {x : Str} {d : D} {v : V} {u : Value} (hg : Gl X x) (hm : X.mg x = some u) (r : RelV v u) (hr : ∀ F, Rep X.K F d v) (q : Q d G) (hd : (x == ("__debug__" : Str)) = false := by decide) : JE X c (.Name x pos) G Q Ex :=
  je_of (pe_glob hg hm r hd) fun _ F σ H I => ⟨F, d, G, Same.refl _, I, hr F, q⟩

/-! ### operators on two values -/
theorem je_bin {f : Value → Value → Sem Value} {r : R2} {e : Expr} (hp : ∀ ta tb, PE X a ta → PE X b tb → PE X e (tOp r ta tb)) (h : JE X c a G (fun x G1 => JE X c b G1 (fun y G2 => ∀ Fb F H σ v w, Same Fb F → JI X.K c F H σ G2 → Rep X.K F x v → Rep X.K F y w → r v w H (QE X c Fb σ Q)) Ex) Ex) : JE X c e G Q Ex :=
  je_of (hp _ _ pe_w pe_w) fun x F σ H I => wE_mono (h x F σ H I) fun v H1 ⟨F1, d1, G1, s1, I1, r1, h1⟩ => wE_mono (h1 x F1 σ H1 I1) fun w H2 ⟨F2, d2, G2, s2, I2, r2, q⟩ => q F F2 H2 σ v w (s1.trans s2) I2 (r1.mono s2) r2
/-- two ints, an int -/
theorem je_opI {op : Operator} {C : Int → Int → Prop} {g : Int → Int → Int} (ho : OpR X (binaryOp op) (rI C fun i j => .int (g i j))) (h : JE X c a G (fun x G1 => ∃ i, x = .int i ∧ JE X c b G1 (fun y G2 => ∃ j, y = .int j ∧ C i j ∧ Q (.int (g i j)) G2) Ex) Ex) : JE X c (.BinOp a op b pos) G Q Ex :=
  je_of (pe_op ho pe_w pe_w) fun x F σ H I => wE_mono (h x F σ H I) fun v H1 ⟨F1, d1, G1, s1, I1, r1, i, e1, h1⟩ => wE_mono (h1 x F1 σ H1 I1) fun w H2 ⟨F2, d2, G2, s2, I2, r2, j, e2, hc, q⟩ => by
    subst e1 e2
    exact ⟨i, j, r1, r2, hc, F2, .int (g i j), G2, s1.trans s2, I2, rfl, q⟩
theorem je_opI0 {op : Operator} {g : Int → Int → Int} (ho : OpR X (binaryOp op) (rI0 fun i j => .int (g i j))) (h : JE X c a G (fun x G1 => ∃ i, x = .int i ∧ JE X c b G1 (fun y G2 => ∃ j, y = .int j ∧ Q (.int (g i j)) G2) Ex) Ex) : JE X c (.BinOp a op b pos) G Q Ex :=
  je_of (pe_op ho pe_w pe_w) fun x F σ H I => wE_mono (h x F σ H I) fun v H1 ⟨F1, d1, G1, s1, I1, r1, i, e1, h1⟩ => wE_mono (h1 x F1 σ H1 I1) fun w H2 ⟨F2, d2, G2, s2, I2, r2, j, e2, q⟩ => by
    subst e1 e2
    exact ⟨i, j, r1, r2, F2, .int (g i j), G2, s1.trans s2, I2, rfl, q⟩
theorem je_cmI0 {op : CmpOp} {g : Int → Int → Bool} (ho : OpR X (compareOp op) (rI0 fun i j => .bl (g i j))) (hm : behindInMarks op b = false) (h : JE X c a G (fun x G1 => ∃ i, x = .int i ∧ JE X c b G1 (fun y G2 => ∃ j, y = .int j ∧ Q (.bl (g i j)) G2) Ex) Ex) : JE X c (.Compare a [op] [b] pos) G Q Ex :=
  je_of (pe_cmpR ho pe_w pe_w hm) fun x F σ H I => wE_mono (h x F σ H I) fun v H1 ⟨F1, d1, G1, s1, I1, r1, i, e1, h1⟩ => wE_mono (h1 x F1 σ H1 I1) fun w H2 ⟨F2, d2, G2, s2, I2, r2, j, e2, q⟩ => by
    subst e1 e2
    exact ⟨i, j, r1, r2, F2, .bl (g i j), G2, s1.trans s2, I2, rfl, q⟩
theorem op_eqI : OpR X (compareOp .Eq) (rI0 fun i j => .bl (decide (i = j))) := opB0 fun _ _ _ _ _ _ _ q => eq_int (by rw [Bool.beq_eq_decide_eq]; exact q)
theorem op_neI : OpR X (compareOp .NotEq) (rI0 fun i j => .bl (!decide (i = j))) := opB0 fun _ _ _ _ _ _ _ q => ne_int (by rw [bne, Bool.beq_eq_decide_eq]; exact q)
theorem je_add (h : JE X c a G (fun x G1 => ∃ i, x = .int i ∧ JE X c b G1 (fun y G2 => ∃ j, y = .int j ∧ Q (.int (i + j)) G2) Ex) Ex) : JE X c (.BinOp a .Add b pos) G Q Ex := je_opI0 op_add h
theorem je_sub (h : JE X c a G (fun x G1 => ∃ i, x = .int i ∧ JE X c b G1 (fun y G2 => ∃ j, y = .int j ∧ Q (.int (i - j)) G2) Ex) Ex) : JE X c (.BinOp a .Sub b pos) G Q Ex := je_opI0 op_sub h
theorem je_mul (h : JE X c a G (fun x G1 => ∃ i, x = .int i ∧ JE X c b G1 (fun y G2 => ∃ j, y = .int j ∧ CMulW i j ∧ Q (.int (i * j)) G2) Ex) Ex) : JE X c (.BinOp a .Mult b pos) G Q Ex := je_opI op_mulW h
/-- a divisor of either sign below 2 ^ 9000 -/
def CDivX (_ j : Int) : Prop := j ≠ 0 ∧ j.natAbs.log2 < 9000
theorem op_fdivX : OpR X (binaryOp .FloorDiv) (rI CDivX fun i j => .int (i.fdiv j)) := opI fun i j _ _ _ _ _ hc q => floordiv_int hc.1 q (.inl (PyProof.noPylong_of_log2 hc.2))
theorem je_fdiv (h : JE X c a G (fun x G1 => ∃ i, x = .int i ∧ JE X c b G1 (fun y G2 => ∃ j, y = .int j ∧ CDivX i j ∧ Q (.int (i.fdiv j)) G2) Ex) Ex) : JE X c (.BinOp a .FloorDiv b pos) G Q Ex := je_opI op_fdivX h
theorem je_mod (h : JE X c a G (fun x G1 => ∃ i, x = .int i ∧ JE X c b G1 (fun y G2 => ∃ j, y = .int j ∧ 0 < j ∧ Q (.int (i % j)) G2) Ex) Ex) : JE X c (.BinOp a .Mod b pos) G Q Ex := je_opI op_mod h
theorem je_pow (h : JE X c a G (fun x G1 => ∃ i, x = .int i ∧ JE X c b G1 (fun y G2 => ∃ j, y = .int j ∧ CPow i j ∧ Q (.int (i ^ j.toNat)) G2) Ex) Ex) : JE X c (.BinOp a .Pow b pos) G Q Ex := je_opI op_pow h
theorem je_lt (h : JE X c a G (fun x G1 => ∃ i, x = .int i ∧ JE X c b G1 (fun y G2 => ∃ j, y = .int j ∧ Q (.bl (decide (i < j))) G2) Ex) Ex) : JE X c (.Compare a [.Lt] [b] pos) G Q Ex := je_cmI0 op_lt (nomark _) h
theorem je_le (h : JE X c a G (fun x G1 => ∃ i, x = .int i ∧ JE X c b G1 (fun y G2 => ∃ j, y = .int j ∧ Q (.bl (decide (i ≤ j))) G2) Ex) Ex) : JE X c (.Compare a [.LtE] [b] pos) G Q Ex := je_cmI0 op_le (nomark _) h
theorem je_gt (h : JE X c a G (fun x G1 => ∃ i, x = .int i ∧ JE X c b G1 (fun y G2 => ∃ j, y = .int j ∧ Q (.bl (decide (j < i))) G2) Ex) Ex) : JE X c (.Compare a [.Gt] [b] pos) G Q Ex := je_cmI0 op_gt (nomark _) h
theorem je_ge (h : JE X c a G (fun x G1 => ∃ i, x = .int i ∧ JE X c b G1 (fun y G2 => ∃ j, y = .int j ∧ Q (.bl (decide (j ≤ i))) G2) Ex) Ex) : JE X c (.Compare a [.GtE] [b] pos) G Q Ex := je_cmI0 op_ge (nomark _) h
theorem je_eqI (h : JE X c a G (fun x G1 => ∃ i, x = .int i ∧ JE X c b G1 (fun y G2 => ∃ j, y = .int j ∧ Q (.bl (decide (i = j))) G2) Ex) Ex) : JE X c (.Compare a [.Eq] [b] pos) G Q Ex := je_cmI0 op_eqI (nomark _) h
theorem je_neI (h : JE X c a G (fun x G1 => ∃ i, x = .int i ∧ JE X c b G1 (fun y G2 => ∃ j, y = .int j ∧ Q (.bl (!decide (i = j))) G2) Ex) Ex) : JE X c (.Compare a [.NotEq] [b] pos) G Q Ex := je_cmI0 op_neI (nomark _) h
/-- two comparisons in a row, of ints -/
theorem je_chainI {op op' : CmpOp} {g g' : Int → Int → Bool} {e3 : Expr} (ho : OpR X (compareOp op) (rI0 fun i j => .bl (g i j))) (ho' : OpR X (compareOp op') (rI0 fun i j => .bl (g' i j))) (hm : behindInMarks op b = false := by exact nomark _) (hm' : behindInMarks op' e3 = false := by exact nomark _)
    (hp : ∀ ta tb tc, PE X a ta → PE X b tb → PE X e3 tc → PE X (.Compare a [op, op'] [b, e3] pos) (tChain (rI0 fun i j => .bl (g i j)) (rI0 fun i j => .bl (g' i j)) ta tb tc))
    (h : JE X c a G (fun x G1 => ∃ i, x = .int i ∧ JE X c b G1 (fun y G2 => ∃ j, y = .int j ∧ (g i j = false → Q (.bl false) G2) ∧ (g i j = true → JE X c e3 G2 (fun z G3 => ∃ k, z = .int k ∧ Q (.bl (g' j k)) G3) Ex)) Ex) Ex) : JE X c (.Compare a [op, op'] [b, e3] pos) G Q Ex :=
  je_of (hp _ _ _ pe_w pe_w pe_w) fun x F σ H I => wE_mono (h x F σ H I) fun v H1 ⟨F1, d1, G1, s1, I1, r1, i, e1, h1⟩ => wE_mono (h1 x F1 σ H1 I1) fun w H2 ⟨F2, d2, G2, s2, I2, r2, j, e2, q1, q2⟩ => by
    subst e1 e2
    refine ⟨i, j, r1, r2, _, rfl, ?_⟩
    cases hg : g i j with
    | false => exact iteF ⟨F2, .bl false, G2, s1.trans s2, I2, rfl, q1 hg⟩
    | true => exact iteT (wE_mono (q2 hg x F2 σ H2 I2) fun z H3 ⟨F3, d3, G3, s3, I3, r3, k, e3, q⟩ => by
        subst e3
        exact ⟨j, k, r2, r3, F3, .bl (g' j k), G3, (s1.trans s2).trans s3, I3, rfl, q⟩)
end
end J
end
section
set_option maxRecDepth 100000
set_option maxHeartbeats 4000000
namespace J
open PySem PySem.Spec PyProof.Rows L2
section
variable {X : Cx} {c : JC} {e a b e3 : Expr} {es : List Expr} {st : Stmt} {sts : List Stmt} {G : List Sl} {Ex : XQ} {pos : Pos} {Q : D → List Sl → Prop} {F F' : Hp} {σ : L2.St} {H : Hp}
theorem je_chain {op op' : CmpOp} {g g' : Int → Int → Bool} (ho : OpR X (compareOp op) (rI0 fun i j => .bl (g i j))) (ho' : OpR X (compareOp op') (rI0 fun i j => .bl (g' i j)))
    (h : JE X c a G (fun x G1 => ∃ i, x = .int i ∧ JE X c b G1 (fun y G2 => ∃ j, y = .int j ∧ (g i j = false → Q (.bl false) G2) ∧ (g i j = true → JE X c e3 G2 (fun z G3 => ∃ k, z = .int k ∧ Q (.bl (g' j k)) G3) Ex)) Ex) Ex)
    (hm : lastMarks [op, op'] [b, e3] = false := by with_unfolding_all rfl) : JE X c (.Compare a [op, op'] [b, e3] pos) G Q Ex :=
  je_of (pe_chain ho ho' pe_w pe_w pe_w hm) fun x F σ H I => wE_mono (h x F σ H I) fun v H1 ⟨F1, d1, G1, s1, I1, r1, i, e1, h1⟩ => wE_mono (h1 x F1 σ H1 I1) fun w H2 ⟨F2, d2, G2, s2, I2, r2, j, e2, q1, q2⟩ => by
    subst e1 e2
    refine ⟨i, j, r1, r2, _, rfl, ?_⟩
    cases hg : g i j with
    | false => exact iteF ⟨F2, .bl false, G2, s1.trans s2, I2, rfl, q1 hg⟩
    | true => exact iteT (wE_mono (q2 hg x F2 σ H2 I2) fun z H3 ⟨F3, d3, G3, s3, I3, r3, k, e3, q⟩ => by
        subst e3
        exact ⟨j, k, r2, r3, F3, .bl (g' j k), G3, (s1.trans s2).trans s3, I3, rfl, q⟩)
/-! ### None, True, False -/
theorem op_isNone : OpR X (compareOp .Is) (fun x y H Q => y = .non ∧ Q (.bl (decide (x = .non))) H) := op_isN
def D.isNon : D → Bool
  | .non => true
  | _ => false
theorem Rep.isNon {K : PySem.W.Frag} {F : Hp} : ∀ {d : D} {v : V}, Rep K F d v → decide (v = .non) = d.isNon
  | .non, v, h => by
    have h : v = .non := h
    rw [h]
    rfl
  | .bl _, v, h => by
    have h : v = .bl _ := h
    rw [h]
    rfl
  | .int _, v, h => by
    have h : v = .int _ := h
    rw [h]
    rfl
  | .str _, v, h => by
    have h : v = .str _ := h
    rw [h]
    rfl
  | .lst _, v, h => by
    obtain ⟨a, xs, h, _⟩ := h
    rw [h]
    rfl
  | .lok _, v, h => by
    obtain ⟨a, xs, h, _⟩ := h
    rw [h]
    rfl
  | .tup _, v, h => by
    obtain ⟨a, xs, h, _⟩ := h
    rw [h]
    rfl
  | .dic _ _, v, h => by
    obtain ⟨a, xs, h, _⟩ := h
    rw [h]
    rfl
  | .ref _, v, h => by
    have h : v = .ref _ := h
    rw [h]
    rfl
  | .exc _ _, v, h => by
    obtain ⟨a, dx, x, h, _⟩ := h
    rw [h]
    rfl
theorem je_isN {j pos'} (h : JE X c a G (fun x G1 => Q (.bl x.isNon) G1) Ex) : JE X c (.Compare a [.Is] [.Constant .none j pos'] pos) G Q Ex :=
  je_of (pe_cmpR op_isN pe_w pe_non (nomark _)) fun x F σ H I => wE_mono (h x F σ H I) fun v H1 ⟨F1, d1, G1, s1, I1, r1, q⟩ => ⟨rfl, F1, _, G1, s1, I1, r1.isNon ▸ (rfl : V.bl _ = V.bl _), q⟩
theorem je_notN {j pos'} (h : JE X c a G (fun x G1 => Q (.bl !x.isNon) G1) Ex) : JE X c (.Compare a [.IsNot] [.Constant .none j pos'] pos) G Q Ex :=
  je_of (pe_cmpR op_notN pe_w pe_non (nomark _)) fun x F σ H I => wE_mono (h x F σ H I) fun v H1 ⟨F1, d1, G1, s1, I1, r1, q⟩ => ⟨rfl, F1, _, G1, s1, I1, r1.isNon ▸ (rfl : V.bl _ = V.bl _), q⟩

/-! ### truth -/
theorem je_not (h : JE X c a G (fun x G1 => ∃ k, x = .bl k ∧ Q (.bl !k) G1) Ex) : JE X c (.UnaryOp .Not a pos) G Q Ex :=
  je_of (pe_not pe_w) fun x F σ H I => wE_mono (h x F σ H I) fun v H1 ⟨F1, d1, G1, s1, I1, r1, k, e1, q⟩ => by
    subst e1
    exact ⟨k, r1, F1, .bl !k, G1, s1, I1, rfl, q⟩
theorem je_one {op} (h : JE X c a G Q Ex) : JE X c (.BoolOp op [a] pos) G Q Ex := je_of (pe_one pe_w) fun x F σ H I => h x F σ H I
theorem je_and {rest : List Expr} (h : JE X c a G (fun x G1 => ∃ k, x = .bl k ∧ (k = true → JE X c (.BoolOp .And (b :: rest) pos) G1 Q Ex) ∧ (k = false → Q (.bl false) G1)) Ex) : JE X c (.BoolOp .And (a :: b :: rest) pos) G Q Ex :=
  je_of (pe_and pe_w pe_w) fun x F σ H I => wE_mono (h x F σ H I) fun v H1 ⟨F1, d1, G1, s1, I1, r1, k, e1, q1, q2⟩ => by
    subst e1
    refine ⟨k, r1, ?_⟩
    cases k with
    | false => exact iteF ⟨F1, .bl false, G1, s1, I1, rfl, q2 rfl⟩
    | true => exact iteT (wE_mono (q1 rfl x F1 σ H1 I1) fun v H2 q => q.mono s1 fun _ _ z => z)
theorem je_or {rest : List Expr} (h : JE X c a G (fun x G1 => ∃ k, x = .bl k ∧ (k = false → JE X c (.BoolOp .Or (b :: rest) pos) G1 Q Ex) ∧ (k = true → Q (.bl true) G1)) Ex) : JE X c (.BoolOp .Or (a :: b :: rest) pos) G Q Ex :=
  je_of (pe_or pe_w pe_w) fun x F σ H I => wE_mono (h x F σ H I) fun v H1 ⟨F1, d1, G1, s1, I1, r1, k, e1, q1, q2⟩ => by
    subst e1
    refine ⟨k, r1, ?_⟩
    cases k with
    | true => exact iteT ⟨F1, .bl true, G1, s1, I1, rfl, q2 rfl⟩
    | false => exact iteF (wE_mono (q1 rfl x F1 σ H1 I1) fun v H2 q => q.mono s1 fun _ _ z => z)

/-! ### tests -/
theorem QT.mono {Q Q' : Bool → List Sl → Prop} {v : Bool} (s : Same F F') (h : QT X c F' σ Q v H) (k : ∀ d G, Q d G → Q' d G) : QT X c F σ Q' v H := by
  obtain ⟨F2, G', s2, I, q⟩ := h
  exact ⟨F2, G', s.trans s2, I, k _ _ q⟩
variable {R : Bool → List Sl → Prop}
theorem jt_of {t : TT} (h : PT X e t) (k : Xt X c Ex → ∀ F σ H, JI X.K c F H σ G → t σ H (QT X c F σ R)) : JT X c e G R Ex := fun x F σ H I => wT_of h (k x F σ H I)
theorem JT.imp {R' : Bool → List Sl → Prop} (h : JT X c e G R Ex) (k : ∀ d G, R d G → R' d G) : JT X c e G R' Ex := fun x F σ H I => wT_mono (h x F σ H I) fun v H' q => q.mono (Same.refl _) k
theorem jt_val (h : JE X c e G (fun x G1 => ∃ k, x = .bl k ∧ R k G1) Ex) (he : ∀ whole, isTrue e X.env whole = (do let v ← whole; standAt e.pos; holding [v] (truthy v)) := by intro _; rfl) : JT X c e G R Ex :=
  jt_of (pt_val pe_w he) fun x F σ H I => wE_mono (h x F σ H I) fun v H1 ⟨F1, d1, G1, s1, I1, r1, k, e1, q⟩ => by
    subst e1
    exact ⟨k, r1, F1, G1, s1, I1, q⟩
theorem jt_chain {op op' : CmpOp} {g g' : Int → Int → Bool} (ho : OpR X (compareOp op) (rI0 fun i j => .bl (g i j))) (ho' : OpR X (compareOp op') (rI0 fun i j => .bl (g' i j)))
    (h : JE X c a G (fun x G1 => ∃ i, x = .int i ∧ JE X c b G1 (fun y G2 => ∃ j, y = .int j ∧ (g i j = false → R false G2) ∧ (g i j = true → JE X c e3 G2 (fun z G3 => ∃ k, z = .int k ∧ R (g' j k) G3) Ex)) Ex) Ex)
    (hm : lastMarks [op, op'] [b, e3] = false := by with_unfolding_all rfl) : JT X c (.Compare a [op, op'] [b, e3] pos) G R Ex :=
  jt_of (pt_chain ho ho' pe_w pe_w pe_w hm) fun x F σ H I => wE_mono (h x F σ H I) fun v H1 ⟨F1, d1, G1, s1, I1, r1, i, e1, h1⟩ => wE_mono (h1 x F1 σ H1 I1) fun w H2 ⟨F2, d2, G2, s2, I2, r2, j, e2, q1, q2⟩ => by
    subst e1 e2
    refine ⟨i, j, r1, r2, _, rfl, ?_⟩
    cases hg : g i j with
    | false => exact iteF ⟨_, rfl, F2, G2, s1.trans s2, I2, q1 hg⟩
    | true => exact iteT (wE_mono (q2 hg x F2 σ H2 I2) fun z H3 ⟨F3, d3, G3, s3, I3, r3, k, e3, q⟩ => by
        subst e3
        exact ⟨j, k, r2, r3, _, rfl, F3, G3, (s1.trans s2).trans s3, I3, q⟩)
theorem jt_not (h : JT X c a G (fun k G1 => R (!k) G1) Ex) : JT X c (.UnaryOp .Not a pos) G R Ex := jt_of (pt_not pt_w) fun x F σ H I => h x F σ H I
/-- and, or as a test, whatever whole is -/
def wW (X : Cx) (e : Expr) : TT := fun σ H Q => ∀ whole pins s, Inv X pins σ H s → wpAny (model X.prog X.w) X.A (isTrue e X.env whole) (TP X pins σ Q) X.xe s
theorem pw_w : PW X e (wW X e) := ⟨fun whole pins s σ H Q I h => h whole pins s I⟩
def JW (X : Cx) (c : JC) (e : Expr) (G : List Sl) (R : Bool → List Sl → Prop) (Ex : XQ) : Prop := Xt X c Ex → ∀ F σ H, JI X.K c F H σ G → wW X e σ H (QT X c F σ R)
theorem wW_of {t : TT} {Q : Bool → Hp → Prop} (h : PW X e t) (q : t σ H Q) : wW X e σ H Q := fun whole pins s I => h.run whole pins s σ H Q I q
theorem wW_mono {Q Q' : Bool → Hp → Prop} (h : wW X e σ H Q) (k : ∀ v H', Q v H' → Q' v H') : wW X e σ H Q' := fun whole pins s I => thn (h whole pins s I) fun _ _ ⟨H', I', q⟩ => ⟨H', I', k _ H' q⟩
theorem jt_w (h : JW X c e G R Ex) : JT X c e G R Ex := fun x F σ H I pins s i => h x F σ H I _ pins s i
theorem jw_and1 (h : JT X c a G R Ex) : JW X c (.BoolOp .And [a] pos) G R Ex := fun x F σ H I => wW_of (pw_and1 pt_w) (h x F σ H I)
theorem jw_or1 (h : JT X c a G R Ex) : JW X c (.BoolOp .Or [a] pos) G R Ex := fun x F σ H I => wW_of (pw_or1 pt_w) (h x F σ H I)
theorem jw_and {rest : List Expr} (h : JT X c a G (fun k G1 => (k = true → JW X c (.BoolOp .And (b :: rest) pos) G1 R Ex) ∧ (k = false → R false G1)) Ex) : JW X c (.BoolOp .And (a :: b :: rest) pos) G R Ex :=
  fun x F σ H I => wW_of (pw_and pt_w pw_w) (wT_mono (h x F σ H I) fun k H1 ⟨F1, G1, s1, I1, q1, q2⟩ => by
    cases k with
    | false => exact iteF ⟨F1, G1, s1, I1, q2 rfl⟩
    | true => exact iteT (wW_mono (q1 rfl x F1 σ H1 I1) fun v H2 q => q.mono s1 fun _ _ z => z))
theorem jw_or {rest : List Expr} (h : JT X c a G (fun k G1 => (k = false → JW X c (.BoolOp .Or (b :: rest) pos) G1 R Ex) ∧ (k = true → R true G1)) Ex) : JW X c (.BoolOp .Or (a :: b :: rest) pos) G R Ex :=
  fun x F σ H I => wW_of (pw_or pt_w pw_w) (wT_mono (h x F σ H I) fun k H1 ⟨F1, G1, s1, I1, q1, q2⟩ => by
    cases k with
    | true => exact iteT ⟨F1, G1, s1, I1, q2 rfl⟩
    | false => exact iteF (wW_mono (q1 rfl x F1 σ H1 I1) fun v H2 q => q.mono s1 fun _ _ z => z))
theorem je_if {t : Expr} (h : JT X c t G (fun k G1 => (k = true → JE X c a G1 Q Ex) ∧ (k = false → JE X c b G1 Q Ex)) Ex) : JE X c (.IfExp t a b pos) G Q Ex :=
  je_of (pe_ifExp pt_w pe_w pe_w) fun x F σ H I => wT_mono (h x F σ H I) fun k H1 ⟨F1, G1, s1, I1, q1, q2⟩ => by
    cases k with
    | true => exact iteT (wE_mono (q1 rfl x F1 σ H1 I1) fun v H2 q => q.mono s1 fun _ _ z => z)
    | false => exact iteF (wE_mono (q2 rfl x F1 σ H1 I1) fun v H2 q => q.mono s1 fun _ _ z => z)

/-! ### arguments, displays -/
variable {S : List D → List Sl → Prop}
theorem QA.mono {S S' : List D → List Sl → Prop} {v : List V} (s : Same F F') (h : QA X c F' σ S v H) (k : ∀ d G, S d G → S' d G) : QA X c F σ S' v H := by
  obtain ⟨F2, d, G', s2, I, r, q⟩ := h
  exact ⟨F2, d, G', s.trans s2, I, r, k _ _ q⟩
theorem ja_of {t : TA} (h : PA X es t) (k : Xt X c Ex → ∀ F σ H, JI X.K c F H σ G → t σ H (QA X c F σ S)) : JA X c es G S Ex := fun x F σ H I => wA_of h (k x F σ H I)
theorem ja_nil (q : S [] G) : JA X c [] G S Ex := ja_of pa_nil fun _ F σ H I => ⟨F, [], G, Same.refl _, I, rfl, q⟩
theorem ja_cons (h : JE X c e G (fun d G1 => JA X c es G1 (fun ds G2 => S (d :: ds) G2) Ex) Ex) (hs : starEach (e :: es) X.env = (false, eval e X.env) :: starEach es X.env := by rfl) : JA X c (e :: es) G S Ex :=
  ja_of (pa_cons pe_w pa_w hs) fun x F σ H I => wE_mono (h x F σ H I) fun v H1 ⟨F1, d1, G1, s1, I1, r1, h1⟩ => wA_mono (h1 x F1 σ H1 I1) fun vs H2 ⟨F2, ds, G2, s2, I2, r2, q⟩ => ⟨F2, d1 :: ds, G2, s1.trans s2, I2, ⟨v, vs, rfl, r1.mono s2, r2⟩, q⟩
theorem je_tup {x1} (h : JA X c es G (fun ds G1 => ds.length ≤ sizeLine ∧ Q (.tup ds) G1) Ex) : JE X c (.Tuple es x1 pos) G Q Ex :=
  je_of (pe_tup pa_w) fun x F σ H I => wA_mono (h x F σ H I) fun vs H1 ⟨F1, ds, G1, s1, I1, r1, hz, q⟩ => by
    refine ⟨by rw [r1.length]; exact hz, fun p hp => ?_⟩
    have n := I1.jx.fnone hp
    exact ⟨upd F1 p (.tup vs), .tup ds, G1, s1.trans (same_new n), I1.new hp, ⟨p, vs, rfl, .inl (.inl upd_same), r1.mono (same_new n)⟩, q⟩
/-- a new list, put at p -/
theorem air_new {l : List D} {xs : List V} {p : Addr} (I : JI X.K c F H σ G) (r : RepL X.K F l xs) (hp : H p = none) : AirL X c F (upd H p (.lst xs)) σ G p l where
  ji := I.newO hp
  fn := I.jx.fnone hp
  h0 := I.jx.gone hp
  at_ := ⟨xs, upd_same, r⟩
  ne := fun j l' e => by
    obtain ⟨_, _, _, ys, q, _⟩ := I.own j p l' e
    rw [hp] at q
    cases q
variable {N : Addr → List D → List Sl → Prop}
theorem jn_of {t : TE} (h : PE X e t) (k : Xt X c Ex → ∀ F σ H, JI X.K c F H σ G → t σ H (QN X c F σ N)) : JN X c e G N Ex := fun x F σ H I => wE_of h (k x F σ H I)
theorem jn_lst (h : JA X c es G (fun ds G1 => ds.length ≤ sizeLine ∧ ∀ p, N p ds G1) Ex) : JN X c (.List es pos) G N Ex :=
  jn_of (pe_lst pa_w) fun x F σ H I => wA_mono (h x F σ H I) fun vs H1 ⟨F1, ds, G1, s1, I1, r1, hz, q⟩ => ⟨by rw [r1.length]; exact hz, fun p hp => ⟨F1, p, ds, G1, s1, rfl, air_new I1 r1 hp, q p⟩⟩
theorem je_lst (h : JA X c es G (fun ds G1 => ds.length ≤ sizeLine ∧ Q (.lst ds) G1) Ex) : JE X c (.List es pos) G Q Ex := JE.of_air (jn_lst (N := fun _ l G' => Q (.lst l) G') (fun x F σ H I => wA_mono (h x F σ H I) fun vs H1 q => q.mono (Same.refl _) fun ds G1 z => ⟨z.1, fun _ => z.2⟩))
/-- {} -/
theorem je_emp (q : Q (.dic [] []) G) : JE X c (.Dict [] [] pos) G Q Ex :=
  je_of pe_dnewK fun _ F σ H I p hp => by
    have n := I.jx.fnone hp
    exact ⟨upd F p (.dK []), .dic [] [], G, same_new n, I.new hp, ⟨p, [], rfl, upd_same, rfl⟩, q⟩

/-! ### items -/
theorem ixN_len {n m : Nat} {i : Int} {j : Nat} (e : n = m) (h : ixN n i = some j) : ixN m i = some j := by rw [← e]; exact h
theorem RepL.atI {K : PySem.W.Frag} {l : List D} {xs : List V} {i : Int} {d : D} (r : RepL K F l xs) (h : L2.atI l i = some d) : ∃ x, L2.atI xs i = some x ∧ Rep K F d x := by
  unfold L2.atI at h ⊢
  rw [r.length]
  cases e : ixN l.length i with
  | none =>
    rw [e] at h
    cases h
  | some j =>
    rw [e] at h
    obtain ⟨x, h1, h2⟩ := r.get (i := j) (d := d) h
    exact ⟨x, h1, h2⟩
def D.items : D → List D
  | .lst l => l
  | .tup l => l
  | _ => []
def D.isSeq : D → Bool
  | .lst _ => true
  | .tup _ => true
  | _ => false
theorem je_ix (h : JE X c a G (fun x G1 => x.isSeq = true ∧ JE X c b G1 (fun y G2 => ∃ i d, y = .int i ∧ L2.atI x.items i = some d ∧ Q d G2) Ex) Ex) (hs : PlainIx b := by exact fun _ _ => rfl) : JE X c (.Subscript a b pos) G Q Ex :=
  je_of (pe_ix ix_seq pe_w pe_w hs) fun x F σ H I => wE_mono (h x F σ H I) fun v H1 ⟨F1, d1, G1, s1, I1, r1, hq, h1⟩ => wE_mono (h1 x F1 σ H1 I1) fun w H2 ⟨F2, d2, G2, s2, I2, r2, i, d, e2, e3, q⟩ => by
    subst e2
    have r3 := r1.mono s2
    cases d1 with
    | lst l =>
      obtain ⟨p, xs, ev, hp, hl⟩ := r3
      obtain ⟨y, q1, q2⟩ := hl.atI e3
      exact .inl ⟨p, xs, i, y, ev, r2, .inl (.inl (I2.jx.fh _ _ hp)), q1, F2, d, G2, s1.trans s2, I2, q2, q⟩
    | tup l =>
      obtain ⟨p, xs, ev, hp, hl⟩ := r3
      obtain ⟨y, q1, q2⟩ := hl.atI e3
      exact .inr (.inl ⟨p, xs, i, y, ev, r2, Same.sqt I2.jx.fh hp, q1, F2, d, G2, s1.trans s2, I2, q2, q⟩)
    | non => cases hq
    | bl _ => cases hq
    | int _ => cases hq
    | str _ => cases hq
    | dic _ _ => cases hq
    | lok _ => cases hq
    | ref _ => cases hq
    | exc _ _ => cases hq
/-- an item of a list of ours, by its name -/
theorem je_ixO {i : Nat} {x : Str} {p : Addr} {l : List D} {pos'} (hN : X.N[i]? = some x) (hv : Vis X.env.scope x) (hg : G[i]? = some (Sl.own p l)) (h : JE X c b G (fun y G2 => ∃ k d l', y = .int k ∧ G2[i]? = some (Sl.own p l') ∧ L2.atI l' k = some d ∧ Q d G2) Ex)
    (hs : PlainIx b := by exact fun _ _ => rfl) (hd : (x == ("__debug__" : Str)) = false := by decide) (hcd : (x == ("__classdict__" : Str)) = false := by decide) : JE X c (.Subscript (.Name x pos') b pos) G Q Ex :=
  je_of (pe_ix ix_list (pe_var hN hv hd hcd) pe_w hs) fun x F σ H I => by
    obtain ⟨h1, _⟩ := I.own i p l hg
    refine ⟨.ref p, h1, wE_mono (h x F σ H I) fun w H2 ⟨F2, d2, G2, s2, I2, r2, k, d, l', e2, e4, e3, q⟩ => ?_⟩
    subst e2
    obtain ⟨_, _, _, xs, hp, hl⟩ := I2.own i p l' e4
    obtain ⟨y, q1, q2⟩ := hl.atI e3
    exact ⟨p, xs, k, y, rfl, r2, .inl (.inl hp), q1, F2, d, G2, s2, I2, q2, q⟩

/-! ### slices of lists -/
def JO (X : Cx) (c : JC) (o : Option Expr) (G : List Sl) (R : Option Int → List Sl → Prop) (Ex : XQ) : Prop := match o with
  | none => R none G
  | some e => JE X c e G (fun d G1 => ∃ i, d = .int i ∧ R (some i) G1) Ex
def tO (X : Cx) (o : Option Expr) : TO := match o with
  | none => tNoPart
  | some e => tPart (wE X e)
theorem po_w {o : Option Expr} : PO X o (tO X o) := by
  cases o with
  | none => exact po_none
  | some e => exact po_some pe_w
theorem JO.run : ∀ {o : Option Expr} {R : Option Int → List Sl → Prop}, JO X c o G R Ex → Xt X c Ex → JI X.K c F H σ G → tO X o σ H (fun i H' => ∃ F' G', Same F F' ∧ JI X.K c F' H' σ G' ∧ R i G')
  | none, R, h, x, I => ⟨F, G, Same.refl _, I, h⟩
  | some e, R, h, x, I => wE_mono (h x F σ H I) fun v H1 ⟨F1, d1, G1, s1, I1, r1, i, e1, q⟩ => by
      subst e1
      exact ⟨i, r1, F1, G1, s1, I1, q⟩
def cutD (l : List D) (lo hi : Option Int) : List D := (l.drop (HT.sIx l.length 0 lo)).take (HT.sIx l.length l.length hi - HT.sIx l.length 0 lo)
theorem RepL.cut {K : PySem.W.Frag} {l : List D} {xs : List V} (r : RepL K F l xs) (lo hi : Option Int) : RepL K F (cutD l lo hi) (cutV xs lo hi) := by
  unfold cutD cutV
  rw [r.length]
  exact (r.drop _).take _
theorem tO_mono {o : Option Expr} {Q Q' : Option Int → Hp → Prop} (h : tO X o σ H Q) (k : ∀ v H', Q v H' → Q' v H') : tO X o σ H Q' := by
  cases o with
  | none => exact k _ _ h
  | some e => exact wE_mono h fun v H1 ⟨i, e1, q⟩ => ⟨i, e1, k _ _ q⟩
theorem jn_sl {lo hi : Option Expr} {p2} (h : JE X c a G (fun d G1 => ∃ l, d = .lst l ∧ JO X c lo G1 (fun i G2 => JO X c hi G2 (fun j G3 => ∀ p, N p (cutD l i j) G3) Ex) Ex) Ex) : JN X c (.Subscript a (.Slice lo hi none p2) pos) G N Ex :=
  jn_of (pe_slice sl_list pe_w po_w po_w) fun x F σ H I => wE_mono (h x F σ H I) fun v H1 ⟨F1, d1, G1, s1, I1, r1, l, e1, h1⟩ => tO_mono (h1.run x I1) fun i H2 ⟨F2, G2, s2, I2, h2⟩ => tO_mono (h2.run x I2) fun j H3 ⟨F3, G3, s3, I3, q⟩ => by
    subst e1
    obtain ⟨p, xs, ev, hp, hl⟩ := r1
    refine ⟨p, xs, ev, SqL.of ((s2.trans (s3.trans I3.jx.fh)) _ _ hp), fun t ht => ?_⟩
    exact ⟨F3, t, _, G3, (s1.trans s2).trans s3, rfl, air_new I3 ((hl.mono (s2.trans s3)).cut i j) ht, q t⟩
theorem je_slT {lo hi : Option Expr} {p2} (h : JE X c a G (fun d G1 => ∃ l, d = .tup l ∧ JO X c lo G1 (fun i G2 => JO X c hi G2 (fun j G3 => ¬ (HT.sIx l.length 0 i = 0 ∧ HT.sIx l.length l.length j = l.length) ∧ Q (.tup (cutD l i j)) G3) Ex) Ex) Ex) : JE X c (.Subscript a (.Slice lo hi none p2) pos) G Q Ex :=
  je_of (pe_slice sl_tup pe_w po_w po_w) fun x F σ H I => wE_mono (h x F σ H I) fun v H1 ⟨F1, d1, G1, s1, I1, r1, l, e1, h1⟩ => tO_mono (h1.run x I1) fun i H2 ⟨F2, G2, s2, I2, h2⟩ => tO_mono (h2.run x I2) fun j H3 ⟨F3, G3, s3, I3, hn, q⟩ => by
    subst e1
    obtain ⟨p, xs, ev, hp, hl⟩ := r1
    refine ⟨p, xs, ev, Same.sqt (s2.trans (s3.trans I3.jx.fh)) hp, by rw [hl.length]; exact hn, fun t ht => ?_⟩
    have n := I3.jx.fnone ht
    exact ⟨upd F3 t _, .tup (cutD l i j), G3, ((s1.trans s2).trans s3).trans (same_new n), I3.new ht, ⟨t, _, rfl, .inl (.inl upd_same), ((hl.mono (s2.trans s3)).cut i j).mono (same_new n)⟩, q⟩
/-- xs[::-1] -/
theorem jn_rev {k : Nat} {p1 p2 p3 : Pos} (h : JE X c a G (fun d G1 => ∃ l, d = .lst l ∧ ∀ p, N p l.reverse G1) Ex) : JN X c (.Subscript a (.Slice none none (some (.UnaryOp .USub (.Constant (.int 1) k p1) p2)) p3) pos) G N Ex :=
  jn_of (pe_revL pe_w) fun x F σ H I => wE_mono (h x F σ H I) fun v H1 ⟨F1, d1, G1, s1, I1, r1, l, e1, q⟩ => by
    subst e1
    obtain ⟨p, xs, ev, hp, hl⟩ := r1
    exact ⟨p, xs, ev, SqL.of (I1.jx.fh _ _ hp), fun t ht => ⟨F1, t, _, G1, s1, rfl, air_new I1 hl.reverse ht, q t⟩⟩
/-- a slice of a locked list -/
theorem jn_slF {lo hi : Option Expr} {p2} (h : JE X c a G (fun d G1 => ∃ l, d = .lok l ∧ JO X c lo G1 (fun i G2 => JO X c hi G2 (fun j G3 => ∀ p, N p (cutD l i j) G3) Ex) Ex) Ex) : JN X c (.Subscript a (.Slice lo hi none p2) pos) G N Ex :=
  jn_of (pe_slice sl_list pe_w po_w po_w) fun x F σ H I => wE_mono (h x F σ H I) fun v H1 ⟨F1, d1, G1, s1, I1, r1, l, e1, h1⟩ => tO_mono (h1.run x I1) fun i H2 ⟨F2, G2, s2, I2, h2⟩ => tO_mono (h2.run x I2) fun j H3 ⟨F3, G3, s3, I3, q⟩ => by
    subst e1
    obtain ⟨p, xs, ev, hp, hl⟩ := r1
    refine ⟨p, xs, ev, Same.seq (s2.trans (s3.trans I3.jx.fh)) hp, fun t ht => ?_⟩
    exact ⟨F3, t, _, G3, (s1.trans s2).trans s3, rfl, air_new I3 ((hl.mono (s2.trans s3)).cut i j) ht, q t⟩
/-! ### lists put together -/
theorem jn_cat (h : JE X c a G (fun x G1 => ∃ l, x = .lst l ∧ JE X c b G1 (fun y G2 => ∃ l', y = .lst l' ∧ l.length + l'.length ≤ sizeLine ∧ ∀ p, N p (l ++ l') G2) Ex) Ex) : JN X c (.BinOp a .Add b pos) G N Ex :=
  jn_of (pe_op op_cat pe_w pe_w) fun x F σ H I => wE_mono (h x F σ H I) fun v H1 ⟨F1, d1, G1, s1, I1, r1, l, e1, h1⟩ => wE_mono (h1 x F1 σ H1 I1) fun w H2 ⟨F2, d2, G2, s2, I2, r2, l', e2, hz, q⟩ => by
    subst e1 e2
    obtain ⟨p, xs, ev, hp, hl⟩ := r1
    obtain ⟨p', ys, ew, hp', hl'⟩ := r2
    refine ⟨p, p', xs, ys, ev, ew, I2.jx.fh _ _ (s2 _ _ hp), I2.jx.fh _ _ hp', by rw [hl.length, hl'.length]; exact hz, fun t ht => ?_⟩
    exact ⟨F2, t, _, G2, s1.trans s2, rfl, air_new I2 ((hl.mono s2).append hl') ht, q t⟩
theorem RepL.rep {K : PySem.W.Frag} {l : List D} {xs : List V} (r : RepL K F l xs) : ∀ k : Nat, RepL K F (List.replicate k l).flatten (List.replicate k xs).flatten
  | 0 => rfl
  | k + 1 => by
    rw [List.replicate_succ, List.replicate_succ, List.flatten_cons, List.flatten_cons]
    exact r.append (RepL.rep r k)
theorem jn_rep (h : JE X c a G (fun x G1 => ∃ l, x = .lst l ∧ JE X c b G1 (fun y G2 => ∃ k, y = .int k ∧ -(2 ^ 63) ≤ k ∧ k < 2 ^ 63 ∧ l.length * k.toNat ≤ sizeLine ∧ ∀ p, N p (List.replicate k.toNat l).flatten G2) Ex) Ex) : JN X c (.BinOp a .Mult b pos) G N Ex :=
  jn_of (pe_op op_rep pe_w pe_w) fun x F σ H I => wE_mono (h x F σ H I) fun v H1 ⟨F1, d1, G1, s1, I1, r1, l, e1, h1⟩ => wE_mono (h1 x F1 σ H1 I1) fun w H2 ⟨F2, d2, G2, s2, I2, r2, k, e2, b1, b2, hz, q⟩ => by
    subst e1 e2
    obtain ⟨p, xs, ev, hp, hl⟩ := r1
    refine ⟨p, k, xs, ev, r2, I2.jx.fh _ _ (s2 _ _ hp), b1, b2, by rw [hl.length]; exact hz, fun t ht => ?_⟩
    exact ⟨F2, t, _, G2, s1.trans s2, rfl, air_new I2 ((hl.mono s2).rep _) ht, q t⟩
theorem je_catT (h : JE X c a G (fun x G1 => ∃ l, x = .tup l ∧ l ≠ [] ∧ JE X c b G1 (fun y G2 => ∃ l', y = .tup l' ∧ l' ≠ [] ∧ l.length + l'.length ≤ sizeLine ∧ Q (.tup (l ++ l')) G2) Ex) Ex) : JE X c (.BinOp a .Add b pos) G Q Ex :=
  je_of (pe_op op_catT pe_w pe_w) fun x F σ H I => wE_mono (h x F σ H I) fun v H1 ⟨F1, d1, G1, s1, I1, r1, l, e1, n1, h1⟩ => wE_mono (h1 x F1 σ H1 I1) fun w H2 ⟨F2, d2, G2, s2, I2, r2, l', e2, n2, hz, q⟩ => by
    subst e1 e2
    obtain ⟨p, xs, ev, hp, hl⟩ := r1
    obtain ⟨p', ys, ew, hp', hl'⟩ := r2
    have z1 : xs ≠ [] := fun z => n1 (List.eq_nil_of_length_eq_zero (by rw [← hl.length, z]; rfl))
    have z2 : ys ≠ [] := fun z => n2 (List.eq_nil_of_length_eq_zero (by rw [← hl'.length, z]; rfl))
    refine ⟨p, p', xs, ys, ev, ew, Same.sqt (s2.trans I2.jx.fh) hp, Same.sqt I2.jx.fh hp', z1, by rw [hl.length, hl'.length]; exact hz, fun z => absurd z z2, fun _ t ht => ?_⟩
    have n := I2.jx.fnone ht
    exact ⟨upd F2 t _, .tup (l ++ l'), G2, (s1.trans s2).trans (same_new n), I2.new ht, ⟨t, _, rfl, .inl (.inl upd_same), ((hl.mono s2).append hl').mono (same_new n)⟩, q⟩
end
end J
end
section
set_option maxRecDepth 100000
set_option maxHeartbeats 4000000
namespace J
open PySem PySem.Spec PyProof.Rows L2

/-! ### built-in names that no module's name hides -/
structure Bt (mg : Str → Option Value) : Prop where
  isi : mg "isinstance" = none
  int : mg "int" = none
  bool : mg "bool" = none
  list : mg "list" = none
  tuple : mg "tuple" = none
  str : mg "str" = none
  len : mg "len" = none
  abs : mg "abs" = none
  range : mg "range" = none
  repr : mg "repr" = none
  all : mg "all" = none

/-! ### types of trees -/
def D.ty : D → Option String
  | .non => some "NoneType"
  | .bl _ => some "bool"
  | .int _ => some "int"
  | .str _ => some "str"
  | .lst _ => some "list"
  | .lok _ => some "list"
  | .tup _ => some "tuple"
  | .dic _ _ => some "dict"
  | .ref _ => none
  | .exc _ _ => none
section
variable {K : PySem.W.Frag} {F F' H : Hp}
theorem Rep.tyX : ∀ {d : D} {v : V} {t : String}, Rep K F d v → Same F H → d.ty = some t → TyX K H v (.type t)
  | .non, v, t, h, s, e => by
    obtain rfl : v = .non := h
    cases e
    exact .base .non
  | .bl _, v, t, h, s, e => by
    obtain rfl : v = .bl _ := h
    cases e
    exact .base (.bl _)
  | .int _, v, t, h, s, e => by
    obtain rfl : v = .int _ := h
    cases e
    exact .base (.int _)
  | .str _, v, t, h, s, e => by
    obtain rfl : v = .str _ := h
    cases e
    exact .base (.str _)
  | .lst _, v, t, h, s, e => by
    obtain ⟨a, xs, rfl, h1, _⟩ := h
    cases e
    exact .base (.lst (s _ _ h1))
  | .lok _, v, t, h, s, e => by
    obtain ⟨a, xs, rfl, h1, _⟩ := h
    cases e
    rcases Same.seq s h1 with (h1 | ⟨o, h1⟩) | ⟨o, its, n, h1, h2, _⟩
    · exact .base (.lst h1)
    · exact .base (.frz h1)
    · exact .kList h1 h2
  | .tup _, v, t, h, s, e => by
    obtain ⟨a, xs, rfl, h1, _⟩ := h
    cases e
    rcases Same.sqt s h1 with (h1 | ⟨o, h1⟩) | ⟨o, its, n, h1, h2, _⟩
    · exact .base (.tup h1)
    · exact .fTuple h1
    · exact .kTuple h1 h2
  | .dic _ _, v, t, h, s, e => by
    obtain ⟨a, xs, rfl, h1, _⟩ := h
    cases e
    exact .base (.dK (s _ _ h1))
  | .ref _, _, _, _, _, e => nomatch e
  | .exc _ _, _, _, _, _, e => nomatch e
end

/-! ### trees as data of the library: equality, repr -/
mutual
def D.py : D → Option PyData
  | .non => some .none
  | .bl b => some (.bool b)
  | .int i => some (.int i)
  | .str x => some (.str x)
  | .lst l => (D.pyL l).map .list
  | .lok _ => none
  | .tup l => (D.pyL l).map .tuple
  | .dic [] [] => some (.dict [])
  | .dic _ _ => none
  | .ref _ => none
  | .exc _ _ => none
def D.pyL : List D → Option (List PyData)
  | [] => some []
  | d :: l => (D.py d).bind fun p => (D.pyL l).map (p :: ·)
end
section
variable {X : Cx} {pins : List (Addr × Obj)} {σ : L2.St} {F H : Hp} {s : Shared}
theorem noSys {a : Addr} {kvs : List (Key × V)} (I : Inv X pins σ H s) (h : H a = some (.dK kvs)) : (a == sysModules) = false := (I.hok a _ h).2.1
mutual
theorem Rep.reads (I : Inv X pins σ H s) (sm : Same F H) (sy : ∃ φ, H sysModules = some (.ext φ)) : ∀ (d : D) (v : V) (u : Value) (p : PyData), Rep X.K F d v → RelV v u → d.py = some p → ∃ as, Reads s.heap u p as ∧ sysModules ∉ as
  | .non, v, u, p, h, r, e => by
    obtain rfl : v = .non := h
    obtain rfl : u = .none := r
    cases e
    exact ⟨_, .none, by simp⟩
  | .bl b, v, u, p, h, r, e => by
    obtain rfl : v = .bl b := h
    obtain rfl : u = .bool b := r
    cases e
    exact ⟨_, .bool b, by simp⟩
  | .int i, v, u, p, h, r, e => by
    obtain rfl : v = .int i := h
    obtain ⟨t, rfl⟩ := r
    cases e
    exact ⟨_, .int i t, by simp⟩
  | .str x, v, u, p, h, r, e => by
    obtain rfl : v = .str x := h
    obtain ⟨t, rfl⟩ := r
    cases e
    exact ⟨_, .str x t, by simp⟩
  | .lst l, v, u, p, h, r, e => by
    obtain ⟨a, xs, rfl, h1, h2⟩ := h
    cases r
    obtain ⟨ps, e1, rfl⟩ := Option.map_eq_some_iff.mp e
    obtain ⟨_, its, n, rv, ho⟩ := I.hok a _ (sm _ _ h1)
    obtain ⟨as, q1, q2⟩ := RepL.reads I sm sy l xs its ps h2 rv e1
    refine ⟨a :: as, .list ho rfl rfl (by simpa using q1), fun z => ?_⟩
    rcases List.mem_cons.mp z with z | z
    · obtain ⟨φ, q⟩ := sy
      exact ne_of q (sm _ _ h1) (by intro z; cases z) z
    · exact q2 z
  | .lok l, v, u, p, h, r, e => nomatch e
  | .tup l, v, u, p, h, r, e => by
    obtain ⟨a, xs, rfl, h1, h2⟩ := h
    cases r
    obtain ⟨ps, e1, rfl⟩ := Option.map_eq_some_iff.mp e
    obtain ⟨its, rv, ⟨o, ho, hc, n, hd⟩, _⟩ := I.tuple (Same.sqt sm h1)
    obtain ⟨as, q1, q2⟩ := RepL.reads I sm sy l xs its ps h2 rv e1
    exact ⟨as, .tuple ho hc hd (by simpa using q1), q2⟩
  | .dic [] [], v, u, p, h, r, e => by
    obtain ⟨a, xs, rfl, h1, h2⟩ := h
    cases r
    cases e
    have h2 : xs = [] := h2
    subst h2
    obtain ⟨_, _, vs, rv, o, es, ep, ho, hx, hd, _, hp, hn⟩ := I.hok a _ (sm _ _ h1)
    have rv : KV [] vs := rv
    cases rv
    have hes : es.toList = [] := by
      generalize es.toList = l at hp
      cases hp
      rfl
    refine ⟨[a] ++ [], .dict ho hx.1 hd (by rw [hes]; exact .nil) (by rw [hes]; exact .nil), fun z => ?_⟩
    have z : sysModules = a := by simpa using z
    obtain ⟨φ, q⟩ := sy
    exact ne_of q (sm _ _ h1) (by intro z; cases z) z
  | .dic (_ :: _) _, v, u, p, h, r, e => nomatch e
  | .dic [] (_ :: _), v, u, p, h, r, e => nomatch e
  | .ref _, v, u, p, h, r, e => nomatch e
  | .exc _ _, v, u, p, h, r, e => nomatch e
theorem RepL.reads (I : Inv X pins σ H s) (sm : Same F H) (sy : ∃ φ, H sysModules = some (.ext φ)) : ∀ (l : List D) (xs : List V) (us : List Value) (ps : List PyData), RepL X.K F l xs → Vals xs us → D.pyL l = some ps → ∃ as, ReadsAll s.heap us ps as ∧ sysModules ∉ as
  | [], xs, us, ps, h, r, e => by
    obtain rfl : xs = [] := h
    cases r
    cases e
    exact ⟨_, .nil, by simp⟩
  | d :: l, xs, us, ps, h, r, e => by
    obtain ⟨x, xr, rfl, h1, h2⟩ := h
    cases r with
    | cons r1 r2 =>
      obtain ⟨p, e1, e2⟩ := Option.bind_eq_some_iff.mp e
      obtain ⟨pr, e3, rfl⟩ := Option.map_eq_some_iff.mp e2
      obtain ⟨as, q1, q2⟩ := Rep.reads I sm sy d x _ p h1 r1 e1
      obtain ⟨bs, q3, q4⟩ := RepL.reads I sm sy l xr _ pr h2 r2 e3
      exact ⟨as ++ bs, .cons q1 q3, fun z => (List.mem_append.mp z).elim q2 q4⟩
end
end

/-! ### built-ins called -/
section
variable {X : Cx} {c : JC} {e a b e3 : Expr} {es : List Expr} {G : List Sl} {Ex : XQ} {pos p1 : Pos} {Q : D → List Sl → Prop} {F F' : Hp} {σ : L2.St} {H : Hp}
/-- a built-in function of one argument -/
theorem je_b1 {x id : String} {r : List V → Hp → VK → Prop} (hc : CallR X (.builtin id) r) (hm : X.mg (Str.ofString x) = none) (hv : bootBuiltins (Str.ofString x) = some (.builtin id)) (hg : Gl X (Str.ofString x))
    (h : JE X c a G (fun d G1 => ∀ Fb F H σ v, Same Fb F → JI X.K c F H σ G1 → Rep X.K F d v → r [v] H (QE X c Fb σ Q)) Ex)
    (hn : Str.ofString x ≠ "__name__" := by decide) (hdb : (Str.ofString x == ("__debug__" : Str)) = false := by decide) (he : starEach [a] X.env = (false, eval a X.env) :: starEach [] X.env := by rfl) (hpl : (backTo pos (starEach [] X.env)).any (·.1) = false := by rfl) : JE X c (.Call (.Name (Str.ofString x) p1) [a] [] pos) G Q Ex :=
  je_of (pe_callB hc hg hm hv (pa_cons pe_w pa_nil he) hn hdb he hpl) fun x F σ H I => wE_mono (h x F σ H I) fun v H1 ⟨F1, d1, G1, s1, I1, r1, q⟩ => q F F1 H1 σ v s1 I1 r1
theorem je_t1 {x id : String} {r : List V → Hp → VK → Prop} (hc : CallR X (.type id) r) (hm : X.mg (Str.ofString x) = none) (hv : bootBuiltins (Str.ofString x) = some (.type id)) (hg : Gl X (Str.ofString x))
    (h : JE X c a G (fun d G1 => ∀ Fb F H σ v, Same Fb F → JI X.K c F H σ G1 → Rep X.K F d v → r [v] H (QE X c Fb σ Q)) Ex)
    (hn : Str.ofString x ≠ "__name__" := by decide) (hdb : (Str.ofString x == ("__debug__" : Str)) = false := by decide) (he : starEach [a] X.env = (false, eval a X.env) :: starEach [] X.env := by rfl) (hpl : (backTo pos (starEach [] X.env)).any (·.1) = false := by rfl) : JE X c (.Call (.Name (Str.ofString x) p1) [a] [] pos) G Q Ex :=
  je_of (pe_callTy hc hg hm hv (pa_cons pe_w pa_nil he) hn hdb he hpl) fun x F σ H I => wE_mono (h x F σ H I) fun v H1 ⟨F1, d1, G1, s1, I1, r1, q⟩ => q F F1 H1 σ v s1 I1 r1
theorem je_intI (B : Bt X.mg) (hg : Gl X "int") (h : JE X c a G (fun d G1 => ∃ i, d = .int i ∧ Q (.int i) G1) Ex) (he : starEach [a] X.env = (false, eval a X.env) :: starEach [] X.env := by rfl) : JE X c (.Call (.Name "int" p1) [a] [] pos) G Q Ex :=
  je_t1 (x := "int") call_int1 B.int (by decide +kernel) hg (h.imp fun d G1 ⟨i, e1, q⟩ Fb F H σ v s I r => by
    subst e1
    exact .inl ⟨i, by rw [show v = .int i from r], F, .int i, G1, s, I, rfl, q⟩) (he := he)
theorem je_abs (B : Bt X.mg) (hg : Gl X "abs") (h : JE X c a G (fun d G1 => ∃ i, d = .int i ∧ Q (.int i.natAbs) G1) Ex) (he : starEach [a] X.env = (false, eval a X.env) :: starEach [] X.env := by rfl) : JE X c (.Call (.Name "abs" p1) [a] [] pos) G Q Ex :=
  je_b1 (x := "abs") call_abs B.abs (by decide +kernel) hg (h.imp fun d G1 ⟨i, e1, q⟩ Fb F H σ v s I r => by
    subst e1
    refine ⟨i, by rw [show v = .int i from r], F, .int i.natAbs, G1, s, I, ?_, q⟩
    show V.int _ = V.int _
    congr 1
    split <;> omega) (he := he)
theorem je_len (B : Bt X.mg) (hg : Gl X "len") (h : JE X c a G (fun d G1 => d.isSeq = true ∧ Q (.int d.items.length) G1) Ex) (he : starEach [a] X.env = (false, eval a X.env) :: starEach [] X.env := by rfl) : JE X c (.Call (.Name "len" p1) [a] [] pos) G Q Ex :=
  je_b1 (x := "len") call_len_seq B.len (by decide +kernel) hg (h.imp fun d G1 ⟨hq, q⟩ Fb F H σ v s I r => by
    cases d with
    | lst l =>
      obtain ⟨p, xs, rfl, hp, hl⟩ := r
      exact ⟨p, xs, rfl, .inl (SqL.of (I.jx.fh _ _ hp)), F, .int l.length, G1, s, I, by rw [hl.length]; rfl, q⟩
    | tup l =>
      obtain ⟨p, xs, rfl, hp, hl⟩ := r
      exact ⟨p, xs, rfl, .inr (Same.sqt I.jx.fh hp), F, .int l.length, G1, s, I, by rw [hl.length]; rfl, q⟩
    | non => cases hq
    | bl _ => cases hq
    | int _ => cases hq
    | str _ => cases hq
    | dic _ _ => cases hq
    | lok _ => cases hq
    | ref _ => cases hq
    | exc _ _ => cases hq) (he := he)
/-- len of a list of ours, by its name -/
theorem je_lenO {i : Nat} {x : Str} {p : Addr} {l : List D} (B : Bt X.mg) (hg : Gl X "len") (hN : X.N[i]? = some x) (hv : Vis X.env.scope x) (hi : G[i]? = some (Sl.own p l)) (q : Q (.int l.length) G) {pp : Pos} (hd : (x == ("__debug__" : Str)) = false := by decide) (hcd : (x == ("__classdict__" : Str)) = false := by decide)
    (he : starEach [.Name x pp] X.env = (false, eval (.Name x pp) X.env) :: starEach [] X.env := by rfl) : JE X c (.Call (.Name "len" p1) [.Name x pp] [] pos) G Q Ex :=
  je_of (pe_callB call_len_seq hg B.len (by decide +kernel) (pa_cons (pe_var hN hv hd hcd) pa_nil he) (he := he)) fun _ F σ H I => by
    obtain ⟨h1, _, _, xs, h4, h5⟩ := I.own i p l hi
    exact ⟨.ref p, h1, p, xs, rfl, .inl (SqL.of h4), F, .int l.length, G, Same.refl _, I, by rw [h5.length]; rfl, q⟩
/-- list(x): a new list -/
theorem jn_list (B : Bt X.mg) (hg : Gl X "list") {N : Addr → List D → List Sl → Prop} (h : JE X c a G (fun d G1 => d.isSeq = true ∧ ∀ p, N p d.items G1) Ex) (he : starEach [a] X.env = (false, eval a X.env) :: starEach [] X.env := by rfl) : JN X c (.Call (.Name "list" p1) [a] [] pos) G N Ex :=
  jn_of (pe_callTy call_list_of hg B.list (by decide +kernel) (pa_cons pe_w pa_nil he) (he := he)) fun x F σ H I => wE_mono (h x F σ H I) fun v H1 ⟨F1, d1, G1, s1, I1, r1, hq, q⟩ => by
    cases d1 with
    | lst l =>
      obtain ⟨p, xs, rfl, hp, hl⟩ := r1
      exact ⟨p, xs, rfl, .inl (SqL.of (I1.jx.fh _ _ hp)), fun t ht => ⟨F1, t, _, G1, s1, rfl, air_new I1 hl ht, q t⟩⟩
    | tup l =>
      obtain ⟨p, xs, rfl, hp, hl⟩ := r1
      exact ⟨p, xs, rfl, .inr (Same.sqt I1.jx.fh hp), fun t ht => ⟨F1, t, _, G1, s1, rfl, air_new I1 hl ht, q t⟩⟩
    | non => cases hq
    | bl _ => cases hq
    | int _ => cases hq
    | str _ => cases hq
    | dic _ _ => cases hq
    | lok _ => cases hq
    | ref _ => cases hq
    | exc _ _ => cases hq
theorem RepL.bls {K : PySem.W.Frag} : ∀ {bs : List Bool} {xs : List V}, RepL K F (bs.map D.bl) xs → xs = bs.map V.bl
  | [], _, h => h
  | n :: ns, xs, h => by
    obtain ⟨x, r, e, h1, h2⟩ := h
    have h1 : x = V.bl n := h1
    rw [e, h1, RepL.bls h2]
    rfl
/-- all([..]) of a list of truth values -/
theorem je_all (hc : X.calm = true) (B : Bt X.mg) (hg : Gl X "all") (h : JE X c a G (fun d G1 => ∃ bs : List Bool, d = .lst (bs.map D.bl) ∧ Q (.bl (bs.all id)) G1) Ex) (he : starEach [a] X.env = (false, eval a X.env) :: starEach [] X.env := by rfl) : JE X c (.Call (.Name "all" p1) [a] [] pos) G Q Ex :=
  je_b1 (x := "all") (cr_all hc) B.all (by decide +kernel) hg (h.imp fun d G1 ⟨bs, e1, q⟩ Fb F H σ v s I r => by
    subst e1
    obtain ⟨p, xs, rfl, hp, hl⟩ := r
    exact ⟨p, bs, rfl, SqL.of (by rw [← hl.bls]; exact I.jx.fh _ _ hp), F, .bl (bs.all id), G1, s, I, rfl, q⟩) (he := he)
/-- isinstance(x, T), T one built-in class -/
theorem je_isi {T : String} (B : Bt X.mg) (hg : Gl X "isinstance") (hT : Gl X (Str.ofString T)) (hmT : X.mg (Str.ofString T) = none) (hvT : bootBuiltins (Str.ofString T) = some (.type T)) {p2 : Pos}
    (h : JE X c a G (fun d G1 => ∃ t b, d.ty = some t ∧ kitB t T = some b ∧ Q (.bl b) G1) Ex)
    (he : starEach [a, .Name (Str.ofString T) p2] X.env = (false, eval a X.env) :: starEach [.Name (Str.ofString T) p2] X.env := by rfl) (he2 : starEach [.Name (Str.ofString T) p2] X.env = (false, eval (.Name (Str.ofString T) p2) X.env) :: starEach [] X.env := by rfl)
    (hpl : (backTo pos (starEach [.Name (Str.ofString T) p2] X.env)).any (·.1) = false := by rfl) (hn : Str.ofString T ≠ "__name__" := by decide) (hd : (Str.ofString T == ("__debug__" : Str)) = false := by decide) :
    JE X c (.Call (.Name "isinstance" p1) [a, .Name (Str.ofString T) p2] [] pos) G Q Ex :=
  je_of (pe_callB call_isi hg B.isi (by decide +kernel) (pa_cons pe_w (pa_cons (pe_bltn (v := .ty T) hT hmT hvT rfl hn hd) pa_nil he2) he) (he := he) (hpl := hpl)) fun x F σ H I => wE_mono (h x F σ H I) fun v H1 ⟨F1, d1, G1, s1, I1, r1, t, b, e1, e2, q⟩ =>
    ⟨v, .ty T, .type t, .type T, b, rfl, .ty T, r1.tyX I1.jx.fh e1, kit_ty e2, F1, .bl b, G1, s1, I1, rfl, q⟩
/-- isinstance(x, (T, U)), two built-in classes -/
theorem je_isi2 {T U : String} (B : Bt X.mg) (hg : Gl X "isinstance") (hT : Gl X (Str.ofString T)) (hmT : X.mg (Str.ofString T) = none) (hvT : bootBuiltins (Str.ofString T) = some (.type T))
    (hU : Gl X (Str.ofString U)) (hmU : X.mg (Str.ofString U) = none) (hvU : bootBuiltins (Str.ofString U) = some (.type U)) {p2 p3 p4 : Pos} {k : Nat}
    (h : JE X c a G (fun d G1 => ∃ t b1 b2, d.ty = some t ∧ kitB t T = some b1 ∧ kitB t U = some b2 ∧ Q (.bl (b1 || b2)) G1) Ex)
    (he : starEach [a, .Tuple [.Name (Str.ofString T) p2, .Name (Str.ofString U) p3] k p4] X.env = (false, eval a X.env) :: starEach [.Tuple [.Name (Str.ofString T) p2, .Name (Str.ofString U) p3] k p4] X.env := by rfl)
    (he2 : starEach [.Tuple [.Name (Str.ofString T) p2, .Name (Str.ofString U) p3] k p4] X.env = (false, eval (.Tuple [.Name (Str.ofString T) p2, .Name (Str.ofString U) p3] k p4) X.env) :: starEach [] X.env := by rfl)
    (he3 : starEach [.Name (Str.ofString T) p2, .Name (Str.ofString U) p3] X.env = (false, eval (.Name (Str.ofString T) p2) X.env) :: starEach [.Name (Str.ofString U) p3] X.env := by rfl)
    (he4 : starEach [.Name (Str.ofString U) p3] X.env = (false, eval (.Name (Str.ofString U) p3) X.env) :: starEach [] X.env := by rfl)
    (hpl : (backTo pos (starEach [.Tuple [.Name (Str.ofString T) p2, .Name (Str.ofString U) p3] k p4] X.env)).any (·.1) = false := by rfl) (hn : Str.ofString T ≠ "__name__" := by decide) (hd : (Str.ofString T == ("__debug__" : Str)) = false := by decide)
    (hn2 : Str.ofString U ≠ "__name__" := by decide) (hd2 : (Str.ofString U == ("__debug__" : Str)) = false := by decide) :
    JE X c (.Call (.Name "isinstance" p1) [a, .Tuple [.Name (Str.ofString T) p2, .Name (Str.ofString U) p3] k p4] [] pos) G Q Ex :=
  je_of (pe_callB call_isiT hg B.isi (by decide +kernel) (pa_cons pe_w (pa_cons (pe_tup (pa_cons (pe_bltn (v := .ty T) hT hmT hvT rfl hn hd) (pa_cons (pe_bltn (v := .ty U) hU hmU hvU rfl hn2 hd2) pa_nil he4) he3)) pa_nil he2) he) (he := he) (hpl := hpl)) fun x F σ H I => wE_mono (h x F σ H I) fun v H1 ⟨F1, d1, G1, s1, I1, r1, t, b1, b2, e1, e2, e3, q⟩ => by
    refine ⟨by show 2 ≤ sizeLine; decide, fun p hp => ?_⟩
    have n := I1.jx.fnone hp
    refine ⟨v, p, [.ty T, .ty U], .type t, [.type T, .type U], b1 || b2, rfl, upd_same, .cons (.ty T) (.cons (.ty U) .nil), (r1.mono (same_new n)).tyX (I1.new hp).jx.fh e1, ?_, upd F1 p _, .bl (b1 || b2), G1, s1.trans (same_new n), I1.new hp, rfl, q⟩
    refine kitAny_cons (kit_ty e2) (fun z => ?_) (fun z => by rw [z]; rfl)
    refine kitAny_cons (kit_ty e3) (fun z2 => ?_) (fun z2 => by rw [z2, Bool.or_true])
    rw [z, z2]
    exact kitAny_nil
/-- repr(x) -/
theorem call_repr : CallR X (.builtin "repr") (fun xs H Q => ∃ F d v p, xs = [v] ∧ Same F H ∧ (∃ φ, H sysModules = some (.ext φ)) ∧ Rep X.K F d v ∧ d.py = some p ∧ p.showable = true ∧ p.shown.length ≤ sizeLine ∧ X.A.guards = some [] ∧ X.A.units + (p.depth + 1) < cLine ∧ Q (.str p.shown) H) := by
  intro pins s σ H xs us Q I r h
  obtain ⟨F, d, v, p, rfl, sm, sy, rd, ep, hs, hz, hg, hu, q⟩ := h
  obtain ⟨u, rfl, ru⟩ := vals1 r
  obtain ⟨as, hr, hsy⟩ := Rep.reads I sm sy d v u p rd ru ep
  have fin : ∀ h' t tk, (∀ b o, s.heap.get? b = some o → h'.get? b = some o) → EP X pins σ Q (.str p.shown t) { s with heap := h', toks := tk } := fun h' t tk hk =>
    ⟨.str p.shown, H, I.kept hk, ⟨_, rfl⟩, q⟩
  cases hr with
  | none => exact PySem.P.repr_of_none (fin _ _ _ fun _ _ e => e)
  | bool b => exact PySem.P.repr_of_bool (fin _ _ _ fun _ _ e => e)
  | int i t => exact PySem.P.repr_of_int (by simpa [PyData.showable] using hs) (fin _ _ _ fun _ _ e => e)
  | str x t => exact PySem.P.repr_of_str (fin _ _ _ fun _ _ e => e) hz
  | list h1 h2 h3 h4 => exact repr_of_reads' (.list h1 h2 h3 h4) hs (fun _ => hsy) hg hu (fun _ _ e => e) fin hz
  | tuple h1 h2 h3 h4 => exact repr_of_reads' (.tuple h1 h2 h3 h4) hs (fun _ => hsy) hg hu (fun _ _ e => e) fin hz
  | dict h1 h2 h3 h4 h5 => exact repr_of_reads' (.dict h1 h2 h3 h4 h5) hs (fun _ => hsy) hg hu (fun _ _ e => e) fin hz
theorem je_repr {k : Nat} (B : Bt X.mg) (hr : Room k X.A) (hgd : X.A.guards = some []) (hg : Gl X "repr") (h : JE X c a G (fun d G1 => ∃ p, d.py = some p ∧ p.showable = true ∧ p.shown.length ≤ sizeLine ∧ p.depth ≤ 100 ∧ Q (.str p.shown) G1) Ex) (he : starEach [a] X.env = (false, eval a X.env) :: starEach [] X.env := by rfl) : JE X c (.Call (.Name "repr" p1) [a] [] pos) G Q Ex :=
  je_b1 (x := "repr") call_repr B.repr (by decide +kernel) hg (h.imp fun d G1 ⟨p, e1, e2, e3, e4, q⟩ Fb F H σ v s I r =>
    ⟨F, d, v, p, rfl, I.jx.fh, I.jx.sys, r, e1, e2, e3, hgd, by have := hr.un; omega, F, .str p.shown, G1, s, I, rfl, q⟩) (he := he)
/-- == of texts -/
theorem je_eqS (h : JE X c a G (fun x G1 => ∃ i, x = .str i ∧ JE X c b G1 (fun y G2 => ∃ j, y = .str j ∧ Q (.bl (decide (i = j))) G2) Ex) Ex) : JE X c (.Compare a [.Eq] [b] pos) G Q Ex :=
  je_of (pe_cmpR op_eq pe_w pe_w (nomark _)) fun x F σ H I => wE_mono (h x F σ H I) fun v H1 ⟨F1, d1, G1, s1, I1, r1, i, e1, h1⟩ => wE_mono (h1 x F1 σ H1 I1) fun w H2 ⟨F2, d2, G2, s2, I2, r2, j, e2, q⟩ => by
    subst e1 e2
    have r1 : v = .str i := r1
    have r2 : w = .str j := r2
    subst r1 r2
    refine ⟨rfl, F2, .bl (decide (i = j)), G2, s1.trans s2, I2, ?_, q⟩
    show V.bl _ = V.bl _
    congr 1
    simp
theorem je_neS (h : JE X c a G (fun x G1 => ∃ i, x = .str i ∧ JE X c b G1 (fun y G2 => ∃ j, y = .str j ∧ Q (.bl (!decide (i = j))) G2) Ex) Ex) : JE X c (.Compare a [.NotEq] [b] pos) G Q Ex :=
  je_of (pe_cmpR op_ne pe_w pe_w (nomark _)) fun x F σ H I => wE_mono (h x F σ H I) fun v H1 ⟨F1, d1, G1, s1, I1, r1, i, e1, h1⟩ => wE_mono (h1 x F1 σ H1 I1) fun w H2 ⟨F2, d2, G2, s2, I2, r2, j, e2, q⟩ => by
    subst e1 e2
    have r1 : v = .str i := r1
    have r2 : w = .str j := r2
    subst r1 r2
    refine ⟨rfl, F2, .bl (!decide (i = j)), G2, s1.trans s2, I2, ?_, q⟩
    show V.bl _ = V.bl _
    congr 2
    simp
/-- x is True, x is False -/
theorem op_isB {b : Bool} : OpR X (compareOp .Is) (fun x y H Q => y = .bl b ∧ Q (.bl (decide (x = .bl b))) H) := by
  intro pins s σ H x y v u Q I rx ry h
  obtain ⟨rfl, q⟩ := h
  cases (show u = Value.bool b from ry)
  have key : plainIs v (.bool b) = true ∧ (v == .bool b) = decide (x = .bl b) := by
    cases x with
    | non => cases rx; exact ⟨rfl, by simp⟩
    | bl a => cases rx; exact ⟨rfl, by by_cases z : a = b <;> simp [z]⟩
    | int _ => obtain ⟨t, rfl⟩ := rx; exact ⟨rfl, by simp⟩
    | str _ => obtain ⟨t, rfl⟩ := rx; exact ⟨rfl, by simp⟩
    | byt _ => obtain ⟨t, rfl⟩ := rx; exact ⟨rfl, by simp⟩
    | flt _ => obtain ⟨t, rfl⟩ := rx; exact ⟨rfl, by simp⟩
    | ref _ => cases rx; exact ⟨rfl, by simp⟩
    | ty _ => cases rx; exact ⟨rfl, by simp⟩
  exact wpAny_is_plain key.1 (fin_bl I q key.2.symm)
def D.isBl (b : Bool) : D → Bool
  | .bl x => decide (x = b)
  | _ => false
theorem Rep.isBl {K : PySem.W.Frag} {b : Bool} : ∀ {d : D} {v : V}, Rep K F d v → decide (v = .bl b) = d.isBl b
  | .non, v, h => by
    obtain rfl : v = .non := h
    rfl
  | .bl x, v, h => by
    obtain rfl : v = .bl x := h
    show decide (V.bl x = V.bl b) = decide (x = b)
    by_cases z : x = b <;> simp [z]
  | .int _, v, h => by
    obtain rfl : v = .int _ := h
    rfl
  | .str _, v, h => by
    obtain rfl : v = .str _ := h
    rfl
  | .lst _, v, h => by
    obtain ⟨a, xs, rfl, _⟩ := h
    rfl
  | .lok _, v, h => by
    obtain ⟨a, xs, rfl, _⟩ := h
    rfl
  | .tup _, v, h => by
    obtain ⟨a, xs, rfl, _⟩ := h
    rfl
  | .dic _ _, v, h => by
    obtain ⟨a, xs, rfl, _⟩ := h
    rfl
  | .ref _, v, h => by
    obtain rfl : v = .ref _ := h
    rfl
  | .exc _ _, v, h => by
    obtain ⟨a, dx, x, rfl, _⟩ := h
    rfl
theorem je_isB {b : Bool} {j pos'} (h : JE X c a G (fun x G1 => Q (.bl (x.isBl b)) G1) Ex) : JE X c (.Compare a [.Is] [.Constant (.bool b) j pos'] pos) G Q Ex :=
  je_of (pe_cmpR op_isB pe_w pe_bl (nomark _)) fun x F σ H I => wE_mono (h x F σ H I) fun v H1 ⟨F1, d1, G1, s1, I1, r1, q⟩ => ⟨rfl, F1, .bl (d1.isBl b), G1, s1, I1, by rw [← r1.isBl]; rfl, q⟩
end
end J
end
section
set_option maxRecDepth 100000
set_option maxHeartbeats 4000000
namespace J
open PySem PySem.Spec PyProof.Rows L2

/-! ### defs, where no repr is being made around -/
structure RoomG (k : Nat) (A : Around) : Prop where
  rm : Room k A
  gd : A.guards = some []
theorem RoomG.mono {j k : Nat} {A : Around} (r : RoomG k A) (h : j ≤ k) : RoomG j A := ⟨r.rm.mono h, r.gd⟩
theorem RoomG.deeper {k : Nat} {A : Around} (r : RoomG (k + 1) A) (env : Env) : RoomG k (A.deeper env) := ⟨r.rm.deeper env, r.gd⟩
structure FnG (P : Program) (w : World) (K : PySem.W.Frag) (mg : Str → Option Value) (base : Heap) (k : Nat) (f : Addr) (fd : FuncData) (ps : List Str) (sp : Sp) : Prop where
  len : ∀ vs H Q E, sp vs H Q E → vs.length = ps.length
  run : ∀ (A : Around) (outer : List Env) (s : Shared) (H : Hp) (args : Args) (us : List Value) (vs : List V) (Q : VK) (E : XK),
    RoomG k A → Env0 P w K mg base A outer s H → BindsTo s fd args (ps.zip us) → Vals vs us → sp vs H Q E → codeAny (model P w) A (.call (.ref f) args) (CR (L2.CX P w) outer P w H s Q E) s
theorem FnG.mono {P : Program} {w : World} {K : PySem.W.Frag} {mg : Str → Option Value} {base : Heap} {j k : Nat} {f : Addr} {fd : FuncData} {ps : List Str} {sp : Sp} (F : FnG P w K mg base j f fd ps sp) (h : j ≤ k) : FnG P w K mg base k f fd ps sp :=
  ⟨F.len, fun A outer s H args us vs Q E hr => F.run A outer s H args us vs Q E (hr.mono h)⟩
/-- a def by its body -/
theorem fnG_of {P : Program} {w : World} {K : PySem.W.Frag} {mg : Str → Option Value} {base : Heap} {k : Nat} {f : Addr} {fd : FuncData} {name qual : Str} {params : Arguments} {body : List Stmt} {scope : Scope} {dV kV doc pm cdv ct oc : Value} {an od : Option Addr}
    {osl : Array (Option Value)} {N ps : List Str} {sp : Sp} (efd : fd = PySem.W.fnOf name qual params body scope dV kV doc pm an cdv ct) (lk : K.lookup f = some ⟨oc, od, .func fd, osl⟩) (hcd : PySem.W.codeIn K cdv qual = true) (S : FnScope N ps scope)
    (len : ∀ vs H Q E, sp vs H Q E → vs.length = ps.length)
    (hbody : ∀ (A : Around) (outer : List Env) (s : Shared) (H : Hp) (vs : List V) (Q : VK) (E : XK), RoomG k (A.deeper (envOfC qual scope s.heap.objs.size f cdv)) → sp vs H Q E →
      wSs (cxOf (L2.CX P w) P w K mg base N qual scope f cdv A outer s H E) body { nx := fun _ H' => Q .non H', rt := Q } (L2.start N vs) H) :
    FnG P w K mg base (k + 1) f fd ps sp := by
  subst efd
  refine ⟨len, fun A outer s H args us vs Q E hr e0 hb r hsp => ?_⟩
  have hv := len _ _ _ _ hsp
  have kb : ∀ b o, base.get? b = some o → s.heap.get? b = some o := fun b o e => (e0.bs b o e).1
  have hK : K.In s.heap := e0.mod.kin.keeps kb
  refine codeAny_call_function hr.rm.depth (hK _ _ lk) rfl S.co S.gen rfl (PySem.W.codeRec_of hK hcd) (hb _ _ _ _ ?_)
  refine wpAny_newFunctionEnv_cells S.kind (fun y hy => ?_) fun env he s1 x => ?_
  · obtain ⟨n, v⟩ := y
    refine (S.par n (List.of_mem_zip hy).1).imp id fun q => ⟨q, ?_⟩
    exact PySem.W.cellsFrom_some _ _ _ (.inl q)
  · subst he
    refine ⟨(e0.mod.nolimit.keeps kb).keeps x.toInCall.keep, codeAny_func ?_⟩
    have I := inv_start (CX := L2.CX P w) (qual := qual) (f := f) (cd := cdv) (E := E) S hr.rm.hd e0 hv r x
    refine wpAny_mono (hbody A outer s H vs Q E (hr.deeper _) hsp [] s1 I) (fun fl s' hs => ?_) fun e s' hs => hs
    cases fl with
    | ret u =>
      obtain ⟨v, σ', H', J, rv, q⟩ := hs
      exact ⟨v, H', J.os, J.bare, J.base, J.hok, rv, q⟩
    | next =>
      obtain ⟨σ', H', J, q⟩ := hs
      exact ⟨.non, H', J.os, J.bare, J.base, J.hok, rfl, q⟩
    | brk =>
      obtain ⟨_, _, _, q⟩ := hs
      exact q.elim
    | cont =>
      obtain ⟨_, _, _, q⟩ := hs
      exact q.elim

/-! ### promises over trees -/
structure FSp where
  pre : List D → Prop
  post : List D → D → Prop
  exc : List D → Addr → D → Prop := fun _ _ _ => False
def toV (K : PySem.W.Frag) (T : List (Addr × Str)) (n : Nat) (sp : FSp) : Sp := fun vs H Q E => ∃ F ds, JX ⟨F, H, fun _ => False, T⟩ F H ∧ RepL K F ds vs ∧ ds.length = n ∧ sp.pre ds ∧
  (∀ d v F' H', JX ⟨F, H, fun _ => False, T⟩ F' H' → Rep K F' d v → sp.post ds d → Q v H') ∧
  (∀ C d F' H' dx x, JX ⟨F, H, fun _ => False, T⟩ F' H' → F' dx = some (.xd [(("value" : Str), x)]) → Rep K F' d x → sp.exc ds C d → E (.ref C) (some dx) H')
/-- a def that takes a list that it changes first -/
structure PSp where
  pre : List D → List D → Prop
  post : List D → List D → D → List D → Prop
def toP (K : PySem.W.Frag) (T : List (Addr × Str)) (n : Nat) (sp : PSp) : Sp := fun vs H Q _ => ∃ F a xs l ds vr, vs = .ref a :: vr ∧ JX ⟨F, H, (· = a), T⟩ F H ∧ F a = none ∧ H a = some (.lst xs) ∧ RepL K F l xs ∧ RepL K F ds vr ∧ ds.length = n ∧ sp.pre l ds ∧
  (∀ d l' v F' H' xs', JX ⟨F, H, (· = a), T⟩ F' H' → F' a = none → H' a = some (.lst xs') → RepL K F' l' xs' → Rep K F' d v → sp.post l ds d l' → Q v H')

/-- how a def's arguments are bound: position, or all by names -/
structure KB (K : PySem.W.Frag) (fd : FuncData) (ps ks : List Str) (m : Nat) (perm : {α : Type} → List α → List α) : Prop where
  to : ∀ (s : Shared) (ws : List Value), K.In s.heap → ws.length = m → BindsTo s fd ⟨[], ks.zip ws⟩ (ps.zip (perm ws))
  rel : ∀ {vs : List V} {us : List Value}, us.length = m → Vals vs us → Vals (perm vs) (perm us)

section
variable {X : Cx} {c : JC} {e : Expr} {es : List Expr} {G : List Sl} {Ex : XQ} {pos p1 : Pos} {Q : D → List Sl → Prop} {F F' : Hp} {σ : L2.St} {H : Hp} {k : Nat} {f : Addr} {fd : FuncData} {ps : List Str} {x : Str}
theorem run_g {pins : List (Addr × Obj)} {s : Shared} {sp : Sp} {W : WX} {Qv : VK} {args : Args} {us : List Value} {vs : List V} (FG : FnG X.prog X.w X.K X.mg X.base k f fd ps sp) (hr : RoomG k X.A) (tk : Takes X W) (I : Inv X pins σ H s) (hb : BindsTo s fd args (ps.zip us)) (r : Vals vs us) (h : sp vs H Qv (WE W σ)) :
    codeAny (model X.prog X.w) X.A (.call (.ref f) args) (fun r s' => match r with | .ok (.ret u) => EP X pins σ Qv u s' | .ok _ => False | .error e => X.xe e s') s := by
  refine codeAny_mono (FG.run X.A X.stack s H args us vs Qv (WE W σ) hr I.env0 hb r h) fun r s' hq => ?_
  cases r with
  | error e => exact passAt tk σ pins H s e s' I hq
  | ok fl =>
    cases fl with
    | ret u => exact I.after hq
    | next => exact False.elim hq
    | brk => exact False.elim hq
    | cont => exact False.elim hq
/-- the promise of a def, met -/
theorem toV_at {sp : FSp} {n : Nat} {W : WX} {ds : List D} {vs : List V} {Fb : Hp} (I : JI X.K c F H σ G) (s : Same Fb F) (hW : XOk X c Ex W) (r : RepL X.K F ds vs) (hn : ds.length = n) (h : sp.pre ds ∧ (∀ d, sp.post ds d → Q d G) ∧ (∀ C d, sp.exc ds C d → Ex C d G)) :
    toV X.K c.T n sp vs H (QE X c Fb σ Q) (WE W σ) :=
  ⟨F, ds, I.jx.again, r, hn, h.1, fun d v F' H' y rd p => ⟨F', d, G, s.trans y.ff, I.call y fun _ z => z, rd, h.2.1 d p⟩, fun C d F' H' dx x y e rd p => hW F' H' σ G C d dx x (I.call y fun _ z => z) e rd (h.2.2 C d p)⟩
theorem je_callV {sp : FSp} {n : Nat} (FG : FnG X.prog X.w X.K X.mg X.base k f fd ps (toV X.K c.T n sp)) (hr : RoomG k X.A) (hg : Gl X x) (hm : X.mg x = some (.ref f)) (hk : PySem.W.keepIn X.K (.ref f) = true) (hb : Binds X.K fd ps [])
    (h : JA X c (e :: es) G (fun ds G1 => ds.length = n ∧ sp.pre ds ∧ (∀ d, sp.post ds d → Q d G1) ∧ (∀ C d, sp.exc ds C d → Ex C d G1)) Ex) (hdb : (x == ("__debug__" : Str)) = false := by decide)
    (he : starEach (e :: es) X.env = (false, eval e X.env) :: starEach es X.env := by rfl) (hpl : (backTo pos (starEach es X.env)).any (·.1) = false := by rfl) : JE X c (.Call (.Name x p1) (e :: es) [] pos) G Q Ex := by
  intro xt F σ H I pins s i
  obtain ⟨W, tk, hW⟩ := id xt
  refine wpAny_Call_Name_kw (ld_glob i hg hm ?_ hdb)
  refine PySem.W.callWith_K (h₀ := X.base) i.ok.mod.kin hk (thn (h xt F σ H I pos pins s i) fun us s1 ⟨vs, H1, i1, r, F1, ds, G1, s2, I1, rd, hn, q⟩ => ⟨i1.kIn, ?_⟩) he hpl
  have t := toV_at (sp := sp) I1 s2 hW rd hn q
  have hl : us.length = ps.length := by rw [← r.length]; exact FG.len _ _ _ _ t
  refine wpAny_call (codeAny_mono (run_g FG hr tk i1 (by have b := hb s1 us i1.kIn (by rw [List.append_nil]; exact hl); rw [List.append_nil] at b; exact b) r t) fun r s' hq => ?_)
  cases r with
  | error e => exact hq
  | ok fl =>
    cases fl with
    | ret u => exact hq
    | next => exact False.elim hq
    | brk => exact False.elim hq
    | cont => exact False.elim hq
/-- keywords' values -/
def wK (X : Cx) (kws : List Keyword) : TA := fun σ H Q => ∀ pos pins s, Inv X pins σ H s → wpAny (model X.prog X.w) X.A (evalAll ((backToKw pos (keywordEach kws X.env)).map (·.2))) (AP X pins σ Q) X.xe s
theorem pk_w {kws : List Keyword} : PK X kws (wK X kws) := ⟨fun pos pins s σ H Q I h => h pos pins s I⟩
def JK (X : Cx) (c : JC) (kws : List Keyword) (G : List Sl) (S : List D → List Sl → Prop) (Ex : XQ) : Prop := Xt X c Ex → ∀ F σ H, JI X.K c F H σ G → wK X kws σ H (QA X c F σ S)
theorem jk_nil {S : List D → List Sl → Prop} (q : S [] G) : JK X c [] G S Ex := fun _ F σ H I pos pins s i => pk_nil.run pos pins s σ H _ i ⟨F, [], G, Same.refl _, I, rfl, q⟩
theorem jk_cons {S : List D → List Sl → Prop} {kws : List Keyword} {nm : Option Str} {kp : Pos} (h : JE X c e G (fun d G1 => JK X c kws G1 (fun ds G2 => S (d :: ds) G2) Ex) Ex) : JK X c (⟨nm, e, kp⟩ :: kws) G S Ex := fun xt F σ H I pos pins s i =>
  (pk_cons pe_w pk_w).run pos pins s σ H _ i (wE_mono (h xt F σ H I) fun v H1 ⟨F1, d1, G1, s1, I1, r1, h1⟩ pos pins s i => thn (h1 xt F1 σ H1 I1 pos pins s i) fun us s' ⟨vs, H2, i2, r, F2, ds, G2, s2, I2, rd, q⟩ => ⟨vs, H2, i2, r, F2, d1 :: ds, G2, s1.trans s2, I2, ⟨v, vs, rfl, r1.mono s2, rd⟩, q⟩)
theorem RepL.of_get {K : PySem.W.Frag} : ∀ {l : List D} {xs : List V}, l.length = xs.length → (∀ (i : Nat) d x, l[i]? = some d → xs[i]? = some x → Rep K F d x) → RepL K F l xs
  | [], [], _, _ => rfl
  | [], _ :: _, h, _ => by simp at h
  | _ :: _, [], h, _ => by simp at h
  | d :: l, x :: xs, h, k => ⟨x, xs, rfl, k 0 d x rfl rfl, RepL.of_get (by simpa using h) fun i d x a b => k (i + 1) d x (by simpa using a) (by simpa using b)⟩
/-- f(k = v, ..), all by names -/
theorem je_callK {sp : FSp} {kws : List Keyword} {ks : List Str} {n m : Nat} {perm : {α : Type} → List α → List α} (FG : FnG X.prog X.w X.K X.mg X.base k f fd ps (toV X.K c.T n sp)) (hr : RoomG k X.A) (hg : Gl X x) (hm : X.mg x = some (.ref f)) (hk : PySem.W.keepIn X.K (.ref f) = true) (hb : KB X.K fd ps ks m perm)
    (hpr : ∀ {F : Hp} {ds : List D} {vs : List V}, ds.length = m → RepL X.K F ds vs → RepL X.K F (perm ds) (perm vs))
    (h : JK X c kws G (fun ds G1 => ds.length = m ∧ (perm ds).length = n ∧ sp.pre (perm ds) ∧ (∀ d, sp.post (perm ds) d → Q d G1) ∧ (∀ C d, sp.exc (perm ds) C d → Ex C d G1)) Ex)
    (hall : (backToKw pos (keywordEach kws X.env)).all (·.1.isSome) = true := by rfl) (hks : (backToKw pos (keywordEach kws X.env)).filterMap (·.1) = ks := by rfl) (hdb : (x == ("__debug__" : Str)) = false := by decide)
    (hpl : ((backTo pos (starEach [] X.env)).any (·.1) || (backToKw pos (keywordEach kws X.env)).any (·.1.isNone)) = false := by rfl) : JE X c (.Call (.Name x p1) [] kws pos) G Q Ex := by
  intro xt F σ H I pins s i
  obtain ⟨W, tk, hW⟩ := id xt
  refine wpAny_Call_Name_kw (ld_glob i hg hm ?_ hdb)
  refine PySem.W.callWith_KW0 (h₀ := X.base) i.ok.mod.kin hk hall (thn (h xt F σ H I pos pins s i) fun us s1 ⟨vs, H1, i1, r, F1, ds, G1, s2, I1, rd, hm2, hn, q⟩ => ⟨i1.kIn, ?_⟩) hpl
  rw [hks]
  have hu : us.length = m := by rw [← r.length, rd.length, hm2]
  have t := toV_at (sp := sp) I1 s2 hW (hpr hm2 rd) hn q
  refine wpAny_call (codeAny_mono (run_g FG hr tk i1 (hb.to s1 us i1.kIn hu) (hb.rel hu r) t) fun r s' hq => ?_)
  cases r with
  | error e => exact hq
  | ok fl =>
    cases fl with
    | ret u => exact hq
    | next => exact False.elim hq
    | brk => exact False.elim hq
    | cont => exact False.elim hq
/-- f(xs, ..), xs a list of ours that f changes -/
theorem je_callP {sp : PSp} {n : Nat} {j : Nat} {y : Str} {p2 : Pos} {a : Addr} {l : List D} (FG : FnG X.prog X.w X.K X.mg X.base k f fd ps (toP X.K c.T n sp)) (hr : RoomG k X.A) (hg : Gl X x) (hm : X.mg x = some (.ref f)) (hk : PySem.W.keepIn X.K (.ref f) = true) (hb : Binds X.K fd ps [])
    (hN : X.N[j]? = some y) (hv : Vis X.env.scope y) (hj : G[j]? = some (Sl.own a l))
    (h : JA X c es G (fun ds G1 => ∃ l1, G1[j]? = some (Sl.own a l1) ∧ ds.length = n ∧ sp.pre l1 ds ∧ (∀ d l', sp.post l1 ds d l' → Q d (G1.set j (Sl.own a l')))) Ex) (hdb : (x == ("__debug__" : Str)) = false := by decide) (hd : (y == ("__debug__" : Str)) = false := by decide) (hcd : (y == ("__classdict__" : Str)) = false := by decide)
    (he : starEach (.Name y p2 :: es) X.env = (false, eval (.Name y p2) X.env) :: starEach es X.env := by rfl) (hpl : (backTo pos (starEach es X.env)).any (·.1) = false := by rfl) : JE X c (.Call (.Name x p1) (.Name y p2 :: es) [] pos) G Q Ex := by
  intro xt F σ H I pins s i
  obtain ⟨W, tk, hW⟩ := id xt
  refine wpAny_Call_Name_kw (ld_glob i hg hm ?_ hdb)
  have ha : wA X (.Name y p2 :: es) σ H (fun vs H' => ∃ vr, vs = .ref a :: vr ∧ QA X c F σ (fun ds G1 => ∃ l1, G1[j]? = some (Sl.own a l1) ∧ ds.length = n ∧ sp.pre l1 ds ∧ (∀ d l', sp.post l1 ds d l' → Q d (G1.set j (Sl.own a l')))) vr H') :=
    wA_of (pa_cons (pe_var hN hv hd hcd) pa_w he) ⟨.ref a, (I.own j a l hj).1, wA_mono (h xt F σ H I) fun vs H1 q => ⟨vs, rfl, q⟩⟩
  refine PySem.W.callWith_K (h₀ := X.base) i.ok.mod.kin hk (thn (ha pos pins s i) fun us s1 ⟨vs, H1, i1, r, vr, ev, F1, ds, G1, s2, I1, rd, l1, e1, hn, q1, q2⟩ => ⟨i1.kIn, ?_⟩) he hpl
  subst ev
  obtain ⟨h1, h2, h3, xs, h4, h5⟩ := I1.own j a l1 e1
  have t : toP X.K c.T n sp (.ref a :: vr) H1 (QE X c F σ Q) (WE W σ) := ⟨F1, a, xs, l1, ds, vr, rfl, I1.jx.again, h2, h4, h5, rd, hn, q1, fun d l' v F' H' xs' y n1 n2 n3 rd' p =>
    ⟨F', d, _, s2.trans y.ff, I1.callW e1 y n1 n2 n3, rd', q2 d l' p⟩⟩
  have hl : us.length = ps.length := by rw [← r.length]; exact FG.len _ _ _ _ t
  refine wpAny_call (codeAny_mono (run_g FG hr tk i1 (by have b := hb s1 us i1.kIn (by rw [List.append_nil]; exact hl); rw [List.append_nil] at b; exact b) r t) fun r s' hq => ?_)
  cases r with
  | error e => exact hq
  | ok fl =>
    cases fl with
    | ret u => exact hq
    | next => exact False.elim hq
    | brk => exact False.elim hq
    | cont => exact False.elim hq
end
end J
end
section
set_option maxRecDepth 100000
set_option maxHeartbeats 4000000
namespace J
open PySem PySem.Spec PyProof.Rows L2
section
variable {X : Cx} {c : JC} {e a b : Expr} {es : List Expr} {st : Stmt} {sts : List Stmt} {G : List Sl} {Ex : XQ} {D₀ : JD} {pos : Pos} {F F' : Hp} {σ : L2.St} {H : Hp}
theorem js_of {t : TS} (h : PS X st t) (k : Xt X c Ex → ∀ F σ H, JI X.K c F H σ G → t (D₀.en X c F) σ H) : JS X c st G D₀ Ex := fun x F σ H I => wS_of h (k x F σ H I)
theorem wS_base {D : JD} (s : Same F F') (h : wS X st (D.en X c F') σ H) : wS X st (D.en X c F) σ H :=
  wS_mono h (fun _ _ ⟨F2, G2, s2, q⟩ => ⟨F2, G2, s.trans s2, q⟩) (fun _ _ ⟨F2, d, σ2, G2, s2, q⟩ => ⟨F2, d, σ2, G2, s.trans s2, q⟩) (fun _ _ ⟨F2, G2, s2, q⟩ => ⟨F2, G2, s.trans s2, q⟩) fun _ _ ⟨F2, G2, s2, q⟩ => ⟨F2, G2, s.trans s2, q⟩
theorem wSs_base {D : JD} (s : Same F F') (h : wSs X sts (D.en X c F') σ H) : wSs X sts (D.en X c F) σ H :=
  wSs_mono h (fun _ _ ⟨F2, G2, s2, q⟩ => ⟨F2, G2, s.trans s2, q⟩) (fun _ _ ⟨F2, d, σ2, G2, s2, q⟩ => ⟨F2, d, σ2, G2, s.trans s2, q⟩) (fun _ _ ⟨F2, G2, s2, q⟩ => ⟨F2, G2, s.trans s2, q⟩) fun _ _ ⟨F2, G2, s2, q⟩ => ⟨F2, G2, s.trans s2, q⟩
theorem jss_nil (q : D₀.nx G) : JSs X c [] G D₀ Ex := fun _ F σ H I => wSs_of pss_nil ⟨F, G, Same.refl _, I, q⟩
theorem jss_cons (h : JS X c st G { D₀ with nx := fun G1 => JSs X c sts G1 D₀ Ex } Ex) : JSs X c (st :: sts) G D₀ Ex := fun x F σ H I => wSs_of (pss_cons ps_w pss_w) <|
  wS_mono (h x F σ H I) (fun σ' H' ⟨F', G', s, I', q⟩ => wSs_base s (q x F' σ' H' I')) (fun _ _ q => q) (fun _ _ q => q) fun _ _ q => q
theorem jss_one (h : JS X c st G D₀ Ex) : JSs X c [st] G D₀ Ex := jss_cons fun x F σ H I => wS_mono (h x F σ H I) (fun σ' H' ⟨F', G', s, I', q⟩ => ⟨F', G', s, I', jss_nil q⟩) (fun _ _ q => q) (fun _ _ q => q) fun _ _ q => q
theorem js_pass (q : D₀.nx G) : JS X c (.Pass pos) G D₀ Ex := js_of ps_pass fun _ F σ H I => ⟨F, G, Same.refl _, I, q⟩
theorem js_break (q : D₀.bk G) : JS X c (.Break pos) G D₀ Ex := js_of ps_break fun _ F σ H I => ⟨F, G, Same.refl _, I, q⟩
theorem js_cont (q : D₀.ct G) : JS X c (.Continue pos) G D₀ Ex := js_of ps_continue fun _ F σ H I => ⟨F, G, Same.refl _, I, q⟩
theorem js_doc {x : Str} {j p2} (q : D₀.nx G) : JS X c (.Expr (.Constant (.str x) j p2) pos) G D₀ Ex := js_of ps_doc fun _ F σ H I => ⟨F, G, Same.refl _, I, q⟩
theorem js_expr (h : JE X c e G (fun _ G1 => D₀.nx G1) Ex) (hs : swapsWith e none pos.line X.env = pure false := by rfl) : JS X c (.Expr e pos) G D₀ Ex :=
  js_of (ps_expr pe_w hs) fun x F σ H I => wE_mono (h x F σ H I) fun v H1 ⟨F1, d1, G1, s1, I1, r1, q⟩ => ⟨F1, G1, s1, I1, q⟩
theorem js_ret (h : JE X c e G D₀.rt Ex) : JS X c (.Return (some e) pos) G D₀ Ex := js_of (ps_ret pe_w) fun x F σ H I => wE_mono (h x F σ H I) fun v H1 ⟨F1, d1, G1, s1, I1, r1, q⟩ => ⟨F1, d1, σ, G1, s1, I1, r1, q⟩
theorem js_retN (q : D₀.rt .non G) : JS X c (.Return none pos) G D₀ Ex := js_of ps_retN fun x F σ H I => ⟨F, .non, σ, G, Same.refl _, I, rfl, q⟩
theorem js_if {t : Expr} {as bs : List Stmt} (h : JT X c t G (fun k G1 => (k = true → JSs X c as G1 D₀ Ex) ∧ (k = false → JSs X c bs G1 D₀ Ex)) Ex) : JS X c (.If t as bs pos) G D₀ Ex :=
  js_of (ps_if pt_w pss_w pss_w) fun x F σ H I => wT_mono (h x F σ H I) fun k H1 ⟨F1, G1, s1, I1, q1, q2⟩ => by
    cases k with
    | true => exact iteT (wSs_base s1 (q1 rfl x F1 σ H1 I1))
    | false => exact iteF (wSs_base s1 (q2 rfl x F1 σ H1 I1))
/-- name = e, a value -/
theorem js_set {i : Nat} {x : Str} {p2 : Pos} (hN : X.N.Nodup) (hi : X.N[i]? = some x) (hx : Loc X.env.scope x) (h : JE X c e G (fun d G1 => i < G1.length ∧ D₀.nx (G1.set i (.val d))) Ex) (hs : swapsWith e (some (.Name x p2)) pos.line X.env = pure false := by rfl)
    (hf : X.fn x = true ∨ X.env.scope.names.lookup x = some .local := by first | exact .inl rfl | exact .inr rfl | assumption) : JS X c (.Assign [.Name x p2] e pos) G D₀ Ex :=
  js_of (ps_set hN hi hx pe_w hs hf) fun x F σ H I => wE_mono (h x F σ H I) fun v H1 ⟨F1, d1, G1, s1, I1, r1, hl, q⟩ => ⟨F1, _, s1, I1.setV r1 hl, q⟩
/-- name = a new list, to be changed -/
theorem js_own {i : Nat} {x : Str} {p2 : Pos} (hN : X.N.Nodup) (hi : X.N[i]? = some x) (hx : Loc X.env.scope x) (h : JN X c e G (fun p l G1 => i < G1.length ∧ D₀.nx (G1.set i (.own p l))) Ex) (hs : swapsWith e (some (.Name x p2)) pos.line X.env = pure false := by rfl)
    (hf : X.fn x = true ∨ X.env.scope.names.lookup x = some .local := by first | exact .inl rfl | exact .inr rfl | assumption) : JS X c (.Assign [.Name x p2] e pos) G D₀ Ex :=
  js_of (ps_set hN hi hx pe_w hs hf) fun x F σ H I => wE_mono (h x F σ H I) fun v H1 ⟨F1, p, l, G1, s1, ev, A, hl, q⟩ => by
    subst ev
    obtain ⟨xs, h1, h2⟩ := A.at_
    exact ⟨F1, _, s1, A.ji.setO A.fn A.h0 h1 h2 A.ne hl, q⟩
/-- name += e, ints -/
theorem js_augI {i : Nat} {x : Str} {p2 : Pos} {n : Int} (hN : X.N.Nodup) (hi : X.N[i]? = some x) (hx : Loc X.env.scope x) (hg : G[i]? = some (Sl.val (.int n))) (h : JE X c e G (fun d G1 => ∃ m, d = .int m ∧ i < G1.length ∧ D₀.nx (G1.set i (.val (.int (n + m))))) Ex)
    (hf : X.fn x = true ∨ X.env.scope.names.lookup x = some .local := by first | exact .inl rfl | exact .inr rfl | assumption) : JS X c (.AugAssign (.Name x p2) .Add e pos) G D₀ Ex :=
  js_of (ps_aug hN hi hx pe_w ip_add hf) fun x F σ H I => by
    obtain ⟨v, h1, h2⟩ := I.val i _ hg
    obtain rfl : v = .int n := h2
    exact ⟨_, h1, wE_mono (h x F σ H I) fun v H1 ⟨F1, d1, G1, s1, I1, r1, m, e1, hl, q⟩ => by
      subst e1
      exact ⟨n, m, rfl, r1, F1, _, s1, I1.setV (d := .int (n + m)) rfl hl, q⟩⟩
/-- xs.append(e), xs a list of ours -/
theorem js_append {i : Nat} {x : Str} {p1 p2 p3 : Pos} {p : Addr} {l : List D} (hN : X.N[i]? = some x) (hv : Vis X.env.scope x) (hg : G[i]? = some (Sl.own p l)) (h : JE X c e G (fun d G1 => ∃ l1, G1[i]? = some (Sl.own p l1) ∧ l1.length < sizeLine ∧ D₀.nx (G1.set i (.own p (l1 ++ [d])))) Ex)
    (hpe : ∀ {to : TE} {ta : TA}, PE X (.Name x p1) to → PA X [e] ta → PE X (.Call (.Attribute (.Name x p1) "append" p2) [e] [] p3) (tBM X.K "list" rAppend to ta) := by intro _ _ ho ha; exact pe_bm PySem.F.plainAttrs_list PySem.F.slot_list_append PySem.F.type_list_append mt_append ho ha)
    (hs : swapsWith (.Call (.Attribute (.Name x p1) "append" p2) [e] [] p3) none pos.line X.env = pure false := by rfl) (hd : (x == ("__debug__" : Str)) = false := by decide) (hcd : (x == ("__classdict__" : Str)) = false := by decide) (he : starEach [e] X.env = (false, eval e X.env) :: starEach [] X.env := by rfl) :
    JS X c (.Expr (.Call (.Attribute (.Name x p1) "append" p2) [e] [] p3) pos) G D₀ Ex :=
  js_of (ps_expr (hpe (pe_var hN hv hd hcd) (pa_cons pe_w pa_nil he)) hs) fun x F σ H I => by
    obtain ⟨h1, _, _, xs, h4, _⟩ := I.own i p l hg
    refine ⟨.ref p, h1, .inl ⟨rfl, _, SqL.of h4⟩, wE_mono (h x F σ H I) fun v H1 ⟨F1, d1, G1, s1, I1, r1, l1, e1, hl, q⟩ => ?_⟩
    obtain ⟨_, _, _, ys, q4, q5⟩ := I1.own i p l1 e1
    exact ⟨p, ys, v, rfl, rfl, q4, by rw [q5.length]; exact hl, F1, _, s1, I1.writeO e1 (q5.append (.one r1)), q⟩
/-- xs[k] = e -/
theorem js_setitem {i : Nat} {x : Str} {p1 p2 : Pos} {p : Addr} {l : List D} (hN : X.N[i]? = some x) (hv : Vis X.env.scope x) (hg : G[i]? = some (Sl.own p l))
    (h : JE X c e G (fun d G1 => JE X c b G1 (fun y G2 => ∃ k j l2, y = .int k ∧ G2[i]? = some (Sl.own p l2) ∧ ixN l2.length k = some j ∧ D₀.nx (G2.set i (.own p (l2.set j d)))) Ex) Ex)
    (hpg : ∀ {to ti : TE}, PE X (.Name x p1) to → PE X b ti → PG X (.Subscript (.Name x p1) b p2) (gSub to ti rSetL) := by intro _ _ ho hi; exact pg_sub ho hi set_list) (hs : swapsWithSole [.Subscript (.Name x p1) b p2] e pos.line X.env = pure false := by rfl) (hw : swappedStores [.Subscript (.Name x p1) b p2] e X.env = pure none := by rfl)
    (h1 : (assignEach [.Subscript (.Name x p1) b p2] X.env).map (·.2) = [assign (.Subscript (.Name x p1) b p2) X.env] := by rfl) (hd : (x == ("__debug__" : Str)) = false := by decide) (hcd : (x == ("__classdict__" : Str)) = false := by decide) : JS X c (.Assign [.Subscript (.Name x p1) b p2] e pos) G D₀ Ex :=
  js_of (ps_asg pe_w (hpg (pe_var hN hv hd hcd) pe_w) hs hw h1) fun x F σ H I => wE_mono (h x F σ H I) fun v H1 ⟨F1, d1, G1, s1, I1, r1, h2⟩ => by
    obtain ⟨hσ, _, _, xs, h4, _⟩ := I.own i p l hg
    refine ⟨.ref p, hσ, wE_mono (h2 x F1 σ H1 I1) fun w H2 ⟨F2, d2, G2, s2, I2, r2, k, j, l2, e2, e3, e4, q⟩ => ?_⟩
    subst e2
    obtain ⟨_, _, _, ys, q4, q5⟩ := I2.own i p l2 e3
    exact ⟨p, ys, k, j, rfl, r2, q4, by rw [q5.length]; exact e4, F2, _, s1.trans s2, I2.writeO e3 (q5.set (r1.mono s2) j), q⟩
theorem get_listP : PGet X (fun x y H Q => ∃ p xs i v, x = .ref p ∧ y = .int i ∧ H p = some (.lst xs) ∧ 0 ≤ i ∧ xs[i.toNat]? = some v ∧ Q v H) := by
  intro pins s σ H x y v u Q I rx ry h
  obtain ⟨p, xs, i, z, rfl, rfl, hq, h0, he, q⟩ := h
  cases rx
  obtain ⟨t, rfl⟩ := ry
  obtain ⟨its, r, pl, hz⟩ := I.list (SqL.of hq)
  obtain ⟨w, ew, rw'⟩ := r.get he
  have hl := r.length
  have hn := line63
  have hb : i.toNat < its.length := (List.getElem?_eq_some_iff.mp ew).1
  exact wpAny_getItem_list pl.isList h0 (by omega) (by simpa using ew) ⟨z, H, I, rw', q⟩
/-- xs[k] += e, k a written place, an int -/
theorem js_augitem {i : Nat} {x : Str} {p1 p2 p3 : Pos} {p : Addr} {l : List D} {k : Nat} {kk : Nat} {n : Int} (hN : X.N[i]? = some x) (hv : Vis X.env.scope x) (hg : G[i]? = some (Sl.own p l)) (hk : l[k]? = some (.int n))
    (h : JE X c e G (fun d G1 => ∃ m l1, d = .int m ∧ G1[i]? = some (Sl.own p l1) ∧ k < l1.length ∧ D₀.nx (G1.set i (.own p (l1.set k (.int (n + m)))))) Ex) (hd : (x == ("__debug__" : Str)) = false := by decide) (hcd : (x == ("__classdict__" : Str)) = false := by decide)
    (ha : ∀ ov iv new, augStore (.Constant (.int (k : Int)) kk p2) ov iv new = (do holding [new, ov, iv] (setItem ov iv new); release [new, ov, iv] []; pure .next) := by intros; rfl) :
    JS X c (.AugAssign (.Subscript (.Name x p1) (.Constant (.int (k : Int)) kk p2) p3) .Add e pos) G D₀ Ex :=
  js_of (ps_augS (pe_var hN hv hd hcd) pe_int get_listP pe_w ip_add set_list ha) fun x F σ H I => by
    obtain ⟨hσ, _, _, xs, h4, h5⟩ := I.own i p l hg
    obtain ⟨y, y1, y2⟩ := h5.get hk
    obtain rfl : y = .int n := y2
    refine ⟨.ref p, hσ, p, xs, (k : Int), .int n, rfl, rfl, h4, Int.natCast_nonneg k, by simpa using y1, wE_mono (h x F σ H I) fun v H1 ⟨F1, d1, G1, s1, I1, r1, m, l1, e1, e2, e3, q⟩ => ?_⟩
    subst e1
    obtain ⟨_, _, _, ys, q4, q5⟩ := I1.own i p l1 e2
    refine ⟨n, m, rfl, r1, p, ys, (k : Int), k, rfl, rfl, q4, ?_, F1, _, s1, I1.writeO e2 (q5.set (d := .int (n + m)) rfl k), q⟩
    unfold ixN
    rw [if_pos (Int.natCast_nonneg k), if_pos (by rw [q5.length]; omega)]
    simp
/-- a, b = x, y: two plain local names -/
theorem js_par {i j : Nat} {x y : Str} {px py pt : Pos} {kt k2 pt2} (hc : X.calm = true) (hN : X.N.Nodup) (hi : X.N[i]? = some x) (hj : X.N[j]? = some y) (hij : i ≠ j) (hx : X.env.scope.names.lookup x = some .local) (hy : X.env.scope.names.lookup y = some .local)
    (h : JE X c a G (fun d G1 => JE X c b G1 (fun d' G2 => i < G2.length ∧ j < G2.length ∧ D₀.nx ((G2.set i (.val d)).set j (.val d'))) Ex) Ex)
    (hw : swappedStores [.Tuple [.Name x px, .Name y py] kt pt] (.Tuple [a, b] k2 pt2) X.env = pure (some [x, y]) := by rfl) (hs : swapsWithSole [.Tuple [.Name x px, .Name y py] kt pt] (.Tuple [a, b] k2 pt2) pos.line X.env = pure false := by rfl)
    (he : starEach [a, b] X.env = (false, eval a X.env) :: starEach [b] X.env := by rfl) (he2 : starEach [b] X.env = (false, eval b X.env) :: starEach [] X.env := by rfl) : JS X c (.Assign [.Tuple [.Name x px, .Name y py] kt pt] (.Tuple [a, b] k2 pt2) pos) G D₀ Ex :=
  js_of (ps_par hc hN hi hj hij hx hy (pa_cons pe_w (pa_cons pe_w pa_nil he2) he) hw hs) fun x F σ H I => wE_mono (h x F σ H I) fun v H1 ⟨F1, d1, G1, s1, I1, r1, h1⟩ => wE_mono (h1 x F1 σ H1 I1) fun w H2 ⟨F2, d2, G2, s2, I2, r2, l1, l2, q⟩ =>
    ⟨v, w, rfl, F2, _, s1.trans s2, (I2.setV (r1.mono s2) l1).setV r2 (by rw [List.length_set]; exact l2), q⟩

/-! ### unpacking -/
def gNs : List Nat → TGs
  | [] => gNil
  | i :: r => gCons (gName i) (gNs r)
def setAll (G : List Sl) : List Nat → List D → List Sl
  | i :: r, d :: ds => setAll (G.set i (.val d)) r ds
  | _, _ => G
theorem gNs_run {Q : L2.St → Hp → Prop} : ∀ {is : List Nat} {ds : List D} {xs : List V} {σ : L2.St} {G : List Sl}, JI X.K c F H σ G → RepL X.K F ds xs → is.length = ds.length → (∀ i ∈ is, i < G.length) →
    (∀ σ', JI X.K c F H σ' (setAll G is ds) → Q σ' H) → gNs is xs σ H Q
  | [], [], xs, σ, G, I, r, _, _, k => by
    have r : xs = [] := r
    exact ⟨r, k σ I⟩
  | [], _ :: _, _, _, _, _, _, h, _, _ => by simp at h
  | _ :: _, [], _, _, _, _, _, h, _, _ => by simp at h
  | i :: is, d :: ds, xs, σ, G, I, r, h, hl, k => by
    obtain ⟨x, xr, rfl, h1, h2⟩ := r
    exact ⟨x, xr, rfl, gNs_run (I.setV h1 (hl i List.mem_cons_self)) h2 (by simpa using h) (fun j hj => by rw [List.length_set]; exact hl j (List.mem_cons_of_mem _ hj)) k⟩
/-- a, b, .. = a tuple -/
theorem js_unT {ts : List Expr} {is : List Nat} {kt : Nat} {pt : Pos} {n : Nat} (hc : X.calm = true) (hp : PGs X ts (gNs is)) (hn : is.length = n) (h : JE X c e G (fun d G1 => ∃ l, d = .tup l ∧ l.length = n ∧ (∀ i ∈ is, i < G1.length) ∧ D₀.nx (setAll G1 is l)) Ex)
    (ht : (assignEach ts X.env).length = n := by rfl) (hst : (assignEach ts X.env).findIdx? (·.1) = none := by rfl) (hs : swapsWithSole [.Tuple ts kt pt] e pos.line X.env = pure false := by rfl) (hw : swappedStores [.Tuple ts kt pt] e X.env = pure none := by rfl)
    (h1 : (assignEach [.Tuple ts kt pt] X.env).map (·.2) = [assign (.Tuple ts kt pt) X.env] := by rfl) : JS X c (.Assign [.Tuple ts kt pt] e pos) G D₀ Ex :=
  js_of (ps_asg pe_w (pg_tup hc hp ht hst) hs hw h1) fun x F σ H I => wE_mono (h x F σ H I) fun v H1 ⟨F1, d1, G1, s1, I1, r1, l, e1, hl, hi, q⟩ => by
    subst e1
    obtain ⟨p, xs, rfl, hx, hr⟩ := r1
    exact ⟨p, xs, rfl, Same.sqt I1.jx.fh hx, by rw [hr.length]; exact hl, gNs_run I1 hr (hn.trans hl.symm) hi fun σ' I' => ⟨F1, _, s1, I', q⟩⟩
/-- a, b, .. = a list -/
theorem js_unL {ts : List Expr} {is : List Nat} {kt : Nat} {pt : Pos} {n : Nat} (hc : X.calm = true) (hp : PGs X ts (gNs is)) (hn : is.length = n) (h : JE X c e G (fun d G1 => ∃ l, d = .lst l ∧ l.length = n ∧ (∀ i ∈ is, i < G1.length) ∧ D₀.nx (setAll G1 is l)) Ex)
    (ht : (assignEach ts X.env).length = n := by rfl) (hst : (assignEach ts X.env).findIdx? (·.1) = none := by rfl) (hs : swapsWithSole [.Tuple ts kt pt] e pos.line X.env = pure false := by rfl) (hw : swappedStores [.Tuple ts kt pt] e X.env = pure none := by rfl)
    (h1 : (assignEach [.Tuple ts kt pt] X.env).map (·.2) = [assign (.Tuple ts kt pt) X.env] := by rfl) : JS X c (.Assign [.Tuple ts kt pt] e pos) G D₀ Ex :=
  js_of (ps_asg pe_w (pg_lst hc hp ht hst) hs hw h1) fun x F σ H I => wE_mono (h x F σ H I) fun v H1 ⟨F1, d1, G1, s1, I1, r1, l, e1, hl, hi, q⟩ => by
    subst e1
    obtain ⟨p, xs, rfl, hx, hr⟩ := r1
    exact ⟨p, xs, rfl, SqL.of (I1.jx.fh _ _ hx), by rw [hr.length]; exact hl, gNs_run I1 hr (hn.trans hl.symm) hi fun σ' I' => ⟨F1, _, s1, I', q⟩⟩

/-! ### loops -/
/-- the slots behind i turns, the frozen heap grown -/
def Wl (X : Cx) (c : JC) (F₀ : Hp) (Pv : List Sl → Prop) : L2.St → Hp → Prop := fun σ H => ∃ F G, Same F₀ F ∧ JI X.K c F H σ G ∧ Pv G
theorem js_forL {iter : Expr} {body : List Stmt} {i : Nat} {x : Str} {p2 : Pos} (hp : PassesOwn (model X.prog X.w) X.A X.env X.xe) (hc : X.calm = true) (hN : X.N.Nodup) (hi : X.N[i]? = some x) (hx : Loc X.env.scope x)
    (h : JE X c iter G (fun d G1 => ∃ l, d = .lst l ∧ ∃ Pv : Nat → List Sl → Prop, Pv 0 G1 ∧ (∀ t y G2, l[t]? = some y → Pv t G2 → i < G2.length ∧ JSs X c body (G2.set i (.val y)) { D₀ with nx := Pv (t + 1), ct := Pv (t + 1), bk := D₀.nx } Ex) ∧ (∀ G2, Pv l.length G2 → D₀.nx G2)) Ex)
    (hf : X.fn x = true ∨ X.env.scope.names.lookup x = some .local := by first | exact .inl rfl | exact .inr rfl | assumption) (hs : ∀ x, foldedSetIterable iter X.env x = pure x := by intro _; rfl) : JS X c (.For (.Name x p2) iter body [] pos) G D₀ Ex :=
  js_of (ps_for hp hc (pi_list pe_w) (pg_name hN hi hx hf) pss_w hs) fun xt F σ H I => wE_mono (h xt F σ H I) fun v H1 ⟨F1, d1, G1, s1, I1, r1, l, e1, Pv, h0, ht, hd⟩ => by
    subst e1
    obtain ⟨p, xs, rfl, hx, hr⟩ := r1
    refine ⟨p, rfl, ⟨xs, SqL.of (I1.jx.fh _ _ hx)⟩, for_list (K := X.K) (xs := xs) (fun t => Wl X c F1 (Pv t)) ⟨F1, G1, Same.refl _, I1, h0⟩ (fun t σ H _ ⟨F2, G2, s2, I2, _⟩ => SqL.of (I2.jx.fh _ _ (s2 _ _ hx))) (fun t y σ2 H2 hy ⟨F2, G2, s2, I2, hP⟩ => ?_) fun σ2 H2 ⟨F2, G2, s2, I2, hP⟩ => ⟨F2, G2, s1.trans s2, I2, hd G2 (by rw [← hr.length]; exact hP)⟩⟩
    obtain ⟨d, hd1, hd2⟩ := hr.get' hy
    obtain ⟨hl, hb⟩ := ht t d G2 hd1 hP
    exact wSs_mono (hb xt F2 _ H2 (I2.setV (hd2.mono s2) hl)) (fun _ _ ⟨F3, G3, s3, I3, q⟩ => ⟨F3, G3, s2.trans s3, I3, q⟩) (fun _ _ ⟨F3, d3, σ3, G3, s3, q⟩ => ⟨F3, d3, σ3, G3, s1.trans (s2.trans s3), q⟩) (fun _ _ ⟨F3, G3, s3, q⟩ => ⟨F3, G3, s1.trans (s2.trans s3), q⟩) fun _ _ ⟨F3, G3, s3, I3, q⟩ => ⟨F3, G3, s2.trans s3, I3, q⟩
theorem js_forT {iter : Expr} {body : List Stmt} {i : Nat} {x : Str} {p2 : Pos} (hp : PassesOwn (model X.prog X.w) X.A X.env X.xe) (hc : X.calm = true) (hN : X.N.Nodup) (hi : X.N[i]? = some x) (hx : Loc X.env.scope x)
    (h : JE X c iter G (fun d G1 => ∃ l, d = .tup l ∧ ∃ Pv : Nat → List Sl → Prop, Pv 0 G1 ∧ (∀ t y G2, l[t]? = some y → Pv t G2 → i < G2.length ∧ JSs X c body (G2.set i (.val y)) { D₀ with nx := Pv (t + 1), ct := Pv (t + 1), bk := D₀.nx } Ex) ∧ (∀ G2, Pv l.length G2 → D₀.nx G2)) Ex)
    (hf : X.fn x = true ∨ X.env.scope.names.lookup x = some .local := by first | exact .inl rfl | exact .inr rfl | assumption) (hs : ∀ x, foldedSetIterable iter X.env x = pure x := by intro _; rfl) : JS X c (.For (.Name x p2) iter body [] pos) G D₀ Ex :=
  js_of (ps_for hp hc (pi_tup pe_w) (pg_name hN hi hx hf) pss_w hs) fun xt F σ H I => wE_mono (h xt F σ H I) fun v H1 ⟨F1, d1, G1, s1, I1, r1, l, e1, Pv, h0, ht, hd⟩ => by
    subst e1
    obtain ⟨p, xs, rfl, hx, hr⟩ := r1
    refine ⟨p, rfl, ⟨xs, Same.sqt I1.jx.fh hx⟩, for_tup (K := X.K) (xs := xs) (fun t => Wl X c F1 (Pv t)) ⟨F1, G1, Same.refl _, I1, h0⟩ (fun t σ H _ ⟨F2, G2, s2, I2, _⟩ => Same.sqt (s2.trans I2.jx.fh) hx) (fun t y σ2 H2 hy ⟨F2, G2, s2, I2, hP⟩ => ?_) fun σ2 H2 ⟨F2, G2, s2, I2, hP⟩ => ⟨F2, G2, s1.trans s2, I2, hd G2 (by rw [← hr.length]; exact hP)⟩⟩
    obtain ⟨d, hd1, hd2⟩ := hr.get' hy
    obtain ⟨hl, hb⟩ := ht t d G2 hd1 hP
    exact wSs_mono (hb xt F2 _ H2 (I2.setV (hd2.mono s2) hl)) (fun _ _ ⟨F3, G3, s3, I3, q⟩ => ⟨F3, G3, s2.trans s3, I3, q⟩) (fun _ _ ⟨F3, d3, σ3, G3, s3, q⟩ => ⟨F3, d3, σ3, G3, s1.trans (s2.trans s3), q⟩) (fun _ _ ⟨F3, G3, s3, q⟩ => ⟨F3, G3, s1.trans (s2.trans s3), q⟩) fun _ _ ⟨F3, G3, s3, I3, q⟩ => ⟨F3, G3, s2.trans s3, I3, q⟩
theorem js_forR {a : Expr} {body : List Stmt} {i : Nat} {x : Str} {p1 p2 p3 : Pos} (hp : PassesOwn (model X.prog X.w) X.A X.env X.xe) (hc : X.calm = true) (hN : X.N.Nodup) (hi : X.N[i]? = some x) (hx : Loc X.env.scope x) (B : Bt X.mg) (hg : Gl X "range")
    (h : JE X c a G (fun d G1 => ∃ n, d = .int n ∧ (-(2 ^ 62) ≤ n ∧ n < 2 ^ 62) ∧ ∃ Pv : Nat → List Sl → Prop, Pv 0 G1 ∧ (∀ t G2, t < n.toNat → Pv t G2 → i < G2.length ∧ JSs X c body (G2.set i (.val (.int t))) { D₀ with nx := Pv (t + 1), ct := Pv (t + 1), bk := D₀.nx } Ex) ∧ (∀ G2, Pv n.toNat G2 → D₀.nx G2)) Ex)
    (hf : X.fn x = true ∨ X.env.scope.names.lookup x = some .local := by first | exact .inl rfl | exact .inr rfl | assumption) (hs : ∀ y, foldedSetIterable (.Call (.Name "range" p1) [a] [] p3) X.env y = pure y := by intro _; rfl) (he : starEach [a] X.env = [(false, eval a X.env)] := by rfl) : JS X c (.For (.Name x p2) (.Call (.Name "range" p1) [a] [] p3) body [] pos) G D₀ Ex :=
  js_of (ps_for hp hc (pi_range1 hg B.range (pa_cons pe_w pa_nil he) he) (pg_name hN hi hx hf) pss_w hs) fun xt F σ H I => wE_mono (h xt F σ H I) fun v H1 ⟨F1, d1, G1, s1, I1, r1, n, e1, ⟨b1, b2⟩, Pv, h0, ht, hd⟩ => by
    subst e1
    obtain rfl : v = .int n := r1
    refine ⟨n, rfl, b1, b2, for_range (fun t => Wl X c F1 (Pv t)) ⟨F1, G1, Same.refl _, I1, h0⟩ (fun t σ2 H2 hy ⟨F2, G2, s2, I2, hP⟩ => ?_) fun σ2 H2 ⟨F2, G2, s2, I2, hP⟩ => ⟨F2, G2, s1.trans s2, I2, hd G2 hP⟩⟩
    obtain ⟨hl, hb⟩ := ht t G2 hy hP
    have e0 : (0 : Int) + (t : Int) = t := by omega
    rw [e0]
    exact wSs_mono (hb xt F2 _ H2 (I2.setV (d := .int t) rfl hl)) (fun _ _ ⟨F3, G3, s3, I3, q⟩ => ⟨F3, G3, s2.trans s3, I3, q⟩) (fun _ _ ⟨F3, d3, σ3, G3, s3, q⟩ => ⟨F3, d3, σ3, G3, s1.trans (s2.trans s3), q⟩) (fun _ _ ⟨F3, G3, s3, q⟩ => ⟨F3, G3, s1.trans (s2.trans s3), q⟩) fun _ _ ⟨F3, G3, s3, I3, q⟩ => ⟨F3, G3, s2.trans s3, I3, q⟩
/-- while, a word over the slots and a measure -/
theorem js_while {t : Expr} {body : List Stmt} (hp : PassesOwn (model X.prog X.w) X.A X.env X.xe) (Pv : Nat → List Sl → Prop) (h0 : ∃ m, Pv m G)
    (h : ∀ m G1, Pv m G1 → JT X c t G1 (fun k G2 => (k = true → JSs X c body G2 { D₀ with nx := fun G3 => ∃ m', m' < m ∧ Pv m' G3, ct := fun G3 => ∃ m', m' < m ∧ Pv m' G3, bk := D₀.nx } Ex) ∧ (k = false → D₀.nx G2)) Ex) : JS X c (.While t body [] pos) G D₀ Ex :=
  js_of (ps_while hp pt_w pss_w) fun xt F σ H I => by
    obtain ⟨m0, q0⟩ := h0
    refine ⟨fun m => Wl X c F (Pv m), ⟨m0, F, G, Same.refl _, I, q0⟩, fun m σ1 H1 ⟨F1, G1, s1, I1, q1⟩ => wT_mono (h m G1 q1 xt F1 σ1 H1 I1) fun k H2 ⟨F2, G2, s2, I2, k1, k2⟩ => ?_⟩
    cases k with
    | false => exact iteF ⟨F2, G2, s1.trans s2, I2, k2 rfl⟩
    | true =>
      refine iteT ⟨fun σ' H' => ∃ m', m' < m ∧ Wl X c F (Pv m') σ' H', fun _ _ q => q, wSs_mono (k1 rfl xt F2 σ1 H2 I2) ?_ (fun _ _ ⟨F3, d3, σ3, G3, s3, q⟩ => ⟨F3, d3, σ3, G3, s1.trans (s2.trans s3), q⟩) (fun _ _ ⟨F3, G3, s3, q⟩ => ⟨F3, G3, s1.trans (s2.trans s3), q⟩) ?_⟩
      · exact fun _ _ ⟨F3, G3, s3, I3, m', hm, q⟩ => ⟨m', hm, F3, G3, s1.trans (s2.trans s3), I3, q⟩
      · exact fun _ _ ⟨F3, G3, s3, I3, m', hm, q⟩ => ⟨m', hm, F3, G3, s1.trans (s2.trans s3), I3, q⟩
/-- a list of ours becomes a value -/
theorem jss_freeze {i : Nat} {p : Addr} {l : List D} (hi : G[i]? = some (Sl.own p l)) (hc : c.W p → False) (h : JSs X c sts (G.set i (.val (.lst l))) D₀ Ex) : JSs X c sts G D₀ Ex := fun xt F σ H I => by
  obtain ⟨_, _, hw, _⟩ := I.own i p l hi
  obtain ⟨F', s, I'⟩ := I.freeze hi (hw.elim (fun z => (hc z).elim) id)
  exact wSs_base s (h xt F' σ H I')
/-- forgetting slots -/
theorem jss_weak {G' : List Sl} (h : JSs X c sts G' D₀ Ex) (hl : G'.length = G.length) (hv : ∀ (i : Nat) d, G'[i]? = some (Sl.val d) → G[i]? = some (Sl.val d)) (ho : ∀ (i : Nat) a l, G'[i]? = some (Sl.own a l) → G[i]? = some (Sl.own a l)) : JSs X c sts G D₀ Ex := fun xt F σ H I =>
  h xt F σ H (I.weak (I.len.trans hl.symm) (fun i d e => ⟨hv i d e, rfl⟩) fun i a l e => ⟨ho i a l e, rfl⟩)
end
end J
end
section
set_option maxRecDepth 100000
set_option maxHeartbeats 4000000
namespace J
open PySem PySem.Spec PyProof.Rows L2

/-! ### comprehensions -/
section
variable {K : PySem.W.Frag} {c : JC} {F H F' H' : Hp} {σ : L2.St} {G : List Sl}
/-- the owned places -/
def Owns (G : List Sl) (a : Addr) : Prop := ∃ (i : Nat) (l : List D), G[i]? = some (Sl.own a l)
abbrev JC.re (c : JC) (F H : Hp) (G : List Sl) : JC := ⟨F, H, Owns G, c.T⟩
theorem JI.re (I : JI K c F H σ G) : JI K (c.re F H G) F H σ G where
  jx := I.jx.again
  len := I.len
  val := I.val
  own := fun i a l e => by
    obtain ⟨h1, h2, _, h4⟩ := I.own i a l e
    exact ⟨h1, h2, .inl ⟨i, l, e⟩, h4⟩
  sep := I.sep
theorem JI.unre {σ' : L2.St} {G' : List Sl} (I : JI K c F H σ G) (J : JI K (c.re F H G) F' H' σ' G') : JI K c F' H' σ' G' where
  jx := I.jx.trans J.jx fun a ⟨i, l, e⟩ => (I.own i a l e).2.2.1
  len := J.len
  val := J.val
  own := fun i a l e => by
    obtain ⟨h1, h2, h3, h4⟩ := J.own i a l e
    refine ⟨h1, h2, ?_, h4⟩
    rcases h3 with ⟨j, l', e'⟩ | h3
    · exact (I.own j a l' e').2.2.1
    · exact .inr (I.jx.gone h3)
  sep := J.sep
/-- the block's slot is empty within -/
theorem JI.wiped {i : Nat} (I : JI K c F H σ G) (hi : ∀ a l, G[i]? ≠ some (Sl.own a l)) : JI K c F H (wipe σ [i]) (G.set i .no) := by
  have ew : wipe σ [i] = σ.set i none := rfl
  rw [ew]
  refine I.weak (by rw [List.length_set, List.length_set]; exact I.len) (fun j d e => ?_) fun j a l e => ?_
  · by_cases hj : i = j
    · subst hj
      by_cases hl : i < G.length
      · rw [List.getElem?_set_self hl] at e
        cases e
      · rw [List.getElem?_eq_none (by rw [List.length_set]; omega)] at e
        cases e
    · rw [List.getElem?_set_ne hj] at e
      exact ⟨e, List.getElem?_set_ne hj⟩
  · by_cases hj : i = j
    · subst hj
      by_cases hl : i < G.length
      · rw [List.getElem?_set_self hl] at e
        cases e
      · rw [List.getElem?_eq_none (by rw [List.length_set]; omega)] at e
        cases e
    · rw [List.getElem?_set_ne hj] at e
      exact ⟨e, List.getElem?_set_ne hj⟩
/-- behind the block the slot is what it was -/
theorem JI.back {i : Nat} {g : Sl} (J : JI K c F' H' (wipe σ [i]) G) (hl : i < G.length) (hs : σ.length = G.length) (hg : ∀ d, g = .val d → ∃ v, σ[i]? = some (some v) ∧ Rep K F' d v) (hn : ∀ a l, g ≠ .own a l) : JI K c F' H' σ (G.set i g) where
  jx := J.jx
  len := by rw [List.length_set]; exact hs
  val := fun j d e => by
    by_cases hj : i = j
    · subst hj
      rw [List.getElem?_set_self hl] at e
      exact hg d (Option.some.inj e)
    · rw [List.getElem?_set_ne hj] at e
      obtain ⟨v, h1, h2⟩ := J.val j d e
      have h1 : (σ.set i none)[j]? = some (some v) := h1
      rw [List.getElem?_set_ne hj] at h1
      exact ⟨v, h1, h2⟩
  own := fun j a l e => by
    by_cases hj : i = j
    · subst hj
      rw [List.getElem?_set_self hl] at e
      exact absurd (Option.some.inj e) (hn a l)
    · rw [List.getElem?_set_ne hj] at e
      obtain ⟨h1, h2, h3, h4⟩ := J.own j a l e
      have h1 : (σ.set i none)[j]? = some (some (.ref a)) := h1
      rw [List.getElem?_set_ne hj] at h1
      exact ⟨h1, h2, h3, h4⟩
  sep := fun j k a l l' e1 e2 => by
    have key : ∀ (j : Nat) l, (G.set i g)[j]? = some (Sl.own a l) → G[j]? = some (Sl.own a l) := fun j l e => by
      by_cases hj : i = j
      · subst hj
        rw [List.getElem?_set_self hl] at e
        exact absurd (Option.some.inj e) (hn a l)
      · rw [List.getElem?_set_ne hj] at e
        exact e
    exact J.sep j k a l l' (key j l e1) (key k l' e2)
end
section
variable {X : Cx} {c : JC} {elt iter : Expr} {ifs : List Expr} {G : List Sl} {Ex : XQ} {pos p2 p3 : Pos} {scope : Scope} {i : Nat} {x : Str} {tg : Expr} {N : Addr → List D → List Sl → Prop}
abbrev BX (X : Cx) (scope : Scope) (s : Shared) (H : Hp) (C : Addr) (cl : List (Str × Addr)) (fp : List Addr) : Cx := X.blk s H scope (compEnvC scope cl C X.env) fp
/-- all readings of an expression in the block's contexts -/
def bE (X : Cx) (scope : Scope) (e : Expr) : TE := fun σ H Q => ∀ s0 H0 C cl fp, wE (BX X scope s0 H0 C cl fp) e σ H Q
theorem pe_b {e : Expr} (s0 : Shared) (H0 : Hp) (C : Addr) (cl : List (Str × Addr)) (fp : List Addr) : PE (BX X scope s0 H0 C cl fp) e (bE X scope e) := ⟨fun pins s σ H Q I h => h s0 H0 C cl fp pins s I⟩
def bTs (X : Cx) (scope : Scope) (ifs : List Expr) : TT := fun σ H Q => ∀ s0 H0 C cl fp pins s, Inv (BX X scope s0 H0 C cl fp) pins σ H s →
  wpAny (model X.prog X.w) X.A (forIn ifs true fun c r => if r = true then do let ok ← isTrue c (BX X scope s0 H0 C cl fp).env (eval c (BX X scope s0 H0 C cl fp).env); pure (ForInStep.yield ok) else pure (ForInStep.yield r)) (TP (BX X scope s0 H0 C cl fp) pins σ Q) (BX X scope s0 H0 C cl fp).xe s
theorem pts_b (s0 : Shared) (H0 : Hp) (C : Addr) (cl : List (Str × Addr)) (fp : List Addr) : PTs (BX X scope s0 H0 C cl fp) ifs (bTs X scope ifs) := ⟨fun pins s σ H Q I h => h s0 H0 C cl fp pins s I⟩
/-- the tests of a block, over the slots -/
def JB (X : Cx) (c : JC) (scope : Scope) (ifs : List Expr) (G : List Sl) (R : Bool → List Sl → Prop) : Prop := ∀ F σ H, JI X.K c F H σ G → bTs X scope ifs σ H (QT X c F σ R)
theorem jb_nil {R : Bool → List Sl → Prop} (q : R true G) : JB X c scope [] G R := fun F σ H I s0 H0 C cl fp pins s i => (pts_nil (X := BX X scope s0 H0 C cl fp)).run pins s σ H _ i ⟨F, G, Same.refl _, I, q⟩
theorem jb_one {t : Expr} {R : Bool → List Sl → Prop} (h : ∀ s0 H0 C cl fp, JT (BX X scope s0 H0 C cl fp) c t G R NoX) : JB X c scope [t] G R := fun F σ H I s0 H0 C cl fp pins s i => (pts_one pt_w).run pins s σ H _ i (h s0 H0 C cl fp Xt.no F σ H I)
/-- an element, over the slots -/
def JL (X : Cx) (c : JC) (scope : Scope) (e : Expr) (G : List Sl) (Q : D → List Sl → Prop) : Prop := ∀ s0 H0 C cl fp, JE (BX X scope s0 H0 C cl fp) c e G Q NoX
/-- within the block: the list so far at D -/
structure LcI (X : Cx) (c : JC) (F₀ : Hp) (σ : L2.St) (i : Nat) (E : Addr) (Pv : List D → List Sl → Prop) (H : Hp) : Prop where
  ex : ∃ F G acc xs, Same F₀ F ∧ JI X.K c F H (wipe σ [i]) G ∧ i < G.length ∧ G[i]? = some .no ∧ F E = none ∧ c.H0 E = none ∧ H E = some (.lst xs) ∧ RepL X.K F acc xs ∧ (∀ (j : Nat) l', G[j]? ≠ some (Sl.own E l')) ∧ Pv acc G
theorem lc_turn {F₀ : Hp} {σ : L2.St} {E : Addr} {Pv Pv' : List D → List Sl → Prop} {H : Hp} {v : V} {y : D} (hI : LcI X c F₀ σ i E Pv H) (hy : Rep X.K F₀ y v)
    (h : ∀ acc G, Pv acc G → i < G.length → ∀ F₁ H₁, JB X (c.re F₁ H₁ G) scope ifs (G.set i (.val y)) fun b G1 => if b = true then JL X (c.re F₁ H₁ G) scope elt G1 (fun d G2 => acc.length < sizeLine ∧ i < G2.length ∧ (∀ a l, G2[i]? ≠ some (Sl.own a l)) ∧ Pv' (acc ++ [d]) (G2.set i .no)) else (i < G1.length ∧ (∀ a l, G1[i]? ≠ some (Sl.own a l)) ∧ Pv' acc (G1.set i .no))) :
    gName i v (wipe σ [i]) H fun σ2 H2 => wipe σ2 [i] = wipe σ [i] ∧ bTs X scope ifs σ2 H2 fun b H3 => if b = true then bE X scope elt σ2 H3 fun y H4 => ∃ acc, H4 E = some (.lst acc) ∧ acc.length < sizeLine ∧ LcI X c F₀ σ i E Pv' (upd H4 E (.lst (acc ++ [y]))) else LcI X c F₀ σ i E Pv' H3 := by
  obtain ⟨F, G, acc, xs, sF, I, hl, hno, e1, e2, e3, e4, e5, hP⟩ := hI.ex
  have hlen := I.len
  have I1 : JI X.K c F H ((wipe σ [i]).set i (some v)) (G.set i (.val y)) := I.setV (hy.mono sF) hl
  have own1 : ∀ a, Owns (G.set i (.val y)) a ↔ Owns G a := fun a => by
    constructor
    · rintro ⟨j, l, e⟩
      by_cases hj : i = j
      · subst hj
        rw [List.getElem?_set_self hl] at e
        cases e
      · rw [List.getElem?_set_ne hj] at e
        exact ⟨j, l, e⟩
    · rintro ⟨j, l, e⟩
      refine ⟨j, l, ?_⟩
      by_cases hj : i = j
      · subst hj
        rw [hno] at e
        cases e
      · rw [List.getElem?_set_ne hj]
        exact e
  have own2 : Owns (G.set i (.val y)) = Owns G := funext fun a => propext (own1 a)
  have I2 : JI X.K (c.re F H G) F H ((wipe σ [i]).set i (some v)) (G.set i (.val y)) := by
    have z := I1.re
    unfold JC.re at z
    rw [own2] at z
    exact z
  have unre : ∀ {F' H' σ' G'}, JI X.K (c.re F H G) F' H' σ' G' → JI X.K c F' H' σ' G' := fun {F' H' σ' G'} J => by
    refine I1.unre (G' := G') ?_
    unfold JC.re
    rw [own2]
    exact J
  -- what stood in the air stands
  have air : ∀ {F' H' σ' G'}, JI X.K (c.re F H G) F' H' σ' G' → F' E = none ∧ H' E = some (.lst xs) ∧ (∀ (j : Nat) l', G'[j]? ≠ some (Sl.own E l')) := fun {F' H' σ' G'} J => by
    have nw : ¬ Owns G E := fun ⟨j, l, z⟩ => e5 j l z
    refine ⟨J.jx.nf E (show H E ≠ none by rw [e3]; simp) e1, J.jx.hh E _ e3 nw (fun ps z => nomatch z), fun j l' z => ?_⟩
    rcases (J.own j E l' z).2.2.1 with q | q
    · exact nw q
    · have q : H E = none := q
      rw [e3] at q
      cases q
  have wset : wipe ((wipe σ [i]).set i (some v)) [i] = wipe σ [i] := by
    show ((σ.set i none).set i (some v)).set i none = σ.set i none
    rw [List.set_set, List.set_set]
  have wi : ∀ {F' H' G'}, JI X.K c F' H' ((wipe σ [i]).set i (some v)) G' → (∀ a l, G'[i]? ≠ some (Sl.own a l)) → JI X.K c F' H' (wipe σ [i]) (G'.set i .no) := fun {F' H' G'} J z => by
    have q := J.wiped (i := i) z
    rw [wset] at q
    exact q
  have last : ∀ {G' : List Sl}, i < G'.length → (∀ (j : Nat) l', G'[j]? ≠ some (Sl.own E l')) → i < (G'.set i .no).length ∧ (G'.set i .no)[i]? = some .no ∧ ∀ (j : Nat) l', (G'.set i .no)[j]? ≠ some (Sl.own E l') := fun {G'} z z2 => by
    refine ⟨by rw [List.length_set]; exact z, List.getElem?_set_self z, fun j l' q => ?_⟩
    by_cases hj : i = j
    · subst hj
      rw [List.getElem?_set_self z] at q
      cases q
    · rw [List.getElem?_set_ne hj] at q
      exact z2 j l' q
  have tb := h acc G hP hl F H F ((wipe σ [i]).set i (some v)) H I2
  refine ⟨wset, fun s0 H0 C cl fp pins s inv => thn (tb s0 H0 C cl fp pins s inv) fun b s' ⟨H3, inv3, F3, G3, s3, I3, r⟩ => ⟨H3, inv3, ?_⟩⟩
  cases b with
  | false =>
    rw [if_neg Bool.false_ne_true] at r ⊢
    obtain ⟨q1, q2, q3⟩ := r
    obtain ⟨a1, a2, a3⟩ := air I3
    obtain ⟨b1, b2, b3⟩ := last q1 a3
    exact ⟨F3, G3.set i .no, acc, xs, sF.trans s3, wi (unre I3) q2, b1, b2, a1, e2, a2, e4.mono s3, b3, q3⟩
  | true =>
    rw [if_pos rfl] at r ⊢
    intro s1 H1 C1 cl1 fp1 pins1 s2 inv1
    refine thn (r s1 H1 C1 cl1 fp1 Xt.no F3 _ H3 I3 pins1 s2 inv1) fun u s4 ⟨w, H4, inv4, rw', F4, d, G4, s4, I4, rd, q0, q1, q2, q3⟩ => ⟨w, H4, inv4, rw', ?_⟩
    obtain ⟨a1, a2, a3⟩ := air I4
    obtain ⟨b1, b2, b3⟩ := last q1 a3
    have e4' := (e4.mono s3).mono s4
    have J4 := wi (unre I4) q2
    refine ⟨xs, a2, by rw [e4'.length]; exact q0, F4, G4.set i .no, acc ++ [d], xs ++ [w], sF.trans (s3.trans s4), ?_, b1, b2, a1, e2, upd_same, e4'.append (.one rd), b3, q3⟩
    refine J4.mono (J4.jx.write a1 (.inr e2) a2) (Same.refl _) fun j a l z => ?_
    have n : a ≠ E := fun w => b3 j l (w ▸ z)
    rw [upd_ne n]
    exact ⟨(J4.own j a l z).2.1, rfl⟩
/-- the start of a block's list, and its end -/
theorem lc_zero {F : Hp} {σ : L2.St} {H : Hp} {E : Addr} {Pv : List D → List Sl → Prop} (I : JI X.K c F H σ G) (hE : H E = none) (hl : i < G.length) (hn : ∀ a l, G[i]? ≠ some (Sl.own a l)) (h : Pv [] (G.set i .no)) : LcI X c F σ i E Pv (upd H E (.lst [])) := by
  have A := air_new (l := []) (xs := []) I (show RepL X.K F [] [] from rfl) hE
  refine ⟨F, G.set i .no, [], [], Same.refl _, A.ji.wiped hn, by rw [List.length_set]; exact hl, List.getElem?_set_self hl, A.fn, A.h0, upd_same, rfl, fun j l' z => ?_, h⟩
  by_cases hj : i = j
  · subst hj
    rw [List.getElem?_set_self hl] at z
    cases z
  · rw [List.getElem?_set_ne hj] at z
    exact A.ne j l' z
theorem lc_last {F F₀ : Hp} {σ : L2.St} {H H' : Hp} {E : Addr} {g : Sl} {Pv : List D → List Sl → Prop} (I : JI X.K c F H σ G) (hg : G[i]? = some g) (hn : ∀ a l, g ≠ .own a l) (s : Same F₀ F) (hI : LcI X c F σ i E Pv H') (h : ∀ acc G', Pv acc G' → N E acc (G'.set i g)) : QN X c F₀ σ N (.ref E) H' := by
  obtain ⟨F', G', acc, xs, sF, J, hl, hno, e1, e2, e3, e4, e5, hP⟩ := hI.ex
  have hlen : σ.length = G'.length := by
    have z := J.len
    rw [wipe_length] at z
    exact z
  refine ⟨F', E, acc, G'.set i g, s.trans sF, rfl, ⟨J.back hl hlen (fun d ed => ?_) hn, e1, e2, ⟨xs, e3, e4⟩, fun j l' z => ?_⟩, h acc G' hP⟩
  · subst ed
    obtain ⟨v, h1, h2⟩ := I.val i d hg
    exact ⟨v, h1, h2.mono sF⟩
  · by_cases hj : i = j
    · subst hj
      rw [List.getElem?_set_self hl] at z
      exact hn _ _ (Option.some.inj z)
    · rw [List.getElem?_set_ne hj] at z
      exact e5 j l' z
/-- what a turn of a comprehension asks: Pv of the turn, the list so far and the slots (i's is empty) -/
abbrev LcTurn (X : Cx) (c : JC) (scope : Scope) (i : Nat) (ifs : List Expr) (elt : Expr) (y : D) (Pv Pv' : List D → List Sl → Prop) : Prop :=
  ∀ acc G, Pv acc G → i < G.length → ∀ F₁ H₁, JB X (c.re F₁ H₁ G) scope ifs (G.set i (.val y)) fun b G1 => if b = true then JL X (c.re F₁ H₁ G) scope elt G1 (fun d G2 => acc.length < sizeLine ∧ i < G2.length ∧ (∀ a l, G2[i]? ≠ some (Sl.own a l)) ∧ Pv' (acc ++ [d]) (G2.set i .no)) else (i < G1.length ∧ (∀ a l, G1[i]? ≠ some (Sl.own a l)) ∧ Pv' acc (G1.set i .no))
/-- what the source's reading gives, by the kind of the source -/
abbrev LcL (X : Cx) (c : JC) (scope : Scope) (i : Nat) (ifs : List Expr) (elt : Expr) (l : List D) (G1 : List Sl) (N : Addr → List D → List Sl → Prop) : Prop :=
  ∃ g, i < G1.length ∧ G1[i]? = some g ∧ (∀ a l', g ≠ .own a l') ∧ ∃ Pv : Nat → List D → List Sl → Prop, Pv 0 [] (G1.set i .no) ∧ (∀ t y, l[t]? = some y → LcTurn X c scope i ifs elt y (Pv t) (Pv (t + 1))) ∧ (∀ acc G2 p, Pv l.length acc G2 → N p acc (G2.set i g))
abbrev LcR (X : Cx) (c : JC) (scope : Scope) (i : Nat) (ifs : List Expr) (elt : Expr) (n : Int) (G1 : List Sl) (N : Addr → List D → List Sl → Prop) : Prop :=
  ∃ g, i < G1.length ∧ G1[i]? = some g ∧ (∀ a l', g ≠ .own a l') ∧ ∃ Pv : Nat → List D → List Sl → Prop, Pv 0 [] (G1.set i .no) ∧ (∀ t : Nat, t < n.toNat → LcTurn X c scope i ifs elt (.int t) (Pv t) (Pv (t + 1))) ∧ (∀ acc G2 p, Pv n.toNat acc G2 → N p acc (G2.set i g))
section
variable {F : Hp} {σ : L2.St} {H : Hp} {Q' : VK}
theorem tlcL (xt : Xt X c Ex) (I : JI X.K c F H σ G) (h : JE X c iter G (fun d G1 => ∃ l, d = .lst l ∧ LcL X c scope i ifs elt l G1 N) Ex) (k : ∀ v H', QN X c F σ N v H' → Q' v H') : tLc (iList X.K (wE X iter)) (gName i) (bTs X scope ifs) (bE X scope elt) [i] σ H Q' :=
  wE_mono (h xt F σ H I) fun v H1 ⟨F1, d1, G1, s1, I1, r1, l, e1, g, hl, hg1, hgn, Pv, h0, ht, hd⟩ => by
    subst e1
    obtain ⟨p, xs, rfl, hx, hr⟩ := r1
    have hnn : ∀ a l', G1[i]? ≠ some (Sl.own a l') := fun a l' z => by rw [hg1] at z; exact hgn a l' (Option.some.inj z)
    refine ⟨p, rfl, ⟨xs, SqL.of (I1.jx.fh _ _ hx)⟩, fun E hE => lc_list (K := X.K) (xs := xs) (fun t H => LcI X c F1 σ i E (Pv t) H) (lc_zero I1 hE hl hnn h0) (fun t H _ hI => ?_) (fun t y H hy hI => ?_) fun H hI => ?_⟩
    · obtain ⟨F2, G2, _, _, sF, J, _⟩ := hI.ex
      exact SqL.of (J.jx.fh _ _ (sF _ _ hx))
    · obtain ⟨d, hd1, hd2⟩ := hr.get' hy
      exact lc_turn hI hd2 (ht t d hd1)
    · rw [hr.length] at hI
      exact k _ _ (lc_last I1 hg1 hgn s1 hI fun acc G' hP => hd acc G' E hP)
theorem tlcT (xt : Xt X c Ex) (I : JI X.K c F H σ G) (h : JE X c iter G (fun d G1 => ∃ l, d = .tup l ∧ LcL X c scope i ifs elt l G1 N) Ex) (k : ∀ v H', QN X c F σ N v H' → Q' v H') : tLc (iTup X.K (wE X iter)) (gName i) (bTs X scope ifs) (bE X scope elt) [i] σ H Q' :=
  wE_mono (h xt F σ H I) fun v H1 ⟨F1, d1, G1, s1, I1, r1, l, e1, g, hl, hg1, hgn, Pv, h0, ht, hd⟩ => by
    subst e1
    obtain ⟨p, xs, rfl, hx, hr⟩ := r1
    have hnn : ∀ a l', G1[i]? ≠ some (Sl.own a l') := fun a l' z => by rw [hg1] at z; exact hgn a l' (Option.some.inj z)
    refine ⟨p, rfl, ⟨xs, Same.sqt I1.jx.fh hx⟩, fun E hE => lc_tup (K := X.K) (xs := xs) (fun t H => LcI X c F1 σ i E (Pv t) H) (lc_zero I1 hE hl hnn h0) (fun t H _ hI => ?_) (fun t y H hy hI => ?_) fun H hI => ?_⟩
    · obtain ⟨F2, G2, _, _, sF, J, _⟩ := hI.ex
      exact Same.sqt (sF.trans J.jx.fh) hx
    · obtain ⟨d, hd1, hd2⟩ := hr.get' hy
      exact lc_turn hI hd2 (ht t d hd1)
    · rw [hr.length] at hI
      exact k _ _ (lc_last I1 hg1 hgn s1 hI fun acc G' hP => hd acc G' E hP)
theorem tlcR {a : Expr} {es : List Expr} (xt : Xt X c Ex) (I : JI X.K c F H σ G) (h : JA X c es G (fun ds G1 => ∃ n, ds = [.int n] ∧ (-(2 ^ 62) ≤ n ∧ n < 2 ^ 62) ∧ LcR X c scope i ifs elt n G1 N) Ex) (k : ∀ v H', QN X c F σ N v H' → Q' v H') : tLc (iRng1 (wA X es)) (gName i) (bTs X scope ifs) (bE X scope elt) [i] σ H Q' :=
  wA_mono (h xt F σ H I) fun vs H1 ⟨F1, ds, G1, s1, I1, r1, n, e1, ⟨b1, b2⟩, g, hl, hg1, hgn, Pv, h0, ht, hd⟩ => by
    subst e1
    obtain ⟨v, r, rfl, r2, r3⟩ := r1
    obtain rfl : v = .int n := r2
    obtain rfl : r = [] := r3
    have hnn : ∀ a l', G1[i]? ≠ some (Sl.own a l') := fun a l' z => by rw [hg1] at z; exact hgn a l' (Option.some.inj z)
    refine ⟨n, rfl, b1, b2, fun E hE => lc_range (fun t H => LcI X c F1 σ i E (Pv t) H) (lc_zero I1 hE hl hnn h0) (fun t H hy hI => ?_) fun H hI => k _ _ (lc_last I1 hg1 hgn s1 hI fun acc G' hP => hd acc G' E hP)⟩
    have e0 : (0 : Int) + (t : Int) = t := by omega
    rw [e0]
    exact lc_turn (y := .int t) hI rfl (ht t hy)
end
section
variable (hc : X.calm = true) (hN : X.N.Nodup) (ok : BlkOk X.N X.env.scope scope [(x, i)]) (hg : ∀ (s : Shared) (H : Hp) (C : Addr) (cl : List (Str × Addr)) (fp : List Addr), PG (X.blk s H scope (compEnvC scope cl C X.env) fp) tg (gName i))
include hc hN ok hg
theorem jn_lcL (h : JE X c iter G (fun d G1 => ∃ l, d = .lst l ∧ LcL X c scope i ifs elt l G1 N) Ex) (hs : ∀ x, foldedSetIterable iter X.env x = pure x := by intro _; rfl) : JN X c (.ListComp elt [⟨tg, iter, ifs, 0⟩] scope pos) G N Ex :=
  jn_of (pe_lc (own := [(x, i)]) hc hN (pi_list pe_w) ok hg pts_b pe_b hs) fun xt F σ H I => tlcL xt I h fun _ _ q => q
theorem jn_lcT (h : JE X c iter G (fun d G1 => ∃ l, d = .tup l ∧ LcL X c scope i ifs elt l G1 N) Ex) (hs : ∀ x, foldedSetIterable iter X.env x = pure x := by intro _; rfl) : JN X c (.ListComp elt [⟨tg, iter, ifs, 0⟩] scope pos) G N Ex :=
  jn_of (pe_lc (own := [(x, i)]) hc hN (pi_tup pe_w) ok hg pts_b pe_b hs) fun xt F σ H I => tlcT xt I h fun _ _ q => q
theorem jn_lcR {a : Expr} {p1 p4 : Pos} (B : Bt X.mg) (hgl : Gl X "range") (h : JA X c [a] G (fun ds G1 => ∃ n, ds = [.int n] ∧ (-(2 ^ 62) ≤ n ∧ n < 2 ^ 62) ∧ LcR X c scope i ifs elt n G1 N) Ex)
    (hs : ∀ x, foldedSetIterable (.Call (.Name "range" p1) [a] [] p4) X.env x = pure x := by intro _; rfl) (he : starEach [a] X.env = [(false, eval a X.env)] := by rfl) : JN X c (.ListComp elt [⟨tg, .Call (.Name "range" p1) [a] [] p4, ifs, 0⟩] scope pos) G N Ex :=
  jn_of (pe_lc (own := [(x, i)]) hc hN (pi_range1 hgl B.range pa_w he) ok hg pts_b pe_b hs) fun xt F σ H I => tlcR (a := a) xt I h fun _ _ q => q
variable {y : Str} {j : Nat} {py spos : Pos} {D₀ : JD} (hy : X.N[j]? = some y) (hyl : X.env.scope.names.lookup y = some .local)
include hy hyl
/-- y = [..], y a local name: stored by the comprehension's own way -/
theorem js_setLcL (hsw : swapsWith (.ListComp elt [⟨tg, iter, ifs, 0⟩] scope pos) (some (.Name y py)) spos.line X.env = pure true) (h : JE X c iter G (fun d G1 => ∃ l, d = .lst l ∧ LcL X c scope i ifs elt l G1 fun p l G1 => j < G1.length ∧ D₀.nx (G1.set j (.own p l))) Ex) (hs : ∀ x, foldedSetIterable iter X.env x = pure x := by intro _; rfl) :
    JS X c (.Assign [.Name y py] (.ListComp elt [⟨tg, iter, ifs, 0⟩] scope pos) spos) G D₀ Ex := fun xt F σ H I =>
  wS_of (ps_setLc (own := [(x, i)]) hc hN hy hyl hsw (pi_list pe_w) ok hg pts_b pe_b hs) (tlcL xt I h fun v H1 ⟨F1, p, l, G1, s1, ev, A, hl, q⟩ => by
    subst ev
    obtain ⟨xs, h1, h2⟩ := A.at_
    exact ⟨F1, _, s1, A.ji.setO A.fn A.h0 h1 h2 A.ne hl, q⟩)
theorem js_setLcT (hsw : swapsWith (.ListComp elt [⟨tg, iter, ifs, 0⟩] scope pos) (some (.Name y py)) spos.line X.env = pure true) (h : JE X c iter G (fun d G1 => ∃ l, d = .tup l ∧ LcL X c scope i ifs elt l G1 fun p l G1 => j < G1.length ∧ D₀.nx (G1.set j (.own p l))) Ex) (hs : ∀ x, foldedSetIterable iter X.env x = pure x := by intro _; rfl) :
    JS X c (.Assign [.Name y py] (.ListComp elt [⟨tg, iter, ifs, 0⟩] scope pos) spos) G D₀ Ex := fun xt F σ H I =>
  wS_of (ps_setLc (own := [(x, i)]) hc hN hy hyl hsw (pi_tup pe_w) ok hg pts_b pe_b hs) (tlcT xt I h fun v H1 ⟨F1, p, l, G1, s1, ev, A, hl, q⟩ => by
    subst ev
    obtain ⟨xs, h1, h2⟩ := A.at_
    exact ⟨F1, _, s1, A.ji.setO A.fn A.h0 h1 h2 A.ne hl, q⟩)
theorem js_setLcR {a : Expr} {p1 p4 : Pos} (B : Bt X.mg) (hgl : Gl X "range") (hsw : swapsWith (.ListComp elt [⟨tg, .Call (.Name "range" p1) [a] [] p4, ifs, 0⟩] scope pos) (some (.Name y py)) spos.line X.env = pure true) (h : JA X c [a] G (fun ds G1 => ∃ n, ds = [.int n] ∧ (-(2 ^ 62) ≤ n ∧ n < 2 ^ 62) ∧ LcR X c scope i ifs elt n G1 fun p l G1 => j < G1.length ∧ D₀.nx (G1.set j (.own p l))) Ex)
    (hs : ∀ x, foldedSetIterable (.Call (.Name "range" p1) [a] [] p4) X.env x = pure x := by intro _; rfl) (he : starEach [a] X.env = [(false, eval a X.env)] := by rfl) :
    JS X c (.Assign [.Name y py] (.ListComp elt [⟨tg, .Call (.Name "range" p1) [a] [] p4, ifs, 0⟩] scope pos) spos) G D₀ Ex := fun xt F σ H I =>
  wS_of (ps_setLc (own := [(x, i)]) hc hN hy hyl hsw (pi_range1 hgl B.range pa_w he) ok hg pts_b pe_b hs) (tlcR (a := a) xt I h fun v H1 ⟨F1, p, l, G1, s1, ev, A, hl, q⟩ => by
    subst ev
    obtain ⟨xs, h1, h2⟩ := A.at_
    exact ⟨F1, _, s1, A.ji.setO A.fn A.h0 h1 h2 A.ne hl, q⟩)
end
end
end J
end
section
set_option maxRecDepth 100000
set_option maxHeartbeats 4000000
namespace J
open PySem PySem.Spec PyProof.Rows L2

/-! ### defs over trees -/
def G0 (n : Nat) (ds : List D) : List Sl := ds.map Sl.val ++ List.replicate (n - ds.length) .no
theorem G0_len {n : Nat} {ds : List D} (h : ds.length ≤ n) : (G0 n ds).length = n := by
  unfold G0
  rw [List.length_append, List.length_map, List.length_replicate]
  omega
theorem G0_val {n : Nat} {ds : List D} {i : Nat} {d : D} (h : (G0 n ds)[i]? = some (Sl.val d)) : ds[i]? = some d := by
  unfold G0 at h
  by_cases hi : i < ds.length
  · rw [List.getElem?_append_left (by rw [List.length_map]; exact hi), List.getElem?_map] at h
    obtain ⟨e, h1, h2⟩ := Option.map_eq_some_iff.mp h
    cases h2
    exact h1
  · rw [List.getElem?_append_right (by rw [List.length_map]; omega), List.getElem?_replicate] at h
    split at h <;> cases h
theorem G0_own {n : Nat} {ds : List D} {i : Nat} {a : Addr} {l : List D} (h : (G0 n ds)[i]? = some (Sl.own a l)) : False := by
  unfold G0 at h
  by_cases hi : i < ds.length
  · rw [List.getElem?_append_left (by rw [List.length_map]; exact hi), List.getElem?_map] at h
    obtain ⟨e, h1, h2⟩ := Option.map_eq_some_iff.mp h
    cases h2
  · rw [List.getElem?_append_right (by rw [List.length_map]; omega), List.getElem?_replicate] at h
    split at h <;> cases h
theorem start_get {N : List Str} {vs : List V} {i : Nat} {v : V} (h : vs[i]? = some v) : (L2.start N vs)[i]? = some (some v) := by
  unfold L2.start
  obtain ⟨hi, _⟩ := List.getElem?_eq_some_iff.mp h
  rw [List.getElem?_append_left (by rw [List.length_map]; exact hi), List.getElem?_map, h]
  rfl
theorem start_len {N : List Str} {vs : List V} (h : vs.length ≤ N.length) : (L2.start N vs).length = N.length := by
  unfold L2.start
  rw [List.length_append, List.length_map, List.length_replicate]
  omega
theorem ji_start {K : PySem.W.Frag} {c : JC} {F H : Hp} {N : List Str} {ds : List D} {vs : List V} (x : JX c F H) (r : RepL K F ds vs) (h : ds.length ≤ N.length) : JI K c F H (L2.start N vs) (G0 N.length ds) where
  jx := x
  len := by rw [G0_len h, start_len (by rw [r.length]; exact h)]
  val := fun i d e => by
    obtain ⟨v, h1, h2⟩ := r.get (G0_val e)
    exact ⟨v, start_get h1, h2⟩
  own := fun i a l e => (G0_own e).elim
  sep := fun i j a l l' e _ => (G0_own e).elim
/-- behind a first place that is a list to be changed -/
theorem ji_startP {K : PySem.W.Frag} {c : JC} {F H : Hp} {N : List Str} {ds l : List D} {vs xs : List V} {a : Addr} (x : JX c F H) (r : RepL K F ds vs) (h : ds.length + 1 ≤ N.length) (h1 : F a = none) (h2 : c.W a) (h3 : H a = some (.lst xs)) (h4 : RepL K F l xs) :
    JI K c F H (L2.start N (.ref a :: vs)) (.own a l :: G0 (N.length - 1) ds) where
  jx := x
  len := by
    rw [start_len (by rw [List.length_cons, r.length]; exact h), List.length_cons, G0_len (by omega)]
    omega
  val := fun i d e => by
    cases i with
    | zero => cases (show some (Sl.own a l) = some (Sl.val d) from e)
    | succ i =>
      obtain ⟨v, q1, q2⟩ := r.get (G0_val (show (G0 (N.length - 1) ds)[i]? = some (Sl.val d) from e))
      exact ⟨v, start_get (show (V.ref a :: vs)[i + 1]? = some v from q1), q2⟩
  own := fun i b l' e => by
    cases i with
    | zero =>
      cases (show some (Sl.own a l) = some (Sl.own b l') from e)
      exact ⟨start_get rfl, h1, .inl h2, xs, h3, h4⟩
    | succ i => exact (G0_own (show (G0 (N.length - 1) ds)[i]? = some (Sl.own b l') from e)).elim
  sep := fun i j b l1 l2 e1 e2 => by
    cases i with
    | succ i => exact (G0_own (show (G0 (N.length - 1) ds)[i]? = some (Sl.own b l1) from e1)).elim
    | zero =>
      cases j with
      | zero => rfl
      | succ j => exact (G0_own (show (G0 (N.length - 1) ds)[j]? = some (Sl.own b l2) from e2)).elim
/-- a def of the text, with or without defaults -/
structure Fd (K : PySem.W.Frag) (qual : Str) (st : Stmt) (f : Addr) (fd : FuncData) : Prop where
  ex : ∃ (x : Str) (oc : Value) (od : Option Addr) (dV kV doc pm : Value) (an : Option Addr) (cdv ct : Value) (osl : Array (Option Value)),
    fd = PySem.W.fnOf x qual (defArgs st) (defBody st) (defScope st) dV kV doc pm an cdv ct ∧ K.lookup f = some ⟨oc, od, .func fd, osl⟩ ∧ PySem.W.codeIn K cdv qual = true
theorem _root_.L2.Fun.fd {K : PySem.W.Frag} {x qual : Str} {st : Stmt} {f : Addr} {fd : FuncData} (F : L2.Fun K x qual st f fd) : Fd K qual st f fd := by
  obtain ⟨oc, od, kV, doc, pm, an, cdv, ct, osl, e, l, h⟩ := F.ex
  exact ⟨x, oc, od, .none, kV, doc, pm, an, cdv, ct, osl, e, l, h⟩
section
variable {P : Program} {w : World} {K : PySem.W.Frag} {mg : Str → Option Value} {base : Heap} {qual : Str} {st : Stmt} {f : Addr} {fd : FuncData} {N ps : List Str} {k n : Nat} {T : List (Addr × Str)}
abbrev DX (P : Program) (w : World) (K : PySem.W.Frag) (mg : Str → Option Value) (base : Heap) (qual : Str) (st : Stmt) (f : Addr) (N : List Str) (cdv : Value) (A : Around) (outer : List Env) (s : Shared) (H : Hp) (E : XK) : Cx :=
  cxOf (L2.CX P w) P w K mg base N qual (defScope st) f cdv A outer s H E
theorem okV {sp : FSp} (FN : Fd K qual st f fd) (S : FnScope N ps (defScope st)) (hn : ps.length = n) (hN : n ≤ N.length)
    (h : ∀ cdv A outer s H E F ds, RoomG k (A.deeper (envOfC qual (defScope st) s.heap.objs.size f cdv)) → PySem.W.codeIn K cdv qual = true → ds.length = n → sp.pre ds →
      JSs (DX P w K mg base qual st f N cdv A outer s H E) ⟨F, H, fun _ => False, T⟩ (defBody st) (G0 N.length ds) { nx := fun _ => sp.post ds .non, rt := fun d _ => sp.post ds d } fun C d _ => sp.exc ds C d) :
    FnG P w K mg base (k + 1) f fd ps (toV K T n sp) := by
  obtain ⟨x, oc, od, dV, kV, doc, pm, an, cdv, ct, osl, efd, lk, hcd⟩ := FN.ex
  refine fnG_of efd lk hcd S (fun vs H Q E ⟨F, ds, _, r, hl, _⟩ => by rw [r.length, hl, hn]) fun A outer s H vs Q E hr hsp => ?_
  obtain ⟨F, ds, jx, r, hl, hp, hq, he⟩ := hsp
  refine wSs_mono (h cdv A outer s H E F ds hr hcd hl hp ⟨fun cls d _ H' => E cls d H', takes_of rfl rfl rfl rfl, fun F' H' σ G C d dx x I e1 e2 q => he C d F' H' dx x I.jx e1 e2 q⟩ F _ H (ji_start jx r (by omega))) ?_ ?_ (fun _ _ q => ?_) fun _ _ q => ?_
  · rintro σ' H' ⟨F', G', s', I', q⟩
    exact hq .non .non F' H' I'.jx rfl q
  · rintro v H' ⟨F', d, σ', G', s', I', rd, q⟩
    exact hq d v F' H' I'.jx rd q
  · obtain ⟨_, _, _, _, z⟩ := q
    exact z
  · obtain ⟨_, _, _, _, z⟩ := q
    exact z
theorem okP {sp : PSp} (FN : Fd K qual st f fd) (S : FnScope N ps (defScope st)) (hn : ps.length = n + 1) (hN : n + 1 ≤ N.length)
    (h : ∀ cdv A outer s H E F a l ds, RoomG k (A.deeper (envOfC qual (defScope st) s.heap.objs.size f cdv)) → PySem.W.codeIn K cdv qual = true → ds.length = n → sp.pre l ds →
      JSs (DX P w K mg base qual st f N cdv A outer s H E) ⟨F, H, (· = a), T⟩ (defBody st) (.own a l :: G0 (N.length - 1) ds) { nx := fun G => ∃ l', G[0]? = some (Sl.own a l') ∧ sp.post l ds .non l', rt := fun d G => ∃ l', G[0]? = some (Sl.own a l') ∧ sp.post l ds d l' } NoX) :
    FnG P w K mg base (k + 1) f fd ps (toP K T n sp) := by
  obtain ⟨x, oc, od, dV, kV, doc, pm, an, cdv, ct, osl, efd, lk, hcd⟩ := FN.ex
  refine fnG_of efd lk hcd S (fun vs H Q E ⟨F, a, xs, l, ds, vr, e, _, _, _, _, r, hl, _⟩ => by rw [e, List.length_cons, r.length, hl, hn]) fun A outer s H vs Q E hr hsp => ?_
  obtain ⟨F, a, xs, l, ds, vr, rfl, jx, h1, h2, h3, r, hl, hp, hq⟩ := hsp
  refine wSs_mono (h cdv A outer s H E F a l ds hr hcd hl hp Xt.no F _ H (ji_startP jx r (by omega) h1 rfl h2 h3)) ?_ ?_ (fun _ _ q => ?_) fun _ _ q => ?_
  · rintro σ' H' ⟨F', G', s', I', l', e, q⟩
    obtain ⟨_, e2, _, ys, e4, e5⟩ := I'.own 0 a l' e
    exact hq .non l' .non F' H' ys I'.jx e2 e4 e5 rfl q
  · rintro v H' ⟨F', d, σ', G', s', I', rd, l', e, q⟩
    obtain ⟨_, e2, _, ys, e4, e5⟩ := I'.own 0 a l' e
    exact hq d l' v F' H' ys I'.jx e2 e4 e5 rd q
  · obtain ⟨_, _, _, _, z⟩ := q
    exact z
  · obtain ⟨_, _, _, _, z⟩ := q
    exact z
end
end J
end
section
set_option maxRecDepth 100000
set_option maxHeartbeats 4000000
namespace J
open PySem PySem.Spec PyProof.Rows L2
/-- a def that may be called -/
structure Cal (P : Program) (w : World) (K : PySem.W.Frag) (mg : Str → Option Value) (base : Heap) (T : List (Addr × Str)) (k : Nat) (name : Str) (ps : List Str) (n : Nat) (sp : FSp) : Prop where
  ex : ∃ f fd, mg name = some (.ref f) ∧ PySem.W.keepIn K (.ref f) = true ∧ Binds K fd ps [] ∧ FnG P w K mg base k f fd ps (toV K T n sp)
structure CalP (P : Program) (w : World) (K : PySem.W.Frag) (mg : Str → Option Value) (base : Heap) (T : List (Addr × Str)) (k : Nat) (name : Str) (ps : List Str) (n : Nat) (sp : PSp) : Prop where
  ex : ∃ f fd, mg name = some (.ref f) ∧ PySem.W.keepIn K (.ref f) = true ∧ Binds K fd ps [] ∧ FnG P w K mg base k f fd ps (toP K T n sp)
section
variable {X : Cx} {c : JC} {e : Expr} {es : List Expr} {G : List Sl} {Ex : XQ} {pos p1 : Pos} {Q : D → List Sl → Prop} {k j n : Nat} {ps : List Str} {x : Str}
theorem je_call {sp : FSp} (C : Cal X.prog X.w X.K X.mg X.base c.T k x ps n sp) (hr : RoomG j X.A) (hkj : k ≤ j) (hg : Gl X x)
    (h : JA X c (e :: es) G (fun ds G1 => ds.length = n ∧ sp.pre ds ∧ (∀ d, sp.post ds d → Q d G1) ∧ (∀ C d, sp.exc ds C d → Ex C d G1)) Ex) (hdb : (x == ("__debug__" : Str)) = false := by decide)
    (he : starEach (e :: es) X.env = (false, eval e X.env) :: starEach es X.env := by rfl) (hpl : (backTo pos (starEach es X.env)).any (·.1) = false := by rfl) : JE X c (.Call (.Name x p1) (e :: es) [] pos) G Q Ex := by
  obtain ⟨f, fd, h1, h2, h3, h4⟩ := C.ex
  exact je_callV h4 (hr.mono hkj) hg h1 h2 h3 h hdb he hpl
theorem je_callO {sp : PSp} {i : Nat} {y : Str} {p2 : Pos} {a : Addr} {l : List D} (C : CalP X.prog X.w X.K X.mg X.base c.T k x ps n sp) (hr : RoomG j X.A) (hkj : k ≤ j) (hg : Gl X x) (hN : X.N[i]? = some y) (hv : Vis X.env.scope y) (hj : G[i]? = some (Sl.own a l))
    (h : JA X c es G (fun ds G1 => ∃ l1, G1[i]? = some (Sl.own a l1) ∧ ds.length = n ∧ sp.pre l1 ds ∧ (∀ d l', sp.post l1 ds d l' → Q d (G1.set i (Sl.own a l')))) Ex) (hdb : (x == ("__debug__" : Str)) = false := by decide) (hd : (y == ("__debug__" : Str)) = false := by decide) (hcd : (y == ("__classdict__" : Str)) = false := by decide)
    (he : starEach (.Name y p2 :: es) X.env = (false, eval (.Name y p2) X.env) :: starEach es X.env := by rfl) (hpl : (backTo pos (starEach es X.env)).any (·.1) = false := by rfl) : JE X c (.Call (.Name x p1) (.Name y p2 :: es) [] pos) G Q Ex := by
  obtain ⟨f, fd, h1, h2, h3, h4⟩ := C.ex
  exact je_callP h4 (hr.mono hkj) hg h1 h2 h3 hN hv hj h hdb hd hcd he hpl
variable {a b : Expr} {R : Bool → List Sl → Prop} {F : Hp} {σ : L2.St} {H : Hp}
theorem jt_cmI {op : CmpOp} {g : Int → Int → Bool} (ho : OpR X (compareOp op) (rI0 fun i j => .bl (g i j))) (hm : behindInMarks op b = false) (h : JE X c a G (fun x G1 => ∃ i, x = .int i ∧ JE X c b G1 (fun y G2 => ∃ j, y = .int j ∧ R (g i j) G2) Ex) Ex) : JT X c (.Compare a [op] [b] pos) G R Ex :=
  jt_of (pt_cmpR ho pe_w pe_w hm) fun x F σ H I => wE_mono (h x F σ H I) fun v H1 ⟨F1, d1, G1, s1, I1, r1, i, e1, h1⟩ => wE_mono (h1 x F1 σ H1 I1) fun w H2 ⟨F2, d2, G2, s2, I2, r2, j, e2, q⟩ => by
    subst e1 e2
    exact ⟨i, j, r1, r2, _, rfl, F2, G2, s1.trans s2, I2, q⟩
theorem jt_lt (h : JE X c a G (fun x G1 => ∃ i, x = .int i ∧ JE X c b G1 (fun y G2 => ∃ j, y = .int j ∧ R (decide (i < j)) G2) Ex) Ex) : JT X c (.Compare a [.Lt] [b] pos) G R Ex := jt_cmI op_lt (nomark _) h
theorem jt_le (h : JE X c a G (fun x G1 => ∃ i, x = .int i ∧ JE X c b G1 (fun y G2 => ∃ j, y = .int j ∧ R (decide (i ≤ j)) G2) Ex) Ex) : JT X c (.Compare a [.LtE] [b] pos) G R Ex := jt_cmI op_le (nomark _) h
theorem jt_gt (h : JE X c a G (fun x G1 => ∃ i, x = .int i ∧ JE X c b G1 (fun y G2 => ∃ j, y = .int j ∧ R (decide (j < i)) G2) Ex) Ex) : JT X c (.Compare a [.Gt] [b] pos) G R Ex := jt_cmI op_gt (nomark _) h
theorem jt_ge (h : JE X c a G (fun x G1 => ∃ i, x = .int i ∧ JE X c b G1 (fun y G2 => ∃ j, y = .int j ∧ R (decide (j ≤ i)) G2) Ex) Ex) : JT X c (.Compare a [.GtE] [b] pos) G R Ex := jt_cmI op_ge (nomark _) h
theorem jt_eqI (h : JE X c a G (fun x G1 => ∃ i, x = .int i ∧ JE X c b G1 (fun y G2 => ∃ j, y = .int j ∧ R (decide (i = j)) G2) Ex) Ex) : JT X c (.Compare a [.Eq] [b] pos) G R Ex := jt_cmI op_eqI (nomark _) h
theorem jt_neI (h : JE X c a G (fun x G1 => ∃ i, x = .int i ∧ JE X c b G1 (fun y G2 => ∃ j, y = .int j ∧ R (!decide (i = j)) G2) Ex) Ex) : JT X c (.Compare a [.NotEq] [b] pos) G R Ex := jt_cmI op_neI (nomark _) h
theorem jt_isN {j pos'} (h : JE X c a G (fun x G1 => R x.isNon G1) Ex) : JT X c (.Compare a [.Is] [.Constant .none j pos'] pos) G R Ex :=
  jt_of (pt_cmpR op_isN pe_w pe_non (nomark _)) fun x F σ H I => wE_mono (h x F σ H I) fun v H1 ⟨F1, d1, G1, s1, I1, r1, q⟩ => ⟨rfl, _, rfl, F1, G1, s1, I1, by rw [r1.isNon]; exact q⟩
theorem jt_notN {j pos'} (h : JE X c a G (fun x G1 => R (!x.isNon) G1) Ex) : JT X c (.Compare a [.IsNot] [.Constant .none j pos'] pos) G R Ex :=
  jt_of (pt_cmpR op_notN pe_w pe_non (nomark _)) fun x F σ H I => wE_mono (h x F σ H I) fun v H1 ⟨F1, d1, G1, s1, I1, r1, q⟩ => ⟨rfl, _, rfl, F1, G1, s1, I1, by rw [r1.isNon]; exact q⟩
theorem jt_isB {k : Bool} {j pos'} (h : JE X c a G (fun x G1 => R (x.isBl k) G1) Ex) : JT X c (.Compare a [.Is] [.Constant (.bool k) j pos'] pos) G R Ex :=
  jt_of (pt_cmpR op_isB pe_w pe_bl (nomark _)) fun x F σ H I => wE_mono (h x F σ H I) fun v H1 ⟨F1, d1, G1, s1, I1, r1, q⟩ => ⟨rfl, _, rfl, F1, G1, s1, I1, by rw [r1.isBl]; exact q⟩
theorem jt_neS (h : JE X c a G (fun x G1 => ∃ i, x = .str i ∧ JE X c b G1 (fun y G2 => ∃ j, y = .str j ∧ R (!decide (i = j)) G2) Ex) Ex) : JT X c (.Compare a [.NotEq] [b] pos) G R Ex :=
  jt_of (pt_cmpR op_ne pe_w pe_w (nomark _)) fun x F σ H I => wE_mono (h x F σ H I) fun v H1 ⟨F1, d1, G1, s1, I1, r1, i, e1, h1⟩ => wE_mono (h1 x F1 σ H1 I1) fun w H2 ⟨F2, d2, G2, s2, I2, r2, j, e2, q⟩ => by
    subst e1 e2
    have r1 : v = .str i := r1
    have r2 : w = .str j := r2
    subst r1 r2
    refine ⟨rfl, _, rfl, F2, G2, s1.trans s2, I2, ?_⟩
    have z : decide (V.str i = V.str j) = decide (i = j) := by simp
    rw [z]
    exact q
end
end J
end
section
set_option maxRecDepth 100000
set_option maxHeartbeats 4000000
namespace J
open PySem PySem.Spec PyProof.Rows
/-! ### errors of the package: class X(StoreError): def __init__(self, value=None): super().__init__(value); self.value = value -/
section
open PySem.W PySem.Calls PySem.HandSPX
def eA (p1 p2 p3 : Pos) : Arguments := { posonlyargs := [], args := [{ arg := "self", annotation := none, pos := p1 }, { arg := "value", annotation := none, pos := p2 }], vararg := none, kwonlyargs := [], kw_defaults := [], kwarg := none, defaults := [.Constant .none 0 p3] }
def eB (q1 q2 q3 q4 q5 q6 q7 q8 q9 q10 : Pos) : List Stmt := [.Expr (.Call (.Attribute (.Call (.Name "super" q1) [] [] q2) "__init__" q3) [.Name "value" q4] [] q5) q6, .Assign [.Attribute (.Name "self" q7) "value" q8] (.Name "value" q9) q10]
def eS : Scope := { kind := .function, names := [(PySem.Str.ofString "self", .local), (PySem.Str.ofString "value", .local), (PySem.Str.ofString "__class__", .free), (PySem.Str.ofString "super", .globalImplicit)], isGenerator := false, isCoroutine := false, more := [] }
/-- what the written part says of the class nm at C -/
structure EcT (K : Frag) (nm : Str) (C : Addr) : Prop where
  cls : ∃ n q N bs bm sn sub ab col dd k0 k1 k2 k3 k5, K.lookup C = some (excClassObj n q C N bs bm true sn sub ab col dd k0 k1 k2 k3 k5 "ValueError.__new__") ∧ refsVE bm = true ∧ (((Value.ref C :: bm).dropWhile (· != .ref C)).drop 1 = bm) ∧ alongIn K "__init__" bm = some (some (.builtin "ValueError.__init__"))
  sa : findIn K (.ref C) "__setattr__" = some (some (.builtin "object.__setattr__"))
  ga : findIn K (.ref C) "__getattribute__" = some (some (.builtin "BaseException.__getattribute__"))
  gg : findIn K (.ref C) "__getattr__" = some none
  noN : findIn K (.ref C) "value" = some none
  tC : typeIn K (.ref C) = some (.type "type")
  kC : keepIn K (.ref C) = true
  exC : subIn K (.ref C) (.type "BaseException") = some true
  veC : subIn K (.ref C) (.type "ValueError") = some true
  slf : mroIn K C (.ref C) = some true
  hdC : hasDictIn K C = true
  any : nsIn K cStatics "thirdparty.any" = some none
  sup : nsIn K mainGlobals "super" = some none
  fn : ∃ (fI cc cda dT : Addr) (oc kV doc pm ct : Value) (od an odT odC : Option Addr) (osl oslT oslC : Array (Option Value)) (vs : Array Value) (ccl cll : Value) (cld : Option Addr) (csl : Array (Option Value)) (file : Str) (tf : Tok) (p1 p2 p3 q1 q2 q3 q4 q5 q6 q7 q8 q9 q10 : Pos) (nT : Nat),
    findIn K (.ref C) "__init__" = some (some (.ref fI)) ∧ typeIn K (.ref fI) = some (.type "function") ∧
    K.lookup fI = some ⟨oc, od, .func (ksFn "__init__" (nm ++ ".__init__") (eA p1 p2 p3) (eB q1 q2 q3 q4 q5 q6 q7 q8 q9 q10) eS (.ref dT) kV doc pm an (.ref cda) ct cc), osl⟩ ∧ codeIn K (.ref cda) (nm ++ ".__init__") = true ∧
    K.lookup dT = some ⟨.type "tuple", odT, .seq #[.none] nT, oslT⟩ ∧ K.lookup cda = some ⟨ccl, odC, .fields vs, oslC⟩ ∧ vs[2]? = some (.str file tf) ∧ file = ("/claim/cut.py" : Str) ∧ K.lookup cc = some ⟨cll, cld, .cell (some (.ref C)), csl⟩ ∧ (q3.endLine == q5.line) = true
section
variable {prog : Program} {w : World} {A : Around} {E : Value → Shared → Prop} {s : Shared} {M : Model}
/-- the bound wrapper of ValueError.__init__ called on an exception whose arguments it lays anew -/
theorem mw_call {nm q : Str} {C N : Addr} {bs bm : List Value} {hdct : Bool} {sn : List Str} {sub : List Value} {ab : Bool} {col : Option Bool} {dd : Option Addr} {k0 k1 k2 k3 k5 : Option Value} {u e t0 : Addr} {rest : List Value} {Q : Value → Shared → Prop}
    (hC : s.heap.get? C = some (excClassObj nm q C N bs bm hdct sn sub ab col dd k0 k1 k2 k3 k5 "ValueError.__new__")) (he : s.heap.get? e = some (excO C t0)) (hu : s.heap.get? u = some (kxs_mw "ValueError.__init__" e)) (hrest : rest.length ≤ sizeLine)
    (hq : ∀ h' t1, (∀ b o, b ≠ e → s.heap.get? b = some o → h'.get? b = some o) → h'.get? e = some (excO C t1) → Q .none { s with heap := h' }) : wpAny (model prog w) A (call (.ref u) rest) Q E s := by
  have FV := F.excBase_ValueError
  obtain ⟨hh, g, d, t, os⟩ := s
  refine wpAny_call (codeAny_of_tree ?_)
  show wpAny _ A.in1 (callAny (.ref u) { pos := rest, kw := [] }) _ _ _
  unfold callAny
  simp only []
  refine wpAny_bind (wpAny_load hu ?_)
  simp only [kxs_mw, show (Value.type "method-wrapper" == Value.type "method" || Value.type "method-wrapper" == Value.type "builtin_function_or_method" || Value.type "method-wrapper" == Value.type "method-wrapper") = true from by decide, if_true]
  refine W.KFB.if_so (by decide) (wpAny_bind (ESX.check_bound FV hC he rfl (wpAny_bind (wpAny_pure (wpAny_pure ⟨Code.quiet_builtin _ (by decide +kernel), codeAny_builtin FV.initEntry ?_⟩)))))
  rw [Around.under_plainId FV.init.plain]
  wp_walk
  refine hq _ hh.objs.size (fun b o hb ho => ?_) ?_
  · rw [Heap.get?_update_other _ _ hb.symm]
    exact Heap.get?_push_of_some _ ho
  · rw [Heap.get?_update_self _ (Heap.get?_push_of_some _ he) rfl]
    rfl
/-- what __init__ leaves of a fresh exception at x -/
structure EcEnd (h h' : Heap) (x C dx t1 : Addr) (v : Value) : Prop where
  keep : ∀ b o, b ≠ x → h.get? b = some o → h'.get? b = some o
  obj : h'.get? x = some { cls := .ref C, dict := some dx, data := .fields #[.ref t1, .none, .none, .none, .bool false, .none] }
  dbig : h.objs.size ≤ dx
  dne : dx ≠ x
  ns : h'.Ns1 dx (fun y => if y = "value" then some v else none)
theorem ec_he {o : Expr} {name : Str} {apos pos : Pos} {args : List Expr} {env : Env} (hp : (apos.endLine == pos.line) = true) (hf : methodCallForm (args.length + 0) (backTo pos (starEach args env)) (backToKw pos (keywordEach [] env)) = true) : eval (.Call (.Attribute o name apos) args [] pos) env = (do
      let ov ← attributeBase o name env (eval o env)
      standAt apos.atName
      let (f, first) ← holding [ov] (getMethod ov name (do return (← importBound o env).getD true))
      callWith pos f first (backTo pos (starEach args env)) []) := by
  show (attributeBase o name env (eval o env) >>= fun ov => standAt apos.atName >>= fun _ => methodCall o name apos pos env ov (args.length + 0) (backTo pos (starEach args env)) (backToKw pos (keywordEach [] env))) = _
  unfold methodCall methodCallPos
  rw [hf, hp]
  rfl
theorem ec_init {K : Frag} {mg mb : Str → Option Value} {nm : Str} {C : Addr} (T : EcT K nm C) {x t0 : Addr} {v : Value} {R : Result → Shared → Prop} {fI : Addr} (hI : findIn K (.ref C) "__init__" = some (some (.ref fI))) (X : K.In s.heap) (hlim : s.heap.NoLimit)
    (hG : s.heap.Ns mainGlobals mg) (hB : s.heap.Ns builtinsNs mb) (hb : ∀ x : Str, x ≠ "__name__" → mb x = bootBuiltins x) (hm : mg "super" = none) (hfile : ((prog.main.file : Str) == ("/claim/cut.py" : Str)) = true) (htop : (prog.main.scope.names.lookup ("super" : Str)).isSome = false)
    (hx : s.heap.get? x = some (excO C t0)) (hnx : K.lookup x = none) (hroom : A.depth < recursionLimit)
    (hq : ∀ h' tk dx t1, EcEnd s.heap h' x C dx t1 v → R (.ok (.ret .none)) { s with heap := h', toks := tk }) :
    codeAny (model prog w) A (.call (.ref fI) ⟨[.ref x, v], []⟩) R s := by
  obtain ⟨fI', cc, cda, dT, oc, kV, doc, pm, ct, od, an, odT, odC, osl, oslT, oslC, vs, ccl, cll, cld, csl, file, tf, p1, p2, p3, q1, q2, q3, q4, q5, q6, q7, q8, q9, q10, nT, f1, f2, f3, f4, f5, f6, f7, f8, f9, f10⟩ := T.fn
  obtain rfl : fI' = fI := by
    rw [hI] at f1
    exact (Value.ref.inj (Option.some.inj (Option.some.inj f1))).symm
  obtain ⟨cn, cq, cN, bs, bm, sn, sub, ab, col, dd, k0, k1, k2, k3, k5, hC, hbm, hdrop, halong⟩ := T.cls
  have hcl : clsIn K C = some { name := cn, bases := bs, mro := .ref C :: bm, ns := cN, qualname := cq, hasDict := true, slotNames := sn, subclasses := sub, abstract := ab, collection := col, hasDel := false } := by unfold clsIn; rw [hC] <;> rfl
  subst f8
  refine ks_codeAny_call_defAt (binds := [("self", .ref x), ("value", v)]) hroom (X _ _ f3) rfl hlim (codeRec_of X f4) rfl (binds_K (T := dT) X rfl f5 rfl rfl rfl) ?_ ?_ fun h1 hn hk => ?_
  · show ∀ y ∈ eS.names, y.2 ≠ .cell
    decide
  · intro y hy
    simp only [List.mem_cons, List.not_mem_nil, or_false] at hy
    rcases hy with e | e <;> (rw [e]; rfl)
  · have X1 : K.In h1 := X.keeps hk
    have hx1 := hk _ _ hx
    have I1 : InstAt h1 x (excO C t0) C none := ⟨hx1, rfl, rfl, trivial⟩
    have hsz : s.heap.objs.size < h1.objs.size := hn.lt
    have hxL : s.heap.objs.size ≠ x := Nat.ne_of_gt (Heap.lt_size hx)
    refine ks_wpAt_execs_cons (ks_wpAt_Expr_any (ks_wpAt_MethodCall (ks_wpAt_super_base rfl rfl (by decide) rfl (X1 _ _ f3) rfl rfl rfl (X1 _ _ f6) rfl f7 hfile htop ?_) (ec_he f10 rfl)))
    refine ks_loadName_global rfl rfl (loadGlobal_builtin (hG.keeps hk) hm (hB.keeps hk) ((hb "super" (by decide)).trans (show bootBuiltins "super" = some (.type "super") from by first | rfl | kernel_rfl)) ⟨rfl, ?_⟩)
    refine wpAny_loadName_free rfl rfl rfl ⟨_, X1 _ _ f9, rfl⟩ ?_
    refine wpAny_loadName_local rfl rfl hn rfl ?_
    refine ks_wpAny_isType_cls (X1 _ _ hC) rfl ⟨rfl, ?_⟩
    refine ks_wpAny_call_super (X1 _ _ hC) rfl hx1 rfl (fun c e => by cases e) (looks_mroIn X1 T.slf) fun h2 hso k2 => ?_
    have X2 : K.In h2 := X1.keeps k2
    have I2 : InstAt h2 x (excO C t0) C none := ⟨k2 _ _ hx1, rfl, rfl, trivial⟩
    refine kxs_getMethod kxs_ValueError hso (looks_opaque X2 T.any) (l₀ := .ref C :: bm) (fun A Q E s k q => wpAny_bind ((looks_clsIn X2 hcl) A _ E s k (wpAny_pure q))) hdrop X2 halong (I2.type.andThen (looks_subIn X2 T.veC)) (ks_ne X2 I2 hcl) (by decide) ?_
    have hu : (h2.push (kxs_mw "ValueError.__init__" x)).get? h2.objs.size = some (kxs_mw "ValueError.__init__" x) := Heap.get?_push_at rfl rfl
    have k3 : ∀ b o, h2.get? b = some o → (h2.push (kxs_mw "ValueError.__init__" x)).get? b = some o := fun b o e => Heap.get?_push_of_some _ e
    refine kxs_callWith (i := "ValueError.__init__") (x := x) rfl (evalArgs_plain ?_)
    have hn2 := (hn.keeps k2).keeps k3
    refine Calls.spliced_cons (wpAny_Name (wpAny_loadName_local rfl rfl hn2 rfl (Calls.spliced_nil ⟨hu, ?_⟩)) (by decide))
    refine mw_call (k3 _ _ (k2 _ _ (X1 _ _ hC))) (k3 _ _ (k2 _ _ hx1)) hu (show [v].length ≤ sizeLine by rw [sizeLine_eq]; exact (by decide : 1 ≤ 16777216)) fun h4 t1 k4 hx4 => ?_
    have X4 : K.In h4 := fun a o e => k4 a o (fun z => by rw [z, hnx] at e; cases e) (k3 _ _ (X2 a o e))
    obtain ⟨oL, es, ep, hL, rL⟩ := hn2
    have hn4 : h4.Ns s.heap.objs.size (fun y => ([("self", .ref x), ("value", v)] : List (Str × Value)).reverse.lookup y) := ⟨oL, es, ep, k4 _ _ hxL hL, rL⟩
    refine wpAt_of_wpAny ?_
    refine wpAny_execs_cons (plainObj_wpAny_Assign_Attribute ?_)
    refine wpAny_Name (wpAny_loadName_local rfl rfl hn4 rfl ?_) (by decide)
    refine wpAny_Name (wpAny_loadName_local rfl rfl hn4 rfl ?_) (by decide)
    refine set_plain X4 (ox := excO C t1) (od := none) ⟨hx4, rfl, rfl, trivial⟩ T.sa ?_
    refine exc_osa X4 hx4 hcl (show refsVE (.ref C :: bm) = true from hbm) rfl T.noN (fun h5 tk5 dx k5 dn dne hx5 hn5 => ?_)
    have hle : s.heap.objs.size ≤ h4.objs.size := Nat.le_of_lt (Heap.lt_size (k4 _ _ hxL hL))
    exact wpAny_execs_nil (hq h5 tk5 dx t1 ⟨fun b o hb e => k5 b o hb (k4 b o hb (k3 _ _ (k2 _ _ (hk b o e)))), hx5, Nat.le_trans hle dn, dne, hn5⟩)
end
end
end J
end
section
set_option maxRecDepth 100000
set_option maxHeartbeats 4000000
namespace J
open PySem PySem.Spec PyProof.Rows
section
open PySem.W PySem.Calls PySem.HandSPX
/-- a made error -/
structure EcMade (h h' : Heap) (e C d : Addr) (v : Value) : Prop where
  keep : ∀ b o, h.get? b = some o → h'.get? b = some o
  new : h.objs.size ≤ e
  obj : ∃ oe vs, h'.get? e = some oe ∧ oe.cls = .ref C ∧ oe.dict = some d ∧ oe.data = .fields vs ∧ vs[1]? = some .none
  dbig : h.objs.size ≤ d
  dne : d ≠ e
  ns : h'.Ns1 d (fun y => if y = "value" then some v else none)
/-- what the program's head says of the file and of the name super -/
structure PF (P : Program) : Prop where
  file : ((P.main.file : Str) == ("/claim/cut.py" : Str)) = true
  top : (P.main.scope.names.lookup ("super" : Str)).isSome = false
section
variable {prog : Program} {w : World} {A : Around} {E : Value → Shared → Prop} {R : Result → Shared → Prop} {s : Shared} {M : Model} {K : Frag} {mg : Str → Option Value}
theorem ec_made {nm : Str} {C : Addr} (T : EcT K nm C) (p : PF prog) {v : Value} (Md : L2.Mod K mg s.heap) (hroom : A.depth + 1 < recursionLimit)
    (hq : ∀ h' tk e d, EcMade s.heap h' e C d v → R (.ok (.ret (.ref e))) { s with heap := h', toks := tk }) :
    codeAny (model prog w) A (.call (.ref C) ⟨[v], []⟩) R s := by
  have X := Md.kin
  obtain ⟨mb, hB, hb⟩ := Md.blt
  have hm : mg "super" = none := mg_none_of X Md.glob T.sup
  obtain ⟨fI, cc, cda, dT, oc, kV, doc, pm, ct, od, an, odT, odC, osl, oslT, oslC, vs, ccl, cll, cld, csl, file, tf, p1, p2, p3, q1, q2, q3, q4, q5, q6, q7, q8, q9, q10, nT, f1, f2, f3⟩ := T.fn
  obtain ⟨cn, cq, cN, bs, bm, sn, sub, ab, col, dd, k0, k1, k2, k3, k5, hC, hbm, hdrop, halong⟩ := T.cls
  obtain ⟨hp, g, dr, tk, os⟩ := s
  have k : ∀ b o, hp.get? b = some o → ((hp.push (kdv_tup [v])).push (excO C hp.objs.size)).get? b = some o := fun b o e => Heap.get?_push_of_some _ (Heap.get?_push_of_some _ e)
  have hget : ((hp.push (kdv_tup [v])).push (excO C hp.objs.size)).get? (hp.objs.size + 1) = some (excO C hp.objs.size) := by heap_get
  have hnx : K.lookup (hp.objs.size + 1) = none := by
    cases e : K.lookup (hp.objs.size + 1) with
    | none => rfl
    | some o =>
      have z : hp.get? (hp.objs.size + 1) = some o := X _ _ e
      exact absurd (Nat.lt_of_succ_lt (Heap.lt_size z)) (Nat.lt_irrefl _)
  refine call_own F.excBase_ValueError (fun X => refsVE_contains X bm hbm) (X _ _ hC) (looks_findIn X f1) (fun self => bind_fn X self f2) (show [v].length ≤ sizeLine by rw [sizeLine_eq]; exact (by decide : 1 ≤ 16777216)) ?_
  refine ec_init (s := ⟨(hp.push (kdv_tup [v])).push (excO C hp.objs.size), g, dr, tk, os⟩) T f1 (X.keeps k) (Md.nolimit.keeps k) (Md.glob.keeps k) (hB.keeps k) hb hm p.file p.top hget hnx ?_ fun h' tk' dx t1 ⟨k', hx, dn, dne, hns⟩ => ?_
  · show A.depth + 1 < recursionLimit
    exact hroom
  · have old : ∀ b o, hp.get? b = some o → h'.get? b = some o := fun b o e => k' b o (Nat.ne_of_lt (Nat.lt_succ_of_lt (Heap.lt_size e))) (k b o e)
    have z : hp.objs.size + 1 + 1 ≤ dx := by
      first
        | (simpa only [Heap.size_push] using dn)
        | exact dn
        | (have q := dn; rw [Heap.size_push, Heap.size_push] at q; exact q)
    exact ⟨rfl, hq h' tk' (hp.objs.size + 1) dx ⟨old, Nat.le_succ _, ⟨_, _, hx, rfl, rfl, rfl, rfl⟩, Nat.le_trans (Nat.le_trans (Nat.le_succ _) (Nat.le_succ _)) z, dne, hns⟩⟩
end
end
section
open L2
theorem relO_value {v : V} {v' : Value} (r : RelV v v') (f : Str) : RelO (List.lookup f [(("value" : Str), v)]) (if f = "value" then some v' else none) := by
  by_cases hw : f = "value"
  · subst hw
    rw [if_pos rfl]
    have q : List.lookup ("value" : Str) [(("value" : Str), v)] = some v := by simp [List.lookup]
    rw [q]
    exact r
  · rw [if_neg hw]
    have qw : (f == ("value" : Str)) = false := by simpa using hw
    have q2 : List.lookup f [(("value" : Str), v)] = none := by simp [List.lookup, qw]
    rw [q2]
    trivial
theorem Mod.keeps' {K : PySem.W.Frag} {mg : Str → Option Value} {h h' : Heap} (M : L2.Mod K mg h) (k : ∀ b o, h.get? b = some o → h'.get? b = some o) : L2.Mod K mg h' :=
  ⟨M.kin.keeps k, M.glob.keeps k, let ⟨mb, a, b⟩ := M.blt; ⟨mb, a.keeps k, b⟩, M.nolimit.keeps k⟩
variable {X : Cx} {c : JC} {e : Expr} {G : List Sl} {D : JD} {Ex : XQ} {pos p pos2 : Pos} {nm : Str} {C : Addr} {k : Nat}
def tMkE (C : Addr) (te : TE) : L2.St → Hp → XK → Prop := fun σ H Q => te σ H fun v H1 => ∀ d, H1 d = none → Q (.ref C) (some d) (upd H1 d (.xd [(("value" : Str), v)]))
theorem pmk_ec (T : EcT X.K nm C) (pf : PF X.prog) (gC : X.mg nm = some (.ref C)) (hr : RoomG (k + 1) X.A) (hg : Gl X nm) (hdb : (nm == ("__debug__" : Str)) = false)
    (he : starEach (e :: []) X.env = (false, eval e X.env) :: starEach [] X.env := by rfl) (hpl : (backTo pos (starEach [] X.env)).any (·.1) = false := by rfl) :
    PMk X (.Call (.Name nm p) [e] [] pos) (tMkE C (wE X e)) := by
  intro pins s σ H Q I h
  refine wpAny_Call_Name_kw (ld_glob I hg gC ?_ hdb)
  refine PySem.W.callWith_K (h₀ := X.base) I.ok.mod.kin T.kC (thn ((pa_cons pe_w pa_nil he).run pos pins s σ H (fun vs H1 => ∃ v, vs = [v] ∧ ∀ d, H1 d = none → Q (.ref C) (some d) (upd H1 d (.xd [(("value" : Str), v)]))) I ?_) fun us s1 hh => ?_) he hpl
  · exact wE_mono h fun v H1 q => ⟨v, rfl, q⟩
  obtain ⟨vs, H1, I1, r1, v, ev, q1⟩ := hh
  subst ev
  refine ⟨I1.kIn, ?_⟩
  cases r1 with
  | cons rv rn =>
    rename_i v' us'
    cases rn
    show wpAny _ _ (call (.ref C) [v']) _ _ _
    have md := Mod.keeps' I1.mod I1.bk
    obtain ⟨hp, g, dr, tk, os⟩ := s1
    refine wpAny_call (ec_made T pf md (by have := hr.rm.dp; omega) fun h' tk' e d M => ?_)
    show MkP X pins σ Q (.ref e) ⟨h', g, dr, tk', os⟩
    obtain ⟨oe, fv, hoe, hc, hd, hdat, h1⟩ := M.obj
    have hns := M.ns
    obtain ⟨G', g1, g2⟩ := restrict h' fun b => decide (b ≠ e)
    have gk : ∀ b, b ≠ e → G'.get? b = h'.get? b := fun b hb => g1 b (decide_eq_true hb)
    have ge : G'.get? e = none := g2 e (by simp)
    have old : ∀ b o, hp.get? b = some o → G'.get? b = some o := fun b o q => (gk b (Nat.ne_of_lt (Nat.lt_of_lt_of_le (Heap.lt_size q) M.new))).trans (M.keep b o q)
    have ob : ObjOk X.prog X.w (upd H1 d (.xd [(("value" : Str), v)])) G' d (.xd [(("value" : Str), v)]) :=
      ⟨_, hns.at (fun o q => (gk d M.dne).trans q), fun f => relO_value rv f⟩
    have J : Inv X pins σ (upd H1 d (.xd [(("value" : Str), v)])) ⟨G', g, dr, tk', os⟩ := I1.laid (t' := tk') old M.dbig ob
    refine ⟨e, oe, fv, ⟨G', g, dr, tk', os⟩, _, .ref C, some d, rfl, J, fun b o q => ?_, ge, hoe, ⟨hc, hd⟩, hdat, h1, ?_, rfl, I1.bare, raises_own T.exC T.tC, q1 d (I1.hok.fresh M.dbig)⟩
    · by_cases hb : b = e
      · have q' : G'.get? b = some o := q
        rw [hb, ge] at q'; cases q'
      · exact (gk b hb).symm.trans q
    · rw [upd_ne (Ne.symm M.dne)]
      exact I1.hok.fresh M.new
theorem js_raise (hc : X.calm = true) (T : EcT X.K nm C) (pf : PF X.prog) (gC : X.mg nm = some (.ref C)) (hr : RoomG (k + 1) X.A) (hg : Gl X nm) (h : JE X c e G (fun d G1 => Ex C d G1) Ex) (hdb : (nm == ("__debug__" : Str)) = false := by decide)
    (he : starEach (e :: []) X.env = (false, eval e X.env) :: starEach [] X.env := by rfl) (hpl : (backTo pos (starEach [] X.env)).any (·.1) = false := by rfl) :
    JS X c (.Raise (some (.Call (.Name nm p) [e] [] pos)) none pos2) G D Ex := by
  intro xt F σ H I
  obtain ⟨W, tk, hW⟩ := id xt
  refine wS_of (ps_raise hc tk (pmk_ec T pf gC hr hg hdb he hpl)) ?_
  refine wE_mono (h xt F σ H I) fun v H1 ⟨F1, d1, G1, s1, I1, r1, q⟩ => ?_
  intro dx hdx
  exact hW (upd F1 dx (.xd [(("value" : Str), v)])) (upd H1 dx (.xd [(("value" : Str), v)])) σ G1 C d1 dx v (I1.new hdx) upd_same (r1.mono (same_new (I1.jx.fnone hdx))) q
end
end J
end
section
set_option maxRecDepth 100000
set_option maxHeartbeats 4000000
namespace J
open PySem PySem.Spec PyProof.Rows L2
/-- what isinstance asks of an own error class -/
structure EcI (K : PySem.W.Frag) (C : Addr) : Prop where
  cls : (PySem.W.clsIn K C).isSome = true
  ha : PySem.W.findIn K (.ref C) "__class__" = some (some (.builtin "object.__class__"))
  hn : PySem.W.specialIn K (.builtin "object.__class__") "__get__" = some (some (.builtin "getset_descriptor.__get__"))
  htk : PySem.W.takesIn K (.builtin "object.__class__") = some true
  hm : PySem.W.mroIn K C (.type "object") = some true
section
variable {X : Cx} {c : JC} {e : Expr} {G : List Sl} {Ex : XQ} {pos p1 p2 : Pos} {nm : Str} {C : Addr} {Q : D → List Sl → Prop} {pins : List (Addr × Obj)} {σ : L2.St} {H : Hp} {s : Shared}
theorem inst_exc {a dx : Addr} {x : V} (I : Inv X pins σ H s) (h1 : H a = some (ExV C dx a)) (h2 : H dx = some (.xd [(("value" : Str), x)])) : ∃ oe od mA, PySem.W.InstAt s.heap a oe C (some od) ∧ s.heap.Ns1 dx mA ∧ s.heap.get? dx = some od ∧ (∀ n, PySem.W.lookIn n od = some (mA n)) ∧ ∀ f, RelO (List.lookup f [(("value" : Str), x)]) (mA f) := by
  obtain ⟨⟨oe, vs, ho, hz, hd⟩, _, _⟩ := I.hok a _ h1
  obtain ⟨mA, hns, hr⟩ : ObjOk X.prog X.w H s.heap dx (.xd [(("value" : Str), x)]) := I.hok dx _ h2
  obtain ⟨od, hod, hl⟩ := lookIn_ns hns
  exact ⟨oe, od, mA, ⟨ho, hz.1, by unfold PySem.W.notCls; rw [hd] <;> rfl, by rw [hz.2]; exact hod⟩, hns, hod, hl, hr⟩
theorem pe_value {te : TE} (he : PE X e te) (hb : attributeBase e "value" X.env (eval e X.env) = eval e X.env := by rfl) :
    PE X (.Attribute e "value" pos) (fun σ H Q => te σ H fun v H1 => ∃ nm C dx a x, v = .ref a ∧ H1 a = some (ExV C dx a) ∧ H1 dx = some (.xd [(("value" : Str), x)]) ∧ EcT X.K nm C ∧ Q x H1) := by
  refine ⟨fun pins s σ H Q I h => ?_⟩
  refine attr_of hb (thn (he.run pins s σ H _ I h) fun u s1 hh => ?_)
  obtain ⟨v, H1, I1, rx, nm, C, dx, a, x, ev, h1, h2, T, q⟩ := hh
  subst ev
  obtain rfl : u = Value.ref a := rx
  obtain ⟨oe, od, mA, J, hns, hod, hl, hr⟩ := inst_exc I1 h1 h2
  have l : List.lookup ("value" : Str) [(("value" : Str), x)] = some x := by simp [List.lookup]
  obtain ⟨u, hu, ru⟩ := RelO.some_of (v := x) (o := mA "value") (by rw [← l]; exact hr "value")
  exact HandSPX.exc_get I1.kIn J T.ga T.gg T.exC (PySem.W.findObj_own T.hdC T.noN rfl (by rw [hl, hu])) (handed_of ru) ⟨x, H1, I1.tok _, ru, q⟩
/-- e.value -/
theorem je_value (h : JE X c e G (fun d G1 => ∃ nm C dv, d = .exc C dv ∧ EcT X.K nm C ∧ Q dv G1) Ex) (hb : attributeBase e "value" X.env (eval e X.env) = eval e X.env := by rfl) : JE X c (.Attribute e "value" pos) G Q Ex :=
  je_of (pe_value pe_w hb) fun x F σ H I => wE_mono (h x F σ H I) fun v H1 ⟨F1, d1, G1, s1, I1, r1, nm, C, dv, e1, T, q⟩ => by
    subst e1
    obtain ⟨a, dx, x, e2, h1, h2, r⟩ := r1
    exact ⟨nm, C, dx, a, x, e2, I1.jx.fh _ _ h1, I1.jx.fh _ _ h2, T, F1, dv, G1, s1, I1, r, q⟩
def rIsiX (K : PySem.W.Frag) : List V → Hp → VK → Prop := fun xs H Q => ∃ nm a C dx D x b, xs = [.ref a, .ref D] ∧ H a = some (ExV C dx a) ∧ H dx = some (.xd [(("value" : Str), x)]) ∧ EcT K nm C ∧ EcI K C ∧ PySem.W.kitOne K (.ref C) (.ref D) = some b ∧ Q (.bl b) H
theorem call_isiX : CallR X (.builtin "isinstance") (rIsiX X.K) := by
  intro pins s σ H xs us Q I r h
  obtain ⟨nm, a, C, dx, D, x, b, rfl, h1, h2, T, T2, e, q⟩ := h
  obtain ⟨u1, u2, rfl, r1, r2⟩ := vals2 r
  cases (show u2 = Value.ref D from r2)
  cases (show u1 = Value.ref a from r1)
  obtain ⟨oe, od, mA, J, _⟩ := inst_exc I h1 h2
  exact PySem.W.kia_one (PySem.W.kitx_exc T2.cls T.ga T.gg T.exC T2.ha T2.hn T2.htk T2.hm) I.kIn J e (fun z => nomatch z) fun tk => ⟨.bl b, H, I.tok tk, rfl, q⟩
/-- isinstance(e, C), e an error, C an own error class -/
theorem je_isiX {D : Addr} {T : Str} (B : Bt X.mg) (hg : Gl X "isinstance") (hT : Gl X T) (hmT : X.mg T = some (.ref D))
    (h : JE X c e G (fun d G1 => ∃ nm C dv b, d = .exc C dv ∧ EcT X.K nm C ∧ EcI X.K C ∧ PySem.W.kitOne X.K (.ref C) (.ref D) = some b ∧ Q (.bl b) G1) Ex) (hd : (T == ("__debug__" : Str)) = false := by decide)
    (he : starEach [e, .Name T p2] X.env = (false, eval e X.env) :: starEach [.Name T p2] X.env := by rfl) (he2 : starEach [.Name T p2] X.env = (false, eval (.Name T p2) X.env) :: starEach [] X.env := by rfl)
    (hpl : (backTo pos (starEach [.Name T p2] X.env)).any (·.1) = false := by rfl) :
    JE X c (.Call (.Name "isinstance" p1) [e, .Name T p2] [] pos) G Q Ex :=
  je_of (pe_callB call_isiX hg B.isi (by decide +kernel) (pa_cons pe_w (pa_cons (pe_glob (v := .ref D) hT hmT rfl hd) pa_nil he2) he) (he := he) (hpl := hpl)) fun x F σ H I => wE_mono (h x F σ H I) fun v H1 ⟨F1, d1, G1, s1, I1, r1, nm, C, dv, b, e1, T1, T2, e2, q⟩ => by
    subst e1
    obtain ⟨a, dx, x, e3, h1, h2, r⟩ := r1
    subst e3
    exact ⟨nm, a, C, dx, D, x, b, rfl, I1.jx.fh _ _ h1, I1.jx.fh _ _ h2, T1, T2, e2, F1, .bl b, G1, s1, I1, rfl, q⟩
end
end J
end
section
set_option maxRecDepth 100000
set_option maxHeartbeats 4000000
namespace J
open PySem PySem.Spec PyProof.Rows L2
/-! ### try: .. except C as error: caught = error, the error kept behind the clause -/
theorem exV_ok {P : Program} {w : World} {H : Hp} {h : Heap} {a C dx : Addr} {oe : Obj} {vs : Array Value} (e : h.get? a = some oe) (z : Zc (.ref C) (some dx) oe) (d : oe.data = .fields vs) : ObjOk P w H h a (ExV C dx a) :=
  ⟨⟨oe, vs, e, z, d⟩, ⟨oe, e⟩, fun _ _ ⟨o, v, q, r, t⟩ k => ⟨o, v, k o q, r, t⟩⟩
section
variable {X : Cx} {pins : List (Addr × Obj)} {σ : L2.St} {H : Hp} {s : Shared}
/-- a pinned error is tracked from now on -/
theorem pin_track {a C dx : Addr} {oe : Obj} {vs : Array Value} (I : Inv X ((a, oe) :: pins) σ H s) (z : Zc (.ref C) (some dx) oe) (hd : oe.data = .fields vs) (n0 : X.s_0.heap.get? a = none) (np : ∀ p ∈ X.pn ++ pins, p.1 ≠ a) : Inv X pins σ (upd H a (ExV C dx a)) s := by
  obtain ⟨e, n, nL, nF, nc⟩ := I.pin (a, oe) (List.mem_append_right _ List.mem_cons_self)
  have n : H a = none := n
  have e : s.heap.get? a = some oe := e
  have ne0 : ∀ b o, X.s_0.heap.get? b = some o → b ≠ a := fun b o q w => by rw [w, n0] at q; cases q
  have neS : ∀ {b : Addr} {o : HO}, H b = some o → b ≠ a := fun q w => by rw [w, n] at q; cases q
  refine ⟨I.ok, I.os, I.bare, ⟨I.base.keep, I.base.slot, fun b o q m hx => by rw [upd_ne (ne0 b o q)]; exact I.base.free b o q m hx, I.base.there, fun b xs q => ?_, fun b o u q => ?_, fun b ps q => ?_⟩, I.loc, I.cell, ?_, fun y c q => ?_, fun p hp => ?_, fun b u q => ?_, I.len⟩
  · have r := I.base.tups b xs q
    rw [upd_ne (neS r)]
    exact r
  · have r := I.base.frzs b o u q
    rw [upd_ne (neS r)]
    exact r
  · obtain ⟨m, r⟩ := I.base.tbls b ps q
    exact ⟨m, by rw [upd_ne (neS r)]; exact r⟩
  · rw [upd_ne (Ne.symm nL)]
    exact I.free
  · obtain ⟨v, o, ho, hv⟩ := I.cell y c q
    have : c ≠ a := fun w => by
      rw [w, e] at ho
      cases ho
      exact nc v hv
    rw [upd_ne this]
    exact I.freeC y c q
  · obtain ⟨p1, p2, p3⟩ := I.pin p (by
      rcases List.mem_append.mp hp with k | k
      · exact List.mem_append_left _ k
      · exact List.mem_append_right _ (List.mem_cons_of_mem _ k))
    exact ⟨p1, by rw [upd_ne (np p hp)]; exact p2, p3⟩
  · by_cases hb : b = a
    · subst hb
      rw [upd_same] at q
      cases q
      exact exV_ok e z hd
    · rw [upd_ne hb] at q
      exact (I.hok b u q).stay (fun c v _ r => r) (fun c r => by rw [upd_ne (neS r)]; exact r) fun c xs r => by rw [upd_ne (neS r)]; exact r
/-- what is wished of the exception -/
def wCa (K : PySem.W.Frag) (c : Value) (i j : Nat) (D : Ends) : WX := fun cls d σ H =>
  ∃ C dx, cls = .ref C ∧ d = some dx ∧ PySem.W.exmOne K (.ref C) c = some true ∧ ∀ a, H a = none → D.nx (((σ.set i (some (.ref a))).set j (some (.ref a))).set i none) (upd H a (ExV C dx a))
theorem ps_caught {x n y : Str} {c : Value} {i j : Nat} {body : List Stmt} {np p1 p2 p3 pos pos' : Pos} {tb : WX → TS} (hs : X.stack = X.env :: X.outer) (hf : X.env.frame = some X.env.locals) (hex : X.ex = []) (hN : X.N.Nodup) (hi : X.N[i]? = some n) (hj : X.N[j]? = some y)
    (hln : X.env.kindOf n = some .local) (hly : X.env.kindOf y = some .local) (hc : Names X x c) (hdn : (n == ("__debug__" : Str)) = false) (hcn : (n == ("__classdict__" : Str)) = false)
    (hb : ∀ (W : WX) (pn : List (Addr × Obj)) (xe : Value → Shared → Prop), Takes (X.tr pn xe) W → PSs (X.tr pn xe) body (tb W)) (hsw : swapsWithSole [.Name y p1] (.Name n p2) p3.line X.env = pure false := by rfl) :
    PS X (.Try body [.ExceptHandler (some (.Name x np)) (some n) [.Assign [.Name y p1] (.Name n p2) p3] pos'] [] [] pos) (fun D σ H => σ.length = X.N.length → tb (wCa X.K c i j D) D σ H) := by
  refine ⟨fun pins s σ H D I h => ?_⟩
  have ok := I.ok
  have hfr : X.A.frames = some (X.env :: X.outer) := by rw [ok.frames, hs]
  refine wpAny_Try_except (wpAny_mono ((hb (wCa X.K c i j D) (X.pn ++ pins) _ (fun u s' xx => ?_)).run [] s σ H D (I.toTry _) (h I.len)) (fun f s1 q => ?_) fun e s1 he => he)
  · obtain ⟨a, B, sI, pins', σ', H', cls, d, rfl, J', nb, up, sky, na, os, ag, C, dx, rfl, rfl, hx, hgo⟩ := xx
    have J : Inv X pins σ' H' sI := J'.ofTry ok
    have sk : Sky B (X.env :: X.outer) a (Zc (.ref C) (some dx)) X.env.locals s'.heap := by rw [← hs]; exact sky
    show wpAny (model X.prog X.w) X.A (noteFrame (.ref a) X.env) _ _ _
    refine Sky.land Zc.steady hfr hf sk fun h3 fl3 up3 => ?_
    have J3 : Inv X pins σ' H' { s' with heap := h3 } := J.landed nb fl3.1 (up.trans up3) os ag
    obtain ⟨oe3, vs3, he3, hz3, hd3⟩ := fl3.there
    have nfr : a ∉ frs (X.env :: X.outer) := fun hm => by
      obtain ⟨_, o', e', hnf⟩ := fl3.2.2.1.mem hm
      rw [he3] at e'
      cases e'
      exact hnf _ hd3
    have nL : a ≠ X.env.locals := fun z => nfr (List.mem_filterMap.mpr ⟨X.env, List.mem_cons_self, by rw [hf, z]⟩)
    have nF : a ∉ X.fs := fun hm => by
      obtain ⟨e, he, q⟩ := List.mem_filterMap.mp hm
      exact nfr (List.mem_filterMap.mpr ⟨e, List.mem_cons_of_mem _ he, q⟩)
    have nI : sI.heap.get? a = none := by
      cases q : sI.heap.get? a with
      | none => rfl
      | some o =>
        have z := nb a o q (by rw [hs]; exact nfr)
        rw [fl3.2.1] at z
        cases z
    have n0 : X.s_0.heap.get? a = none := by
      cases q : X.s_0.heap.get? a with
      | none => rfl
      | some o =>
        obtain ⟨o', z⟩ := J.base.there a o q (by rw [hex]; exact fun z => nomatch z)
        rw [nI] at z
        cases z
    have npn : ∀ p ∈ X.pn ++ pins, p.1 ≠ a := fun p hp z => by
      have q := (J.pin p hp).1
      rw [z, nI] at q
      cases q
    have S3 := J3.suite he3 hd3 na nL nF
    refine wpAny_handleBy_cons (codeAny_handlers_test ?_) (by intro q; cases q)
    have LT : PySem.W.Looks (model X.prog X.w) h3 (typeOf (.ref a)) (.ref C) := fun A Q E s k q => wpAny_typeOf_ref (k _ _ he3) (by rw [hz3.1]; exact q)
    have LM := PySem.W.exm_one (M := model X.prog X.w) (J3.kIn) LT hx
    have test : ∀ {Q : Value → Shared → Prop} {E : Value → Shared → Prop}, Q c { s' with heap := h3 } → wpAny (model X.prog X.w) (X.A.mark (some (.ref a))) (eval (.Name x np) X.env) Q E { s' with heap := h3 } := fun {Q E} q => by
      obtain ⟨hg, hdbg, hm | ⟨hm, hv, hnn⟩⟩ := hc
      · exact ld_glob (X := X.suite a ((a, oe3) :: (X.pn ++ pins))) S3 hg hm q hdbg
      · exact ld_blt (X := X.suite a ((a, oe3) :: (X.pn ++ pins))) S3 hg hm hv q hnn hdbg
    refine test (LM.here ?_)
    refine codeAny_handlers_suite_as ?_
    refine HandSPX.lands_againZ fl3 fun h4 fl4 up4 => ?_
    have J4 : Inv X pins σ' H' { s' with heap := h4 } := J.landed nb fl4.1 ((up.trans up3).trans up4) os ag
    obtain ⟨oe4, vs4, he4, hz4, hd4⟩ := fl4.there
    have S4 := J4.suite he4 hd4 na nL nF
    have hli : i < X.N.length := (List.getElem?_eq_some_iff.mp hi).1
    have hl4 : σ'.length = X.N.length := J4.len
    refine store_ok (X := X.suite a ((a, oe4) :: (X.pn ++ pins))) (v := .ref a) S4 hN hi (.inl hln) rfl (fun s5 S5 => ?_) (.inr hln)
    have asg := pss_one (ps_asg (X := X.suite a ((a, oe4) :: (X.pn ++ pins))) (pe_var (pos := p2) hi (.inl hln) hdn hcn) (pg_name (pos := p1) hN hj (.inl hly) (.inr hly)) hsw)
    refine wpAny_mono (asg.run [] s5 _ H' { nx := fun σ6 H6 => σ6 = (σ'.set i (some (.ref a))).set j (some (.ref a)) ∧ H6 = H', rt := fun _ _ => False } S5 ?_) (fun f s6 hsp => ?_) (fun _ _ z => False.elim z)
    · exact ⟨.ref a, by rw [List.getElem?_set_self (by rw [hl4]; exact hli)], rfl, rfl⟩
    cases f with
    | next =>
      obtain ⟨σ6, H6, S6, e6, eH⟩ := hsp
      subst e6 eH
      have J6 : Inv X ((a, oe4) :: pins) ((σ'.set i (some (.ref a))).set j (some (.ref a))) H6 s6 := ⟨ok, S6.os, S6.bare, S6.base, S6.loc, S6.cell, S6.free, S6.freeC, fun p hp => S6.pin p (List.mem_append_left _ (by
        rcases List.mem_append.mp hp with k | k
        · exact List.mem_cons_of_mem _ (List.mem_append_left _ k)
        · rcases List.mem_cons.mp k with k | k
          · rw [k]; exact List.mem_cons_self
          · exact List.mem_cons_of_mem _ (List.mem_append_right _ k))), S6.hok, S6.len⟩
      refine gone_ok J6 hN hi hln fun s7 J7 => ?_
      exact ⟨_, _, pin_track J7 hz4 hd4 n0 npn, hgo a na⟩
    | brk =>
      obtain ⟨_, _, _, z⟩ := hsp
      exact False.elim z
    | cont =>
      obtain ⟨_, _, _, z⟩ := hsp
      exact False.elim z
    | ret u =>
      obtain ⟨_, _, _, _, _, z⟩ := hsp
      exact False.elim z
  · cases f with
    | next =>
      obtain ⟨σ', H', J', q⟩ := q
      exact wpAny_execs_nil ⟨σ', H', J'.ofTry ok, q⟩
    | brk =>
      obtain ⟨σ', H', J', q⟩ := q
      exact ⟨σ', H', J'.ofTry ok, q⟩
    | cont =>
      obtain ⟨σ', H', J', q⟩ := q
      exact ⟨σ', H', J'.ofTry ok, q⟩
    | ret u =>
      obtain ⟨v, σ', H', J', r, q⟩ := q
      exact ⟨v, σ', H', J'.ofTry ok, r, q⟩
end
end J
end
section
set_option maxRecDepth 100000
set_option maxHeartbeats 4000000
namespace J
open PySem PySem.Spec PyProof.Rows L2
section
variable {fs fs' ex : List Addr} {H H1 H2 : Hp} {h h1 h2 : Heap}
theorem un_shrink (u : Un fs' ex H H1 h h1) (k : ∀ b ∈ fs', b ∈ fs ∨ h.get? b = none) : Un fs ex H H1 h h1 where
  keep := fun b o q n hb hx => u.keep b o q n (fun z => (k b z).elim hb fun w => by rw [w] at q; cases q) hx
  slot := fun b o q n _ hx => u.any q n hx
  free := u.free
  there := u.there
  tups := u.tups
  frzs := u.frzs
  tbls := u.tbls
theorem un_deep (a : Un fs ex H H1 h h1) (b : Un fs' ex H1 H2 h1 h2) (k : ∀ b ∈ fs', b ∈ fs ∨ h.get? b = none) : Un fs ex H H2 h h2 :=
  un_shrink ((a.mono (fun b hb => List.mem_append_left fs' hb) fun _ z => z).trans (b.mono (fun b hb => List.mem_append_right fs hb) fun _ z => z)) fun b hb => by
    rcases List.mem_append.mp hb with z | z
    · exact .inl z
    · exact k b z
end
/-- f, called without arguments from any state that came of (s0, F0, H0), raises -/
structure LamP (P : Program) (w : World) (K : PySem.W.Frag) (mg : Str → Option Value) (base : Heap) (T : List (Addr × Str)) (k : Nat) (fr : List Addr) (s0 : Shared) (F0 H0 : Hp) (f : Addr) (Ex : Addr → D → Prop) : Prop where
  obj : ∃ ob, s0.heap.get? f = some ob ∧ ∀ h : Heap, h.get? f = some ob → PySem.W.FnAt f h
  hn : H0 f = none
  hf : f ∉ fr
  run : ∀ (A : Around) (outer : List Env) (s1 : Shared) (F1 H1 : Hp) (E : XK), RoomG (k + 1) A → Env0 P w K mg base A outer s1 H1 → Un fr [] H0 H1 s0.heap s1.heap → JX ⟨F0, H0, fun _ => False, T⟩ F1 H1 →
    (∀ C d F' H' dx x, JX ⟨F1, H1, fun _ => False, T⟩ F' H' → F' dx = some (.xd [(("value" : Str), x)]) → Rep K F' d x → Ex C d → E (.ref C) (some dx) H') →
    codeAny (model P w) A (.call (.ref f) ⟨[], []⟩) (CR (L2.CX P w) outer P w H1 s1 (fun _ _ => False) E) s1
theorem LamP.move {P : Program} {w : World} {K : PySem.W.Frag} {mg : Str → Option Value} {base : Heap} {T : List (Addr × Str)} {k : Nat} {fr fr' : List Addr} {s0 s : Shared} {F0 H0 F H : Hp} {f : Addr} {Ex : Addr → D → Prop} (L : LamP P w K mg base T k fr s0 F0 H0 f Ex)
    (u : Un fr [] H0 H s0.heap s.heap) (x : JX ⟨F0, H0, fun _ => False, T⟩ F H) (hk : ∀ b ∈ fr', b ∈ fr ∨ s0.heap.get? b = none) : LamP P w K mg base T k fr' s F H f Ex := by
  obtain ⟨ob, e, hF⟩ := L.obj
  refine ⟨⟨ob, u.keep f ob e L.hn L.hf (fun z => nomatch z), hF⟩, u.free f ob e L.hn (fun z => nomatch z), fun z => ?_, fun A outer s1 F1 H1 E hr e0 u1 x1 hE => L.run A outer s1 F1 H1 E hr e0 (un_deep u u1 hk) (x.trans x1 fun _ z => z.elim) hE⟩
  rcases hk f z with q | q
  · exact L.hf q
  · rw [e] at q
    cases q
def dropO : Sl → Sl
  | .own _ _ => .no
  | g => g
theorem ji_drop {K : PySem.W.Frag} {c : JC} {F H : Hp} {σ : L2.St} {G : List Sl} (I : JI K c F H σ G) : JI K ⟨F, H, fun _ => False, c.T⟩ F H σ (G.map dropO) where
  jx := I.jx.again
  len := by rw [List.length_map]; exact I.len
  val := fun i d e => by
    rw [List.getElem?_map] at e
    obtain ⟨g, h1, h2⟩ := Option.map_eq_some_iff.mp e
    cases g with
    | own a l => cases h2
    | no => cases h2
    | val d' =>
      cases h2
      exact I.val i d h1
  own := fun i a l e => by
    rw [List.getElem?_map] at e
    obtain ⟨g, h1, h2⟩ := Option.map_eq_some_iff.mp e
    cases g <;> cases h2
  sep := fun i j a l l' e _ => by
    rw [List.getElem?_map] at e
    obtain ⟨g, h1, h2⟩ := Option.map_eq_some_iff.mp e
    cases g <;> cases h2
section
variable {X : Cx} {c : JC} {e : Expr} {G : List Sl} {pos p1 p2 : Pos} {pins : List (Addr × Obj)} {σ : L2.St} {F H : Hp} {s : Shared}
/-- a lambda just made keeps its promise -/
theorem lam_ok {scope : Scope} {params : Arguments} {body : Expr} {f c' : Addr} {pm ctv : Value} {k : Nat} {Ex : Addr → D → Prop} (I : Inv X pins σ H s) (IJ : JI X.K c F H σ G) (L : LamX.LamS X.env.scope scope)
    (hf : s.heap.get? f = some (PySem.W.kla_obj "<lambda>" (X.env.qual ++ "<lambda>") params body scope (L2.cloFrom X.env.cells scope.names []) pm c' ctv)) (hfn : H f = none) (hfr : f ∉ frs X.stack) (hco : H c' = some (LamX.CodeO c' (X.env.qual ++ "<lambda>")))
    (hbind : bindArgs (PySem.W.kla_fn "<lambda>" (X.env.qual ++ "<lambda>") params body scope (L2.cloFrom X.env.cells scope.names []) pm (.ref c') ctv) ⟨[], []⟩ = pure [])
    (hbody : ∀ (A : Around) (outer : List Env) (s : Shared) (H F : Hp) (E : XK), RoomG k (A.deeper (LamX.lamEnv X scope s.heap.objs.size f c')) → JE (LamX.lamCx X A outer s H E scope f c') ⟨F, H, fun _ => False, c.T⟩ body (G.map dropO) (fun _ _ => False) fun C d _ => Ex C d) :
    LamP X.prog X.w X.K X.mg X.base c.T k (frs X.stack) s F H f Ex := by
  refine ⟨⟨_, hf, fun h e => ⟨_, _, _, _, e⟩⟩, hfn, hfr, fun A outer s1 F1 H1 E hr e0 un x1 hE => ?_⟩
  have of1 := un.keep f _ hf hfn hfr (fun z => nomatch z)
  have hc1 : H1 c' = some (LamX.CodeO c' (X.env.qual ++ "<lambda>")) := x1.hh c' _ hco (fun z => z) (fun ps z => nomatch z)
  obtain ⟨⟨oc, vs, t, hoc, hdc, hvc⟩, _, _⟩ := e0.hok c' _ hc1
  refine PySem.W.kla_callFunE hr.rm.depth of1 rfl L.co L.gen rfl ⟨c', oc, vs, t, rfl, hoc, hdc, hvc⟩ ?_
  rw [hbind]
  have nolim : s1.heap.NoLimit := e0.mod.nolimit.keeps fun b o q => (e0.bs b o q).1
  refine wpAny_pure (wpAny_newFunctionEnv (fun y hy => (L.own y hy).2) (fun y hy => absurd hy (by simp)) (fun h₁ hns hsb => ⟨nolim.fresh _ hsb, ?_⟩) L.kind)
  show codeAny _ _ (.expr body (LamX.lamEnv X scope s1.heap.objs.size f c')) _ _
  have kp : ∀ b o, s1.heap.get? b = some o → h₁.get? b = some o := fun b o e => hsb.extBut b o (Nat.ne_of_lt (Heap.lt_size e)) (Heap.get?_push_of_some _ e)
  have J : Inv (LamX.lamCx X A outer s1 H1 E scope f c') [] σ H1 { s1 with heap := h₁, toks := s1.toks + ([] : List (Str × Value)).length } := LamX.lam_start2 I L e0 hr.rm.hd un hns kp
  have IJ1 := ji_drop (IJ.call x1 fun _ z => z)
  have hb := hbody A outer s1 H1 F1 E (hr.deeper _) ⟨fun cls d _ H' => E cls d H', takes_of rfl rfl rfl rfl, fun F' H' σ' G' C d dx x I' e1 e2 q => ?_⟩ F1 σ H1 IJ1 [] _ J
  · exact PySem.W.kla_codeExpr (wpAny_mono hb (fun v s' ⟨_, _, _, _, _, _, _, _, _, _, z⟩ => z.elim) fun e s' hq => hq)
  · exact hE C d F' H' dx x I'.jx e1 e2 q
end
end J
end
section
set_option maxRecDepth 100000
set_option maxHeartbeats 4000000
namespace J
open PySem PySem.Spec PyProof.Rows L2
/-- the text of _law_caught -/
def CaughtTxt (st : Stmt) : Prop := ∃ (p1 p2 p3 p4 p5 p6 p7 p8 p9 p10 p11 p12 p13 p14 : Pos) (j1 : Nat), defBody st = [.Assign [.Name "caught" p1] (.Constant .none j1 p2) p3,
  .Try [.Expr (.Call (.Name "call" p4) [] [] p5) p6] [.ExceptHandler (some (.Name "StoreError" p7)) (some "error") [.Assign [.Name "caught" p8] (.Name "error" p9) p10] p11] [] [] p12, .Return (some (.Name "caught" p13)) p14]
abbrev nC : List Str := ["call", "caught", "error"]
section
variable {P : Program} {w : World} {K : PySem.W.Frag} {mg : Str → Option Value} {base : Heap} {T : List (Addr × Str)} {k : Nat} {fr : List Addr}
/-- call() in the body that got the closure -/
theorem pe_lamP {qual : Str} {scope : Scope} {N : List Str} {fc f : Addr} {cdv : Value} {A : Around} {outer : List Env} {s : Shared} {F H : Hp} {E0 : XK} {Ex : Addr → D → Prop} {pn : List (Addr × Obj)} {xe : Value → Shared → Prop} {W : WX} {i : Nat} {a : Str} {p4 p5 : Pos}
    (L : LamP P w K mg base T k (frs outer) s F H f Ex) (hr : RoomG (k + 1) (A.deeper (envOfC qual scope s.heap.objs.size fc cdv))) (tk : Takes ((cxOf (L2.CX P w) P w K mg base N qual scope fc cdv A outer s H E0).tr pn xe) W)
    (hN : N[i]? = some a) (hv : Vis scope a) (hd : (a == ("__debug__" : Str)) = false := by decide) (hcd : (a == ("__classdict__" : Str)) = false := by decide) :
    PE ((cxOf (L2.CX P w) P w K mg base N qual scope fc cdv A outer s H E0).tr pn xe) (.Call (.Name a p4) [] [] p5)
      (fun σZ HZ _ => σZ[i]? = some (some (.ref f)) ∧ ∃ F1, JX ⟨F, H, fun _ => False, T⟩ F1 HZ ∧ ∀ C d F' H' dx x, JX ⟨F1, HZ, fun _ => False, T⟩ F' H' → F' dx = some (.xd [(("value" : Str), x)]) → Rep K F' d x → Ex C d → W (.ref C) (some dx) σZ H') := by
  refine ⟨fun pinsZ sZ σZ HZ Q IZ h => ?_⟩
  obtain ⟨hs, F1, x1, hE⟩ := h
  refine wpAny_Call_Name_kw (thn ((pe_var (pos := p4) (i := i) hN hv hd hcd).run pinsZ sZ σZ HZ (fun v H1 => v = .ref f ∧ H1 = HZ) IZ ⟨.ref f, hs, rfl, rfl⟩) fun u s1 ⟨v, H1, I1, r1, q1, q2⟩ => ?_)
  subst q1 q2
  obtain rfl : u = Value.ref f := r1
  obtain ⟨ob, eo, hF⟩ := L.obj
  have un : Un (frs outer) [] H H1 s.heap s1.heap := I1.base
  refine PySem.W.callWith_F0 (hF _ (un.keep f ob eo L.hn L.hf (fun z => nomatch z))) ?_
  refine wpAny_call (codeAny_mono (L.run _ _ s1 F1 H1 (WE W σZ) hr I1.env0 un x1 hE) fun r s' hq => ?_)
  cases r with
  | error e => exact passAt tk σZ pinsZ H1 s1 e s' I1 hq
  | ok fl =>
    cases fl with
    | ret u =>
      obtain ⟨_, _, _, _, _, _, _, z⟩ := hq
      exact z.elim
    | next => exact False.elim hq
    | brk => exact False.elim hq
    | cont => exact False.elim hq
/-- _law_caught(call) -/
theorem caught_run {qual : Str} {st : Stmt} {fc f CS : Addr} {fd : FuncData} {A : Around} {outer : List Env} {s : Shared} {F H : Hp} {E : XK} {Q : VK} {Ex : Addr → D → Prop} (FN : Fd K qual st fc fd) (tx : CaughtTxt st) (S : FnScope nC ["call"] (defScope st)) (gS : mg "StoreError" = some (.ref CS))
    (hS : (defScope st).names.lookup ("StoreError" : Str) = some .globalImplicit) (hl : ∀ x ∈ nC, (defScope st).names.lookup x = some .local) (hb : Binds K fd ["call"] [])
    (hr : RoomG (k + 2) A) (e0 : Env0 P w K mg base A outer s H) (L : LamP P w K mg base T k (frs outer) s F H f Ex) (jx : JX ⟨F, H, fun _ => False, T⟩ F H) (hx : ∀ C d, Ex C d → PySem.W.exmOne K (.ref C) (.ref CS) = some true)
    (hq : ∀ C d v F' H', JX ⟨F, H, fun _ => False, T⟩ F' H' → Rep K F' (.exc C d) v → Ex C d → Q v H') : codeAny (model P w) A (.call (.ref fc) ⟨[.ref f], []⟩) (CR (L2.CX P w) outer P w H s Q E) s := by
  obtain ⟨x, oc, od, dV, kV, doc, pm, an, cdv, ct, osl, efd, lk, hcd⟩ := FN.ex
  obtain ⟨p1, p2, p3, p4, p5, p6, p7, p8, p9, p10, p11, p12, p13, p14, j1, tx⟩ := tx
  subst efd
  have hK : K.In s.heap := e0.mod.kin.keeps fun b o q => (e0.bs b o q).1
  refine LamX.run_ofS (N := nC) (ps := ["call"]) (us := [.ref f]) (vs := [.ref f]) lk hcd S hr.rm e0 (hb s [.ref f] hK rfl) (.cons rfl .nil) rfl fun hr' => ⟨_, pss_w, ?_⟩
  have hr2 := hr.deeper (envOfC qual (defScope st) s.heap.objs.size fc cdv)
  have I0 : JI K ⟨F, H, fun _ => False, T⟩ F H (L2.start nC [.ref f]) (G0 3 [.ref f]) := ji_start (N := nC) (ds := [.ref f]) (vs := [.ref f]) jx ⟨_, _, rfl, rfl, rfl⟩ (show 1 ≤ 3 by decide)
  have l0 := hl "call" (by decide)
  have l1 := hl "caught" (by decide)
  have l2 := hl "error" (by decide)
  rw [tx]
  have b : JSs (cxOf (L2.CX P w) P w K mg base nC qual (defScope st) fc cdv A outer s H E) ⟨F, H, fun _ => False, T⟩ [.Assign [.Name "caught" p1] (.Constant .none j1 p2) p3,
      .Try [.Expr (.Call (.Name "call" p4) [] [] p5) p6] [.ExceptHandler (some (.Name "StoreError" p7)) (some "error") [.Assign [.Name "caught" p8] (.Name "error" p9) p10] p11] [] [] p12, .Return (some (.Name "caught" p13)) p14] (G0 3 [.ref f])
      { rt := fun d _ => ∃ C dv, d = .exc C dv ∧ Ex C dv } NoX := by
    refine jss_cons (js_set (i := 1) S.nd rfl (.inl l1) (je_non ⟨show 1 < 3 by decide, ?_⟩) rfl (.inr l1))
    refine jss_cons fun xt F1 σ1 H1 I1 => wS_of (ps_caught (i := 2) (j := 1) (c := .ref CS) (tb := fun W D σZ HZ => σZ[0]? = some (some (.ref f)) ∧ ∃ F1, JX ⟨F, H, fun _ => False, T⟩ F1 HZ ∧ ∀ C d F' H' dx x, JX ⟨F1, HZ, fun _ => False, T⟩ F' H' → F' dx = some (.xd [(("value" : Str), x)]) → Rep K F' d x → Ex C d → W (.ref C) (some dx) σZ H')
      rfl rfl rfl S.nd rfl rfl l2 l1 ⟨hS, by decide, .inl gS⟩ (by decide) (by decide) (fun W pn xe tk => ?_)) ?_
    · refine ⟨fun pins s1 σ H1 D I h => ?_⟩
      exact (pss_one (ps_expr (pe_lamP L hr2 tk (i := 0) rfl (.inl l0)) rfl)).run pins s1 σ H1 D I h
    · intro hlen
      obtain ⟨v0, e0, r0⟩ := I1.val 0 (.ref f) rfl
      obtain rfl : v0 = .ref f := r0
      refine ⟨e0, F1, I1.jx, fun C d F' H' dx x y hdx rd ex => ?_⟩
      refine ⟨C, dx, rfl, rfl, hx C d ex, fun a ha => ?_⟩
      have I2 : JI K ⟨F, H, fun _ => False, T⟩ (upd F' a (ExV C dx a)) (upd H' a (ExV C dx a)) σ1 _ := (I1.call y fun _ z => z).new ha
      have na := y.fnone ha
      have sm : Same F' (upd F' a (ExV C dx a)) := same_new na
      have rx : Rep K (upd F' a (ExV C dx a)) (.exc C d) (.ref a) := ⟨a, dx, x, rfl, upd_same, sm _ _ hdx, rd.mono sm⟩
      have I3 := I2.setV (i := 2) (d := .ref a) (v := .ref a) rfl (show 2 < 3 by decide)
      have I4 := I3.setV (i := 1) rx (show 1 < 3 by decide)
      refine ⟨upd F' a (ExV C dx a), [.val (.ref f), .val (.exc C d), .no], y.ff.trans sm, I4.weak (by rw [List.length_set]; exact I4.len) (fun i d' e => ?_) (fun i a' l e => ?_), ?_⟩
      · match i, e with
        | 0, e => exact ⟨e, List.getElem?_set_ne (by decide)⟩
        | 1, e => exact ⟨e, List.getElem?_set_ne (by decide)⟩
        | 2, e => cases e
        | n + 3, e => cases e
      · match i, e with
        | 0, e => cases e
        | 1, e => cases e
        | 2, e => cases e
        | n + 3, e => cases e
      · refine jss_one (js_ret (je_var (i := 1) rfl (.inl l1) rfl ⟨C, d, rfl, ex⟩))
  refine wSs_mono (b Xt.no F _ H I0) (fun _ _ ⟨_, _, _, _, z⟩ => z.elim) (fun v H' ⟨F', d, σ', G', s', I', rd, C, dv, ed, ex⟩ => ?_) (fun _ _ ⟨_, _, _, _, z⟩ => z.elim) (fun _ _ ⟨_, _, _, _, z⟩ => z.elim)
  subst ed
  exact hq C dv v F' H' I'.jx rd ex
end
end J
end
section
set_option maxRecDepth 100000
set_option maxHeartbeats 4000000
namespace J
open PySem PySem.Spec PyProof.Rows L2
/-! ### == of lists, tuples, texts and numbers -/
def rEqP (K : PySem.W.Frag) (n : Bool) : R2 := fun x y H Q => ∃ F d e p q, Same F H ∧ (∃ φ, H sysModules = some (.ext φ)) ∧ Rep K F d x ∧ Rep K F e y ∧ d.py = some p ∧ e.py = some q ∧ SeqAt.shaped p = true ∧ SeqAt.shaped q = true ∧ Q (.bl (xor n (PyData.eqv p q))) H
section
variable {X : Cx} {c : JC} {e a b : Expr} {G : List Sl} {Ex : XQ} {pos p1 p2 : Pos} {Q : D → List Sl → Prop} {R : Bool → List Sl → Prop} {k : Nat}
theorem op_eqP (hu : X.A.units + 64 < cLine) : OpR X (compareOp .Eq) (rEqP X.K false) := by
  intro pins s σ H x y v u Q I rx ry ⟨F, d, e, p, q, sm, sy, r1, r2, e1, e2, h1, h2, hq⟩
  obtain ⟨as, s1, _⟩ := Rep.reads I sm sy d x v p r1 rx e1
  obtain ⟨bs, s2, _⟩ := Rep.reads I sm sy e y u q r2 ry e2
  exact SeqAt.compareEq_shaped s1 s2 h1 h2 hu ⟨.bl _, H, I, by rw [Bool.false_xor]; rfl, hq⟩
theorem op_neP (hu : X.A.units + 64 < cLine) : OpR X (compareOp .NotEq) (rEqP X.K true) := by
  intro pins s σ H x y v u Q I rx ry ⟨F, d, e, p, q, sm, sy, r1, r2, e1, e2, h1, h2, hq⟩
  obtain ⟨as, s1, _⟩ := Rep.reads I sm sy d x v p r1 rx e1
  obtain ⟨bs, s2, _⟩ := Rep.reads I sm sy e y u q r2 ry e2
  exact SeqAt.compareNe_shaped s1 s2 h1 h2 hu ⟨.bl _, H, I, by rw [Bool.true_xor]; rfl, hq⟩
theorem je_cmP {op : CmpOp} {n : Bool} (ho : OpR X (compareOp op) (rEqP X.K n)) (hm : behindInMarks op b = false)
    (h : JE X c a G (fun x G1 => JE X c b G1 (fun y G2 => ∃ p q, x.py = some p ∧ y.py = some q ∧ SeqAt.shaped p = true ∧ SeqAt.shaped q = true ∧ Q (.bl (xor n (PyData.eqv p q))) G2) Ex) Ex) : JE X c (.Compare a [op] [b] pos) G Q Ex :=
  je_of (pe_cmpR ho pe_w pe_w hm) fun x F σ H I => wE_mono (h x F σ H I) fun v H1 ⟨F1, d1, G1, s1, I1, r1, h1⟩ => wE_mono (h1 x F1 σ H1 I1) fun w H2 ⟨F2, d2, G2, s2, I2, r2, p, q, e1, e2, k1, k2, hq⟩ =>
    ⟨F2, d1, d2, p, q, I2.jx.fh, I2.jx.sys, r1.mono s2, r2, e1, e2, k1, k2, F2, .bl _, G2, s1.trans s2, I2, rfl, hq⟩
theorem jt_cmP {op : CmpOp} {n : Bool} (ho : OpR X (compareOp op) (rEqP X.K n)) (hm : behindInMarks op b = false)
    (h : JE X c a G (fun x G1 => JE X c b G1 (fun y G2 => ∃ p q, x.py = some p ∧ y.py = some q ∧ SeqAt.shaped p = true ∧ SeqAt.shaped q = true ∧ R (xor n (PyData.eqv p q)) G2) Ex) Ex) : JT X c (.Compare a [op] [b] pos) G R Ex :=
  jt_of (pt_cmpR ho pe_w pe_w hm) fun x F σ H I => wE_mono (h x F σ H I) fun v H1 ⟨F1, d1, G1, s1, I1, r1, h1⟩ => wE_mono (h1 x F1 σ H1 I1) fun w H2 ⟨F2, d2, G2, s2, I2, r2, p, q, e1, e2, k1, k2, hq⟩ =>
    ⟨F2, d1, d2, p, q, I2.jx.fh, I2.jx.sys, r1.mono s2, r2, e1, e2, k1, k2, _, rfl, F2, G2, s1.trans s2, I2, hq⟩
theorem je_eqP (hr : RoomG k X.A) (h : JE X c a G (fun x G1 => JE X c b G1 (fun y G2 => ∃ p q, x.py = some p ∧ y.py = some q ∧ SeqAt.shaped p = true ∧ SeqAt.shaped q = true ∧ Q (.bl (PyData.eqv p q)) G2) Ex) Ex) : JE X c (.Compare a [.Eq] [b] pos) G Q Ex :=
  je_cmP (n := false) (op_eqP (by have := hr.rm.un; omega)) (nomark _) (by simpa only [Bool.false_xor] using h)
theorem jt_eqP (hr : RoomG k X.A) (h : JE X c a G (fun x G1 => JE X c b G1 (fun y G2 => ∃ p q, x.py = some p ∧ y.py = some q ∧ SeqAt.shaped p = true ∧ SeqAt.shaped q = true ∧ R (PyData.eqv p q) G2) Ex) Ex) : JT X c (.Compare a [.Eq] [b] pos) G R Ex :=
  jt_cmP (n := false) (op_eqP (by have := hr.rm.un; omega)) (nomark _) (by simpa only [Bool.false_xor] using h)
theorem jt_neP (hr : RoomG k X.A) (h : JE X c a G (fun x G1 => JE X c b G1 (fun y G2 => ∃ p q, x.py = some p ∧ y.py = some q ∧ SeqAt.shaped p = true ∧ SeqAt.shaped q = true ∧ R (!PyData.eqv p q) G2) Ex) Ex) : JT X c (.Compare a [.NotEq] [b] pos) G R Ex :=
  jt_cmP (n := true) (op_neP (by have := hr.rm.un; omega)) (nomark _) (by simpa only [Bool.true_xor] using h)
end
end J
end
section
set_option maxRecDepth 100000
set_option maxHeartbeats 4000000
namespace J
open PySem PySem.Spec PyProof.Rows L2
/-- _law_caught as it lies in the program -/
structure CauT (K : PySem.W.Frag) (mg : Str → Option Value) (CS : Addr) : Prop where
  ex : ∃ (qual : Str) (st : Stmt) (fc : Addr) (fd : FuncData), mg "_law_caught" = some (.ref fc) ∧ PySem.W.keepIn K (.ref fc) = true ∧ Fd K qual st fc fd ∧ CaughtTxt st ∧ FnScope nC ["call"] (defScope st) ∧
    (defScope st).names.lookup ("StoreError" : Str) = some .globalImplicit ∧ (∀ x ∈ nC, (defScope st).names.lookup x = some .local) ∧ Binds K fd ["call"] []
  gS : mg "StoreError" = some (.ref CS)
section
variable {P : Program} {w : World} {K : PySem.W.Frag} {mg : Str → Option Value} {base : Heap} {T : List (Addr × Str)} {k : Nat}
theorem fresh_none {h : Heap} {a : Addr} (k : h.objs.size ≤ a) : h.get? a = none := by
  cases e : h.get? a with
  | none => rfl
  | some o => exact absurd (Heap.lt_size e) (Nat.not_lt_of_le k)
theorem frs_call {qual : Str} {scope : Scope} {fc : Addr} {cdv : Value} {outer : List Env} {s : Shared} : ∀ b ∈ frs (envOfC qual scope s.heap.objs.size fc cdv :: outer), b ∈ frs outer ∨ s.heap.get? b = none := fun b hb => by
  obtain ⟨e, he, q⟩ := List.mem_filterMap.mp hb
  rcases List.mem_cons.mp he with z | z
  · subst z
    cases q
    exact .inr (fresh_none (Nat.le_refl _))
  · exact .inl (List.mem_filterMap.mpr ⟨e, z, q⟩)
theorem je_caught {qual : Str} {scope : Scope} {N : List Str} {fc f CS : Addr} {cdv : Value} {A : Around} {outer : List Env} {s : Shared} {F H : Hp} {E0 : XK} {Exn : Addr → D → Prop} {i : Nat} {G : List Sl} {Ex : XQ} {Q : D → List Sl → Prop} {p1 p2 pos : Pos} {y : Str}
    (L : LamP P w K mg base T k (frs outer) s F H f Exn) (C : CauT K mg CS) (hr : RoomG (k + 2) (A.deeper (envOfC qual scope s.heap.objs.size fc cdv))) (hg : scope.names.lookup ("_law_caught" : Str) = some .globalImplicit) (hN : N[i]? = some y) (hv : Vis scope y) (hi : G[i]? = some (Sl.val (.ref f)))
    (hx : ∀ C d, Exn C d → PySem.W.exmOne K (.ref C) (.ref CS) = some true) (hq : ∀ C d, Exn C d → Q (.exc C d) G) (hd : (y == ("__debug__" : Str)) = false := by decide) (hcd : (y == ("__classdict__" : Str)) = false := by decide) :
    JE (cxOf (L2.CX P w) P w K mg base N qual scope fc cdv A outer s H E0) ⟨F, H, fun _ => False, T⟩ (.Call (.Name "_law_caught" p1) [.Name y p2] [] pos) G Q Ex := by
  obtain ⟨qual', st, fc', fd, h1, h2, FN, tx, S, hS, hl, hb⟩ := C.ex
  intro xt F1 σ1 H1 I pins s1 i1
  obtain ⟨W, tk, hW⟩ := id xt
  refine wpAny_Call_Name_kw (ld_glob i1 hg h1 ?_ (by decide))
  obtain ⟨v0, e0, r0⟩ := I.val i (.ref f) hi
  obtain rfl : v0 = .ref f := r0
  refine PySem.W.callWith_K (h₀ := base) i1.ok.mod.kin h2 (thn ((pa_cons (pe_var hN hv hd hcd) pa_nil).run pos pins s1 σ1 H1 (fun vs H2 => vs = [.ref f] ∧ H2 = H1) i1 ⟨.ref f, e0, rfl, rfl⟩) fun us s2 ⟨vs, H2, i2, r, q1, q2⟩ => ⟨i2.kIn, ?_⟩)
  subst q1 q2
  cases r with
  | cons rv rn =>
    cases rn
    cases (show _ = Value.ref f from rv)
    have un : Un (frs outer) [] H H2 s.heap s2.heap := i2.base
    have L2' := L.move (s := s2) (fr' := frs (envOfC qual scope s.heap.objs.size fc cdv :: outer)) un I.jx frs_call
    refine wpAny_call (codeAny_mono (caught_run FN tx S C.gS hS hl hb hr i2.env0 L2' I.jx.again hx (E := WE W σ1) (Q := QE _ ⟨F, H, fun _ => False, T⟩ F1 σ1 Q) fun C d v F' H' y rd ex => ⟨F', .exc C d, G, y.ff, I.call y fun _ z => z, rd, hq C d ex⟩) fun r s' hq => ?_)
    cases r with
    | error e => exact passAt tk σ1 pins H2 s2 e s' i2 hq
    | ok fl =>
      cases fl with
      | ret u => exact i2.after hq
      | next => exact False.elim hq
      | brk => exact False.elim hq
      | cont => exact False.elim hq
/-- the text of _law_refused -/
def RefTxt (st : Stmt) : Prop := ∃ (p1 p2 p3 p4 p5 p6 p7 p8 p9 p10 p11 p12 p13 p14 p15 p16 p17 p18 p19 p20 p21 : Pos), defBody st = [.Assign [.Name "caught" p1] (.Call (.Name "_law_caught" p2) [.Name "call" p3] [] p4) p5,
  .Return (some (.BoolOp .And [.Compare (.Call (.Name "_law_kind" p6) [.Name "caught" p7] [] p8) [.Eq] [.List [.Name "word" p9] p10] p11,
    .Compare (.Call (.Name "repr" p12) [.Attribute (.Name "caught" p13) "value" p14] [] p15) [.Eq] [.Call (.Name "repr" p16) [.Name "value" p17] [] p18] p19] p20)) p21]
abbrev nR : List Str := ["call", "word", "value", "caught"]
def spKind (kd : Addr → Str → Prop) : FSp where
  pre ds := ∃ C d w, ds = [.exc C d] ∧ kd C w
  post ds r := ∀ C d w, ds = [.exc C d] → kd C w → r = .lst [.str w]
/-- _law_refused(f, word, value), where f raises the class of the word with the value -/
theorem refused_run {qual : Str} {st : Stmt} {fc f CS C0 : Addr} {fd : FuncData} {A : Around} {outer : List Env} {s : Shared} {F H : Hp} {E : XK} {Q : VK} {nm wd : Str} {dv : D} {vv : V} {uv : Value} {tk : Tok} {p : PyData} {kd : Addr → Str → Prop} (FN : Fd K qual st fc fd) (tx : RefTxt st) (S : FnScope nR ["call", "word", "value"] (defScope st))
    (C : CauT K mg CS) (KI : Cal P w K mg base T k "_law_kind" ["caught"] 1 (spKind kd)) (B : Bt mg) (hl : ∀ x ∈ nR, (defScope st).names.lookup x = some .local) (hg : ∀ x ∈ (["_law_caught", "_law_kind", "repr"] : List Str), (defScope st).names.lookup x = some .globalImplicit) (hb : Binds K fd ["call", "word", "value"] [])
    (hr : RoomG (k + 3) A) (e0 : Env0 P w K mg base A outer s H) (L : LamP P w K mg base T k (frs outer) s F H f fun C d => C = C0 ∧ d = dv) (jx : JX ⟨F, H, fun _ => False, T⟩ F H) (hx : PySem.W.exmOne K (.ref C0) (.ref CS) = some true) (ET : EcT K nm C0) (hk : kd C0 wd) (hwd : SeqAt.shaped (.list [.str wd]) = true)
    (rd : Rep K F dv vv) (ru : RelV vv uv) (hp : dv.py = some p) (hs : p.showable = true) (hz : p.shown.length ≤ sizeLine) (hdp : p.depth ≤ 100)
    (hq : ∀ F' H', JX ⟨F, H, fun _ => False, T⟩ F' H' → Q (.bl true) H') : codeAny (model P w) A (.call (.ref fc) ⟨[.ref f, .str wd tk, uv], []⟩) (CR (L2.CX P w) outer P w H s Q E) s := by
  obtain ⟨x, oc, od, dV, kV, doc, pm, an, cdv, ct, osl, efd, lk, hcd⟩ := FN.ex
  obtain ⟨p1, p2, p3, p4, p5, p6, p7, p8, p9, p10, p11, p12, p13, p14, p15, p16, p17, p18, p19, p20, p21, tx⟩ := tx
  subst efd
  have hK : K.In s.heap := e0.mod.kin.keeps fun b o q => (e0.bs b o q).1
  refine LamX.run_ofS (N := nR) (ps := ["call", "word", "value"]) (us := [.ref f, .str wd tk, uv]) (vs := [.ref f, .str wd, vv]) lk hcd S hr.rm e0 (hb s [.ref f, .str wd tk, uv] hK rfl) (.cons rfl (.cons ⟨tk, rfl⟩ (.cons ru .nil))) rfl fun hr' => ⟨_, pss_w, ?_⟩
  have hr2 := hr.deeper (envOfC qual (defScope st) s.heap.objs.size fc cdv)
  have I0 : JI K ⟨F, H, fun _ => False, T⟩ F H (L2.start nR [.ref f, .str wd, vv]) (G0 4 [.ref f, .str wd, dv]) := ji_start (N := nR) (ds := [.ref f, .str wd, dv]) (vs := [.ref f, .str wd, vv]) jx ⟨_, _, rfl, rfl, _, _, rfl, rfl, _, _, rfl, rd, rfl⟩ (show 3 ≤ 4 by decide)
  have l0 := hl "call" (by decide)
  have l1 := hl "word" (by decide)
  have l2 := hl "value" (by decide)
  have l3 := hl "caught" (by decide)
  have g0 := hg "_law_caught" (by decide)
  have g1 := hg "_law_kind" (by decide)
  have g2 := hg "repr" (by decide)
  have b : JSs (cxOf (L2.CX P w) P w K mg base nR qual (defScope st) fc cdv A outer s H E) ⟨F, H, fun _ => False, T⟩ (defBody st) (G0 4 [.ref f, .str wd, dv]) { rt := fun d _ => d = .bl true } NoX := by
    rw [tx]
    refine jss_cons (js_set (i := 3) S.nd rfl (.inl l3) (je_caught (i := 0) L C hr2 g0 rfl (.inl l0) rfl (fun C d e => e.1 ▸ hx) fun C d e => ⟨show 3 < 4 by decide, ?_⟩) rfl (.inr l3))
    obtain ⟨rfl, rfl⟩ := e
    refine jss_one (js_ret (je_and ?_))
    refine je_eqP hr2 (je_call KI hr2 (by omega) g1 (ja_cons (je_var (i := 3) rfl (.inl l3) rfl (ja_nil ⟨rfl, ⟨_, _, _, rfl, hk⟩, fun r hr => ?_, fun _ _ z => z.elim⟩))))
    obtain rfl := hr _ _ _ rfl hk
    refine je_lst (ja_cons (je_var (i := 1) rfl (.inl l1) rfl (ja_nil ⟨show 1 ≤ sizeLine by rw [sizeLine_eq]; decide, _, _, rfl, rfl, hwd, hwd, true, ?_, fun _ => ?_, fun z => nomatch z⟩)))
    · simp [PyData.eqv, PyData.eqvAll]
    refine je_one (je_eqS ?_)
    refine je_repr B hr2.rm hr2.gd g2 (je_value (je_var (i := 3) rfl (.inl l3) rfl ⟨nm, _, _, rfl, ET, p, hp, hs, hz, hdp, _, rfl, ?_⟩))
    refine je_repr B hr2.rm hr2.gd g2 (je_var (i := 2) rfl (.inl l2) rfl ⟨p, hp, hs, hz, hdp, _, rfl, ?_⟩)
    simp
  refine wSs_mono (b Xt.no F _ H I0) (fun _ _ ⟨_, _, _, _, z⟩ => z.elim) (fun v H' ⟨F', d, σ', G', s', I', rd, ed⟩ => ?_) (fun _ _ ⟨_, _, _, _, z⟩ => z.elim) (fun _ _ ⟨_, _, _, _, z⟩ => z.elim)
  subst ed
  obtain rfl : v = .bl true := rd
  exact hq F' H' I'.jx
end
end J
end
section
set_option maxRecDepth 100000
set_option maxHeartbeats 4000000
namespace J
open PySem PySem.Spec PyProof.Rows L2
/-- the abstract heap behind the making of a lambda -/
def Grown (H H1 : Hp) (P : Addr) (q : Str) (c' : Addr) : Prop := H1 = H ∨ ∃ (ps more : Array Value), H P = some (.tbl ps) ∧ H c' = none ∧ H1 = upd (upd H P (.tbl (ps ++ more))) c' (LamX.CodeO c' q)
section
variable {X : Cx} {c : JC} {G : List Sl} {pins : List (Addr × Obj)} {σ : L2.St} {F H H1 : Hp} {s : Shared}
theorem lam_make3 {T : List (Addr × Str)} {cc P : Addr} {params : Arguments} {body : Expr} {scope : Scope} {pos : Pos} {E Q : Value → Shared → Prop} (I : Inv X pins σ H s) (TB : LamX.TabB X.base X.mg cc P) (hcode : X.env.code = .ref cc) (hm : (P, X.env.qual ++ "<lambda>") ∈ T)
    (hu : ∀ p ∈ T, p.1 = P → p.2 = X.env.qual ++ "<lambda>") (hT : LamX.Tabs T H) (hdef : defaultsOf params X.env = ([], [])) (hfree : ∀ y ∈ scope.names, y.2 = .free → ∃ c, X.env.cells.lookup y.1 = some c)
    (h : ∀ (f c' : Addr) (pm ctv : Value) (H1 : Hp) (s' : Shared), Inv X pins σ H1 s' → Grown H H1 P (X.env.qual ++ "<lambda>") c' → LamX.Tabs T H1 → s'.heap.get? f = some (PySem.W.kla_obj "<lambda>" (X.env.qual ++ "<lambda>") params body scope (L2.cloFrom X.env.cells scope.names []) pm c' ctv) →
      H1 f = none → f ∉ frs X.stack → f ≠ X.env.locals → H1 c' = some (LamX.CodeO c' (X.env.qual ++ "<lambda>")) → Q (.ref f) s') :
    wpAny (model X.prog X.w) X.A (eval (.Lambda params body scope pos) X.env) Q E s := by
  obtain ⟨tb, eP, trip, told⟩ := hT _ hm
  have atP : s.heap.get? P = some { cls := .none, data := .fields tb } := I.hok P _ eP
  have bAt : s.heap.BuiltinsAt X.mg P := TB.bm.keeps I.bk
  have notFr : ∀ g, s.heap.objs.size ≤ g → g ∉ frs X.stack ∧ g ≠ X.env.locals := fun g hg => by
    have ll := I.lt
    have ll2 : X.env.locals < g := Nat.lt_of_lt_of_le ll hg
    refine ⟨fun z => ?_, fun z => Nat.ne_of_gt ll2 z⟩
    rcases List.mem_cons.mp (I.stkSub _ z) with e | e
    · exact Nat.ne_of_gt ll2 e
    · exact I.nofs hg e
  refine PySem.W.kla_eval hdef ?_
  cases am : codeAmong pos tb.toList with
  | some cv =>
    obtain ⟨c', rfl, co⟩ := told pos cv am
    refine PySem.W.kla_makeFunctionHit (closure_ok hfree) I.ok.glob (I.mod.glob.keeps I.bk) hcode (TB.code.keeps I.bk) atP trip am bAt fun ctv h' tk kx hz => ?_
    obtain ⟨n1, n2⟩ := notFr _ hz
    exact h h'.objs.size c' _ ctv H _ (I.kept fun b o e => Heap.get?_push_of_some _ (kx b o e)) (.inl rfl) hT (Heap.get?_push_size _ rfl) (I.hok.fresh hz) n1 n2 co
  | none =>
    refine PySem.W.kla_makeFunction (closure_ok hfree) I.ok.glob (I.mod.glob.keeps I.bk) hcode (TB.code.keeps I.bk) atP trip am TB.gP bAt fun c' ctv h' tk kx ge lt rec_ tbl_ => ?_
    obtain ⟨c2, oc, vs, t, e2, hoc, hd, hv⟩ := rec_
    cases e2
    have hz : s.heap.objs.size ≤ h'.objs.size := Nat.le_trans ge (Nat.le_of_lt lt)
    obtain ⟨n1, n2⟩ := notFr _ hz
    have nC : H c' = none := I.hok.fresh ge
    have J := LamX.inv_table (t' := tk) (more := #[rawInt pos.line, rawInt pos.col, .ref c']) (h' := h'.push (PySem.W.kla_obj "<lambda>" (X.env.qual ++ "<lambda>") params body scope (L2.cloFrom X.env.cells scope.names []) ((X.mg "__name__").getD .none) c' ctv)) I eP
      (fun b o hb e => Heap.get?_push_of_some _ (kx b o hb e)) (Heap.get?_push_of_some _ tbl_) ge ⟨oc, vs, t, Heap.get?_push_of_some _ hoc, hd, hv⟩
    have stay : ∀ b o, H b = some o → b ≠ P → upd (upd H P (.tbl (tb ++ #[rawInt pos.line, rawInt pos.col, .ref c']))) c' (LamX.CodeO c' (X.env.qual ++ "<lambda>")) b = some o := fun b o e hb => by
      rw [upd_ne (ne_of_none e nC), upd_ne hb]
      exact e
    have coS : ∀ d q, H d = some (LamX.CodeO d q) → d ≠ P := fun d q e z => by
      rw [z, eP] at e
      exact LamX.codeO_ne tb (Option.some.inj e).symm
    refine h h'.objs.size c' _ ctv _ _ J (.inr ⟨tb, _, eP, nC, rfl⟩) (fun p hp => ?_) (Heap.get?_push_size _ rfl) ?_ n1 n2 upd_same
    · by_cases hb : p.1 = P
      · have toL : (tb ++ #[rawInt pos.line, rawInt pos.col, .ref c']).toList = tb.toList ++ [rawInt pos.line, rawInt pos.col, .ref c'] := by simp
        rw [hu p hp hb, hb]
        refine ⟨tb ++ #[rawInt pos.line, rawInt pos.col, .ref c'], by rw [upd_ne (ne_of_none eP nC), upd_same], by rw [toL]; exact PySem.TriplesOk_snoc _ _ _ _ trip, fun p2 cv q => ?_⟩
        rw [toL] at q
        rcases LamX.among_app _ trip q with z | z
        · obtain ⟨d, e1, e2⟩ := told p2 cv z
          exact ⟨d, e1, stay _ _ e2 (coS _ _ e2)⟩
        · exact ⟨c', z, upd_same⟩
      · obtain ⟨ps, a1, a2, a3⟩ := hT p hp
        refine ⟨ps, stay _ _ a1 hb, a2, fun p2 cv q => ?_⟩
        obtain ⟨d, e1, e2⟩ := a3 p2 cv q
        exact ⟨d, e1, stay _ _ e2 (coS _ _ e2)⟩
    · rw [upd_ne (Nat.ne_of_gt lt), upd_ne (Nat.ne_of_gt (Nat.lt_of_lt_of_le (Heap.lt_size atP) hz))]
      exact I.hok.fresh hz
theorem ji_grown {K : PySem.W.Frag} {P c' : Addr} {q : Str} (I : JI K c F H σ G) (g : Grown H H1 P q c') (t : LamX.Tabs c.T H1) : JI K c F H1 σ G := by
  rcases g with rfl | ⟨ps, more, eP, nC, rfl⟩
  · exact I
  have sn : ∀ b u, H b = some u → (∀ qs, u ≠ .tbl qs) → upd (upd H P (.tbl (ps ++ more))) c' (LamX.CodeO c' q) b = some u := fun b u e n => by
    rw [upd_ne (ne_of_none e nC), upd_ne (fun z => by rw [z, eP] at e; exact n ps (Option.some.inj e).symm)]
    exact e
  have x := I.jx
  have hP : ∃ r, (P, r) ∈ c.T := x.tb P ps eP
  have fP : F P = none := by
    obtain ⟨r, hr⟩ := hP
    exact x.tabF _ hr
  have sF : ∀ b u, F b = some u → upd (upd H P (.tbl (ps ++ more))) c' (LamX.CodeO c' q) b = some u := fun b u e => by
    have e' := x.fh b u e
    rw [upd_ne (ne_of_none e' nC), upd_ne (ne_of_none e fP)]
    exact e'
  refine I.mono ⟨x.ff, sF, fun a u e w n => sn a u (x.hh a u e w n) n, fun a e => ?_, x.nf, t, x.tabF, ?_, fun a qs e => ?_⟩ (Same.refl _) fun i a l e => ?_
  · by_cases h1 : a = c'
    · rw [h1, upd_same]; simp
    · rw [upd_ne h1]
      by_cases h2 : a = P
      · rw [h2, upd_same]; simp
      · rw [upd_ne h2]
        exact x.dm a e
  · obtain ⟨φ, e⟩ := x.sys
    exact ⟨φ, sn _ _ e (fun qs z => by cases z)⟩
  · by_cases h1 : a = c'
    · rw [h1, upd_same] at e
      exact absurd (Option.some.inj e) (LamX.codeO_ne qs)
    · rw [upd_ne h1] at e
      by_cases h2 : a = P
      · rw [h2]; exact hP
      · rw [upd_ne h2] at e
        exact x.tb a qs e
  · obtain ⟨_, h2, _, xs, h4, _⟩ := I.own i a l e
    exact ⟨h2, (sn _ _ h4 (fun qs z => by cases z)).trans h4.symm⟩
end
end J
end
section
set_option maxRecDepth 100000
set_option maxHeartbeats 4000000
namespace J
open PySem PySem.Spec PyProof.Rows L2
/-- _law_refused as it lies in the program -/
structure RefT (P : Program) (w : World) (K : PySem.W.Frag) (mg : Str → Option Value) (base : Heap) (T : List (Addr × Str)) (k : Nat) (CS : Addr) (kd : Addr → Str → Prop) : Prop where
  ex : ∃ (qual : Str) (st : Stmt) (fc : Addr) (fd : FuncData), mg "_law_refused" = some (.ref fc) ∧ PySem.W.keepIn K (.ref fc) = true ∧ Fd K qual st fc fd ∧ RefTxt st ∧ FnScope nR ["call", "word", "value"] (defScope st) ∧
    (∀ x ∈ nR, (defScope st).names.lookup x = some .local) ∧ (∀ x ∈ (["_law_caught", "_law_kind", "repr"] : List Str), (defScope st).names.lookup x = some .globalImplicit) ∧ Binds K fd ["call", "word", "value"] []
  cau : CauT K mg CS
  kind : Cal P w K mg base T k "_law_kind" ["caught"] 1 (spKind kd)
  bt : Bt mg
  err : ∀ C wd, kd C wd → PySem.W.exmOne K (.ref C) (.ref CS) = some true ∧ (∃ nm, EcT K nm C) ∧ SeqAt.shaped (.list [.str wd]) = true
section
variable {X : Cx} {c : JC} {G : List Sl} {Ex : XQ} {Q : D → List Sl → Prop} {k m : Nat}
/-- _law_refused(lambda: body, word, ev), where the body raises the class of the word with the value of ev -/
theorem je_refused {CS C0 cc PP : Addr} {kd : Addr → Str → Prop} {params : Arguments} {body ev : Expr} {scope : Scope} {lpos p1 p2 pos : Pos} {wd : Str} {j} {dv : D} {p : PyData} (R : RefT X.prog X.w X.K X.mg X.base c.T k CS kd) (hr : RoomG m X.A) (hkm : k + 3 ≤ m) (hg : Gl X "_law_refused") (hk : kd C0 wd)
    (TB : LamX.TabB X.base X.mg cc PP) (hcode : X.env.code = .ref cc) (hmT : (PP, X.env.qual ++ "<lambda>") ∈ c.T) (hu : ∀ p ∈ c.T, p.1 = PP → p.2 = X.env.qual ++ "<lambda>") (L : LamX.LamS X.env.scope scope)
    (hv : ∀ c : JC, JE X c ev G (fun d G1 => d = dv ∧ G1 = G) NoX) (hp : dv.py = some p) (hs : p.showable = true) (hz : p.shown.length ≤ sizeLine) (hdp : p.depth ≤ 100)
    (hbody : ∀ (A : Around) (outer : List Env) (s : Shared) (H F : Hp) (E : XK) (f c' : Addr), RoomG k (A.deeper (LamX.lamEnv X scope s.heap.objs.size f c')) → JE (LamX.lamCx X A outer s H E scope f c') ⟨F, H, fun _ => False, c.T⟩ body (G.map dropO) (fun _ _ => False) fun C d _ => C = C0 ∧ d = dv)
    (q : Q (.bl true) G) (hdef : defaultsOf params X.env = ([], []) := by rfl)
    (hbind : ∀ (q : Str) (cl : List (Str × Addr)) (pm cv ctv : Value), bindArgs (PySem.W.kla_fn "<lambda>" q params body scope cl pm cv ctv) ⟨[], []⟩ = pure [] := by intros; rfl)
    (he : starEach [.Lambda params body scope lpos, .Constant (.str wd) j p2, ev] X.env = (false, eval (.Lambda params body scope lpos) X.env) :: starEach [.Constant (.str wd) j p2, ev] X.env := by rfl)
    (he1 : starEach [.Constant (.str wd) j p2, ev] X.env = (false, eval (.Constant (.str wd) j p2) X.env) :: starEach [ev] X.env := by rfl) (he2 : starEach [ev] X.env = (false, eval ev X.env) :: starEach [] X.env := by rfl)
    (hpl : (backTo pos (starEach [.Constant (.str wd) j p2, ev] X.env)).any (·.1) = false := by rfl) :
    JE X c (.Call (.Name "_law_refused" p1) [.Lambda params body scope lpos, .Constant (.str wd) j p2, ev] [] pos) G Q Ex := by
  obtain ⟨qual, st, fc, fd, h1, h2, FN, tx, S, hl, hgl, hb⟩ := R.ex
  obtain ⟨e1, ⟨nm, e2⟩, e3⟩ := R.err C0 wd hk
  intro xt F σ H I pins s i
  obtain ⟨W, tk, hW⟩ := id xt
  refine wpAny_Call_Name_kw (ld_glob i hg h1 ?_ (by decide))
  refine PySem.W.callWith_K (h₀ := X.base) i.ok.mod.kin h2 ?_ he hpl
  rw [he]
  show wpAny _ _ (spliced ((false, eval (.Lambda params body scope lpos) X.env) :: backTo pos (starEach [.Constant (.str wd) j p2, ev] X.env))) _ _ s
  refine Calls.spliced_cons (lam_make3 i TB hcode hmT hu I.jx.tab hdef (L.has i.ok) fun f c' pm ctv H1 s1 i1 gr T1 hf hfn hfr hfl hco => ?_)
  have I1 : JI X.K c F H1 σ G := ji_grown I gr T1
  have ip : Inv X ((f, PySem.W.kla_obj "<lambda>" (X.env.qual ++ "<lambda>") params body scope (L2.cloFrom X.env.cells scope.names []) pm c' ctv) :: pins) σ H1 s1 := by
    refine ⟨i1.ok, i1.os, i1.bare, i1.base, i1.loc, i1.cell, i1.free, i1.freeC, fun p hp => ?_, i1.hok, i1.len⟩
    rcases List.mem_append.mp hp with z | z
    · exact i1.pin p (List.mem_append_left _ z)
    · rcases List.mem_cons.mp z with z | z
      · subst z
        refine ⟨hf, hfn, hfl, fun z => hfr ?_, fun v z => by cases z⟩
        rcases i1.ok.stk with e | ⟨e, hf⟩
        · rw [e]; exact z
        · rw [e]
          unfold frs
          rw [List.filterMap_cons, hf]
          exact List.mem_cons_of_mem _ z
      · exact i1.pin p (List.mem_append_right _ z)
  have av : wE X ev σ H1 (QE X (c.re F H1 G) F σ fun d G1 => d = dv ∧ G1 = G) := hv _ Xt.no F σ H1 I1.re
  refine wpAny_mono ((pa_cons pe_str (pa_cons pe_w pa_nil he2) he1).run pos _ s1 σ H1 (fun vs H2 => ∃ v F2, vs = [.str wd, v] ∧ Same F F2 ∧ JI X.K (c.re F H1 G) F2 H2 σ G ∧ Rep X.K F2 dv v) ip (wE_mono av fun v H2 ⟨F2, d, G2, s2, I2, r2, ed, eG⟩ => ?_)) (fun us s2 ⟨vs, H2, i2, r, v, F2, ev2, sm, I2, rv⟩ => ?_) fun _ _ z => z
  · subst ed eG
    exact ⟨v, F2, rfl, s2, I2, r2⟩
  subst ev2
  have IJ := I1.unre I2
  obtain ⟨u1, u2, rfl, ru1, ru2⟩ := vals2 r
  obtain ⟨t1, rfl⟩ := (show ∃ t, u1 = Value.str wd t from ru1)
  obtain ⟨hf2, hfn2, _⟩ := i2.pin _ (List.mem_append_right _ List.mem_cons_self)
  have co2 : H2 c' = some (LamX.CodeO c' (X.env.qual ++ "<lambda>")) := I2.jx.hh c' _ hco (fun ⟨n, l, z⟩ => by
    obtain ⟨_, _, _, xs, h4, _⟩ := I1.own n c' l z
    rw [hco] at h4
    unfold LamX.CodeO at h4
    cases h4) (fun ps => LamX.codeO_ne ps)
  have i3 : Inv X pins σ H2 s2 := ⟨i2.ok, i2.os, i2.bare, i2.base, i2.loc, i2.cell, i2.free, i2.freeC, fun p hp => i2.pin p (by
    rcases List.mem_append.mp hp with z | z
    · exact List.mem_append_left _ z
    · exact List.mem_append_right _ (List.mem_cons_of_mem _ z)), i2.hok, i2.len⟩
  have LP := lam_ok (k := k) (Ex := fun C d => C = C0 ∧ d = dv) i3 IJ L hf2 hfn2 hfr co2 (hbind _ _ _ _ _) fun A outer s H F E hr => hbody A outer s H F E f c' hr
  refine ⟨i3.kIn, wpAny_call (codeAny_mono (refused_run FN tx S R.cau R.kind R.bt hl hgl hb (hr.mono hkm) i3.env0 LP IJ.jx.again e1 e2 hk e3 rv ru2 hp hs hz hdp (E := WE W σ) (Q := QE X c F σ Q) fun F' H' y => ⟨F', .bl true, G, sm.trans y.ff, IJ.call y fun _ z => z, rfl, q⟩) fun r s' hq => ?_)⟩
  cases r with
  | error e => exact passAt tk σ pins H2 s2 e s' i3 hq
  | ok fl =>
    cases fl with
    | ret u => exact i3.after hq
    | next => exact False.elim hq
    | brk => exact False.elim hq
    | cont => exact False.elim hq
end
end J
end
section
set_option maxRecDepth 100000
set_option maxHeartbeats 4000000
namespace J
open PySem PySem.Spec PyProof.Rows L2
/-! ### promises by the number of arguments -/
def F1 (P : D → Prop) (R : D → D → Prop) (E : D → Addr → D → Prop := fun _ _ _ => False) : FSp where
  pre | [a] => P a | _ => False
  post | [a], r => R a r | _, _ => False
  exc | [a], C, d => E a C d | _, _, _ => False
def F2 (P : D → D → Prop) (R : D → D → D → Prop) (E : D → D → Addr → D → Prop := fun _ _ _ _ => False) : FSp where
  pre | [a, b] => P a b | _ => False
  post | [a, b], r => R a b r | _, _ => False
  exc | [a, b], C, d => E a b C d | _, _, _ => False
theorem len1 {ds : List D} (h : ds.length = 1) : ∃ a, ds = [a] := by
  match ds, h with
  | [a], _ => exact ⟨a, rfl⟩
theorem len2 {ds : List D} (h : ds.length = 2) : ∃ a b, ds = [a, b] := by
  match ds, h with
  | [a, b], _ => exact ⟨a, b, rfl⟩
section
variable {X : Cx} {c : JC} {e : Expr} {G : List Sl} {Ex : XQ} {pos : Pos} {Q : D → List Sl → Prop} {D₀ : JD}
theorem je_v {i : Nat} {x : Str} {d : D} (hN : X.N[i]? = some x) (hg : G[i]? = some (Sl.val d)) (q : Q d G) (hv : Vis X.env.scope x := by first | exact .inl rfl | exact .inr (.inl rfl) | exact .inr (.inr rfl)) (hd : (x == ("__debug__" : Str)) = false := by decide) (hcd : (x == ("__classdict__" : Str)) = false := by decide) : JE X c (.Name x pos) G Q Ex :=
  je_var hN hv hg q hd hcd
theorem js_s {i : Nat} {x : Str} {p2 : Pos} (hN : X.N.Nodup) (hi : X.N[i]? = some x) (h : JE X c e G (fun d G1 => i < G1.length ∧ D₀.nx (G1.set i (.val d))) Ex) (hx : Loc X.env.scope x := by first | exact .inl rfl | exact .inr rfl) (hs : swapsWith e (some (.Name x p2)) pos.line X.env = pure false := by rfl)
    (hf : X.fn x = true ∨ X.env.scope.names.lookup x = some .local := by first | exact .inl rfl | exact .inr rfl) : JS X c (.Assign [.Name x p2] e pos) G D₀ Ex := js_set hN hi hx h hs hf
end
section
variable {X : Cx} {c : JC} {G : List Sl} {Ex : XQ} {pos : Pos} {Q : D → List Sl → Prop} {x : Str} {d : D}
theorem v0 (q : Q d G) (hN : X.N[0]? = some x := by rfl) (hg : G[0]? = some (Sl.val d) := by rfl) (hv : Vis X.env.scope x := by first | exact .inl rfl | exact .inr (.inl rfl) | exact .inr (.inr rfl)) (hd : (x == ("__debug__" : Str)) = false := by decide) (hcd : (x == ("__classdict__" : Str)) = false := by decide) : JE X c (.Name x pos) G Q Ex := je_var hN hv hg q hd hcd
theorem v1 (q : Q d G) (hN : X.N[1]? = some x := by rfl) (hg : G[1]? = some (Sl.val d) := by rfl) (hv : Vis X.env.scope x := by first | exact .inl rfl | exact .inr (.inl rfl) | exact .inr (.inr rfl)) (hd : (x == ("__debug__" : Str)) = false := by decide) (hcd : (x == ("__classdict__" : Str)) = false := by decide) : JE X c (.Name x pos) G Q Ex := je_var hN hv hg q hd hcd
theorem v2 (q : Q d G) (hN : X.N[2]? = some x := by rfl) (hg : G[2]? = some (Sl.val d) := by rfl) (hv : Vis X.env.scope x := by first | exact .inl rfl | exact .inr (.inl rfl) | exact .inr (.inr rfl)) (hd : (x == ("__debug__" : Str)) = false := by decide) (hcd : (x == ("__classdict__" : Str)) = false := by decide) : JE X c (.Name x pos) G Q Ex := je_var hN hv hg q hd hcd
theorem v3 (q : Q d G) (hN : X.N[3]? = some x := by rfl) (hg : G[3]? = some (Sl.val d) := by rfl) (hv : Vis X.env.scope x := by first | exact .inl rfl | exact .inr (.inl rfl) | exact .inr (.inr rfl)) (hd : (x == ("__debug__" : Str)) = false := by decide) (hcd : (x == ("__classdict__" : Str)) = false := by decide) : JE X c (.Name x pos) G Q Ex := je_var hN hv hg q hd hcd
theorem v4 (q : Q d G) (hN : X.N[4]? = some x := by rfl) (hg : G[4]? = some (Sl.val d) := by rfl) (hv : Vis X.env.scope x := by first | exact .inl rfl | exact .inr (.inl rfl) | exact .inr (.inr rfl)) (hd : (x == ("__debug__" : Str)) = false := by decide) (hcd : (x == ("__classdict__" : Str)) = false := by decide) : JE X c (.Name x pos) G Q Ex := je_var hN hv hg q hd hcd
theorem v5 (q : Q d G) (hN : X.N[5]? = some x := by rfl) (hg : G[5]? = some (Sl.val d) := by rfl) (hv : Vis X.env.scope x := by first | exact .inl rfl | exact .inr (.inl rfl) | exact .inr (.inr rfl)) (hd : (x == ("__debug__" : Str)) = false := by decide) (hcd : (x == ("__classdict__" : Str)) = false := by decide) : JE X c (.Name x pos) G Q Ex := je_var hN hv hg q hd hcd
theorem v6 (q : Q d G) (hN : X.N[6]? = some x := by rfl) (hg : G[6]? = some (Sl.val d) := by rfl) (hv : Vis X.env.scope x := by first | exact .inl rfl | exact .inr (.inl rfl) | exact .inr (.inr rfl)) (hd : (x == ("__debug__" : Str)) = false := by decide) (hcd : (x == ("__classdict__" : Str)) = false := by decide) : JE X c (.Name x pos) G Q Ex := je_var hN hv hg q hd hcd
theorem v7 (q : Q d G) (hN : X.N[7]? = some x := by rfl) (hg : G[7]? = some (Sl.val d) := by rfl) (hv : Vis X.env.scope x := by first | exact .inl rfl | exact .inr (.inl rfl) | exact .inr (.inr rfl)) (hd : (x == ("__debug__" : Str)) = false := by decide) (hcd : (x == ("__classdict__" : Str)) = false := by decide) : JE X c (.Name x pos) G Q Ex := je_var hN hv hg q hd hcd
theorem v8 (q : Q d G) (hN : X.N[8]? = some x := by rfl) (hg : G[8]? = some (Sl.val d) := by rfl) (hv : Vis X.env.scope x := by first | exact .inl rfl | exact .inr (.inl rfl) | exact .inr (.inr rfl)) (hd : (x == ("__debug__" : Str)) = false := by decide) (hcd : (x == ("__classdict__" : Str)) = false := by decide) : JE X c (.Name x pos) G Q Ex := je_var hN hv hg q hd hcd
theorem v9 (q : Q d G) (hN : X.N[9]? = some x := by rfl) (hg : G[9]? = some (Sl.val d) := by rfl) (hv : Vis X.env.scope x := by first | exact .inl rfl | exact .inr (.inl rfl) | exact .inr (.inr rfl)) (hd : (x == ("__debug__" : Str)) = false := by decide) (hcd : (x == ("__classdict__" : Str)) = false := by decide) : JE X c (.Name x pos) G Q Ex := je_var hN hv hg q hd hcd
theorem v10 (q : Q d G) (hN : X.N[10]? = some x := by rfl) (hg : G[10]? = some (Sl.val d) := by rfl) (hv : Vis X.env.scope x := by first | exact .inl rfl | exact .inr (.inl rfl) | exact .inr (.inr rfl)) (hd : (x == ("__debug__" : Str)) = false := by decide) (hcd : (x == ("__classdict__" : Str)) = false := by decide) : JE X c (.Name x pos) G Q Ex := je_var hN hv hg q hd hcd
theorem v11 (q : Q d G) (hN : X.N[11]? = some x := by rfl) (hg : G[11]? = some (Sl.val d) := by rfl) (hv : Vis X.env.scope x := by first | exact .inl rfl | exact .inr (.inl rfl) | exact .inr (.inr rfl)) (hd : (x == ("__debug__" : Str)) = false := by decide) (hcd : (x == ("__classdict__" : Str)) = false := by decide) : JE X c (.Name x pos) G Q Ex := je_var hN hv hg q hd hcd
end
theorem one_sz {n : Nat} (h : n ≤ 1000) : n ≤ sizeLine := by rw [sizeLine_eq]; omega
end J
end
section
set_option maxRecDepth 100000
set_option maxHeartbeats 4000000
namespace J
open PySem PySem.Spec PyProof.Rows L2
section
variable {X : Cx} {c : JC} {G : List Sl} {i : Nat} {scope : Scope} {ifs : List Expr} {elt : Expr} {N : Addr → List D → List Sl → Prop}
theorem set_no (h : G[i]? = some .no) : G.set i .no = G := by
  obtain ⟨hi, e⟩ := List.getElem?_eq_some_iff.mp h
  apply List.ext_getElem?
  intro j
  by_cases hj : i = j
  · subst hj
    rw [List.getElem?_set_self hi, h]
  · rw [List.getElem?_set_ne hj]
/-- a comprehension that maps what passes a test -/
theorem lcL_map {l : List D} {f : D → D} {t : D → Bool} (hno : G[i]? = some .no) (hz : l.length ≤ sizeLine)
    (hB : ∀ y ∈ l, ∀ F₁ H₁ W, JB X ⟨F₁, H₁, W, c.T⟩ scope ifs (G.set i (.val y)) fun b G1 => b = t y ∧ G1 = G.set i (.val y))
    (hL : ∀ y ∈ l, t y = true → ∀ F₁ H₁ W, JL X ⟨F₁, H₁, W, c.T⟩ scope elt (G.set i (.val y)) fun d G2 => d = f y ∧ G2 = G.set i (.val y)) (q : ∀ p, N p ((l.filter t).map f) G) : LcL X c scope i ifs elt l G N := by
  obtain ⟨hi, _⟩ := List.getElem?_eq_some_iff.mp hno
  have back : ∀ y : D, (G.set i (.val y)).set i .no = G := fun y => by rw [List.set_set, set_no hno]
  have at_ : ∀ y : D, ∀ a l', (G.set i (.val y))[i]? ≠ some (Sl.own a l') := fun y a l' z => by
    rw [List.getElem?_set_self hi] at z
    cases z
  refine ⟨.no, hi, hno, (fun a l' z => by cases z), fun n acc G2 => acc = ((l.take n).filter t).map f ∧ G2 = G, ⟨rfl, set_no hno⟩, fun n y hy acc G2 hP hl F1 H1 => ?_, fun acc G2 p hP => ?_⟩
  · obtain ⟨rfl, rfl⟩ := hP
    have my := List.mem_of_getElem? hy
    have tk : l.take (n + 1) = l.take n ++ [y] := by rw [List.take_succ, hy]; rfl
    intro F σ H I s0 H0 C cl fp pins s inv
    refine thn (hB y my _ _ _ F σ H I s0 H0 C cl fp pins s inv) fun b s' ⟨H', inv', F', G', s1, I', eb, eG⟩ => ?_
    subst eb eG
    refine ⟨H', inv', F', _, s1, I', ?_⟩
    cases ht : t y with
    | true =>
      rw [if_pos rfl]
      intro s0 H0 C cl fp
      refine (hL y my ht _ _ _ s0 H0 C cl fp).imp fun d G3 ⟨ed, eG⟩ => ?_
      subst ed eG
      have hn : n < l.length := (List.getElem?_eq_some_iff.mp hy).1
      refine ⟨?_, by rw [List.length_set]; exact hi, at_ y, ?_, back y⟩
      · have h1 : (((l.take n).filter t).map f).length ≤ n := by
          rw [List.length_map]
          exact Nat.le_trans (List.length_filter_le _ _) (by rw [List.length_take]; omega)
        omega
      · rw [tk, List.filter_append, List.map_append]
        simp [ht]
    | false =>
      rw [if_neg (by simp)]
      refine ⟨by rw [List.length_set]; exact hi, at_ y, ?_, back y⟩
      rw [tk, List.filter_append, List.map_append]
      simp [ht]
  · obtain ⟨rfl, rfl⟩ := hP
    rw [set_no hno, List.take_length]
    exact q p
theorem lcL_all {l : List D} {f : D → D} (hno : G[i]? = some .no) (hz : l.length ≤ sizeLine)
    (hL : ∀ y ∈ l, ∀ F₁ H₁ W, JL X ⟨F₁, H₁, W, c.T⟩ scope elt (G.set i (.val y)) fun d G2 => d = f y ∧ G2 = G.set i (.val y)) (q : ∀ p, N p (l.map f) G) : LcL X c scope i [] elt l G N :=
  lcL_map (t := fun _ => true) hno hz (fun y _ _ _ _ => jb_nil ⟨rfl, rfl⟩) (fun y hy _ => hL y hy) (by rw [List.filter_eq_self.mpr (fun _ _ => rfl)]; exact q)
/-- over range(n) -/
theorem lcR_map {n : Int} {f : Nat → D} {t : Nat → Bool} (hno : G[i]? = some .no) (hz : n.toNat ≤ sizeLine)
    (hB : ∀ y : Nat, y < n.toNat → ∀ F₁ H₁ W, JB X ⟨F₁, H₁, W, c.T⟩ scope ifs (G.set i (.val (.int y))) fun b G1 => b = t y ∧ G1 = G.set i (.val (.int y)))
    (hL : ∀ y : Nat, y < n.toNat → t y = true → ∀ F₁ H₁ W, JL X ⟨F₁, H₁, W, c.T⟩ scope elt (G.set i (.val (.int y))) fun d G2 => d = f y ∧ G2 = G.set i (.val (.int y))) (q : ∀ p, N p (((List.range n.toNat).filter t).map f) G) : LcR X c scope i ifs elt n G N := by
  obtain ⟨hi, _⟩ := List.getElem?_eq_some_iff.mp hno
  have back : ∀ y : D, (G.set i (.val y)).set i .no = G := fun y => by rw [List.set_set, set_no hno]
  have at_ : ∀ y : D, ∀ a l', (G.set i (.val y))[i]? ≠ some (Sl.own a l') := fun y a l' z => by
    rw [List.getElem?_set_self hi] at z
    cases z
  refine ⟨.no, hi, hno, (fun a l' z => by cases z), fun n acc G2 => acc = ((List.range n).filter t).map f ∧ G2 = G, ⟨rfl, set_no hno⟩, fun n y acc G2 hP hl F1 H1 => ?_, fun acc G2 p hP => ?_⟩
  · obtain ⟨rfl, rfl⟩ := hP
    intro F σ H I s0 H0 C cl fp pins s inv
    refine thn (hB n y _ _ _ F σ H I s0 H0 C cl fp pins s inv) fun b s' ⟨H', inv', F', G', s1, I', eb, eG⟩ => ?_
    subst eb eG
    refine ⟨H', inv', F', _, s1, I', ?_⟩
    cases ht : t n with
    | true =>
      rw [if_pos rfl]
      intro s0 H0 C cl fp
      refine (hL n y ht _ _ _ s0 H0 C cl fp).imp fun d G3 ⟨ed, eG⟩ => ?_
      subst ed eG
      refine ⟨?_, by rw [List.length_set]; exact hi, at_ _, ?_, back _⟩
      · have h1 : (((List.range n).filter t).map f).length ≤ n := by
          rw [List.length_map]
          exact Nat.le_trans (List.length_filter_le _ _) (by rw [List.length_range]; omega)
        omega
      · rw [List.range_succ, List.filter_append, List.map_append]
        simp [ht]
    | false =>
      rw [if_neg (by simp)]
      refine ⟨by rw [List.length_set]; exact hi, at_ _, ?_, back _⟩
      rw [List.range_succ, List.filter_append, List.map_append]
      simp [ht]
  · obtain ⟨rfl, rfl⟩ := hP
    rw [set_no hno]
    exact q p
end
end J
end
section
set_option maxRecDepth 100000
set_option maxHeartbeats 4000000
namespace J
open PySem PySem.Spec PyProof.Rows L2
/-! ### defs that give a new list, to be changed by the caller -/
structure NSp where
  pre : List D → Prop
  post : List D → List D → Prop
def toN (K : PySem.W.Frag) (T : List (Addr × Str)) (n : Nat) (sp : NSp) : Sp := fun vs H Q _ => ∃ F ds, JX ⟨F, H, fun _ => False, T⟩ F H ∧ RepL K F ds vs ∧ ds.length = n ∧ sp.pre ds ∧
  (∀ l a xs F' H', JX ⟨F, H, fun _ => False, T⟩ F' H' → F' a = none → H a = none → H' a = some (.lst xs) → RepL K F' l xs → sp.post ds l → Q (.ref a) H')
section
variable {X : Cx} {c : JC} {e : Expr} {st : Stmt} {es : List Expr} {sts : List Stmt} {G : List Sl} {Ex : XQ} {pos p1 : Pos}
def JRs (X : Cx) (c : JC) (sts : List Stmt) (G : List Sl) (N : List D → Prop) (Ex : XQ) : Prop := Xt X c Ex → ∀ F σ H, JI X.K c F H σ G →
  wSs X sts { nx := fun _ _ => False, rt := fun v H' => ∃ F' a l σ' G', Same F F' ∧ v = .ref a ∧ AirL X c F' H' σ' G' a l ∧ N l } σ H
theorem jr_cons {N : List D → Prop} (h : JS X c st G { nx := fun G1 => JRs X c sts G1 N Ex } Ex) : JRs X c (st :: sts) G N Ex := fun x F σ H I => wSs_of (pss_cons ps_w pss_w) <|
  wS_mono (h x F σ H I) (fun σ' H' ⟨F', G', s, I', q⟩ => wSs_mono (q x F' σ' H' I') (fun _ _ z => z) (fun v H2 ⟨F2, a, l, σ2, G2, s2, z⟩ => ⟨F2, a, l, σ2, G2, s.trans s2, z⟩) (fun _ _ z => z) fun _ _ z => z)
    (fun v H' ⟨_, _, _, _, _, _, _, z⟩ => z.elim) (fun _ _ ⟨_, _, _, _, z⟩ => z.elim) fun _ _ ⟨_, _, _, _, z⟩ => z.elim
theorem jr_ret {N : List D → Prop} (h : JN X c e G (fun _ l _ => N l) Ex) : JRs X c [.Return (some e) pos] G N Ex := fun x F σ H I => wSs_of (pss_one (ps_ret pe_w)) <|
  wE_mono (h x F σ H I) fun v H' ⟨F', a, l, G', s, ev, A, q⟩ => ⟨F', a, l, σ, G', s, ev, A, q⟩
theorem okN {P : Program} {w : World} {K : PySem.W.Frag} {mg : Str → Option Value} {base : Heap} {qual : Str} {st : Stmt} {f : Addr} {fd : FuncData} {N ps : List Str} {k n : Nat} {T : List (Addr × Str)} {sp : NSp} (FN : Fd K qual st f fd) (S : FnScope N ps (defScope st)) (hn : ps.length = n) (hN : n ≤ N.length)
    (h : ∀ cdv A outer s H E F ds, RoomG k (A.deeper (envOfC qual (defScope st) s.heap.objs.size f cdv)) → PySem.W.codeIn K cdv qual = true → ds.length = n → sp.pre ds →
      JRs (DX P w K mg base qual st f N cdv A outer s H E) ⟨F, H, fun _ => False, T⟩ (defBody st) (G0 N.length ds) (fun l => sp.post ds l) NoX) :
    FnG P w K mg base (k + 1) f fd ps (toN K T n sp) := by
  obtain ⟨x, oc, od, dV, kV, doc, pm, an, cdv, ct, osl, efd, lk, hcd⟩ := FN.ex
  refine fnG_of efd lk hcd S (fun vs H Q E ⟨F, ds, _, r, hl, _⟩ => by rw [r.length, hl, hn]) fun A outer s H vs Q E hr hsp => ?_
  obtain ⟨F, ds, jx, r, hl, hp, hq⟩ := hsp
  refine wSs_mono (h cdv A outer s H E F ds hr hcd hl hp Xt.no F _ H (ji_start jx r (by omega))) (fun _ _ z => z.elim) ?_ (fun _ _ z => z.elim) fun _ _ z => z.elim
  rintro v H' ⟨F', a, l, σ', G', s', ev, A', q⟩
  subst ev
  obtain ⟨xs, h1, h2⟩ := A'.at_
  exact hq l a xs F' H' A'.ji.jx A'.fn A'.h0 h1 h2 q
structure CalN (P : Program) (w : World) (K : PySem.W.Frag) (mg : Str → Option Value) (base : Heap) (T : List (Addr × Str)) (k : Nat) (name : Str) (ps : List Str) (n : Nat) (sp : NSp) : Prop where
  ex : ∃ f fd, mg name = some (.ref f) ∧ PySem.W.keepIn K (.ref f) = true ∧ Binds K fd ps [] ∧ FnG P w K mg base k f fd ps (toN K T n sp)
theorem jn_call {k j n : Nat} {ps : List Str} {x : Str} {sp : NSp} {N : Addr → List D → List Sl → Prop} (C : CalN X.prog X.w X.K X.mg X.base c.T k x ps n sp) (hr : RoomG j X.A) (hkj : k ≤ j) (hg : Gl X x)
    (h : JA X c (e :: es) G (fun ds G1 => ds.length = n ∧ sp.pre ds ∧ ∀ l p, sp.post ds l → N p l G1) Ex) (hdb : (x == ("__debug__" : Str)) = false := by decide)
    (he : starEach (e :: es) X.env = (false, eval e X.env) :: starEach es X.env := by rfl) (hpl : (backTo pos (starEach es X.env)).any (·.1) = false := by rfl) : JN X c (.Call (.Name x p1) (e :: es) [] pos) G N Ex := by
  obtain ⟨f, fd, hm, hk, hb, FG⟩ := C.ex
  intro xt F σ H I pins s i
  obtain ⟨W, tk, hW⟩ := id xt
  refine wpAny_Call_Name_kw (ld_glob i hg hm ?_ hdb)
  refine PySem.W.callWith_K (h₀ := X.base) i.ok.mod.kin hk (thn (h xt F σ H I pos pins s i) fun us s1 ⟨vs, H1, i1, r, F1, ds, G1, s2, I1, rd, hn, hp, q⟩ => ⟨i1.kIn, ?_⟩) he hpl
  have t : toN X.K c.T n sp vs H1 (QN X c F σ N) (WE W σ) := ⟨F1, ds, I1.jx.again, rd, hn, hp, fun l a xs F' H' y n1 n2 n3 r3 p => by
    have I2 : JI X.K c F' H' σ G1 := I1.call y fun _ z => z
    refine ⟨F', a, l, G1, s2.trans y.ff, rfl, ⟨I2, n1, I1.jx.gone n2, ⟨xs, n3, r3⟩, fun j' l' z => ?_⟩, q l a p⟩
    obtain ⟨_, _, _, ys, e4, _⟩ := I1.own j' a l' z
    rw [n2] at e4
    cases e4⟩
  have hl : us.length = ps.length := by rw [← r.length]; exact FG.len _ _ _ _ t
  refine wpAny_call (codeAny_mono (run_g FG (hr.mono hkj) tk i1 (by have b := hb s1 us i1.kIn (by rw [List.append_nil]; exact hl); rw [List.append_nil] at b; exact b) r t) fun r s' hq => ?_)
  cases r with
  | error e => exact hq
  | ok fl =>
    cases fl with
    | ret u => exact hq
    | next => exact False.elim hq
    | brk => exact False.elim hq
    | cont => exact False.elim hq
end
end J
end
section
set_option maxRecDepth 100000
set_option maxHeartbeats 4000000
namespace J
open PySem PySem.Spec PyProof.Rows L2
/-! ### comprehensions over pairs: [.. for x, y in pairs if ..] -/
section
variable {X : Cx} {c : JC} {G : List Sl} {Ex : XQ} {i j : Nat} {scope : Scope} {ifs : List Expr} {elt iter : Expr} {N : Addr → List D → List Sl → Prop} {F H : Hp} {σ : L2.St} {x y : Str} {kt : Nat} {pt pos p1 p2 : Pos}
theorem set2_at {α : Type} {l : List α} {a b : α} {k : Nat} (hij : i ≠ j) (hi : i < l.length) (hj : j < l.length) : ((l.set i a).set j b)[k]? = if k = j then some b else if k = i then some a else l[k]? := by
  by_cases h1 : k = j
  · rw [if_pos h1, h1, List.getElem?_set_self (by rw [List.length_set]; exact hj)]
  · rw [if_neg h1, List.getElem?_set_ne (Ne.symm h1)]
    by_cases h2 : k = i
    · rw [if_pos h2, h2, List.getElem?_set_self hi]
    · rw [if_neg h2, List.getElem?_set_ne (Ne.symm h2)]
structure L2I (X : Cx) (c : JC) (F₀ : Hp) (σ : L2.St) (i j : Nat) (E : Addr) (G : List Sl) (acc : List D) (H : Hp) : Prop where
  ex : ∃ F xs, Same F₀ F ∧ JI X.K c F H (wipe σ [i, j]) G ∧ F E = none ∧ c.H0 E = none ∧ H E = some (.lst xs) ∧ RepL X.K F acc xs ∧ ∀ (k : Nat) l', G[k]? ≠ some (Sl.own E l')
theorem jn_lc2 {l : List D} {f : D → D → D} {t : D → D → Bool} (hc : X.calm = true) (hN : X.N.Nodup) (ok : BlkOk X.N X.env.scope scope [(x, i), (y, j)])
    (hg : ∀ (s : Shared) (H : Hp) (C : Addr) (cl : List (Str × Addr)) (fp : List Addr), PGs (X.blk s H scope (compEnvC scope cl C X.env) fp) [.Name x p1, .Name y p2] (gNs [i, j])) (hij : i ≠ j) (hi : G[i]? = some .no) (hj : G[j]? = some .no)
    (h : ∀ G0 : List Sl, G0 = G → JE X c iter G0 (fun d G1 => G1 = G ∧ d = .lst l) Ex) (hz : l.length ≤ sizeLine)
    (hB : ∀ a b, D.tup [a, b] ∈ l → ∀ F₁ H₁ W, JB X ⟨F₁, H₁, W, c.T⟩ scope ifs ((G.set i (.val a)).set j (.val b)) fun k G1 => k = t a b ∧ G1 = (G.set i (.val a)).set j (.val b))
    (hL : ∀ a b, D.tup [a, b] ∈ l → t a b = true → ∀ F₁ H₁ W, JL X ⟨F₁, H₁, W, c.T⟩ scope elt ((G.set i (.val a)).set j (.val b)) fun d G2 => d = f a b ∧ G2 = (G.set i (.val a)).set j (.val b))
    (hp : ∀ d ∈ l, ∃ a b, d = .tup [a, b]) (q : ∀ p, N p (l.filterMap fun d => match d with | .tup [a, b] => if t a b = true then some (f a b) else none | _ => none) G)
    (hcb : ∀ (s : Shared) (H : Hp) (C : Addr) (cl : List (Str × Addr)) (fp : List Addr), (X.blk s H scope (compEnvC scope cl C X.env) fp).calm = true := by intros; rfl)
    (ht : ∀ (s : Shared) (H : Hp) (C : Addr) (cl : List (Str × Addr)) (fp : List Addr), (assignEach [.Name x p1, .Name y p2] (X.blk s H scope (compEnvC scope cl C X.env) fp).env).length = 2 := by intros; rfl) (hst : ∀ (s : Shared) (H : Hp) (C : Addr) (cl : List (Str × Addr)) (fp : List Addr), (assignEach [.Name x p1, .Name y p2] (X.blk s H scope (compEnvC scope cl C X.env) fp).env).findIdx? (·.1) = none := by intros; rfl)
    (hs : ∀ x, foldedSetIterable iter X.env x = pure x := by intro _; rfl) : JN X c (.ListComp elt [⟨.Tuple [.Name x p1, .Name y p2] kt pt, iter, ifs, 0⟩] scope pos) G N Ex := by
  have lti := (List.getElem?_eq_some_iff.mp hi).1
  have ltj := (List.getElem?_eq_some_iff.mp hj).1
  have gs : ∀ (a b : D) (k : Nat), ((G.set i (.val a)).set j (.val b))[k]? = if k = j then some (.val b) else if k = i then some (.val a) else G[k]? := fun a b k => set2_at hij lti ltj
  have own2 : ∀ a b : D, Owns ((G.set i (.val a)).set j (.val b)) = Owns G := fun a b => funext fun e => propext (by
    constructor
    · rintro ⟨k, l', z⟩
      rw [gs] at z
      split at z
      · cases z
      · split at z
        · cases z
        · exact ⟨k, l', z⟩
    · rintro ⟨k, l', z⟩
      refine ⟨k, l', ?_⟩
      rw [gs, if_neg (fun w => by rw [w, hj] at z; cases z), if_neg (fun w => by rw [w, hi] at z; cases z)]
      exact z)
  have wl : ∀ σ : L2.St, (wipe σ [i, j]).length = σ.length := fun σ => wipe_length σ _
  have wipe2 : ∀ σ : L2.St, wipe σ [i, j] = (σ.set j none).set i none := fun σ => rfl
  refine jn_of (pe_lc (own := [(x, i), (y, j)]) (g := gTup X.K 2 (gNs [i, j])) hc hN (pi_list pe_w) ok (fun s H C cl fp => pg_tup (X := X.blk s H scope (compEnvC scope cl C X.env) fp) (hcb s H C cl fp) (hg s H C cl fp) (ht s H C cl fp) (hst s H C cl fp)) pts_b pe_b hs) fun xt F σ H I => ?_
  refine wE_mono (h G rfl xt F σ H I) fun v H1 ⟨F1, d1, G1, s1, I1, r1, eG, e1⟩ => ?_
  subst eG e1
  obtain ⟨p, xs, rfl, hx, hr⟩ := r1
  have hlen := I1.len
  -- the slots of the block's names forgotten
  have wiped : ∀ {c : JC} {F H σ}, JI X.K c F H σ G1 → JI X.K c F H (wipe σ [i, j]) G1 := fun {c F H σ} J => J.weak (by rw [wl]; exact J.len) (fun k d e => ⟨e, by
      rw [wipe2, set2_at (Ne.symm hij) (by rw [J.len]; exact ltj) (by rw [J.len]; exact lti), if_neg (fun w => by rw [w, hi] at e; cases e), if_neg (fun w => by rw [w, hj] at e; cases e)]⟩) fun k a l' e => ⟨e, by
      rw [wipe2, set2_at (Ne.symm hij) (by rw [J.len]; exact ltj) (by rw [J.len]; exact lti), if_neg (fun w => by rw [w, hi] at e; cases e), if_neg (fun w => by rw [w, hj] at e; cases e)]⟩
  have back : ∀ {c : JC} {F H σ}, JI X.K c F H (wipe σ [i, j]) G1 → JI X.K c F H σ G1 := fun {c F H σ} J => J.weak (by rw [← wl]; exact J.len) (fun k d e => ⟨e, by
      rw [wipe2, set2_at (Ne.symm hij) (by rw [← wl, J.len]; exact ltj) (by rw [← wl, J.len]; exact lti), if_neg (fun w => by rw [w, hi] at e; cases e), if_neg (fun w => by rw [w, hj] at e; cases e)]⟩) fun k a l' e => ⟨e, by
      rw [wipe2, set2_at (Ne.symm hij) (by rw [← wl, J.len]; exact ltj) (by rw [← wl, J.len]; exact lti), if_neg (fun w => by rw [w, hi] at e; cases e), if_neg (fun w => by rw [w, hj] at e; cases e)]⟩
  let g : D → Option D := fun d => match d with | .tup [a, b] => if t a b = true then some (f a b) else none | _ => none
  refine ⟨p, rfl, ⟨xs, SqL.of (I1.jx.fh _ _ hx)⟩, fun E hE => lc_list (K := X.K) (xs := xs) (fun n H => L2I X c F1 σ i j E G1 ((l.take n).filterMap g) H) ?_ (fun n H _ hI => ?_) (fun n z H hy hI => ?_) fun H hI => ?_⟩
  · have A := air_new (l := []) (xs := []) I1 (show RepL X.K F1 [] [] from rfl) hE
    exact ⟨F1, [], Same.refl _, wiped A.ji, A.fn, A.h0, upd_same, rfl, A.ne⟩
  · obtain ⟨F2, _, sF, J, _⟩ := hI.ex
    exact SqL.of (J.jx.fh _ _ (sF _ _ hx))
  · obtain ⟨d, hd1, hd2⟩ := hr.get' hy
    have md := List.mem_of_getElem? hd1
    obtain ⟨a, b, rfl⟩ := hp d md
    have tk : l.take (n + 1) = l.take n ++ [.tup [a, b]] := by rw [List.take_succ, hd1]; rfl
    obtain ⟨F2, ys, sF, J, e1, e2, e3, e4, e5⟩ := hI.ex
    obtain ⟨pz, zs, rfl, hz1, hz2⟩ := hd2.mono sF
    have Gs : JI X.K c F2 H (((wipe σ [i, j]).set i (some (zs.getD 0 .non))).set j (some (zs.getD 1 .non))) ((G1.set i (.val a)).set j (.val b)) := by
      obtain ⟨va, r0, rfl, ra, vb, r1, rfl, rb, e⟩ := hz2
      exact (J.setV ra lti).setV rb (by rw [List.length_set]; exact ltj)
    have Gre : JI X.K (c.re F2 H G1) F2 H (((wipe σ [i, j]).set i (some (zs.getD 0 .non))).set j (some (zs.getD 1 .non))) ((G1.set i (.val a)).set j (.val b)) := by
      have z := Gs.re
      unfold JC.re at z ⊢
      rw [own2] at z
      exact z
    have wset : wipe (((wipe σ [i, j]).set i (some (zs.getD 0 .non))).set j (some (zs.getD 1 .non))) [i, j] = wipe σ [i, j] := by
      apply List.ext_getElem?
      intro k
      have li : i < σ.length := by rw [← wl, J.len]; exact lti
      have lj : j < σ.length := by rw [← wl, J.len]; exact ltj
      rw [wipe2, set2_at (Ne.symm hij) (by simp [wl, lj]) (by simp [wl, li]), set2_at hij (by rw [wl]; exact li) (by rw [wl]; exact lj), wipe2, set2_at (Ne.symm hij) lj li]
      by_cases h1 : k = i <;> by_cases h2 : k = j <;> simp [h1, h2]
    have unset : ∀ {F' H'}, JI X.K (c.re F2 H G1) F' H' (((wipe σ [i, j]).set i (some (zs.getD 0 .non))).set j (some (zs.getD 1 .non))) ((G1.set i (.val a)).set j (.val b)) → JI X.K c F' H' (wipe σ [i, j]) G1 ∧ F' E = none ∧ H' E = some (.lst ys) := fun {F' H'} Q => by
      have nw : ¬ Owns G1 E := fun ⟨k, l', z⟩ => e5 k l' z
      have Q2 : JI X.K c F' H' (((wipe σ [i, j]).set i (some (zs.getD 0 .non))).set j (some (zs.getD 1 .non))) ((G1.set i (.val a)).set j (.val b)) := by
        refine Gs.unre (G' := (G1.set i (.val a)).set j (.val b)) ?_
        unfold JC.re at Q ⊢
        rw [own2]
        exact Q
      have Q3 : JI X.K c F' H' (wipe (((wipe σ [i, j]).set i (some (zs.getD 0 .non))).set j (some (zs.getD 1 .non))) [i, j]) G1 := by
        have li : i < σ.length := by rw [← wl, J.len]; exact lti
        have lj : j < σ.length := by rw [← wl, J.len]; exact ltj
        have key : ∀ (k : Nat) s, G1[k]? = some s → s ≠ .no → ((G1.set i (.val a)).set j (.val b))[k]? = some s ∧ (wipe (((wipe σ [i, j]).set i (some (zs.getD 0 .non))).set j (some (zs.getD 1 .non))) [i, j])[k]? = (((wipe σ [i, j]).set i (some (zs.getD 0 .non))).set j (some (zs.getD 1 .non)))[k]? := fun k s e hs => by
          have k1 : k ≠ i := fun w => by rw [w, hi] at e; exact hs (Option.some.inj e).symm
          have k2 : k ≠ j := fun w => by rw [w, hj] at e; exact hs (Option.some.inj e).symm
          refine ⟨by rw [gs, if_neg k2, if_neg k1]; exact e, ?_⟩
          rw [wset, set2_at hij (by rw [wl]; exact li) (by rw [wl]; exact lj), if_neg k2, if_neg k1]
        exact Q2.weak (by rw [wl, List.length_set, List.length_set, wl, ← wl σ, J.len]) (fun k d e => key k _ e (fun w => by cases w)) fun k e l' z => key k _ z (fun w => by cases w)
      rw [wset] at Q3
      exact ⟨Q3, Q.jx.nf E (show H E ≠ none by rw [e3]; simp) e1, Q.jx.hh E _ e3 nw (fun ps z => nomatch z)⟩
    obtain ⟨va, r0, rfl, ra, vb, r1, rfl, rb, e⟩ := hz2
    have e : r1 = [] := e
    subst e
    refine ⟨pz, [va, vb], rfl, Same.sqt J.jx.fh hz1, rfl, va, [vb], rfl, vb, [], rfl, rfl, ?_⟩
    have tb := hB a b md F2 H (Owns G1) F2 _ H Gre
    refine ⟨wset, fun s0 H0 C cl fp pins s inv => thn (tb s0 H0 C cl fp pins s inv) fun k s' ⟨H3, inv3, F3, G3, s3, I3, ek, eG⟩ => ⟨H3, inv3, ?_⟩⟩
    subst ek eG
    rw [show (l.take (n + 1)).filterMap g = (l.take n).filterMap g ++ (if t a b = true then [f a b] else []) by
      rw [tk, List.filterMap_append]
      congr 1
      have eg : g (.tup [a, b]) = if t a b = true then some (f a b) else none := rfl
      show List.filterMap g [.tup [a, b]] = _
      rw [List.filterMap_cons, eg]
      cases t a b <;> rfl]
    cases hk : t a b with
    | false =>
      rw [if_neg Bool.false_ne_true, if_neg Bool.false_ne_true, List.append_nil]
      obtain ⟨J3, b1, b2⟩ := unset I3
      exact ⟨F3, ys, sF.trans s3, J3, b1, e2, b2, e4.mono s3, e5⟩
    | true =>
      rw [if_pos rfl, if_pos rfl]
      intro s1 H1 C1 cl1 fp1 pins1 s2 inv1
      refine thn (hL a b md hk F2 H (Owns G1) s1 H1 C1 cl1 fp1 Xt.no F3 _ H3 I3 pins1 s2 inv1) fun u s4 ⟨w, H4, inv4, rw', F4, d, G4, s4, I4, rd, ed, eG⟩ => ⟨w, H4, inv4, rw', ?_⟩
      subst ed eG
      obtain ⟨J4, b1, b2⟩ := unset I4
      have e4' := (e4.mono s3).mono s4
      refine ⟨ys, b2, ?_, F4, ys ++ [w], sF.trans (s3.trans s4), ?_, b1, e2, upd_same, e4'.append (.one rd), e5⟩
      · rw [e4'.length]
        have := List.length_filterMap_le g (l.take n)
        have h2 : (l.take n).length ≤ n := by rw [List.length_take]; omega
        have h3 := (List.getElem?_eq_some_iff.mp hd1).1
        omega
      · refine J4.mono (J4.jx.write b1 (.inr e2) b2) (Same.refl _) fun k a l' z => ?_
        have n : a ≠ E := fun w => e5 k l' (w ▸ z)
        rw [upd_ne n]
        exact ⟨(J4.own k a l' z).2.1, rfl⟩
  · rw [hr.length, List.take_length] at hI
    obtain ⟨F2, ys, sF, J, e1, e2, e3, e4, e5⟩ := hI.ex
    exact ⟨F2, E, _, G1, s1.trans sF, rfl, ⟨back J, e1, e2, ⟨ys, e3, e4⟩, e5⟩, q E⟩
end
end J
end
section
set_option maxRecDepth 100000
set_option maxHeartbeats 4000000
namespace J
open PySem PySem.Spec PyProof.Rows L2
/-- okP, the code object told -/
theorem okPc {P : Program} {w : World} {K : PySem.W.Frag} {mg : Str → Option Value} {base : Heap} {qual : Str} {st : Stmt} {f : Addr} {fd : FuncData} {N ps : List Str} {k n : Nat} {T : List (Addr × Str)} {sp : PSp} (FN : Fd K qual st f fd) (S : FnScope N ps (defScope st)) (hn : ps.length = n + 1) (hN : n + 1 ≤ N.length)
    (h : ∀ cdv A outer s H E F a l ds, fd.code = cdv → RoomG k (A.deeper (envOfC qual (defScope st) s.heap.objs.size f cdv)) → ds.length = n → sp.pre l ds →
      JSs (DX P w K mg base qual st f N cdv A outer s H E) ⟨F, H, (· = a), T⟩ (defBody st) (.own a l :: G0 (N.length - 1) ds) { nx := fun G => ∃ l', G[0]? = some (Sl.own a l') ∧ sp.post l ds .non l', rt := fun d G => ∃ l', G[0]? = some (Sl.own a l') ∧ sp.post l ds d l' } NoX) :
    FnG P w K mg base (k + 1) f fd ps (toP K T n sp) := by
  obtain ⟨x, oc, od, dV, kV, doc, pm, an, cdv, ct, osl, efd, lk, hcd⟩ := FN.ex
  have ec : fd.code = cdv := by rw [efd] <;> rfl
  refine fnG_of efd lk hcd S (fun vs H Q E ⟨F, a, xs, l, ds, vr, e, _, _, _, _, r, hl, _⟩ => by rw [e, List.length_cons, r.length, hl, hn]) fun A outer s H vs Q E hr hsp => ?_
  obtain ⟨F, a, xs, l, ds, vr, rfl, jx, h1, h2, h3, r, hl, hp, hq⟩ := hsp
  refine wSs_mono (h cdv A outer s H E F a l ds ec hr hl hp Xt.no F _ H (ji_startP jx r (by omega) h1 rfl h2 h3)) ?_ ?_ (fun _ _ ⟨_, _, _, _, z⟩ => z) fun _ _ ⟨_, _, _, _, z⟩ => z
  · rintro σ' H' ⟨F', G', s', I', l', e, q⟩
    obtain ⟨_, e2, _, ys, e4, e5⟩ := I'.own 0 a l' e
    exact hq .non l' .non F' H' ys I'.jx e2 e4 e5 rfl q
  · rintro v H' ⟨F', d, σ', G', s', I', rd, l', e, q⟩
    obtain ⟨_, e2, _, ys, e4, e5⟩ := I'.own 0 a l' e
    exact hq d l' v F' H' ys I'.jx e2 e4 e5 rd q
/-- a def that may be called by names -/
structure CalK (P : Program) (w : World) (K : PySem.W.Frag) (mg : Str → Option Value) (base : Heap) (T : List (Addr × Str)) (k : Nat) (name : Str) (ps ks : List Str) (n : Nat) (perm : {α : Type} → List α → List α) (sp : FSp) : Prop where
  ex : ∃ f fd, mg name = some (.ref f) ∧ PySem.W.keepIn K (.ref f) = true ∧ KB K fd ps ks n perm ∧ FnG P w K mg base k f fd ps (toV K T n sp)
theorem je_k {X : Cx} {c : JC} {G : List Sl} {Ex : XQ} {pos p1 : Pos} {Q : D → List Sl → Prop} {k j n : Nat} {ps ks : List Str} {x : Str} {sp : FSp} {kws : List Keyword} {perm : {α : Type} → List α → List α} (C : CalK X.prog X.w X.K X.mg X.base c.T k x ps ks n perm sp) (hr : RoomG j X.A) (hkj : k ≤ j) (hg : Gl X x)
    (hpr : ∀ {F : Hp} {ds : List D} {vs : List V}, ds.length = n → RepL X.K F ds vs → RepL X.K F (perm ds) (perm vs))
    (h : JK X c kws G (fun ds G1 => ds.length = n ∧ (perm ds).length = n ∧ sp.pre (perm ds) ∧ (∀ d, sp.post (perm ds) d → Q d G1) ∧ (∀ C d, sp.exc (perm ds) C d → Ex C d G1)) Ex)
    (hall : (backToKw pos (keywordEach kws X.env)).all (·.1.isSome) = true := by rfl) (hks : (backToKw pos (keywordEach kws X.env)).filterMap (·.1) = ks := by rfl) (hdb : (x == ("__debug__" : Str)) = false := by decide)
    (hpl : ((backTo pos (starEach [] X.env)).any (·.1) || (backToKw pos (keywordEach kws X.env)).any (·.1.isNone)) = false := by rfl) : JE X c (.Call (.Name x p1) [] kws pos) G Q Ex := by
  obtain ⟨f, fd, h1, h2, h3, h4⟩ := C.ex
  exact je_callK h4 (hr.mono hkj) hg h1 h2 h3 hpr h hall hks hdb hpl
/-- where a def's lambdas lay their code objects -/
structure LamF (base : Heap) (mg : Str → Option Value) (T : List (Addr × Str)) (fd : FuncData) (qual : Str) : Prop where
  ex : ∃ cc PP, fd.code = .ref cc ∧ LamX.TabB base mg cc PP ∧ (PP, (qual ++ ".<locals>." : Str) ++ "<lambda>") ∈ T ∧ ∀ p ∈ T, p.1 = PP → p.2 = (qual ++ ".<locals>." : Str) ++ "<lambda>"
end J
end
section
set_option maxRecDepth 100000
set_option maxHeartbeats 4000000
namespace J
open PySem PySem.Spec PyProof.Rows L2
section
variable {X : Cx} {c : JC} {a : Expr} {G : List Sl} {Ex : XQ} {N : Addr → List D → List Sl → Prop}
/-- xs[::0 - 1] -/
theorem pe_rev0 {e : Expr} {te : TE} {k1 k2 : Nat} {p1 p2 p3 p4 pos : Pos} (he : PE X e te) : PE X (.Subscript e (.Slice none none (some (.BinOp (.Constant (.int 0) k1 p1) .Sub (.Constant (.int 1) k2 p2) p3)) p4) pos) (tRevL X.K te) := by
  have step := po_some (pe_op (pos := p3) op_sub (pe_int (X := X) (i := 0) (j := k1) (pos := p1)) (pe_int (i := 1) (j := k2) (pos := p2)))
  constructor
  intro pins s σ H Q I h
  refine Subscript_ (thn (he.run pins s σ H _ I h) fun v s1 ⟨x, H1, I1, r1, b, xs, ex, hx, q⟩ => ?_)
  subst ex
  cases r1
  refine wpAny_Slice (thn (po_none.run pins s1 σ H1 (fun o H2 => o = none ∧ H2 = H1) I1 ⟨rfl, rfl⟩) fun vl s2 ⟨l, H2, I2, pl, el, e2⟩ => thn (po_none.run pins s2 σ H2 (fun o H3 => o = none ∧ H3 = H2) I2 ⟨rfl, rfl⟩) fun vu s3 ⟨u, H3, I3, pu, eu, e3⟩ => thn (step.run pins s3 σ H3 (fun o H4 => o = some (-1) ∧ H4 = H3) I3 ?_) fun vs s4 ⟨o, H4, I4, ps, eo, e4⟩ => ?_)
  · exact ⟨0, 1, rfl, rfl, -1, rfl, rfl, rfl⟩
  subst el e2 eu e3 eo e4
  have I5 : Inv X pins σ H4 { s4 with heap := s4.heap.push { cls := .type "slice", data := .fields #[vl, vu, vs] } } := I4.kept (t' := s4.toks) fun b ob q => Heap.get?_push_of_some _ q
  obtain ⟨its, r, ht, hz⟩ := I5.list hx
  have hlen := r.length
  refine tail_any (ops := [.ref b, .ref s4.heap.objs.size]) ht.isList.typeIs (PySem.slot_list_getitem.lookup) (wpAny_getItem_list_slice ht.isList (Heap.IsSliceOf.new _ vl vu vs) pl pu ps (by decide) ?_ (by rw [List.size_toArray]; omega)) (by with_unfolding_all rfl)
  rw [PySem.W.krv_pick]
  exact ⟨.ref _, _, I5.laid (t' := s4.toks) (o := .lst xs.reverse) (fun b ob q => Heap.get?_push_of_some _ q) (Nat.le_refl _) ⟨by rw [List.length_reverse]; exact hz, _, 0, r.reverse, Heap.get?_push_size _ rfl⟩, rfl, q _ (I5.hok.fresh (Nat.le_refl _))⟩
theorem jn_rev0 {k1 k2 : Nat} {p1 p2 p3 p4 pos : Pos} (h : JE X c a G (fun d G1 => ∃ l, d = .lst l ∧ ∀ p, N p l.reverse G1) Ex) : JN X c (.Subscript a (.Slice none none (some (.BinOp (.Constant (.int 0) k1 p1) .Sub (.Constant (.int 1) k2 p2) p3)) p4) pos) G N Ex :=
  jn_of (pe_rev0 pe_w) fun x F σ H I => wE_mono (h x F σ H I) fun v H1 ⟨F1, d1, G1, s1, I1, r1, l, e1, q⟩ => by
    subst e1
    obtain ⟨p, xs, ev, hp, hl⟩ := r1
    exact ⟨p, xs, ev, SqL.of (I1.jx.fh _ _ hp), fun t ht => ⟨F1, t, _, G1, s1, rfl, air_new I1 hl.reverse ht, q t⟩⟩
/-- a list of ours beside the purse is frozen -/
theorem jss_freezeP {sts : List Stmt} {D₀ : JD} {i : Nat} {p ad : Addr} {l l0 : List D} (hW : ∀ b, c.W b → b = ad) (h0 : G[0]? = some (Sl.own ad l0)) (hi : G[i]? = some (Sl.own p l)) (hne : i ≠ 0) (h : JSs X c sts (G.set i (.val (.lst l))) D₀ Ex) : JSs X c sts G D₀ Ex := fun xt F σ H I => by
  obtain ⟨_, _, hw, _⟩ := I.own i p l hi
  have hc : c.H0 p = none := hw.elim (fun z => absurd (I.sep i 0 p l l0 hi (by rw [hW p z]; exact h0)) hne) id
  obtain ⟨F', s, I'⟩ := I.freeze hi hc
  exact wSs_base s (h xt F' σ H I')
end
end J
end
section
set_option maxRecDepth 100000
set_option maxHeartbeats 4000000
namespace J
open PySem PySem.Spec PyProof.Rows L2
section
variable {X : Cx} {c : JC} {e a : Expr} {es : List Expr} {G : List Sl} {Ex : XQ} {pos p1 : Pos} {Q : D → List Sl → Prop} {R : Bool → List Sl → Prop} {k j n : Nat} {ps : List Str} {x : Str} {f : Addr} {fd : FuncData}
/-- `x is not True`, `x is not False`, for any x -/
theorem op_notB {b : Bool} : OpR X (compareOp .IsNot) (fun x y H Q => y = .bl b ∧ Q (.bl (!decide (x = .bl b))) H) := by
  intro pins s σ H x y v u Q I rx ry h
  obtain ⟨rfl, q⟩ := h
  cases (show u = Value.bool b from ry)
  have key : plainIs v (.bool b) = true ∧ (!(v == .bool b)) = !decide (x = .bl b) := by
    cases x with
    | non => cases rx; exact ⟨rfl, by simp⟩
    | bl a => cases rx; exact ⟨rfl, by by_cases z : a = b <;> simp [z]⟩
    | int _ => obtain ⟨t, rfl⟩ := rx; exact ⟨rfl, by simp⟩
    | str _ => obtain ⟨t, rfl⟩ := rx; exact ⟨rfl, by simp⟩
    | byt _ => obtain ⟨t, rfl⟩ := rx; exact ⟨rfl, by simp⟩
    | flt _ => obtain ⟨t, rfl⟩ := rx; exact ⟨rfl, by simp⟩
    | ref _ => cases rx; exact ⟨rfl, by simp⟩
    | ty _ => cases rx; exact ⟨rfl, by simp⟩
  exact wpAny_isNot_plain key.1 (fin_bl I q key.2.symm)
theorem je_notB {b : Bool} {j pos'} (h : JE X c a G (fun x G1 => Q (.bl (!x.isBl b)) G1) Ex) : JE X c (.Compare a [.IsNot] [.Constant (.bool b) j pos'] pos) G Q Ex :=
  je_of (pe_cmpR op_notB pe_w pe_bl (nomark _)) fun x F σ H I => wE_mono (h x F σ H I) fun v H1 ⟨F1, d1, G1, s1, I1, r1, q⟩ => ⟨rfl, F1, .bl (!d1.isBl b), G1, s1, I1, by rw [← r1.isBl]; rfl, q⟩
theorem jt_notB {b : Bool} {j pos'} (h : JE X c a G (fun x G1 => R (!x.isBl b) G1) Ex) : JT X c (.Compare a [.IsNot] [.Constant (.bool b) j pos'] pos) G R Ex :=
  jt_of (pt_cmpR op_notB pe_w pe_bl (nomark _)) fun x F σ H I => wE_mono (h x F σ H I) fun v H1 ⟨F1, d1, G1, s1, I1, r1, q⟩ => ⟨rfl, _, rfl, F1, G1, s1, I1, by rw [r1.isBl]; exact q⟩
/-- g(e, ..): g a name that holds a def -/
theorem je_callL {sp : FSp} {i : Nat} (FG : FnG X.prog X.w X.K X.mg X.base k f fd ps (toV X.K c.T n sp)) (hr : RoomG j X.A) (hkj : k ≤ j) (hN : X.N[i]? = some x) (hv : Vis X.env.scope x) (hi : G[i]? = some (Sl.val (.ref f))) (hk : PySem.W.keepIn X.K (.ref f) = true) (hb : Binds X.K fd ps [])
    (h : JA X c (e :: es) G (fun ds G1 => ds.length = n ∧ sp.pre ds ∧ (∀ d, sp.post ds d → Q d G1) ∧ (∀ C d, sp.exc ds C d → Ex C d G1)) Ex) (hd : (x == ("__debug__" : Str)) = false := by decide) (hcd : (x == ("__classdict__" : Str)) = false := by decide)
    (he : starEach (e :: es) X.env = (false, eval e X.env) :: starEach es X.env := by rfl) (hpl : (backTo pos (starEach es X.env)).any (·.1) = false := by rfl) : JE X c (.Call (.Name x p1) (e :: es) [] pos) G Q Ex := by
  intro xt F σ H I pins s i0
  obtain ⟨W, tk, hW⟩ := id xt
  obtain ⟨v0, hs0, rv0⟩ := I.val i _ hi
  obtain rfl : v0 = .ref f := rv0
  refine wpAny_Call_Name_kw (thn ((pe_var (pos := p1) (i := i) hN hv hd hcd).run pins s σ H (fun v H1 => v = .ref f ∧ H1 = H) i0 ⟨.ref f, hs0, rfl, rfl⟩) fun u s0 ⟨v, H0, i1, r1, q1, q2⟩ => ?_)
  subst q1 q2
  obtain rfl : u = Value.ref f := r1
  refine PySem.W.callWith_K (h₀ := X.base) i1.ok.mod.kin hk (thn (h xt F σ _ I pos pins s0 i1) fun us s1 ⟨vs, H1, i1, r, F1, ds, G1, s2, I1, rd, hn, q⟩ => ⟨i1.kIn, ?_⟩) he hpl
  have t := toV_at (sp := sp) I1 s2 hW rd hn q
  have hl : us.length = ps.length := by rw [← r.length]; exact FG.len _ _ _ _ t
  refine wpAny_call (codeAny_mono (run_g FG (hr.mono hkj) tk i1 (by have b := hb s1 us i1.kIn (by rw [List.append_nil]; exact hl); rw [List.append_nil] at b; exact b) r t) fun r s' hq => ?_)
  cases r with
  | error e => exact hq
  | ok fl =>
    cases fl with
    | ret u => exact hq
    | next => exact False.elim hq
    | brk => exact False.elim hq
    | cont => exact False.elim hq
end
end J
end
section
namespace J
open PySem PySem.Spec PyProof.Rows L2
def rt (q : Rat) : D := .tup [.int q.num, .int q.den]
theorem rt_inj {p q : Rat} (h : rt p = rt q) : p = q := by
  unfold rt at h
  injection h with h
  injection h with h1 h
  injection h with h2 _
  injection h1 with h1
  injection h2 with h2
  exact Rat.ext h1 (by omega)
/-- fractions by numbers below 2 ^ n -/
structure Sz (n : Nat) (q : Rat) : Prop where
  num : q.num.natAbs < 2 ^ n
  den : q.den < 2 ^ n
theorem cmul_of {i j : Int} {n m : Nat} (h : i.natAbs < 2 ^ n) (h' : j.natAbs < 2 ^ m) (k : n + m ≤ 100000) : CMulW i j := by
  unfold CMulW
  have l : ∀ {a b : Nat}, a < 2 ^ b → a.log2 ≤ b := fun {a b} h => by
    by_cases z : a = 0
    · subst z; simp
    · exact Nat.le_of_lt ((Nat.log2_lt z).mpr h)
  have h1 := l h
  have h2 := l h'
  omega
theorem cdiv_of {i j : Int} {n : Nat} (hj : j ≠ 0) (h : j.natAbs < 2 ^ n) (k : n ≤ 9000) : CDivX i j :=
  ⟨hj, (Nat.log2_lt (by omega)).mpr (Nat.lt_of_lt_of_le h (Nat.pow_le_pow_right (by decide) k))⟩
theorem bd_mul {i j : Int} {n m : Nat} (h : i.natAbs < 2 ^ n) (h' : j.natAbs < 2 ^ m) : (i * j).natAbs < 2 ^ (n + m) := by
  rw [Int.natAbs_mul, Nat.pow_add]
  exact Nat.mul_lt_mul'' h h'
theorem bd_add {i j : Int} {n : Nat} (h : i.natAbs < 2 ^ n) (h' : j.natAbs < 2 ^ n) : (i + j).natAbs < 2 ^ (n + 1) := by
  rw [Nat.pow_succ]; omega
theorem bd_sub {i j : Int} {n : Nat} (h : i.natAbs < 2 ^ n) (h' : j.natAbs < 2 ^ n) : (i - j).natAbs < 2 ^ (n + 1) := by
  rw [Nat.pow_succ]; omega
theorem bd_le {i : Int} {n m : Nat} (h : i.natAbs < 2 ^ n) (k : n ≤ m) : i.natAbs < 2 ^ m := Nat.lt_of_lt_of_le h (Nat.pow_le_pow_right (by decide) k)
theorem Sz.mono {n m : Nat} {q : Rat} (h : Sz n q) (k : n ≤ m) : Sz m q := ⟨Nat.lt_of_lt_of_le h.num (Nat.pow_le_pow_right (by decide) k), Nat.lt_of_lt_of_le h.den (Nat.pow_le_pow_right (by decide) k)⟩
/-- lowest terms by the greatest common divisor, the under made positive -/
theorem low_divInt {i j : Int} (hj : j ≠ 0) : ∀ g : Int, g = (if j < 0 then 0 - (Int.gcd i j : Int) else Int.gcd i j) → (Rat.divInt i j).num = i.fdiv g ∧ ((Rat.divInt i j).den : Int) = j.fdiv g := by
  intro g hg
  have gp : (0 : Int) < Int.gcd i j := by
    have := Int.gcd_pos_of_ne_zero_right i hj
    omega
  have d1 : (Int.gcd i j : Int) ∣ i := Int.gcd_dvd_left ..
  have d2 : (Int.gcd i j : Int) ∣ j := Int.gcd_dvd_right ..
  rw [Rat.num_divInt, Rat.den_divInt, if_neg hj, Int.gcd_comm j i]
  by_cases hn : j < 0
  · rw [if_pos hn, show (0 : Int) - (Int.gcd i j : Int) = -(Int.gcd i j : Int) by omega] at hg
    subst hg
    rw [Int.fdiv_eq_ediv_of_dvd (Int.neg_dvd.mpr d1), Int.fdiv_eq_ediv_of_dvd (Int.neg_dvd.mpr d2), Int.ediv_neg, Int.ediv_neg, Int.sign_eq_neg_one_of_neg hn]
    refine ⟨by rw [Int.neg_one_mul, Int.neg_ediv_of_dvd d1], ?_⟩
    rw [Int.natCast_ediv, ← Int.neg_ediv_of_dvd d2]
    congr 1
    omega
  · rw [if_neg hn] at hg
    subst hg
    rw [Int.fdiv_eq_ediv_of_dvd d1, Int.fdiv_eq_ediv_of_dvd d2, Int.sign_eq_one_of_pos (by omega), Int.one_mul]
    refine ⟨rfl, ?_⟩
    rw [Int.natCast_ediv]
    congr 1
    omega
theorem rt_low {i j g : Int} (hj : j ≠ 0) (hg : g = (if j < 0 then 0 - (Int.gcd i j : Int) else Int.gcd i j)) : D.tup [.int (i.fdiv g), .int (j.fdiv g)] = rt (Rat.divInt i j) := by
  obtain ⟨h1, h2⟩ := low_divInt hj g hg
  unfold rt
  rw [h1, h2]
/-- the size of a fraction in lowest terms -/
theorem sz_low {i j : Int} {n : Nat} (hj : j ≠ 0) (h1 : i.natAbs < 2 ^ n) (h2 : j.natAbs < 2 ^ n) : Sz n (Rat.divInt i j) := by
  constructor
  · rw [Rat.num_divInt]
    refine Nat.lt_of_le_of_lt ?_ h1
    rw [Int.natAbs_ediv_of_dvd]
    · refine Nat.le_trans (Nat.div_le_self _ _) ?_
      rw [Int.natAbs_mul, Int.natAbs_sign_of_ne_zero hj, Nat.one_mul]
      exact Nat.le_refl _
    · exact Int.dvd_trans (Int.gcd_dvd_right ..) (Int.dvd_mul_left ..)
  · rw [Rat.den_divInt, if_neg hj]
    exact Nat.lt_of_le_of_lt (Nat.div_le_self _ _) h2
theorem den_ne (q : Rat) : (q.den : Int) ≠ 0 := by have := q.den_pos; omega
theorem rt_add (p q : Rat) : Rat.divInt (p.num * q.den + q.num * p.den) (p.den * q.den) = p + q := by
  rw [← Rat.divInt_add_divInt _ _ (den_ne p) (den_ne q), Rat.num_divInt_den, Rat.num_divInt_den]
theorem rt_sub (p q : Rat) : Rat.divInt (p.num * q.den - q.num * p.den) (p.den * q.den) = p - q := by
  rw [← Rat.divInt_sub_divInt _ _ (den_ne p) (den_ne q), Rat.num_divInt_den, Rat.num_divInt_den]
theorem rt_mul (p q : Rat) : Rat.divInt (p.num * q.num) (p.den * q.den) = p * q := by
  rw [← Rat.divInt_mul_divInt, Rat.num_divInt_den, Rat.num_divInt_den]
theorem rt_div (p q : Rat) : Rat.divInt (p.num * q.den) (p.den * q.num) = p / q := by
  rw [← Rat.divInt_mul_divInt, Rat.num_divInt_den, ← Rat.inv_divInt, Rat.num_divInt_den, Rat.div_def]
theorem Sz.add {n m : Nat} {p q : Rat} (h : Sz n p) (k : Sz m q) : Sz (n + m + 1) (p + q) := by
  rw [← rt_add]
  have e := k.den
  have e' := h.den
  have z : (p.den * q.den : Int) ≠ 0 := Int.mul_ne_zero (den_ne p) (den_ne q)
  refine sz_low z (bd_add (bd_mul h.num (show (q.den : Int).natAbs < _ from e)) ?_) (bd_le (bd_mul (show (p.den : Int).natAbs < _ from e') (show (q.den : Int).natAbs < _ from e)) (by omega))
  rw [Nat.add_comm n m]
  exact bd_mul k.num (show (p.den : Int).natAbs < _ from e')
theorem Sz.mul {n m : Nat} {p q : Rat} (h : Sz n p) (k : Sz m q) : Sz (n + m) (p * q) := by
  rw [← rt_mul]
  exact sz_low (Int.mul_ne_zero (den_ne p) (den_ne q)) (bd_mul h.num k.num) (bd_mul (show (p.den : Int).natAbs < _ from h.den) (show (q.den : Int).natAbs < _ from k.den))
end J
end
section
set_option maxRecDepth 100000
namespace J
open PySem PySem.Spec PyProof.Rows L2
/-- what repr makes of d is no long text -/
structure Rp (n : Nat) (d : D) (p : PyData) : Prop where
  py : d.py = some p
  sh : p.showable = true
  lv : p.leavesShort 1921 = true
  wt : p.weight ≤ n
  dp : p.depth ≤ 50
theorem Rp.len {n : Nat} {d : D} {p : PyData} (r : Rp n d p) (h : n ≤ 8000) : p.shown.length ≤ sizeLine := by
  have := PyData.shown_le 1921 (by decide) p r.lv
  have h2 : (1921 + 2) * p.weight ≤ (1921 + 2) * 8000 := Nat.mul_le_mul_left _ (by have := r.wt; omega)
  rw [sizeLine_eq]
  omega
theorem rp_int {i : Int} {n : Nat} (h : i.natAbs < 2 ^ n) (hn : n ≤ 1900) : Rp (n + 1) (.int i) (.int i) := by
  have l : i.natAbs.log2 < 1920 := by
    by_cases z : i.natAbs = 0
    · rw [z]; decide
    · have := (Nat.log2_lt z).mpr h
      omega
  have l2 : i.natAbs.log2 ≤ n := by
    by_cases z : i.natAbs = 0
    · rw [z]; simp
    · have := (Nat.log2_lt z).mpr h
      omega
  refine ⟨rfl, by simp only [PyData.showable, decide_eq_true_eq]; exact l, ?_, ?_, by simp [PyData.depth]⟩
  · simp only [PyData.leavesShort, decide_eq_true_eq]
    exact PyProof.Rows.int_text_len_1921 l
  · simp only [PyData.weight]
    split <;> omega
theorem rp_pair {a b : D} {p q : PyData} {n m : Nat} (h : Rp n a p) (k : Rp m b q) (hd1 : p.depth ≤ 20) (hd2 : q.depth ≤ 20) : Rp (n + m + 2) (.tup [a, b]) (.tuple [p, q]) := by
  refine ⟨?_, ?_, ?_, ?_, ?_⟩
  · simp only [D.py, D.pyL, h.py, k.py]; rfl
  · simp only [PyData.showable, PyData.showableAll, h.sh, k.sh]; rfl
  · simp only [PyData.leavesShort, PyData.leavesShortAll, h.lv, k.lv]; rfl
  · have := h.wt; have := k.wt; simp only [PyData.weight, PyData.weightAll]; omega
  · simp only [PyData.depth, PyData.depthAll]; omega
theorem rp_rt {n : Nat} {q : Rat} (h : Sz n q) (hn : n ≤ 1900) : Rp (2 * n + 4) (rt q) (.tuple [.int q.num, .int q.den]) := by
  have := rp_pair (rp_int h.num hn) (rp_int (i := (q.den : Int)) h.den hn) (by simp [PyData.depth]) (by simp [PyData.depth])
  exact ⟨this.py, this.sh, this.lv, by have := this.wt; omega, this.dp⟩
end J
end
section
/-! the simplest fraction of a stretch, in plain Lean -/
namespace J
theorem inv_le {p q : Rat} (hp : 0 < p) (h : p ≤ q) : q⁻¹ ≤ p⁻¹ := by
  have hq : 0 < q := by grind
  have ip : 0 < p⁻¹ := Rat.inv_pos.mpr hp
  have iq : 0 < q⁻¹ := Rat.inv_pos.mpr hq
  have h1 := Rat.mul_le_mul_of_nonneg_left h (show 0 ≤ q⁻¹ by grind)
  rw [Rat.inv_mul_cancel q (by grind)] at h1
  have h2 := Rat.mul_le_mul_of_nonneg_left h1 (show 0 ≤ p⁻¹ by grind)
  have h3 : p⁻¹ * p = 1 := Rat.inv_mul_cancel p (by grind)
  have h4 : p⁻¹ * (q⁻¹ * p) = q⁻¹ := by rw [Rat.mul_comm q⁻¹ p, ← Rat.mul_assoc, h3, Rat.one_mul]
  rw [h4, Rat.mul_one] at h2
  exact h2
theorem add_int (r : Rat) (m : Int) : (r + m).num = r.num + m * r.den ∧ (r + m).den = r.den := by
  have e : r + m = Rat.mk' (r.num + m * r.den) r.den r.den_nz (by
      have h := r.reduced
      unfold Nat.Coprime at h ⊢
      have : Int.gcd (r.num + m * r.den) r.den = Int.gcd r.num r.den := Int.gcd_add_mul_right_left ..
      exact this.trans h) := by
    rw [← Rat.num_divInt_den (Rat.mk' _ _ _ _)]
    have : (r : Rat) + m = Rat.divInt r.num r.den + Rat.divInt m 1 := by
      rw [Rat.num_divInt_den]
      congr 1
      exact (Rat.num_divInt_den (m : Rat)).symm
    rw [this, Rat.divInt_add_divInt _ _ (den_ne r) (by decide)]
    simp
  rw [e]
  exact ⟨rfl, rfl⟩
theorem num_pos' {q : Rat} (h : 0 < q) : 0 < q.num := by
  have := (Rat.lt_iff 0 q).mp h
  simpa using this
theorem inv_parts {q : Rat} (h : 0 < q) : (q⁻¹).num = q.den ∧ ((q⁻¹).den : Int) = q.num := by
  have hn := num_pos' h
  rw [Rat.num_inv, Rat.den_inv, if_neg (by omega), Int.sign_eq_one_of_pos hn]
  omega
theorem int_parts (i : Int) : (i : Rat).num = i ∧ (i : Rat).den = 1 := ⟨rfl, rfl⟩
/-- x has the least top and the least under of the stretch -/
structure Least (lo hi x : Rat) : Prop where
  ge : lo ≤ x
  le : x ≤ hi
  num : ∀ y, lo ≤ y → y ≤ hi → x.num ≤ y.num
  den : ∀ y, lo ≤ y → y ≤ hi → x.den ≤ y.den
theorem least_int {lo hi : Rat} {w : Int} (hw : 1 ≤ w) (h1 : ((w - 1 : Int) : Rat) < lo) (h2 : lo ≤ w) (h3 : (w : Rat) ≤ hi) : Least lo hi w := by
  refine ⟨h2, h3, fun y hy _ => ?_, fun y _ _ => ?_⟩
  · have h4 : ((w - 1 : Int) : Rat) < y := by grind
    rw [Rat.lt_iff] at h4
    rw [(int_parts _).1, (int_parts _).2] at h4
    have hd := y.den_pos
    rw [(int_parts w).1]
    have : (w - 1) * 1 ≤ (w - 1) * (y.den : Int) := Int.mul_le_mul_of_nonneg_left (by omega) (by omega)
    simp at h4
    omega
  · rw [(int_parts w).2]
    exact y.den_pos
theorem least_step {lo hi z : Rat} {m : Int} (hm : 0 ≤ m) (h1 : (m : Rat) < lo) (hlh : lo ≤ hi) (h2 : hi < ((m + 1 : Int) : Rat)) (L : Least (hi - m)⁻¹ (lo - m)⁻¹ z) : Least lo hi (m + z⁻¹) := by
  have pl : 0 < lo - m := by grind
  have ph : 0 < hi - m := by grind
  have zp : 0 < z := by
    have := Rat.inv_pos.mpr ph
    have := L.ge
    grind
  have x1 := inv_le (Rat.inv_pos.mpr ph) L.ge
  have x2 := inv_le zp L.le
  rw [Rat.inv_inv] at x1 x2
  obtain ⟨zn, zd⟩ := inv_parts zp
  have xe : (m : Rat) + z⁻¹ = z⁻¹ + m := by grind
  obtain ⟨an, ad⟩ := add_int z⁻¹ m
  have key : ∀ y, lo ≤ y → y ≤ hi → z.num ≤ y.den ∧ (z.den : Int) ≤ y.num - m * y.den := fun y hy1 hy2 => by
    have py : 0 < y - m := by grind
    obtain ⟨yn, yd⟩ := inv_parts py
    have a1 := L.num (y - m)⁻¹ (inv_le py (by grind)) (inv_le pl (by grind))
    have a2 := L.den (y - m)⁻¹ (inv_le py (by grind)) (inv_le pl (by grind))
    have ye : y - m = y + ((-m : Int) : Rat) := by grind
    obtain ⟨bn, bd⟩ := add_int y (-m)
    rw [← ye] at bn bd
    rw [yn, bd] at a1
    refine ⟨a1, ?_⟩
    have : (z.den : Int) ≤ (y - m).num := by omega
    rw [bn] at this
    rw [Int.neg_mul] at this
    omega
  refine ⟨by grind, by grind, fun y hy1 hy2 => ?_, fun y hy1 hy2 => ?_⟩
  · obtain ⟨k1, k2⟩ := key y hy1 hy2
    rw [xe, an, zn]
    have : m * (z⁻¹).den ≤ m * (y.den : Int) := Int.mul_le_mul_of_nonneg_left (by omega) hm
    omega
  · obtain ⟨k1, k2⟩ := key y hy1 hy2
    rw [xe, ad]
    omega
/-- sizes of the two ends of the next stretch -/
theorem sz_next {n : Nat} {q : Rat} {m : Int} (hm : 0 ≤ m) (h1 : (m : Rat) < q) (hs : Sz n q) : Sz n (q - m) ∧ Sz n (q - m)⁻¹ ∧ (q - m).num ≤ q.num ∧ (q - m).den = q.den := by
  have p : 0 < q - m := by grind
  have e : q - m = q + ((-m : Int) : Rat) := by grind
  obtain ⟨bn, bd⟩ := add_int q (-m)
  rw [← e] at bn bd
  have np := num_pos' p
  have hd := q.den_pos
  have : 0 ≤ m * (q.den : Int) := Int.mul_nonneg hm (by omega)
  rw [Int.neg_mul] at bn
  obtain ⟨i1, i2⟩ := inv_parts p
  have h3 := hs.num
  have h4 := hs.den
  exact ⟨⟨by omega, by omega⟩, ⟨by omega, by omega⟩, by omega, bd⟩
theorem next_den {q : Rat} {m : Int} (h1 : (m : Rat) < q) (h2 : q < ((m + 1 : Int) : Rat)) : (q - m)⁻¹.den < q.den := by
  have p : 0 < q - m := by grind
  have e : q - m = q + ((-m : Int) : Rat) := by grind
  obtain ⟨bn, bd⟩ := add_int q (-m)
  rw [← e] at bn bd
  obtain ⟨i1, i2⟩ := inv_parts p
  have h3 : (q - m) < ((1 : Int) : Rat) := by grind
  rw [Rat.lt_iff, (int_parts 1).1, (int_parts 1).2] at h3
  simp at h3
  omega
theorem sz_least {n : Nat} {lo hi x : Rat} (p : 0 < lo) (hlh : lo ≤ hi) (L : Least lo hi x) (hs : Sz n lo) : Sz n x := by
  have h1 := L.num lo (by grind) hlh
  have h2 := L.den lo (by grind) hlh
  have h3 := num_pos' (show 0 < x by have := L.ge; grind)
  have h4 := hs.num
  have h5 := hs.den
  exact ⟨by omega, by omega⟩
end J
end
section
namespace J
/-- a turn of the loop may be gone with the whole number m -/
structure Stp (m : Int) (lo hi : Rat) : Prop where
  m0 : 0 ≤ m
  gt : (m : Rat) < lo
  le : lo ≤ hi
  lt : hi < ((m + 1 : Int) : Rat)
def Ch : List Int → Rat → Rat → Rat → Rat → Prop
  | [], lo, hi, l, h => l = lo ∧ h = hi
  | m :: ws, lo, hi, l, h => Stp m lo hi ∧ Ch ws (hi - m)⁻¹ (lo - m)⁻¹ l h
theorem ch_snoc {m : Int} : ∀ {ws : List Int} {lo hi l h : Rat}, Ch ws lo hi l h → Stp m l h → Ch (ws ++ [m]) lo hi (h - m)⁻¹ (l - m)⁻¹
  | [], lo, hi, l, h, ⟨e1, e2⟩, s => by subst e1 e2; exact ⟨s, rfl, rfl⟩
  | a :: ws, lo, hi, l, h, ⟨s1, c⟩, s => ⟨s1, ch_snoc c s⟩
theorem ch_last {m : Int} : ∀ {ws : List Int} {lo hi l h : Rat}, Ch (ws ++ [m]) lo hi l h → ∃ l1 h1, Ch ws lo hi l1 h1 ∧ Stp m l1 h1 ∧ l = (h1 - m)⁻¹ ∧ h = (l1 - m)⁻¹
  | [], lo, hi, l, h, ⟨s, e1, e2⟩ => ⟨lo, hi, ⟨rfl, rfl⟩, s, e1, e2⟩
  | a :: ws, lo, hi, l, h, ⟨s1, c⟩ => by
    obtain ⟨l1, h1, a1, a2, a3, a4⟩ := ch_last c
    exact ⟨l1, h1, ⟨s1, a1⟩, a2, a3, a4⟩
/-- what holds of both ends -/
structure Ends2 (n : Nat) (lo hi : Rat) : Prop where
  pos : 0 < lo
  le : lo ≤ hi
  sl : Sz n lo
  sh : Sz n hi
theorem Stp.next {n : Nat} {m : Int} {lo hi : Rat} (s : Stp m lo hi) (e : Ends2 n lo hi) : Ends2 n (hi - m)⁻¹ (lo - m)⁻¹ := by
  have h1 := s.gt
  have h2 := s.le
  have pl : 0 < lo - m := by grind
  have ph : 0 < hi - m := by grind
  exact ⟨Rat.inv_pos.mpr ph, inv_le pl (by grind), (sz_next s.m0 (by grind) e.sh).2.1, (sz_next s.m0 s.gt e.sl).2.1⟩
theorem ch_ends {n : Nat} : ∀ {ws : List Int} {lo hi l h : Rat}, Ch ws lo hi l h → Ends2 n lo hi → Ends2 n l h
  | [], lo, hi, l, h, ⟨e1, e2⟩, e => by subst e1 e2; exact e
  | m :: ws, lo, hi, l, h, ⟨s, c⟩, e => ch_ends c (s.next e)
/-- what falls by half -/
def Phi (lo hi : Rat) : Int := (lo.num + hi.num) * (lo.den + hi.den)
theorem Stp.parts {m : Int} {lo hi : Rat} (s : Stp m lo hi) : ((hi - m)⁻¹).num = hi.den ∧ (((hi - m)⁻¹).den : Int) = hi.num - m * hi.den ∧ ((lo - m)⁻¹).num = lo.den ∧ (((lo - m)⁻¹).den : Int) = lo.num - m * lo.den := by
  have h1 := s.gt
  have h2 := s.le
  have g : ∀ q : Rat, (m : Rat) < q → ((q - m)⁻¹).num = q.den ∧ (((q - m)⁻¹).den : Int) = q.num - m * q.den := fun q hq => by
    have p : 0 < q - m := by grind
    have e : q - m = q + ((-m : Int) : Rat) := by grind
    obtain ⟨bn, bd⟩ := add_int q (-m)
    rw [← e] at bn bd
    obtain ⟨i1, i2⟩ := inv_parts p
    rw [Int.neg_mul] at bn
    exact ⟨by rw [i1, bd], by rw [i2, bn]; omega⟩
  exact ⟨(g hi (by grind)).1, (g hi (by grind)).2, (g lo h1).1, (g lo h1).2⟩
theorem Stp.phi {m : Int} {lo hi : Rat} (s : Stp m lo hi) : (m = 0 → Phi (hi - m)⁻¹ (lo - m)⁻¹ = Phi lo hi) ∧ (1 ≤ m → 2 * Phi (hi - m)⁻¹ (lo - m)⁻¹ ≤ Phi lo hi) := by
  obtain ⟨a1, a2, a3, a4⟩ := s.parts
  unfold Phi
  have d1 := next_den s.gt (show lo < ((m + 1 : Int) : Rat) by have := s.le; have := s.lt; grind)
  have d2 := next_den (show (m : Rat) < hi by have := s.gt; have := s.le; grind) s.lt
  rw [a1, a2, a3, a4]
  refine ⟨fun e => ?_, fun e => ?_⟩
  · subst e
    rw [Int.zero_mul, Int.zero_mul, Int.mul_comm]
    congr 1 <;> omega
  · have p1 := lo.den_pos
    have p2 := hi.den_pos
    have k1 : 1 * (lo.den : Int) ≤ m * lo.den := Int.mul_le_mul_of_nonneg_right e (by omega)
    have k2 : 1 * (hi.den : Int) ≤ m * hi.den := Int.mul_le_mul_of_nonneg_right e (by omega)
    have t : 2 * (hi.num - m * hi.den + (lo.num - m * lo.den)) ≤ lo.num + hi.num := by omega
    have := Int.mul_le_mul_of_nonneg_left t (show (0 : Int) ≤ hi.den + lo.den by omega)
    have e1 : (2 : Int) * ((hi.den + lo.den) * (hi.num - m * hi.den + (lo.num - m * lo.den))) = (hi.den + lo.den) * (2 * (hi.num - m * hi.den + (lo.num - m * lo.den))) := by
      rw [← Int.mul_assoc, Int.mul_comm 2, Int.mul_assoc]
    rw [e1]
    rw [Int.mul_comm (lo.num + hi.num), Int.add_comm (lo.den : Int)]
    exact this
theorem phi_pos {lo hi : Rat} (h : 0 < lo) (k : lo ≤ hi) : 1 ≤ Phi lo hi := by
  have h1 := num_pos' h
  have h2 := num_pos' (show 0 < hi by grind)
  have h3 := lo.den_pos
  have h4 := hi.den_pos
  have := Int.mul_le_mul (show (1 : Int) ≤ lo.num + hi.num by omega) (show (1 : Int) ≤ lo.den + hi.den by omega) (by omega) (by omega)
  unfold Phi
  omega
/-- few turns -/
def Few (n : Nat) (ws : List Int) (lo hi : Rat) : Prop := (ws = [] ∧ Phi lo hi ≤ 2 ^ (2 * n + 2)) ∨ (1 < lo ∧ Phi lo hi * 2 ^ ws.length ≤ 2 ^ (2 * n + 3))
theorem few_start {n : Nat} {lo hi : Rat} (e : Ends2 n lo hi) : Few n [] lo hi := by
  refine .inl ⟨rfl, ?_⟩
  have a1 := e.sl.num
  have a2 := e.sl.den
  have a3 := e.sh.num
  have a4 := e.sh.den
  have p1 := num_pos' e.pos
  have p2 := num_pos' (show 0 < hi by have := e.pos; have := e.le; grind)
  have c : ((2 ^ n : Nat) : Int) = 2 ^ n := by simp
  have b1 : lo.num + hi.num ≤ 2 ^ (n + 1) := by rw [Int.pow_succ]; omega
  have b2 : (lo.den : Int) + hi.den ≤ 2 ^ (n + 1) := by rw [Int.pow_succ]; omega
  unfold Phi
  have := Int.mul_le_mul b1 b2 (by omega) (by have : (0 : Int) < 2 ^ (n + 1) := Int.pow_pos (by decide); omega)
  rw [← Int.pow_add, show n + 1 + (n + 1) = 2 * n + 2 by omega] at this
  exact this
theorem few_next {n : Nat} {ws : List Int} {m : Int} {lo hi : Rat} (f : Few n ws lo hi) (s : Stp m lo hi) : Few n (ws ++ [m]) (hi - m)⁻¹ (lo - m)⁻¹ := by
  have h1 := s.gt
  have h2 := s.le
  have h3 := s.lt
  have m0 := s.m0
  have ph : 0 < hi - m := by grind
  have big : 1 < (hi - m)⁻¹ := by
    have hlt : hi - m < 1 := by grind
    have ip := Rat.inv_pos.mpr ph
    have := Rat.mul_lt_mul_of_pos_left hlt ip
    rw [Rat.inv_mul_cancel _ (by grind), Rat.mul_one] at this
    exact this
  obtain ⟨q1, q2⟩ := s.phi
  refine .inr ⟨big, ?_⟩
  rw [List.length_append, List.length_singleton]
  rcases f with ⟨rfl, f⟩ | ⟨f1, f2⟩
  · rw [show 2 * n + 3 = (2 * n + 2) + 1 by omega, Int.pow_succ]
    have hm0 : ((0 : Int) : Rat) ≤ m := Rat.intCast_le_intCast.mpr m0
    have hp := phi_pos (show 0 < lo by grind) h2
    by_cases e : m = 0
    · rw [q1 e]
      simp
      omega
    · have := q2 (by omega)
      simp
      omega
  · have hm : 1 ≤ m := by
      have : (1 : Rat) < ((m + 1 : Int) : Rat) := by grind
      have : ((1 : Int) : Rat) < ((m + 1 : Int) : Rat) := this
      rw [Rat.intCast_lt_intCast] at this
      omega
    have := q2 hm
    have pw : (0 : Int) < 2 ^ ws.length := Int.pow_pos (by decide)
    have k := Int.mul_le_mul_of_nonneg_right this (show (0 : Int) ≤ 2 ^ ws.length by omega)
    rw [Int.pow_succ]
    have e : Phi (hi - ↑m)⁻¹ (lo - ↑m)⁻¹ * (2 ^ ws.length * 2) = 2 * Phi (hi - ↑m)⁻¹ (lo - ↑m)⁻¹ * 2 ^ ws.length := by
      rw [Int.mul_comm (2 ^ ws.length) 2, ← Int.mul_assoc, Int.mul_comm _ 2]
    rw [e]
    omega
theorem few_len {n : Nat} {ws : List Int} {lo hi : Rat} (f : Few n ws lo hi) (p : 0 < lo) (k : lo ≤ hi) : ws.length ≤ 2 * n + 3 := by
  rcases f with ⟨rfl, _⟩ | ⟨_, f⟩
  · simp
  · have h := phi_pos p k
    have pw : (0 : Int) < 2 ^ ws.length := Int.pow_pos (by decide)
    have h1 := Int.mul_le_mul_of_nonneg_right h (show (0 : Int) ≤ 2 ^ ws.length by omega)
    rw [Int.one_mul] at h1
    have h2 : (2 : Int) ^ ws.length ≤ 2 ^ (2 * n + 3) := by omega
    have h3 : (2 : Nat) ^ ws.length ≤ 2 ^ (2 * n + 3) := by exact_mod_cast h2
    exact (Nat.pow_le_pow_iff_right (by decide)).mp h3
end J
end
section
set_option maxRecDepth 100000
set_option maxHeartbeats 4000000
namespace K05
open PySem PySem.Spec PyProof.Rows L2 J
def topS (i : Nat) : Stmt := PySem.Challenge.pw_nearerstill_k05_whole_fractions_planted.main.body.getD i (.Pass ⟨0, 0, 0, 0⟩)
section
variable {P : Program} {w : World} {K : PySem.W.Frag} {mg : Str → Option Value} {base : Heap} {T : List (Addr × Str)} {f : Addr} {fd : FuncData}
/-! divisor -/
def spGcd : FSp where
  pre ds := ∃ a b : Nat, ds = [.int a, .int b]
  post ds r := ∀ a b : Nat, ds = [.int a, .int b] → r = .int (Nat.gcd a b)
theorem sc_divisor : FnScope ["one", "other"] ["one", "other"] (defScope (topS 10)) := ⟨rfl, rfl, rfl, by decide +kernel, rfl, by decide +kernel, by decide +kernel⟩
theorem ok_divisor (FN : Fd K "divisor" (topS 10) f fd) : FnG P w K mg base 1 f fd ["one", "other"] (toV K T 2 spGcd) := by
  refine okV FN sc_divisor rfl (by decide) fun cdv A outer s H E F ds hr hcd hl hp => ?_
  obtain ⟨a, b, rfl⟩ := hp
  refine jss_cons (js_while (passes_of rfl) (fun m G => ∃ x y : Nat, G = [.val (.int x), .val (.int y)] ∧ Nat.gcd x y = Nat.gcd a b ∧ m = y) ⟨b, a, b, rfl, rfl, rfl⟩ fun m G ⟨x, y, e, e1, e2⟩ => ?_)
  subst e
  refine jt_neI ?_
  refine je_var (i := 1) (by rfl) (by exact .inl rfl) (by rfl) ⟨_, rfl, ?_⟩
  refine je_int ⟨_, rfl, fun hk => ?_, fun hk => ?_⟩
  · have hy : 0 < y := by
      rcases Nat.eq_zero_or_pos y with z | z
      · rw [z] at hk; simp at hk
      · exact z
    refine jss_one ?_
    refine js_par (by rfl) sc_divisor.nd (i := 0) (j := 1) (by rfl) (by rfl) (by decide) (by rfl) (by rfl) ?_
    refine je_var (i := 1) (by rfl) (by exact .inl rfl) (by rfl) ?_
    refine je_mod ?_
    refine je_var (i := 0) (by rfl) (by exact .inl rfl) (by rfl) ⟨_, rfl, ?_⟩
    refine je_var (i := 1) (by rfl) (by exact .inl rfl) (by rfl) ⟨_, rfl, by omega, by simp, by simp, x % y, by rw [e2]; exact Nat.mod_lt _ hy, y, x % y, rfl, ?_, rfl⟩
    rw [← e1, Nat.gcd_comm x y, Nat.gcd_rec y x, Nat.gcd_comm]
  · have hy : y = 0 := by simpa using hk
    subst hy
    refine jss_one ?_
    refine js_ret ?_
    refine je_var (i := 0) (by rfl) (by exact .inl rfl) (by rfl) ?_
    intro a' b' e
    cases e
    rw [← e1, Nat.gcd_zero_right]
end
end K05
end
section
set_option maxRecDepth 100000
set_option maxHeartbeats 4000000
namespace K05
open PySem PySem.Spec PyProof.Rows L2 J
section
variable {P : Program} {w : World} {K : PySem.W.Frag} {mg : Str → Option Value} {base : Heap} {T : List (Addr × Str)} {f : Addr} {fd : FuncData}
def isNum : D → Bool | .int _ => true | _ => false
def spNum : FSp := F1 (fun d => d.py.isSome = true) fun d r => r = .bl (isNum d)
theorem ty_py : ∀ {d : D}, d.py.isSome = true → ∃ t, d.ty = some t
  | .non, _ => ⟨_, rfl⟩
  | .bl _, _ => ⟨_, rfl⟩
  | .int _, _ => ⟨_, rfl⟩
  | .str _, _ => ⟨_, rfl⟩
  | .lst _, _ => ⟨_, rfl⟩
  | .tup _, _ => ⟨_, rfl⟩
  | .dic _ _, _ => ⟨_, rfl⟩
theorem sc_num : FnScope ["value"] ["value"] (defScope (topS 8)) := ⟨rfl, rfl, rfl, by decide +kernel, rfl, by decide +kernel, by decide +kernel⟩
theorem kit_int {d : D} (h : d.py.isSome = true) : ∃ t b1 b2, d.ty = some t ∧ kitB t "int" = some b1 ∧ kitB t "bool" = some b2 ∧ (b1 && !b2) = isNum d := by
  cases d with
  | ref a => cases h
  | exc C d => cases h
  | lok l => cases h
  | non => exact ⟨_, false, false, rfl, by decide +kernel, by decide +kernel, rfl⟩
  | bl b => exact ⟨_, true, true, rfl, by decide +kernel, by decide +kernel, rfl⟩
  | int b => exact ⟨_, true, false, rfl, by decide +kernel, by decide +kernel, rfl⟩
  | str b => exact ⟨_, false, false, rfl, by decide +kernel, by decide +kernel, rfl⟩
  | lst b => exact ⟨_, false, false, rfl, by decide +kernel, by decide +kernel, rfl⟩
  | tup b => exact ⟨_, false, false, rfl, by decide +kernel, by decide +kernel, rfl⟩
  | dic b c => exact ⟨_, false, false, rfl, by decide +kernel, by decide +kernel, rfl⟩
theorem ok_num (B : Bt mg) (FN : Fd K "is_number" (topS 8) f fd) : FnG P w K mg base 1 f fd ["value"] (toV K T 1 spNum) := by
  refine okV FN sc_num rfl (by decide) fun cdv A outer s H E F ds hr hcd hl hp => ?_
  obtain ⟨d, rfl⟩ := len1 hl
  obtain ⟨t, b1, b2, e0, e1, e2, e3⟩ := kit_int hp
  refine jss_one ?_
  refine js_ret ?_
  refine je_and ?_
  refine je_isi (T := "int") B (by rfl) (by rfl) B.int (by rfl) ?_
  refine v0 ?_
  refine ⟨t, b1, e0, e1, b1, rfl, fun k => je_one (je_not ?_), fun k => ?_⟩
  · refine je_isi (T := "bool") B (by rfl) (by rfl) B.bool (by rfl) ?_
    refine v0 ?_
    refine ⟨t, b2, e0, e2, b2, rfl, ?_⟩
    show D.bl _ = D.bl _
    rw [← e3, k]; rfl
  · show D.bl _ = D.bl _
    rw [← e3, k]; rfl
end
end K05
end
section
set_option maxRecDepth 100000
set_option maxHeartbeats 4000000
namespace K05
open PySem PySem.Spec PyProof.Rows L2 J
section
variable {P : Program} {w : World} {K : PySem.W.Frag} {mg : Str → Option Value} {base : Heap} {T : List (Addr × Str)} {f : Addr} {fd : FuncData}
/-! is_count(value, least = 0): least given -/
def spCount : FSp := F2 (fun d l => d.py.isSome = true ∧ l = .int 1) fun d _ r => r = .bl (match d with | .int i => decide (1 ≤ i) | _ => false)
theorem sc_count : FnScope ["value", "least"] ["value", "least"] (defScope (topS 9)) := ⟨rfl, rfl, rfl, by decide +kernel, rfl, by decide +kernel, by decide +kernel⟩
theorem ok_count (C1 : Cal P w K mg base T 1 "is_number" ["value"] 1 spNum) (FN : Fd K "is_count" (topS 9) f fd) : FnG P w K mg base 2 f fd ["value", "least"] (toV K T 2 spCount) := by
  refine okV FN sc_count rfl (by decide) fun cdv A outer s H E F ds hr hcd hl hp => ?_
  obtain ⟨d, l, rfl⟩ := len2 hl
  obtain ⟨hp, rfl⟩ := hp
  refine jss_one ?_
  refine js_ret ?_
  refine je_and ?_
  refine je_call C1 hr (by omega) (by rfl) ?_
  refine ja_cons ?_
  refine v0 ?_
  refine ja_nil ⟨rfl, hp, ?_, fun _ _ z => z.elim⟩
  rintro _ ⟨⟩
  refine ⟨isNum d, rfl, fun k => je_one ?_, fun k => ?_⟩
  · cases d <;> try cases k
    refine je_ge ?_
    refine v0 ⟨_, rfl, ?_⟩
    exact v1 ⟨_, rfl, rfl⟩
  · cases d <;> first | rfl | cases k
def lowD : D → D → D | .int i, .int j => rt (Rat.divInt i j) | _, _ => .non
def spLow : FSp := F2 (fun a b => ∃ i j n, a = .int i ∧ b = .int j ∧ j ≠ 0 ∧ j.natAbs < 2 ^ n ∧ n ≤ 9000) fun a b r => r = lowD a b
theorem sc_low : FnScope ["top", "under", "common"] ["top", "under"] (defScope (topS 11)) := ⟨rfl, rfl, rfl, by decide +kernel, rfl, by decide +kernel, by decide +kernel⟩
theorem ok_low (B : Bt mg) (C1 : Cal P w K mg base T 1 "divisor" ["one", "other"] 2 spGcd) (FN : Fd K "by_lowest" (topS 11) f fd) : FnG P w K mg base 2 f fd ["top", "under"] (toV K T 2 spLow) := by
  refine okV FN sc_low rfl (by decide) fun cdv A outer s H E F ds hr hcd hl hp => ?_
  obtain ⟨a, b, rfl⟩ := len2 hl
  obtain ⟨i, j, n, rfl, rfl, hj, hb, hn⟩ := hp
  refine jss_cons ?_
  refine js_s (i := 2) sc_low.nd (by rfl) ?_
  refine je_call C1 hr (by omega) (by rfl) ?_
  refine ja_cons ?_
  refine je_abs B (by rfl) ?_
  refine v0 ⟨_, rfl, ?_⟩
  refine ja_cons ?_
  refine je_abs B (by rfl) ?_
  refine v1 ⟨_, rfl, ?_⟩
  refine ja_nil ⟨rfl, ⟨_, _, rfl⟩, fun r h => ?_, fun _ _ z => z.elim⟩
  obtain rfl := h _ _ rfl
  refine ⟨show 2 < 3 by decide, ?_⟩
  have gp : 0 < Nat.gcd i.natAbs j.natAbs := Nat.gcd_pos_of_pos_right _ (by omega)
  have gl : Nat.gcd i.natAbs j.natAbs ≤ j.natAbs := Nat.gcd_le_right _ (by omega)
  have fin : ∀ g : Int, g = (if j < 0 then 0 - (Int.gcd i j : Int) else Int.gcd i j) → g ≠ 0 ∧ g.natAbs < 2 ^ n := fun g hg => by
    have e : Int.gcd i j = Nat.gcd i.natAbs j.natAbs := rfl
    split at hg <;> (subst hg; constructor <;> omega)
  refine jss_cons ?_
  refine js_if ?_
  refine jt_lt ?_
  refine v1 ⟨_, rfl, ?_⟩
  refine je_int ⟨_, rfl, fun k => ?_, fun k => ?_⟩
  · refine jss_one ?_
    refine js_s (i := 2) sc_low.nd (by rfl) ?_
    refine je_sub ?_
    refine je_int ⟨_, rfl, ?_⟩
    refine v2 ⟨_, rfl, ⟨show 2 < 3 by decide, ?_⟩⟩
    have hg : (0 - (Nat.gcd i.natAbs j.natAbs : Int)) = (if j < 0 then 0 - (Int.gcd i j : Int) else Int.gcd i j) := by
      rw [if_pos (by simpa using k)]; rfl
    obtain ⟨f1, f2⟩ := fin _ hg
    refine jss_one ?_
    refine js_ret ?_
    refine je_tup ?_
    refine ja_cons ?_
    refine je_fdiv ?_
    refine v0 ⟨_, rfl, ?_⟩
    refine v2 ⟨_, rfl, cdiv_of f1 f2 hn, ?_⟩
    refine ja_cons ?_
    refine je_fdiv ?_
    refine v1 ⟨_, rfl, ?_⟩
    refine v2 ⟨_, rfl, cdiv_of f1 f2 hn, ?_⟩
    exact ja_nil ⟨one_sz (show 2 ≤ 1000 by decide), rt_low hj hg⟩
  · have hg : (Nat.gcd i.natAbs j.natAbs : Int) = (if j < 0 then 0 - (Int.gcd i j : Int) else Int.gcd i j) := by
      rw [if_neg (by simpa using k)]; rfl
    obtain ⟨f1, f2⟩ := fin _ hg
    refine jss_nil ?_
    refine jss_one ?_
    refine js_ret ?_
    refine je_tup ?_
    refine ja_cons ?_
    refine je_fdiv ?_
    refine v0 ⟨_, rfl, ?_⟩
    refine v2 ⟨_, rfl, cdiv_of f1 f2 hn, ?_⟩
    refine ja_cons ?_
    refine je_fdiv ?_
    refine v1 ⟨_, rfl, ?_⟩
    refine v2 ⟨_, rfl, cdiv_of f1 f2 hn, ?_⟩
    exact ja_nil ⟨one_sz (show 2 ≤ 1000 by decide), rt_low hj hg⟩
end
end K05
end
section
set_option maxRecDepth 100000
set_option maxHeartbeats 4000000
namespace K05
open PySem PySem.Spec PyProof.Rows L2 J
section
variable {P : Program} {w : World} {K : PySem.W.Frag} {mg : Str → Option Value} {base : Heap} {T : List (Addr × Str)} {f : Addr} {fd : FuncData}
def isFr : D → Bool
  | .tup [.int a, .int b] => decide (1 ≤ b) && decide (Nat.gcd a.natAbs b.natAbs = 1)
  | _ => false
theorem isFr_rt (q : Rat) : isFr (rt q) = true := by
  show (decide (1 ≤ (q.den : Int)) && decide (Nat.gcd q.num.natAbs (q.den : Int).natAbs = 1)) = true
  have h1 := q.den_pos
  have h2 : Nat.gcd q.num.natAbs q.den = 1 := q.reduced
  simp [h2]; omega
theorem isFr_of {d : D} (h : isFr d = true) : ∃ q, d = rt q := by
  unfold isFr at h
  split at h
  · rename_i a b
    simp only [Bool.and_eq_true, decide_eq_true_eq] at h
    obtain ⟨h1, h2⟩ := h
    refine ⟨Rat.mk' a b.natAbs (by omega) h2, ?_⟩
    show D.tup [.int a, .int b] = D.tup [.int a, .int (b.natAbs : Int)]
    rw [show ((b.natAbs : Nat) : Int) = b by omega]
  · cases h
def spFr : FSp := F1 (fun d => d.py.isSome = true) fun d r => r = .bl (isFr d)
theorem py_tup2 {a b : D} (h : (D.tup [a, b]).py.isSome = true) : a.py.isSome = true ∧ b.py.isSome = true := by
  simp only [D.py, D.pyL] at h
  cases ha : a.py <;> cases hb : b.py <;> simp_all
theorem sc_fr : FnScope ["value"] ["value"] (defScope (topS 12)) := ⟨rfl, rfl, rfl, by decide +kernel, rfl, by decide +kernel, by decide +kernel⟩
theorem kit_tup {d : D} (h : d.py.isSome = true) : ∃ t b, d.ty = some t ∧ kitB t "tuple" = some b ∧ (b = true ↔ ∃ l, d = .tup l) := by
  cases d with
  | ref a => cases h
  | exc C d => cases h
  | lok l => cases h
  | tup b => exact ⟨_, true, rfl, by decide +kernel, by simp⟩
  | non => exact ⟨_, false, rfl, by decide +kernel, by simp⟩
  | bl b => exact ⟨_, false, rfl, by decide +kernel, by simp⟩
  | int b => exact ⟨_, false, rfl, by decide +kernel, by simp⟩
  | str b => exact ⟨_, false, rfl, by decide +kernel, by simp⟩
  | lst b => exact ⟨_, false, rfl, by decide +kernel, by simp⟩
  | dic b c => exact ⟨_, false, rfl, by decide +kernel, by simp⟩
theorem ok_fr (B : Bt mg) (C1 : Cal P w K mg base T 1 "is_number" ["value"] 1 spNum) (C2 : Cal P w K mg base T 2 "is_count" ["value", "least"] 2 spCount) (C3 : Cal P w K mg base T 1 "divisor" ["one", "other"] 2 spGcd)
    (FN : Fd K "is_fraction" (topS 12) f fd) : FnG P w K mg base 3 f fd ["value"] (toV K T 1 spFr) := by
  refine okV FN sc_fr rfl (by decide) fun cdv A outer s H E F ds hr hcd hl hp => ?_
  obtain ⟨d, rfl⟩ := len1 hl
  obtain ⟨t, b, e0, e1, e2⟩ := kit_tup hp
  have no : isFr d = false → JSs (DX P w K mg base "is_fraction" (topS 12) f ["value"] cdv A outer s H E) ⟨F, H, fun _ => False, T⟩ (match defBody (topS 12) with | [.If _ as _ _, _] => as | _ => []) (G0 1 [d]) { nx := fun G1 => JSs (DX P w K mg base "is_fraction" (topS 12) f ["value"] cdv A outer s H E) ⟨F, H, fun _ => False, T⟩ (match defBody (topS 12) with | [_, st] => [st] | _ => []) G1 { nx := fun _ => spFr.post [d] .non, rt := fun r _ => spFr.post [d] r } (fun C d' _ => spFr.exc [d] C d'), rt := fun r _ => spFr.post [d] r } (fun C d' _ => spFr.exc [d] C d') := fun h =>
    jss_one (js_ret (je_bl (show D.bl false = D.bl (isFr d) by rw [h])))
  refine jss_cons (js_if (jt_w (jw_or (jt_not (jt_val (je_isi (T := "tuple") B (by rfl) (by rfl) B.tuple (by rfl) (v0 ⟨t, b, e0, e1, b, rfl, fun k => ?_, fun k => ⟨fun _ => no ?_, fun z => nomatch z⟩⟩)))))))
  rotate_left
  · have kb : b = false := by simpa using k
    cases d <;> first | rfl | exact absurd (e2.mpr ⟨_, rfl⟩) (by simp [kb])
  obtain ⟨l, rfl⟩ := e2.mp (by simpa using k)
  refine jw_or (jt_neI (je_len B (by rfl) (v0 ⟨rfl, _, rfl, je_int ⟨_, rfl, fun k => ?_, fun k => ⟨fun _ => no ?_, fun z => nomatch z⟩⟩⟩)))
  rotate_left
  · have kl : l.length ≠ 2 := by
      intro z
      have k' : (!decide ((l.length : Int) = 2)) = true := k
      rw [z] at k'
      exact absurd k' (by decide)
    match l, kl with
    | [], _ => rfl
    | [a], _ => cases a <;> rfl
    | [a, b], h => exact absurd rfl h
    | a :: b :: c :: l, _ => cases a <;> first | rfl | (cases b <;> rfl)
  have kl : l.length = 2 := by
    have k' : (!decide ((l.length : Int) = 2)) = false := k
    have k2 : ((l.length : Int) = 2) := by simpa using k'
    omega
  obtain ⟨a, b2, rfl⟩ := len2 kl
  obtain ⟨pa, pb⟩ := py_tup2 hp
  refine jw_or ?_
  refine jt_not ?_
  refine jt_val ?_
  refine je_call C1 hr (by omega) (by rfl) ?_
  refine ja_cons ?_
  refine je_ix ?_
  refine v0 ⟨rfl, ?_⟩
  refine je_int ⟨_, _, rfl, rfl, ?_⟩
  refine ja_nil ⟨rfl, pa, ?_, fun _ _ z => z.elim⟩
  rintro _ ⟨⟩
  refine ⟨isNum a, rfl, fun k => ?_, fun k => ⟨fun _ => no ?_, fun z => nomatch z⟩⟩
  rotate_left
  · cases a <;> first | rfl | exact absurd k (by simp [isNum])
  have ka : isNum a = true := by simpa using k
  obtain ⟨i, rfl⟩ : ∃ i, a = .int i := by cases a <;> first | exact ⟨_, rfl⟩ | cases ka
  refine jw_or1 ?_
  refine jt_not ?_
  refine jt_val ?_
  refine je_call C2 hr (by omega) (by rfl) ?_
  refine ja_cons ?_
  refine je_ix ?_
  refine v0 ⟨rfl, ?_⟩
  refine je_int ⟨_, _, rfl, rfl, ?_⟩
  refine ja_cons ?_
  refine je_int ?_
  refine ja_nil ⟨rfl, ⟨pb, rfl⟩, ?_, fun _ _ z => z.elim⟩
  rintro _ ⟨⟩
  refine ⟨_, rfl, fun k => no ?_, fun k => ?_⟩
  · cases b2 with
    | int j =>
      have : ¬ (1 ≤ j) := by simpa using k
      show (decide (1 ≤ j) && _) = false
      simp [this]
    | _ => rfl
  cases b2 with
  | int j =>
    have hj : 1 ≤ j := by simpa using k
    have ej : (j.natAbs : Int) = j := by omega
    have ed : ([.int (i.natAbs : Nat), .int j] : List D) = [.int (i.natAbs : Nat), .int (j.natAbs : Nat)] := by rw [ej]
    refine jss_nil ?_
    refine jss_one ?_
    refine js_ret ?_
    refine je_eqI ?_
    refine je_call C3 hr (by omega) (by rfl) ?_
    refine ja_cons ?_
    refine je_abs B (by rfl) ?_
    refine je_ix ?_
    refine v0 ⟨rfl, ?_⟩
    refine je_int ⟨_, _, rfl, rfl, _, rfl, ?_⟩
    refine ja_cons ?_
    refine je_ix ?_
    refine v0 ⟨rfl, ?_⟩
    refine je_int ⟨_, _, rfl, rfl, ?_⟩
    refine ja_nil ⟨rfl, ⟨i.natAbs, j.natAbs, ed⟩, fun r h => ?_, fun _ _ z => z.elim⟩
    obtain rfl := h i.natAbs j.natAbs ed
    refine ⟨_, rfl, je_int ⟨_, rfl, ?_⟩⟩
    show D.bl _ = D.bl (decide (1 ≤ j) && decide (Nat.gcd i.natAbs j.natAbs = 1))
    rw [decide_eq_true hj, Bool.true_and]
    congr 1
    rw [decide_eq_decide]
    omega
  | _ => exact absurd k (by simp)
end
end K05
end
section
set_option maxRecDepth 100000
set_option maxHeartbeats 4000000
namespace K05
open PySem PySem.Spec PyProof.Rows L2 J
/-- the error classes -/
structure Er (P : Program) (K : PySem.W.Frag) (mg : Str → Option Value) (CF CL CN : Addr) : Prop where
  pf : PF P
  tf : EcT K "InvalidFraction" CF
  tl : EcT K "InvalidList" CL
  tn : EcT K "InvalidNumber" CN
  gf : mg "InvalidFraction" = some (.ref CF)
  gl : mg "InvalidList" = some (.ref CL)
  gn : mg "InvalidNumber" = some (.ref CN)
section
variable {P : Program} {w : World} {K : PySem.W.Frag} {mg : Str → Option Value} {base : Heap} {T : List (Addr × Str)} {f : Addr} {fd : FuncData} {CF CL CN : Addr}
/-! look_at_fraction -/
def spLook (CF : Addr) : FSp := F1 (fun d => d.py.isSome = true) (fun d r => isFr d = true ∧ r = .non) fun d C v => isFr d = false ∧ C = CF ∧ v = d
theorem sc_look : FnScope ["value"] ["value"] (defScope (topS 13)) := ⟨rfl, rfl, rfl, by decide +kernel, rfl, by decide +kernel, by decide +kernel⟩
theorem ok_look (R : Er P K mg CF CL CN) (C1 : Cal P w K mg base T 3 "is_fraction" ["value"] 1 spFr) (FN : Fd K "look_at_fraction" (topS 13) f fd) : FnG P w K mg base 4 f fd ["value"] (toV K T 1 (spLook CF)) := by
  refine okV FN sc_look rfl (by decide) fun cdv A outer s H E F ds hr hcd hl hp => ?_
  obtain ⟨d, rfl⟩ := len1 hl
  refine jss_one ?_
  refine js_if ?_
  refine jt_not ?_
  refine jt_val ?_
  refine je_call C1 hr (by omega) (by rfl) ?_
  refine ja_cons ?_
  refine v0 ?_
  refine ja_nil ⟨rfl, hp, ?_, fun _ _ z => z.elim⟩
  rintro _ ⟨⟩
  refine ⟨_, rfl, fun k => ?_, fun k => jss_nil ⟨by simpa using k, rfl⟩⟩
  refine jss_one ?_
  refine js_raise (k := 2) (by rfl) R.tf R.pf R.gf hr (by rfl) ?_
  exact v0 ⟨by simpa using k, rfl, rfl⟩
/-! look_at_two -/
def spTwo (CF : Addr) : FSp := F2 (fun a b => a.py.isSome = true ∧ b.py.isSome = true) (fun a b r => isFr a = true ∧ isFr b = true ∧ r = .non) fun a b C v => C = CF ∧ (isFr a = false ∧ v = a ∨ isFr a = true ∧ isFr b = false ∧ v = b)
theorem sc_two : FnScope ["one", "other"] ["one", "other"] (defScope (topS 24)) := ⟨rfl, rfl, rfl, by decide +kernel, rfl, by decide +kernel, by decide +kernel⟩
theorem ok_two (C1 : Cal P w K mg base T 4 "look_at_fraction" ["value"] 1 (spLook CF)) (FN : Fd K "look_at_two" (topS 24) f fd) : FnG P w K mg base 5 f fd ["one", "other"] (toV K T 2 (spTwo CF)) := by
  refine okV FN sc_two rfl (by decide) fun cdv A outer s H E F ds hr hcd hl hp => ?_
  obtain ⟨a, b, rfl⟩ := len2 hl
  obtain ⟨pa, pb⟩ := hp
  refine jss_cons ?_
  refine js_expr ?_
  refine je_call C1 hr (by omega) (by rfl) ?_
  refine ja_cons ?_
  refine v0 ?_
  refine ja_nil ⟨rfl, pa, ?_, ?_⟩
  · rintro _ ⟨ha, rfl⟩
    refine jss_one ?_
    refine js_expr ?_
    refine je_call C1 hr (by omega) (by rfl) ?_
    refine ja_cons ?_
    refine v1 ?_
    refine ja_nil ⟨rfl, pb, ?_, ?_⟩
    · rintro _ ⟨hb, rfl⟩
      exact ⟨ha, hb, rfl⟩
    · rintro C v ⟨hb, rfl, rfl⟩
      exact ⟨rfl, .inr ⟨ha, hb, rfl⟩⟩
  · rintro C v ⟨ha, rfl, rfl⟩
    exact ⟨rfl, .inl ⟨ha, rfl⟩⟩
/-! plus and its like -/
def Two (sz : Rat → Rat → Prop) (g : Rat → Rat → D) : FSp := F2 (fun a b => ∃ p q, a = rt p ∧ b = rt q ∧ sz p q) fun a b r => ∀ p q, a = rt p → b = rt q → r = g p q
def szA (p q : Rat) : Prop := ∃ n m, Sz n p ∧ Sz m q ∧ n + m ≤ 9000
def spPlus : FSp := Two szA fun p q => rt (p + q)
def spMinus : FSp := Two szA fun p q => rt (p - q)
def spTimes : FSp := Two szA fun p q => rt (p * q)
def spOver : FSp := Two (fun p q => szA p q ∧ q ≠ 0) fun p q => rt (p / q)
def spBelow : FSp := Two szA fun p q => .bl (decide (p < q))
theorem Two.at {g : Rat → Rat → D} {p q : Rat} {Q : D → Prop} (h : Q (g p q)) : ∀ r, (∀ p' q', rt p = rt p' → rt q = rt q' → r = g p' q') → Q r := fun r hr => by
  rw [hr p q rfl rfl]; exact h
theorem Two.to {g : Rat → Rat → D} {p q : Rat} {r : D} (h : r = g p q) : ∀ p' q', rt p = rt p' → rt q = rt q' → r = g p' q' := fun p' q' e1 e2 => by
  rw [← rt_inj e1, ← rt_inj e2]; exact h
theorem szd {n : Nat} {q : Rat} (h : Sz n q) : (q.den : Int).natAbs < 2 ^ n := h.den
theorem sc_plus : FnScope ["one", "other"] ["one", "other"] (defScope (topS 16)) := ⟨rfl, rfl, rfl, by decide +kernel, rfl, by decide +kernel, by decide +kernel⟩
theorem sc_minus : FnScope ["one", "other"] ["one", "other"] (defScope (topS 17)) := ⟨rfl, rfl, rfl, by decide +kernel, rfl, by decide +kernel, by decide +kernel⟩
theorem sc_times : FnScope ["one", "other"] ["one", "other"] (defScope (topS 18)) := ⟨rfl, rfl, rfl, by decide +kernel, rfl, by decide +kernel, by decide +kernel⟩
theorem sc_over : FnScope ["one", "other"] ["one", "other"] (defScope (topS 19)) := ⟨rfl, rfl, rfl, by decide +kernel, rfl, by decide +kernel, by decide +kernel⟩
theorem sc_below : FnScope ["one", "other"] ["one", "other"] (defScope (topS 20)) := ⟨rfl, rfl, rfl, by decide +kernel, rfl, by decide +kernel, by decide +kernel⟩
theorem ok_plus (C1 : Cal P w K mg base T 2 "by_lowest" ["top", "under"] 2 spLow) (FN : Fd K "plus" (topS 16) f fd) : FnG P w K mg base 3 f fd ["one", "other"] (toV K T 2 spPlus) := by
  refine okV FN sc_plus rfl (by decide) fun cdv A outer s H E F ds hr hcd hl hp => ?_
  obtain ⟨a, b, rfl⟩ := len2 hl
  obtain ⟨p, q, rfl, rfl, n, m, hn, hm, hk⟩ := hp
  refine jss_one ?_
  refine js_ret ?_
  refine je_call C1 hr (by omega) (by rfl) ?_
  refine ja_cons ?_
  refine je_add ?_
  refine je_mul ?_
  refine je_ix ?_
  refine v0 ⟨rfl, ?_⟩
  refine je_int ⟨_, _, rfl, rfl, ⟨_, rfl, ?_⟩⟩
  refine je_ix ?_
  refine v1 ⟨rfl, ?_⟩
  refine je_int ⟨_, _, rfl, rfl, ⟨_, rfl, cmul_of hn.num (szd hm) (by omega), ⟨_, rfl, ?_⟩⟩⟩
  refine je_mul ?_
  refine je_ix ?_
  refine v1 ⟨rfl, ?_⟩
  refine je_int ⟨_, _, rfl, rfl, ⟨_, rfl, ?_⟩⟩
  refine je_ix ?_
  refine v0 ⟨rfl, ?_⟩
  refine je_int ⟨_, _, rfl, rfl, ⟨_, rfl, cmul_of hm.num (szd hn) (by omega), ⟨_, rfl, ?_⟩⟩⟩
  refine ja_cons ?_
  refine je_mul ?_
  refine je_ix ?_
  refine v0 ⟨rfl, ?_⟩
  refine je_int ⟨_, _, rfl, rfl, ⟨_, rfl, ?_⟩⟩
  refine je_ix ?_
  refine v1 ⟨rfl, ?_⟩
  refine je_int ⟨_, _, rfl, rfl, ⟨_, rfl, cmul_of (szd hn) (szd hm) (by omega), ?_⟩⟩
  refine ja_nil (⟨rfl, ⟨_, _, _, rfl, rfl, Int.mul_ne_zero (den_ne p) (den_ne q), bd_mul (szd hn) (szd hm), hk⟩, ?_, fun _ _ z => z.elim⟩)
  rintro _ ⟨⟩
  exact Two.to (congrArg rt (rt_add p q))
theorem ok_minus (C1 : Cal P w K mg base T 2 "by_lowest" ["top", "under"] 2 spLow) (FN : Fd K "minus" (topS 17) f fd) : FnG P w K mg base 3 f fd ["one", "other"] (toV K T 2 spMinus) := by
  refine okV FN sc_minus rfl (by decide) fun cdv A outer s H E F ds hr hcd hl hp => ?_
  obtain ⟨a, b, rfl⟩ := len2 hl
  obtain ⟨p, q, rfl, rfl, n, m, hn, hm, hk⟩ := hp
  refine jss_one ?_
  refine js_ret ?_
  refine je_call C1 hr (by omega) (by rfl) ?_
  refine ja_cons ?_
  refine je_sub ?_
  refine je_mul ?_
  refine je_ix ?_
  refine v0 ⟨rfl, ?_⟩
  refine je_int ⟨_, _, rfl, rfl, ⟨_, rfl, ?_⟩⟩
  refine je_ix ?_
  refine v1 ⟨rfl, ?_⟩
  refine je_int ⟨_, _, rfl, rfl, ⟨_, rfl, cmul_of hn.num (szd hm) (by omega), ⟨_, rfl, ?_⟩⟩⟩
  refine je_mul ?_
  refine je_ix ?_
  refine v1 ⟨rfl, ?_⟩
  refine je_int ⟨_, _, rfl, rfl, ⟨_, rfl, ?_⟩⟩
  refine je_ix ?_
  refine v0 ⟨rfl, ?_⟩
  refine je_int ⟨_, _, rfl, rfl, ⟨_, rfl, cmul_of hm.num (szd hn) (by omega), ⟨_, rfl, ?_⟩⟩⟩
  refine ja_cons ?_
  refine je_mul ?_
  refine je_ix ?_
  refine v0 ⟨rfl, ?_⟩
  refine je_int ⟨_, _, rfl, rfl, ⟨_, rfl, ?_⟩⟩
  refine je_ix ?_
  refine v1 ⟨rfl, ?_⟩
  refine je_int ⟨_, _, rfl, rfl, ⟨_, rfl, cmul_of (szd hn) (szd hm) (by omega), ?_⟩⟩
  refine ja_nil (⟨rfl, ⟨_, _, _, rfl, rfl, Int.mul_ne_zero (den_ne p) (den_ne q), bd_mul (szd hn) (szd hm), hk⟩, ?_, fun _ _ z => z.elim⟩)
  rintro _ ⟨⟩
  exact Two.to (congrArg rt (rt_sub p q))
theorem ok_times (C1 : Cal P w K mg base T 2 "by_lowest" ["top", "under"] 2 spLow) (FN : Fd K "times" (topS 18) f fd) : FnG P w K mg base 3 f fd ["one", "other"] (toV K T 2 spTimes) := by
  refine okV FN sc_times rfl (by decide) fun cdv A outer s H E F ds hr hcd hl hp => ?_
  obtain ⟨a, b, rfl⟩ := len2 hl
  obtain ⟨p, q, rfl, rfl, n, m, hn, hm, hk⟩ := hp
  refine jss_one ?_
  refine js_ret ?_
  refine je_call C1 hr (by omega) (by rfl) ?_
  refine ja_cons ?_
  refine je_mul ?_
  refine je_ix ?_
  refine v0 ⟨rfl, ?_⟩
  refine je_int ⟨_, _, rfl, rfl, ⟨_, rfl, ?_⟩⟩
  refine je_ix ?_
  refine v1 ⟨rfl, ?_⟩
  refine je_int ⟨_, _, rfl, rfl, ⟨_, rfl, cmul_of hn.num hm.num (by omega), ?_⟩⟩
  refine ja_cons ?_
  refine je_mul ?_
  refine je_ix ?_
  refine v0 ⟨rfl, ?_⟩
  refine je_int ⟨_, _, rfl, rfl, ⟨_, rfl, ?_⟩⟩
  refine je_ix ?_
  refine v1 ⟨rfl, ?_⟩
  refine je_int ⟨_, _, rfl, rfl, ⟨_, rfl, cmul_of (szd hn) (szd hm) (by omega), ?_⟩⟩
  refine ja_nil (⟨rfl, ⟨_, _, _, rfl, rfl, Int.mul_ne_zero (den_ne p) (den_ne q), bd_mul (szd hn) (szd hm), hk⟩, ?_, fun _ _ z => z.elim⟩)
  rintro _ ⟨⟩
  exact Two.to (congrArg rt (rt_mul p q))
theorem num_ne {q : Rat} (h : q ≠ 0) : q.num ≠ 0 := fun z => h (by rw [Rat.num_eq_zero] at z; exact z)
theorem ok_over (C1 : Cal P w K mg base T 2 "by_lowest" ["top", "under"] 2 spLow) (FN : Fd K "over" (topS 19) f fd) : FnG P w K mg base 3 f fd ["one", "other"] (toV K T 2 spOver) := by
  refine okV FN sc_over rfl (by decide) fun cdv A outer s H E F ds hr hcd hl hp => ?_
  obtain ⟨a, b, rfl⟩ := len2 hl
  obtain ⟨p, q, rfl, rfl, ⟨n, m, hn, hm, hk⟩, hq⟩ := hp
  refine jss_one ?_
  refine js_ret ?_
  refine je_call C1 hr (by omega) (by rfl) ?_
  refine ja_cons ?_
  refine je_mul ?_
  refine je_ix ?_
  refine v0 ⟨rfl, ?_⟩
  refine je_int ⟨_, _, rfl, rfl, ⟨_, rfl, ?_⟩⟩
  refine je_ix ?_
  refine v1 ⟨rfl, ?_⟩
  refine je_int ⟨_, _, rfl, rfl, ⟨_, rfl, cmul_of hn.num (szd hm) (by omega), ?_⟩⟩
  refine ja_cons ?_
  refine je_mul ?_
  refine je_ix ?_
  refine v0 ⟨rfl, ?_⟩
  refine je_int ⟨_, _, rfl, rfl, ⟨_, rfl, ?_⟩⟩
  refine je_ix ?_
  refine v1 ⟨rfl, ?_⟩
  refine je_int ⟨_, _, rfl, rfl, ⟨_, rfl, cmul_of (szd hn) hm.num (by omega), ?_⟩⟩
  refine ja_nil (⟨rfl, ⟨_, _, _, rfl, rfl, Int.mul_ne_zero (den_ne p) (num_ne hq), bd_mul (szd hn) hm.num, hk⟩, ?_, fun _ _ z => z.elim⟩)
  rintro _ ⟨⟩
  exact Two.to (congrArg rt (rt_div p q))
theorem ok_below (FN : Fd K "below" (topS 20) f fd) : FnG P w K mg base 1 f fd ["one", "other"] (toV K T 2 spBelow) := by
  refine okV FN sc_below rfl (by decide) fun cdv A outer s H E F ds hr hcd hl hp => ?_
  obtain ⟨a, b, rfl⟩ := len2 hl
  obtain ⟨p, q, rfl, rfl, n, m, hn, hm, hk⟩ := hp
  refine jss_one ?_
  refine js_ret ?_
  refine je_lt ?_
  refine je_mul ?_
  refine je_ix ?_
  refine v0 ⟨rfl, ?_⟩
  refine je_int ⟨_, _, rfl, rfl, ⟨_, rfl, ?_⟩⟩
  refine je_ix ?_
  refine v1 ⟨rfl, ?_⟩
  refine je_int ⟨_, _, rfl, rfl, ⟨_, rfl, cmul_of hn.num (szd hm) (by omega), ⟨_, rfl, ?_⟩⟩⟩
  refine je_mul ?_
  refine je_ix ?_
  refine v1 ⟨rfl, ?_⟩
  refine je_int ⟨_, _, rfl, rfl, ⟨_, rfl, ?_⟩⟩
  refine je_ix ?_
  refine v0 ⟨rfl, ?_⟩
  refine je_int (⟨_, _, rfl, rfl, ⟨_, rfl, cmul_of hm.num (szd hn) (by omega), ⟨_, rfl, ?_⟩⟩⟩)
  refine Two.to (congrArg D.bl ?_)
  rw [decide_eq_decide, Rat.lt_iff]
end
end K05
end
section
set_option maxRecDepth 100000
set_option maxHeartbeats 4000000
namespace K05
open PySem PySem.Spec PyProof.Rows L2 J
/-- the constants NONE and ONE -/
structure Co (K : PySem.W.Frag) (mg : Str → Option Value) : Prop where
  non : ∃ a : Addr, mg "NONE" = some (.ref a) ∧ ∀ F, Rep K F (rt 0) (.ref a)
  one : ∃ a : Addr, mg "ONE" = some (.ref a) ∧ ∀ F, Rep K F (rt 1) (.ref a)
section
variable {P : Program} {w : World} {K : PySem.W.Frag} {mg : Str → Option Value} {base : Heap} {T : List (Addr × Str)} {f : Addr} {fd : FuncData} {CF CL CN : Addr}
section
variable {X : Cx} {c : JC} {G : List Sl} {Ex : XQ} {Q : D → List Sl → Prop} {pos : Pos}
theorem je_NONE (R : Co X.K X.mg) (q : Q (rt 0) G) (hg : Gl X "NONE" := by rfl) : JE X c (.Name "NONE" pos) G Q Ex := by
  obtain ⟨a, h1, h2⟩ := R.non
  exact je_glob (v := .ref a) hg h1 rfl h2 q
theorem je_ONE (R : Co X.K X.mg) (q : Q (rt 1) G) (hg : Gl X "ONE" := by rfl) : JE X c (.Name "ONE" pos) G Q Ex := by
  obtain ⟨a, h1, h2⟩ := R.one
  exact je_glob (v := .ref a) hg h1 rfl h2 q
end
/-! are_fractions -/
def isFrL : D → Bool | .lst l => l.all isFr | _ => false
def okL : D → Prop | .lst l => l.length ≤ 1000 | _ => True
def spFrL : FSp := F1 (fun d => d.py.isSome = true ∧ okL d) fun d r => r = .bl (isFrL d)
theorem sc_frl : FnScope ["value", "one"] ["value"] (defScope (topS 14)) := ⟨rfl, rfl, rfl, by decide +kernel, rfl, by decide +kernel, by decide +kernel⟩
theorem kit_lst {d : D} (h : d.py.isSome = true) : ∃ t b, d.ty = some t ∧ kitB t "list" = some b ∧ (b = true ↔ ∃ l, d = .lst l) := by
  cases d with
  | ref a => cases h
  | exc C d => cases h
  | lok l => cases h
  | lst b => exact ⟨_, true, rfl, by decide +kernel, by simp⟩
  | non => exact ⟨_, false, rfl, by decide +kernel, by simp⟩
  | bl b => exact ⟨_, false, rfl, by decide +kernel, by simp⟩
  | int b => exact ⟨_, false, rfl, by decide +kernel, by simp⟩
  | str b => exact ⟨_, false, rfl, by decide +kernel, by simp⟩
  | tup b => exact ⟨_, false, rfl, by decide +kernel, by simp⟩
  | dic b c => exact ⟨_, false, rfl, by decide +kernel, by simp⟩
theorem py_mem : ∀ {l : List D}, (D.pyL l).isSome = true → ∀ d ∈ l, d.py.isSome = true
  | [], _, d, h => nomatch h
  | x :: l, hl, d, h => by
    simp only [D.pyL] at hl
    cases hx : x.py with
    | none => rw [hx] at hl; cases hl
    | some p =>
      cases hr : D.pyL l with
      | none => rw [hx, hr] at hl; cases hl
      | some ps =>
        rcases List.mem_cons.mp h with rfl | h
        · rw [hx]; rfl
        · exact py_mem (by rw [hr]; rfl) d h
theorem py_lst {l : List D} (h : (D.lst l).py.isSome = true) : (D.pyL l).isSome = true := by
  simp only [D.py] at h
  cases hr : D.pyL l with
  | none => rw [hr] at h; cases h
  | some ps => rfl
theorem ok_frl (B : Bt mg) (C1 : Cal P w K mg base T 3 "is_fraction" ["value"] 1 spFr) (FN : Fd K "are_fractions" (topS 14) f fd) : FnG P w K mg base 4 f fd ["value"] (toV K T 1 spFrL) := by
  refine okV FN sc_frl rfl (by decide) fun cdv A outer s H E F ds hr hcd hl hp => ?_
  obtain ⟨d, rfl⟩ := len1 hl
  obtain ⟨hp, hz⟩ := hp
  obtain ⟨t, b, e0, e1, e2⟩ := kit_lst hp
  refine jss_one ?_
  refine js_ret ?_
  refine je_and ?_
  refine je_isi (T := "list") B (by rfl) (by rfl) B.list (by rfl) ?_
  refine v0 ⟨t, b, e0, e1, b, rfl, fun k => je_one ?_, fun k => ?_⟩
  · obtain ⟨l, rfl⟩ := e2.mp k
    refine je_all (by rfl) B (by rfl) ?_
    refine JE.of_air ?_
    refine jn_lcL (x := "one") (i := 1) (by rfl) sc_frl.nd (blkOk_by (by rfl)) (fun s H C cl fp => pg_name sc_frl.nd rfl (.inl rfl) (.inr rfl)) ?_
    refine v0 ⟨l, rfl, lcL_all (f := fun y => .bl (isFr y)) rfl (one_sz hz) (fun y hy _ _ _ s0 H0 C cl fp => ?_) fun p => ⟨l.map isFr, by rw [List.map_map]; rfl, ?_⟩⟩
    · refine je_call C1 hr (by omega) (by rfl) ?_
      refine ja_cons ?_
      refine v1 ?_
      refine ja_nil ⟨rfl, py_mem (py_lst hp) y hy, ?_, fun _ _ z => z.elim⟩
      rintro _ ⟨⟩
      exact ⟨rfl, rfl⟩
    · show D.bl _ = D.bl (l.all isFr)
      rw [List.all_map]; rfl
  · have : ∀ l, d ≠ .lst l := fun l z => by rw [e2.mpr ⟨l, z⟩] at k; cases k
    show D.bl false = D.bl (isFrL d)
    cases d <;> first | rfl | exact absurd rfl (this _)
theorem sz0 : Sz 1 0 := by constructor <;> decide
theorem sz1 : Sz 1 1 := by constructor <;> decide
/-! total and the product -/
def sumQ (l : List Rat) : Rat := l.foldl (· + ·) 0
def prodQ (l : List Rat) : Rat := l.foldl (· * ·) 1
def spTotal : FSp := F1 (fun d => ∃ (qs : List Rat) (n : Nat), d = .lst (qs.map rt) ∧ (∀ q ∈ qs, Sz n q) ∧ (qs.length + 1) * (n + 1) ≤ 9000) fun d r => ∀ qs : List Rat, d = .lst (qs.map rt) → r = rt (sumQ qs)
theorem rts_inj : ∀ {a b : List Rat}, a.map rt = b.map rt → a = b
  | [], [], _ => rfl
  | [], _ :: _, h => by cases h
  | _ :: _, [], h => by cases h
  | x :: a, y :: b, h => by
    rw [List.map_cons, List.map_cons] at h
    injection h with h1 h2
    rw [rt_inj h1, rts_inj h2]
theorem sc_total : FnScope ["some", "found", "one"] ["some"] (defScope (topS 21)) := ⟨rfl, rfl, rfl, by decide +kernel, rfl, by decide +kernel, by decide +kernel⟩
theorem take_succ_map {qs : List Rat} {t : Nat} {y : D} (h : (qs.map rt)[t]? = some y) : ∃ q, qs[t]? = some q ∧ y = rt q ∧ qs.take (t + 1) = qs.take t ++ [q] := by
  rw [List.getElem?_map] at h
  obtain ⟨q, h1, h2⟩ := Option.map_eq_some_iff.mp h
  exact ⟨q, h1, h2.symm, by rw [List.take_succ, h1]; rfl⟩
theorem ok_total (R : Co K mg) (C1 : Cal P w K mg base T 3 "plus" ["one", "other"] 2 spPlus) (FN : Fd K "total" (topS 21) f fd) : FnG P w K mg base 4 f fd ["some"] (toV K T 1 spTotal) := by
  refine okV FN sc_total rfl (by decide) fun cdv A outer s H E F ds hr hcd hl hp => ?_
  obtain ⟨d, rfl⟩ := len1 hl
  obtain ⟨qs, n, rfl, hz, hk⟩ := hp
  refine jss_cons ?_
  refine js_s (i := 1) sc_total.nd (by rfl) ?_
  refine je_NONE R ⟨show 1 < 3 by decide, ?_⟩
  refine jss_cons ?_
  refine js_forL (i := 2) (by exact passes_of rfl) (by rfl) sc_total.nd (by rfl) (by exact .inl rfl) ?_
  refine v0 ⟨_, rfl, fun t G => ∃ s q, G = [.val (.lst (qs.map rt)), .val (rt q), s] ∧ q = sumQ (qs.take t) ∧ Sz (t * (n + 1) + 1) q, ⟨.no, 0, rfl, rfl, by rw [Nat.zero_mul]; exact sz0⟩, ?_, ?_⟩
  · rintro t y G2 hy ⟨s2, q, rfl, rfl, h0⟩
    obtain ⟨x, hx, rfl, ht⟩ := take_succ_map hy
    have hlt := (List.getElem?_eq_some_iff.mp hx).1
    have hzx := hz x (List.mem_of_getElem? hx)
    have hb : t * (n + 1) + 1 + n ≤ 9000 := by
      have h1 : (t + 1) * (n + 1) ≤ (qs.length + 1) * (n + 1) := Nat.mul_le_mul_right _ (by omega)
      rw [Nat.add_mul, Nat.one_mul] at h1
      omega
    refine ⟨show 2 < 3 by decide, ?_⟩
    refine jss_one ?_
    refine js_s (i := 1) sc_total.nd (by rfl) ?_
    refine je_call C1 hr (by omega) (by rfl) ?_
    refine ja_cons ?_
    refine v1 ?_
    refine ja_cons ?_
    refine v2 ?_
    refine ja_nil (⟨rfl, ⟨_, _, rfl, rfl, _, _, h0, hzx, hb⟩, ?_, fun _ _ z => z.elim⟩)
    refine Two.at ⟨show 1 < 3 by decide, _, _, rfl, ?_, ?_⟩
    · rw [ht]; unfold sumQ; rw [List.foldl_append]; rfl
    · exact (h0.add hzx).mono (by rw [Nat.add_mul]; omega)
  · rintro G2 ⟨s2, q, rfl, rfl, h0⟩
    refine jss_one ?_
    refine js_ret ?_
    refine v1 ?_
    intro qs' e
    rw [List.length_map, List.take_length]
    injection e with e
    rw [rts_inj e]
end
end K05
end
section
set_option maxRecDepth 100000
set_option maxHeartbeats 4000000
namespace K05
open PySem PySem.Spec PyProof.Rows L2 J
section
variable {P : Program} {w : World} {K : PySem.W.Frag} {mg : Str → Option Value} {base : Heap} {T : List (Addr × Str)} {f : Addr} {fd : FuncData} {CF CL CN : Addr}
/-! sum_of, product_of -/
def okSz (d : D) : Prop := okL d ∧ ∀ qs : List Rat, d = .lst (qs.map rt) → ∃ n, (∀ q ∈ qs, Sz n q) ∧ (qs.length + 1) * (n + 1) ≤ 9000
def spAll (CL : Addr) (g : List Rat → Rat) : FSp := F1 (fun d => d.py.isSome = true ∧ okSz d) (fun d r => isFrL d = true ∧ ∀ qs : List Rat, d = .lst (qs.map rt) → r = rt (g qs)) fun d C v => isFrL d = false ∧ C = CL ∧ v = d
theorem frs_of : ∀ {l : List D}, l.all isFr = true → ∃ qs : List Rat, l = qs.map rt
  | [], _ => ⟨[], rfl⟩
  | x :: l, h => by
    rw [List.all_cons, Bool.and_eq_true] at h
    obtain ⟨q, rfl⟩ := isFr_of h.1
    obtain ⟨qs, rfl⟩ := frs_of h.2
    exact ⟨q :: qs, rfl⟩
theorem frL_of {d : D} (h : isFrL d = true) : ∃ qs : List Rat, d = .lst (qs.map rt) := by
  cases d <;> try cases h
  rename_i l
  obtain ⟨qs, e⟩ := frs_of h
  exact ⟨qs, by rw [e]⟩
theorem sc_sum : FnScope ["some"] ["some"] (defScope (topS 22)) := ⟨rfl, rfl, rfl, by decide +kernel, rfl, by decide +kernel, by decide +kernel⟩
theorem ok_sum (R : Er P K mg CF CL CN) (C1 : Cal P w K mg base T 4 "are_fractions" ["value"] 1 spFrL) (C2 : Cal P w K mg base T 4 "total" ["some"] 1 spTotal) (FN : Fd K "sum_of" (topS 22) f fd) : FnG P w K mg base 5 f fd ["some"] (toV K T 1 (spAll CL sumQ)) := by
  refine okV FN sc_sum rfl (by decide) fun cdv A outer s H E F ds hr hcd hl hp => ?_
  obtain ⟨d, rfl⟩ := len1 hl
  obtain ⟨hp, hz, hn⟩ := hp
  refine jss_cons ?_
  refine js_if ?_
  refine jt_not ?_
  refine jt_val ?_
  refine je_call C1 hr (by omega) (by rfl) ?_
  refine ja_cons ?_
  refine v0 ?_
  refine ja_nil ⟨rfl, ⟨hp, hz⟩, ?_, fun _ _ z => z.elim⟩
  rintro _ ⟨⟩
  refine ⟨_, rfl, fun k => ?_, fun k => jss_nil ?_⟩
  · refine jss_one ?_
    refine js_raise (k := 3) (by rfl) R.tl R.pf R.gl hr (by rfl) ?_
    exact v0 ⟨by simpa using k, rfl, rfl⟩
  · have kt : isFrL d = true := by simpa using k
    obtain ⟨qs, rfl⟩ := frL_of kt
    obtain ⟨n, h1, h2⟩ := hn qs rfl
    refine jss_one ?_
    refine js_ret ?_
    refine je_call C2 hr (by omega) (by rfl) ?_
    refine ja_cons ?_
    refine v0 ?_
    refine ja_nil ⟨rfl, ⟨qs, n, rfl, h1, h2⟩, ?_, fun _ _ z => z.elim⟩
    exact fun r h => ⟨kt, h⟩
theorem sc_prod : FnScope ["some", "found", "one"] ["some"] (defScope (topS 23)) := ⟨rfl, rfl, rfl, by decide +kernel, rfl, by decide +kernel, by decide +kernel⟩
theorem ok_prod (R : Er P K mg CF CL CN) (O : Co K mg) (C1 : Cal P w K mg base T 4 "are_fractions" ["value"] 1 spFrL) (C2 : Cal P w K mg base T 3 "times" ["one", "other"] 2 spTimes) (FN : Fd K "product_of" (topS 23) f fd) : FnG P w K mg base 5 f fd ["some"] (toV K T 1 (spAll CL prodQ)) := by
  refine okV FN sc_prod rfl (by decide) fun cdv A outer s H E F ds hr hcd hl hp => ?_
  obtain ⟨d, rfl⟩ := len1 hl
  obtain ⟨hp, hz, hn⟩ := hp
  refine jss_cons ?_
  refine js_if ?_
  refine jt_not ?_
  refine jt_val ?_
  refine je_call C1 hr (by omega) (by rfl) ?_
  refine ja_cons ?_
  refine v0 ?_
  refine ja_nil ⟨rfl, ⟨hp, hz⟩, ?_, fun _ _ z => z.elim⟩
  rintro _ ⟨⟩
  refine ⟨_, rfl, fun k => ?_, fun k => jss_nil ?_⟩
  · refine jss_one ?_
    refine js_raise (k := 3) (by rfl) R.tl R.pf R.gl hr (by rfl) ?_
    exact v0 ⟨by simpa using k, rfl, rfl⟩
  have kt : isFrL d = true := by simpa using k
  obtain ⟨qs, rfl⟩ := frL_of kt
  obtain ⟨n, hz, hk⟩ := hn qs rfl
  refine jss_cons ?_
  refine js_s (i := 1) sc_prod.nd (by rfl) ?_
  refine je_ONE O ⟨show 1 < 3 by decide, ?_⟩
  refine jss_cons ?_
  refine js_forL (i := 2) (by exact passes_of rfl) (by rfl) sc_prod.nd (by rfl) (by exact .inl rfl) ?_
  refine v0 ⟨_, rfl, fun t G => ∃ s q, G = [.val (.lst (qs.map rt)), .val (rt q), s] ∧ q = prodQ (qs.take t) ∧ Sz (t * (n + 1) + 1) q, ⟨.no, 1, rfl, rfl, by rw [Nat.zero_mul]; exact sz1⟩, ?_, ?_⟩
  · rintro t y G2 hy ⟨s2, q, rfl, rfl, h0⟩
    obtain ⟨x, hx, rfl, ht⟩ := take_succ_map hy
    have hlt := (List.getElem?_eq_some_iff.mp hx).1
    have hzx := hz x (List.mem_of_getElem? hx)
    have hb : t * (n + 1) + 1 + n ≤ 9000 := by
      have h1 : (t + 1) * (n + 1) ≤ (qs.length + 1) * (n + 1) := Nat.mul_le_mul_right _ (by omega)
      rw [Nat.add_mul, Nat.one_mul] at h1
      omega
    refine ⟨show 2 < 3 by decide, ?_⟩
    refine jss_one ?_
    refine js_s (i := 1) sc_prod.nd (by rfl) ?_
    refine je_call C2 hr (by omega) (by rfl) ?_
    refine ja_cons ?_
    refine v1 ?_
    refine ja_cons ?_
    refine v2 ?_
    refine ja_nil (⟨rfl, ⟨_, _, rfl, rfl, _, _, h0, hzx, hb⟩, ?_, fun _ _ z => z.elim⟩)
    refine Two.at ⟨show 1 < 3 by decide, _, _, rfl, ?_, ?_⟩
    · rw [ht]; unfold prodQ; rw [List.foldl_append]; rfl
    · exact (h0.mul hzx).mono (by rw [Nat.add_mul]; omega)
  · rintro G2 ⟨s2, q, rfl, rfl, h0⟩
    refine jss_one ?_
    refine js_ret ?_
    refine v1 ?_
    refine ⟨kt, fun qs' e => ?_⟩
    rw [List.length_map, List.take_length]
    injection e with e
    rw [rts_inj e]
/-! fraction_of -/
def spFrac (CN : Addr) : FSp := F2 (fun a b => a.py.isSome = true ∧ b.py.isSome = true ∧ ∀ j, b = .int j → ∃ n, j.natAbs < 2 ^ n ∧ n ≤ 9000) (fun a b r => ∃ i j, a = .int i ∧ b = .int j ∧ j ≠ 0 ∧ r = rt (Rat.divInt i j))
  fun a b C v => C = CN ∧ (isNum a = false ∧ v = a ∨ isNum a = true ∧ (isNum b = false ∨ b = .int 0) ∧ v = b)
theorem num_of {d : D} (h : isNum d = true) : ∃ i, d = .int i := by
  cases d <;> first | exact ⟨_, rfl⟩ | cases h
theorem sc_frac : FnScope ["top", "under"] ["top", "under"] (defScope (topS 15)) := ⟨rfl, rfl, rfl, by decide +kernel, rfl, by decide +kernel, by decide +kernel⟩
theorem ok_frac (R : Er P K mg CF CL CN) (C1 : Cal P w K mg base T 1 "is_number" ["value"] 1 spNum) (C2 : Cal P w K mg base T 2 "by_lowest" ["top", "under"] 2 spLow) (FN : Fd K "fraction_of" (topS 15) f fd) : FnG P w K mg base 3 f fd ["top", "under"] (toV K T 2 (spFrac CN)) := by
  refine okV FN sc_frac rfl (by decide) fun cdv A outer s H E F ds hr hcd hl hp => ?_
  obtain ⟨a, b, rfl⟩ := len2 hl
  obtain ⟨pa, pb, hb⟩ := hp
  refine jss_cons ?_
  refine js_if ?_
  refine jt_not ?_
  refine jt_val ?_
  refine je_call C1 hr (by omega) (by rfl) ?_
  refine ja_cons ?_
  refine v0 ?_
  refine ja_nil ⟨rfl, pa, ?_, fun _ _ z => z.elim⟩
  rintro _ ⟨⟩
  refine ⟨_, rfl, fun k => ?_, fun k => jss_nil ?_⟩
  · refine jss_one ?_
    refine js_raise (k := 1) (by rfl) R.tn R.pf R.gn hr (by rfl) ?_
    exact v0 ⟨rfl, .inl ⟨by simpa using k, rfl⟩⟩
  obtain ⟨i, rfl⟩ := num_of (by simpa using k)
  refine jss_cons ?_
  refine js_if ?_
  refine jt_w ?_
  refine jw_or ?_
  refine jt_not ?_
  refine jt_val ?_
  refine je_call C1 hr (by omega) (by rfl) ?_
  refine ja_cons ?_
  refine v1 ?_
  refine ja_nil ⟨rfl, pb, ?_, fun _ _ z => z.elim⟩
  rintro _ ⟨⟩
  refine ⟨_, rfl, fun k => ?_, fun k => ⟨fun _ => ?_, fun z => nomatch z⟩⟩
  rotate_left
  · refine jss_one ?_
    refine js_raise (k := 1) (by rfl) R.tn R.pf R.gn hr (by rfl) ?_
    exact v1 ⟨rfl, .inr ⟨rfl, .inl (by simpa using k), rfl⟩⟩
  obtain ⟨j, rfl⟩ := num_of (by simpa using k)
  refine jw_or1 ?_
  refine jt_eqI ?_
  refine v1 ⟨_, rfl, ?_⟩
  refine je_int ⟨_, rfl, fun k => ?_, fun k => jss_nil ?_⟩
  · have hj : j = 0 := by simpa using k
    subst hj
    refine jss_one ?_
    refine js_raise (k := 1) (by rfl) R.tn R.pf R.gn hr (by rfl) ?_
    exact v1 ⟨rfl, .inr ⟨rfl, .inr rfl, rfl⟩⟩
  · have hj : j ≠ 0 := by simpa using k
    obtain ⟨n, h1, h2⟩ := hb j rfl
    refine jss_one ?_
    refine js_ret ?_
    refine je_call C2 hr (by omega) (by rfl) ?_
    refine ja_cons ?_
    refine v0 ?_
    refine ja_cons ?_
    refine v1 ?_
    refine ja_nil ⟨rfl, ⟨_, _, _, rfl, rfl, hj, h1, h2⟩, ?_, fun _ _ z => z.elim⟩
    rintro _ ⟨⟩
    exact ⟨_, _, rfl, rfl, hj, rfl⟩
/-! less, share, is_less -/
def szD (a b : D) : Prop := ∀ p q, a = rt p → b = rt q → szA p q
def excTwo (CF : Addr) (a b : D) (C : Addr) (v : D) : Prop := C = CF ∧ (isFr a = false ∧ v = a ∨ isFr a = true ∧ isFr b = false ∧ v = b)
def spLess (CF : Addr) (g : Rat → Rat → D) : FSp := F2 (fun a b => a.py.isSome = true ∧ b.py.isSome = true ∧ szD a b) (fun a b r => ∃ p q, a = rt p ∧ b = rt q ∧ r = g p q) (excTwo CF)
def spShare (CF : Addr) : FSp := F2 (fun a b => a.py.isSome = true ∧ b.py.isSome = true ∧ szD a b) (fun a b r => ∃ p q, a = rt p ∧ b = rt q ∧ q ≠ 0 ∧ r = rt (p / q)) fun a b C v => excTwo CF a b C v ∨ isFr a = true ∧ C = CF ∧ b = rt 0 ∧ v = b
theorem sc_less : FnScope ["one", "other"] ["one", "other"] (defScope (topS 25)) := ⟨rfl, rfl, rfl, by decide +kernel, rfl, by decide +kernel, by decide +kernel⟩
theorem sc_share : FnScope ["one", "other"] ["one", "other"] (defScope (topS 26)) := ⟨rfl, rfl, rfl, by decide +kernel, rfl, by decide +kernel, by decide +kernel⟩
theorem sc_isless : FnScope ["one", "other"] ["one", "other"] (defScope (topS 27)) := ⟨rfl, rfl, rfl, by decide +kernel, rfl, by decide +kernel, by decide +kernel⟩
theorem ok_less (C1 : Cal P w K mg base T 5 "look_at_two" ["one", "other"] 2 (spTwo CF)) (C2 : Cal P w K mg base T 3 "minus" ["one", "other"] 2 spMinus) (FN : Fd K "less" (topS 25) f fd) : FnG P w K mg base 6 f fd ["one", "other"] (toV K T 2 (spLess CF (fun p q => rt (p - q)))) := by
  refine okV FN sc_less rfl (by decide) fun cdv A outer s H E F ds hr hcd hl hp => ?_
  obtain ⟨a, b, rfl⟩ := len2 hl
  obtain ⟨pa, pb, hz⟩ := hp
  refine jss_cons ?_
  refine js_expr ?_
  refine je_call C1 hr (by omega) (by rfl) ?_
  refine ja_cons ?_
  refine v0 ?_
  refine ja_cons ?_
  refine v1 ?_
  refine ja_nil ⟨rfl, ⟨pa, pb⟩, ?_, fun C v h => h⟩
  rintro _ ⟨ha, hb, rfl⟩
  obtain ⟨p, rfl⟩ := isFr_of ha
  obtain ⟨q, rfl⟩ := isFr_of hb
  refine jss_one ?_
  refine js_ret ?_
  refine je_call C2 hr (by omega) (by rfl) ?_
  refine ja_cons ?_
  refine v0 ?_
  refine ja_cons ?_
  refine v1 ?_
  refine ja_nil ⟨rfl, ⟨_, _, rfl, rfl, hz _ _ rfl rfl⟩, ?_, fun _ _ z => z.elim⟩
  exact Two.at ⟨_, _, rfl, rfl, rfl⟩
theorem ok_isless (C1 : Cal P w K mg base T 5 "look_at_two" ["one", "other"] 2 (spTwo CF)) (C2 : Cal P w K mg base T 1 "below" ["one", "other"] 2 spBelow) (FN : Fd K "is_less" (topS 27) f fd) : FnG P w K mg base 6 f fd ["one", "other"] (toV K T 2 (spLess CF (fun p q => .bl (decide (p < q))))) := by
  refine okV FN sc_isless rfl (by decide) fun cdv A outer s H E F ds hr hcd hl hp => ?_
  obtain ⟨a, b, rfl⟩ := len2 hl
  obtain ⟨pa, pb, hz⟩ := hp
  refine jss_cons ?_
  refine js_expr ?_
  refine je_call C1 hr (by omega) (by rfl) ?_
  refine ja_cons ?_
  refine v0 ?_
  refine ja_cons ?_
  refine v1 ?_
  refine ja_nil ⟨rfl, ⟨pa, pb⟩, ?_, fun C v h => h⟩
  rintro _ ⟨ha, hb, rfl⟩
  obtain ⟨p, rfl⟩ := isFr_of ha
  obtain ⟨q, rfl⟩ := isFr_of hb
  refine jss_one ?_
  refine js_ret ?_
  refine je_call C2 hr (by omega) (by rfl) ?_
  refine ja_cons ?_
  refine v0 ?_
  refine ja_cons ?_
  refine v1 ?_
  refine ja_nil ⟨rfl, ⟨_, _, rfl, rfl, hz _ _ rfl rfl⟩, ?_, fun _ _ z => z.elim⟩
  exact Two.at ⟨_, _, rfl, rfl, rfl⟩

theorem shaped_rt (q : Rat) : (rt q).py = some (.tuple [.int q.num, .int q.den]) ∧ SeqAt.shaped (.tuple [.int q.num, .int q.den]) = true := ⟨rfl, rfl⟩
theorem eqv_rt (p q : Rat) : PyData.eqv (.tuple [.int p.num, .int p.den]) (.tuple [.int q.num, .int q.den]) = decide (p = q) := by
  simp only [PyData.eqv, PyData.eqvAll, Bool.and_true]
  rw [Bool.eq_iff_iff]
  simp only [Bool.and_eq_true, beq_iff_eq, decide_eq_true_eq]
  constructor
  · rintro ⟨h1, h2⟩
    exact Rat.ext h1 (by omega)
  · rintro rfl
    exact ⟨rfl, rfl⟩
theorem ok_share (R : Er P K mg CF CL CN) (O : Co K mg) (C1 : Cal P w K mg base T 5 "look_at_two" ["one", "other"] 2 (spTwo CF)) (C2 : Cal P w K mg base T 3 "over" ["one", "other"] 2 spOver) (FN : Fd K "share" (topS 26) f fd) : FnG P w K mg base 6 f fd ["one", "other"] (toV K T 2 (spShare CF)) := by
  refine okV FN sc_share rfl (by decide) fun cdv A outer s H E F ds hr hcd hl hp => ?_
  obtain ⟨a, b, rfl⟩ := len2 hl
  obtain ⟨pa, pb, hz⟩ := hp
  refine jss_cons ?_
  refine js_expr ?_
  refine je_call C1 hr (by omega) (by rfl) ?_
  refine ja_cons ?_
  refine v0 ?_
  refine ja_cons ?_
  refine v1 ?_
  refine ja_nil ⟨rfl, ⟨pa, pb⟩, ?_, fun C v h => .inl h⟩
  rintro _ ⟨ha, hb, rfl⟩
  obtain ⟨p, rfl⟩ := isFr_of ha
  obtain ⟨q, rfl⟩ := isFr_of hb
  refine jss_cons ?_
  refine js_if ?_
  refine jt_eqP hr ?_
  refine v1 ?_
  refine je_NONE O ⟨_, _, rfl, rfl, rfl, rfl, fun k => ?_, fun k => jss_nil ?_⟩
  · have hq : q = 0 := by
      have e := eqv_rt q 0
      rw [show PyData.eqv (.tuple [.int q.num, .int q.den]) (.tuple [.int (Rat.num 0), .int ((Rat.den 0 : Nat) : Int)]) = true from k] at e
      simpa using e.symm
    refine jss_one ?_
    refine js_raise (k := 4) (by rfl) R.tf R.pf R.gf hr (by rfl) ?_
    exact v1 (.inr ⟨ha, rfl, by rw [hq], rfl⟩)
  · have hq : q ≠ 0 := by
      intro z
      have e := eqv_rt q 0
      rw [show PyData.eqv (.tuple [.int q.num, .int q.den]) (.tuple [.int (Rat.num 0), .int ((Rat.den 0 : Nat) : Int)]) = false from k] at e
      simp [z] at e
    refine jss_one ?_
    refine js_ret ?_
    refine je_call C2 hr (by omega) (by rfl) ?_
    refine ja_cons ?_
    refine v0 ?_
    refine ja_cons ?_
    refine v1 ?_
    refine ja_nil ⟨rfl, ⟨_, _, rfl, rfl, hz _ _ rfl rfl, hq⟩, ?_, fun _ _ z => z.elim⟩
    exact Two.at ⟨_, _, rfl, rfl, hq, rfl⟩
end
end K05
end
section
set_option maxRecDepth 100000
set_option maxHeartbeats 4000000
namespace K05
open PySem PySem.Spec PyProof.Rows L2 J
section
variable {P : Program} {w : World} {K : PySem.W.Frag} {mg : Str → Option Value} {base : Heap} {T : List (Addr × Str)} {f : Addr} {fd : FuncData} {CF CL CN : Addr}
theorem ceil_spec {q : Rat} {w : Int} (h : w = 0 - (0 - q.num).fdiv q.den) : ((w - 1 : Int) : Rat) < q ∧ q ≤ (w : Rat) := by
  have hd : (0 : Int) < q.den := by have := q.den_pos; omega
  rw [Rat.lt_iff, Rat.le_iff, (int_parts _).1, (int_parts _).2, (int_parts _).1, (int_parts _).2]
  have h1 := Int.mul_fdiv_add_fmod (0 - q.num) q.den
  have h2 := Int.fmod_nonneg_of_pos (0 - q.num) hd
  have h3 := Int.fmod_lt_of_pos (0 - q.num) hd
  have e : (0 - q.num).fdiv q.den = 0 - w := by omega
  rw [e] at h1
  have k1 : (w - 1) * (q.den : Int) = w * q.den - q.den := by rw [Int.sub_mul, Int.one_mul]
  have k2 : (q.den : Int) * (0 - w) = -(w * q.den) := by rw [Int.mul_sub, Int.mul_zero, Int.mul_comm]; omega
  constructor
  · rw [k1]; push_cast; omega
  · push_cast; omega
theorem rev_get {α : Type} {ws : List Int} {g : Int → α} {t : Nat} {y : α} (h : (ws.map g).reverse[t]? = some y) : t < ws.length ∧ ∃ m, y = g m ∧ ws.take (ws.length - t) = ws.take (ws.length - (t + 1)) ++ [m] := by
  have ht : t < ws.length := by
    have := (List.getElem?_eq_some_iff.mp h).1
    simpa using this
  rw [List.getElem?_reverse (by simpa using ht), List.length_map, List.getElem?_map] at h
  obtain ⟨m, h1, h2⟩ := Option.map_eq_some_iff.mp h
  refine ⟨ht, m, h2.symm, ?_⟩
  rw [show ws.length - t = (ws.length - (t + 1)) + 1 by omega, List.take_succ, show ws.length - (t + 1) = ws.length - 1 - t by omega, h1]
  rfl
def spSA : FSp := F2 (fun a b => ∃ lo hi n, a = rt lo ∧ b = rt hi ∧ Ends2 n lo hi ∧ n ≤ 4000) fun a b r => ∀ lo hi, a = rt lo → b = rt hi → ∃ x, r = rt x ∧ Least lo hi x
abbrev nSA : List Str := ["low", "high", "wholes", "whole", "least", "found"]
theorem sc_sa : FnScope nSA ["low", "high"] (defScope (topS 28)) := ⟨rfl, rfl, rfl, by decide +kernel, rfl, by decide +kernel, by decide +kernel⟩
theorem ok_sa (O : Co K mg) (C1 : Cal P w K mg base T 1 "below" ["one", "other"] 2 spBelow) (C2 : Cal P w K mg base T 3 "over" ["one", "other"] 2 spOver) (C3 : Cal P w K mg base T 3 "minus" ["one", "other"] 2 spMinus) (C4 : Cal P w K mg base T 3 "plus" ["one", "other"] 2 spPlus)
    (FN : Fd K "simplest_above" (topS 28) f fd) : FnG P w K mg base 4 f fd ["low", "high"] (toV K T 2 spSA) := by
  refine okV FN sc_sa rfl (by decide) fun cdv A outer s H E F ds hr hcd hl hp => ?_
  obtain ⟨a, b, rfl⟩ := len2 hl
  obtain ⟨lo, hi, n, rfl, rfl, en, hn⟩ := hp
  refine jss_cons ?_
  refine js_own (i := 2) sc_sa.nd (by rfl) (by exact .inl rfl) ?_
  refine jn_lst ?_
  refine ja_nil ⟨one_sz (show 0 ≤ 1000 by decide), fun p => ⟨show 2 < 6 by decide, ?_⟩⟩
  refine jss_cons (js_while (passes_of rfl) (fun m G => ∃ ws l h s3 s4, G = [.val (rt l), .val (rt h), .own p (ws.map fun m : Int => rt (m : Rat)), s3, s4, .no] ∧ Ch ws lo hi l h ∧ Few n ws l h ∧ m + ws.length = 2 * n + 4) ⟨2 * n + 4, [], lo, hi, .no, .no, rfl, ⟨rfl, rfl⟩, few_start en, rfl⟩ fun m G ⟨ws, l, h, s3, s4, e, ch, fw, em⟩ => ?_)
  subst e
  have es := ch_ends ch en
  have fl := few_len fw es.pos es.le
  refine jt_val (je_bl ⟨true, rfl, fun _ => ?_, fun z => nomatch z⟩)
  refine jss_cons ?_
  refine js_s (i := 3) sc_sa.nd (by rfl) ?_
  refine je_sub ?_
  refine je_int ⟨_, rfl, ?_⟩
  refine je_fdiv ?_
  refine je_sub ?_
  refine je_int ⟨_, rfl, ?_⟩
  refine je_ix ?_
  refine v0 ⟨rfl, ?_⟩
  refine je_int ⟨_, _, rfl, rfl, ⟨_, rfl, ⟨_, rfl, ?_⟩⟩⟩
  refine je_ix ?_
  refine v0 ⟨rfl, ?_⟩
  refine je_int (⟨_, _, rfl, rfl, ⟨_, rfl, cdiv_of (den_ne l) (szd es.sl) (by omega), ⟨_, rfl, ⟨show 3 < 6 by decide, ?_⟩⟩⟩⟩)
  generalize ew : 0 - (0 - l.num).fdiv l.den = w
  obtain ⟨c1, c2⟩ := ceil_spec ew.symm
  have lp := es.pos
  have w1 : 1 ≤ w := by
    have : ((0 : Int) : Rat) < (w : Rat) := by have : ((0 : Int) : Rat) = 0 := rfl; grind
    rw [Rat.intCast_lt_intCast] at this
    omega
  have wl : w ≤ l.num := by
    rw [Rat.lt_iff, (int_parts _).1, (int_parts _).2] at c1
    have hd := l.den_pos
    have := Int.mul_le_mul_of_nonneg_left (show (1 : Int) ≤ l.den by omega) (show 0 ≤ w - 1 by omega)
    push_cast at c1
    omega
  have hw : Sz n (w : Rat) := ⟨by have := es.sl.num; show w.natAbs < _; omega, by have := es.sl.den; have := l.den_pos; show 1 < _; have := es.sl.den; exact Nat.lt_of_le_of_lt l.den_pos this⟩
  have hm : Sz n ((w - 1 : Int) : Rat) := ⟨by have := es.sl.num; show (w - 1).natAbs < _; omega, hw.den⟩
  refine jss_cons ?_
  refine js_if ?_
  refine jt_not ?_
  refine jt_val ?_
  refine je_call C1 hr (by omega) (by rfl) ?_
  refine ja_cons ?_
  refine v1 ?_
  refine ja_cons ?_
  refine je_tup ?_
  refine ja_cons ?_
  refine v3 ?_
  refine ja_cons ?_
  refine je_int ?_
  refine ja_nil ⟨one_sz (show 2 ≤ 1000 by decide), ?_⟩
  refine ja_nil (⟨rfl, ⟨h, (w : Rat), rfl, rfl, n, n, es.sh, hw, by omega⟩, ?_, fun _ _ z => z.elim⟩)
  refine Two.at (p := h) (q := (w : Rat)) ⟨_, rfl, fun k => ?_, fun k => ?_⟩
  · -- the end
    have hk : (w : Rat) ≤ h := by
      have : ¬ (h < (w : Rat)) := by simpa using k
      grind
    have base0 : Least l h (w : Rat) := least_int w1 c1 c2 hk
    refine jss_one ?_
    refine js_break ?_
    refine jss_cons ?_
    refine js_s (i := 5) sc_sa.nd (by rfl) ?_
    refine je_tup ?_
    refine ja_cons ?_
    refine v3 ?_
    refine ja_cons ?_
    refine je_int ?_
    refine ja_nil (⟨one_sz (show 2 ≤ 1000 by decide), ⟨show 5 < 6 by decide, ?_⟩⟩)
    refine jss_freeze (i := 2) (by rfl) (fun z => z) ?_
    refine jss_cons (js_forL (i := 4) (passes_of rfl) rfl sc_sa.nd rfl (.inl rfl) (JE.of_air (jn_rev (v2 ⟨_, rfl, fun p' => ⟨_, rfl, fun t G => ∃ s x l1 h1, G = [.val (rt l), .val (rt h), .val (.lst (ws.map fun m : Int => rt (m : Rat))), .val (.int w), s, .val (rt x)] ∧ Ch (ws.take (ws.length - t)) lo hi l1 h1 ∧ Least l1 h1 x,
      ⟨s4, w, l, h, rfl, by rw [Nat.sub_zero, List.take_length]; exact ch, base0⟩, ?_, ?_⟩⟩))))
    · rintro t y G2 hy ⟨s, x, l1, h1, rfl, c, L⟩
      obtain ⟨ht, m', rfl, tk⟩ := rev_get hy
      rw [tk] at c
      obtain ⟨l2, h2, ch2, st, rfl, rfl⟩ := ch_last c
      have e2 := ch_ends ch2 en
      have e3 := st.next e2
      have zx := sz_least e3.pos e3.le L e3.sl
      have xp : 0 < x := by have := L.ge; have := e3.pos; grind
      have L2 := least_step st.m0 st.gt st.le st.lt L
      have mz : Sz n (m' : Rat) := by
        have a1 := e2.sl.num
        have a2 := st.gt
        rw [Rat.lt_iff, (int_parts _).1, (int_parts _).2] at a2
        have hd := l2.den_pos
        have := Int.mul_le_mul_of_nonneg_left (show (1 : Int) ≤ l2.den by omega) st.m0
        have := st.m0
        push_cast at a2
        exact ⟨by show m'.natAbs < _; omega, hw.den⟩
      have zi : Sz n x⁻¹ := by
        obtain ⟨i1, i2⟩ := inv_parts xp
        have h1 := zx.num
        have h2 := zx.den
        have := num_pos' xp
        exact ⟨by omega, by omega⟩
      refine ⟨show 4 < 6 by decide, ?_⟩
      refine jss_one ?_
      refine js_s (i := 5) sc_sa.nd (by rfl) ?_
      refine je_call C4 hr (by omega) (by rfl) ?_
      refine ja_cons ?_
      refine v4 ?_
      refine ja_cons ?_
      refine je_call C2 hr (by omega) (by rfl) ?_
      refine ja_cons ?_
      refine je_ONE O ?_
      refine ja_cons ?_
      refine v5 ?_
      refine ja_nil ⟨rfl, ⟨1, x, rfl, rfl, ⟨1, n, sz1, zx, by omega⟩, by grind⟩, ?_, fun _ _ z => z.elim⟩
      refine Two.at (p := 1) (q := x) (ja_nil ⟨rfl, ⟨(m' : Rat), x⁻¹, rfl, by rw [Rat.div_def, Rat.one_mul], n, n, mz, zi, by omega⟩, ?_, fun _ _ z => z.elim⟩)
      rw [Rat.div_def, Rat.one_mul]
      refine Two.at (p := (m' : Rat)) (q := x⁻¹) ⟨show 5 < 6 by decide, _, _, _, _, rfl, ch2, L2⟩
    · rintro G2 ⟨s, x, l1, h1, rfl, c, L⟩
      rw [List.length_reverse, List.length_map, Nat.sub_self] at c
      obtain ⟨rfl, rfl⟩ := c
      refine jss_one ?_
      refine js_ret ?_
      refine v5 ?_
      intro lo' hi' e1 e2
      rw [← rt_inj e1, ← rt_inj e2]
      exact ⟨x, rfl, L⟩
  · have hk : h < (w : Rat) := by simpa using k
    have st : Stp (w - 1) l h := ⟨by omega, c1, es.le, by rw [show w - 1 + 1 = w by omega]; exact hk⟩
    have nx := st.next es
    refine jss_nil ?_
    refine jss_cons ?_
    refine js_s (i := 4) sc_sa.nd (by rfl) ?_
    refine je_tup ?_
    refine ja_cons ?_
    refine je_sub ?_
    refine v3 ⟨_, rfl, ?_⟩
    refine je_int ⟨_, rfl, ?_⟩
    refine ja_cons ?_
    refine je_int ?_
    refine ja_nil (⟨one_sz (show 2 ≤ 1000 by decide), ⟨show 4 < 6 by decide, ?_⟩⟩)
    refine jss_cons ?_
    refine js_append (i := 2) (by rfl) (by exact .inl rfl) (by rfl) ?_
    refine v4 ⟨_, rfl, by rw [List.length_map, sizeLine_eq]; omega, ?_⟩
    refine jss_one ?_
    refine js_par (i := 0) (j := 1) (by rfl) sc_sa.nd (by rfl) (by rfl) (by decide) (by rfl) (by rfl) ?_
    refine je_call C2 hr (by omega) (by rfl) ?_
    refine ja_cons ?_
    refine je_ONE O ?_
    refine ja_cons ?_
    refine je_call C3 hr (by omega) (by rfl) ?_
    refine ja_cons ?_
    refine v1 ?_
    refine ja_cons ?_
    refine v4 ?_
    refine ja_nil (⟨rfl, ⟨h, ((w - 1 : Int) : Rat), rfl, rfl, n, n, es.sh, hm, by omega⟩, ?_, fun _ _ z => z.elim⟩)
    refine Two.at (p := h) (q := ((w - 1 : Int) : Rat)) (ja_nil ⟨rfl, ⟨1, h - ((w - 1 : Int) : Rat), rfl, rfl, ⟨1, n, sz1, (sz_next st.m0 (by have := st.gt; have := st.le; grind) es.sh).1, by omega⟩, by have := st.gt; have := st.le; grind⟩, ?_, fun _ _ z => z.elim⟩)
    refine Two.at (p := 1) (q := h - ((w - 1 : Int) : Rat)) ?_
    refine je_call C2 hr (by omega) (by rfl) ?_
    refine ja_cons ?_
    refine je_ONE O ?_
    refine ja_cons ?_
    refine je_call C3 hr (by omega) (by rfl) ?_
    refine ja_cons ?_
    refine v0 ?_
    refine ja_cons ?_
    refine v4 ?_
    refine ja_nil (⟨rfl, ⟨l, ((w - 1 : Int) : Rat), rfl, rfl, n, n, es.sl, hm, by omega⟩, ?_, fun _ _ z => z.elim⟩)
    refine Two.at (p := l) (q := ((w - 1 : Int) : Rat)) (ja_nil ⟨rfl, ⟨1, l - ((w - 1 : Int) : Rat), rfl, rfl, ⟨1, n, sz1, (sz_next st.m0 st.gt es.sl).1, by omega⟩, by have := st.gt; grind⟩, ?_, fun _ _ z => z.elim⟩)
    refine Two.at (p := 1) (q := l - ((w - 1 : Int) : Rat)) ⟨show 0 < 6 by decide, show 1 < 6 by decide, m - 1, ?_, ws ++ [w - 1], (h - ((w - 1 : Int) : Rat))⁻¹, (l - ((w - 1 : Int) : Rat))⁻¹, .val (.int w), .val (rt ((w - 1 : Int) : Rat)), ?_, ch_snoc ch st, few_next fw st, ?_⟩
    · omega
    · rw [List.map_append, Rat.div_def, Rat.one_mul, Rat.div_def, Rat.one_mul]; rfl
    · rw [List.length_append, List.length_singleton]; omega
end
end K05
end
section
set_option maxRecDepth 100000
set_option maxHeartbeats 4000000
namespace K05
open PySem PySem.Spec PyProof.Rows L2 J
section
variable {P : Program} {w : World} {K : PySem.W.Frag} {mg : Str → Option Value} {base : Heap} {T : List (Addr × Str)} {f : Addr} {fd : FuncData} {CF CL CN : Addr}
/-- the simplest fraction of a stretch: the least under, of these the one nearest to 0 -/
structure Smp (p q x : Rat) : Prop where
  ge : p ≤ x
  le : x ≤ q
  den : ∀ y, p ≤ y → y ≤ q → x.den ≤ y.den
  num : ∀ y, p ≤ y → y ≤ q → x.num.natAbs ≤ y.num.natAbs
theorem smp_pos {p q x : Rat} (hp : 0 < p) (L : Least p q x) : Smp p q x := by
  refine ⟨L.ge, L.le, L.den, fun y h1 h2 => ?_⟩
  have := L.num y h1 h2
  have := num_pos' (show 0 < x by have := L.ge; grind)
  omega
theorem smp_zero {p q : Rat} (h1 : p ≤ 0) (h2 : 0 ≤ q) : Smp p q 0 := ⟨h1, h2, fun y _ _ => y.den_pos, fun y _ _ => Nat.zero_le _⟩
theorem smp_neg {p q x : Rat} (hq : q < 0) (L : Least (-q) (-p) x) : Smp p q (-x) := by
  have a := L.ge
  have b := L.le
  refine ⟨by grind, by grind, fun y h1 h2 => ?_, fun y h1 h2 => ?_⟩
  · exact L.den (-y) (by grind) (by grind)
  · have c := L.num (-y) (by grind) (by grind)
    have d := num_pos' (show 0 < x by grind)
    show (-x.num).natAbs ≤ y.num.natAbs
    have c : x.num ≤ -y.num := c
    omega
def spSimp (CF : Addr) : FSp := F2 (fun a b => a.py.isSome = true ∧ b.py.isSome = true ∧ ∀ p q, a = rt p → b = rt q → ∃ n, Sz n p ∧ Sz n q ∧ n ≤ 4000) (fun a b r => ∃ p q x, a = rt p ∧ b = rt q ∧ p ≤ q ∧ r = rt x ∧ Smp p q x)
  fun a b C v => excTwo CF a b C v ∨ C = CF ∧ v = a ∧ ∃ p q, a = rt p ∧ b = rt q ∧ q < p
theorem sc_simp : FnScope ["low", "high", "found"] ["low", "high"] (defScope (topS 29)) := ⟨rfl, rfl, rfl, by decide +kernel, rfl, by decide +kernel, by decide +kernel⟩
theorem rt_neg (q : Rat) : D.tup [.int (0 - q.num), .int q.den] = rt (-q) := by rw [Int.zero_sub]; rfl
theorem sz_neg {n : Nat} {q : Rat} (h : Sz n q) : Sz n (-q) := ⟨by show (-q.num).natAbs < _; have := h.num; omega, h.den⟩
theorem ok_simp (R : Er P K mg CF CL CN) (O : Co K mg) (C1 : Cal P w K mg base T 5 "look_at_two" ["one", "other"] 2 (spTwo CF)) (C2 : Cal P w K mg base T 1 "below" ["one", "other"] 2 spBelow) (C3 : Cal P w K mg base T 4 "simplest_above" ["low", "high"] 2 spSA)
    (FN : Fd K "simplest" (topS 29) f fd) : FnG P w K mg base 6 f fd ["low", "high"] (toV K T 2 (spSimp CF)) := by
  refine okV FN sc_simp rfl (by decide) fun cdv A outer s H E F ds hr hcd hl hp => ?_
  obtain ⟨a, b, rfl⟩ := len2 hl
  obtain ⟨pa, pb, hz⟩ := hp
  refine jss_cons ?_
  refine js_expr ?_
  refine je_call C1 hr (by omega) (by rfl) ?_
  refine ja_cons ?_
  refine v0 ?_
  refine ja_cons ?_
  refine v1 ?_
  refine ja_nil ⟨rfl, ⟨pa, pb⟩, ?_, fun C v h => .inl h⟩
  rintro _ ⟨ha, hb, rfl⟩
  obtain ⟨p, rfl⟩ := isFr_of ha
  obtain ⟨q, rfl⟩ := isFr_of hb
  obtain ⟨n, zp, zq, hn⟩ := hz p q rfl rfl
  have hz2 : szA q p := ⟨n, n, zq, zp, by omega⟩
  refine jss_cons ?_
  refine js_if ?_
  refine jt_val ?_
  refine je_call C2 hr (by omega) (by rfl) ?_
  refine ja_cons ?_
  refine v1 ?_
  refine ja_cons ?_
  refine v0 ?_
  refine ja_nil (⟨rfl, ⟨q, p, rfl, rfl, hz2⟩, ?_, fun _ _ z => z.elim⟩)
  refine Two.at (p := q) (q := p) ⟨_, rfl, fun k => ?_, fun k => jss_nil ?_⟩
  · refine jss_one ?_
    refine js_raise (k := 4) (by rfl) R.tf R.pf R.gf hr (by rfl) ?_
    exact v0 (.inr ⟨rfl, rfl, p, q, rfl, rfl, by simpa using k⟩)
  have hpq : p ≤ q := by
    have : ¬ (q < p) := by simpa using k
    grind
  have fin : ∀ x, Smp p q x → (spSimp CF).post [rt p, rt q] (rt x) := fun x h => ⟨p, q, x, rfl, rfl, hpq, rfl, h⟩
  have pos : 0 < p → ∀ G2 : List Sl, G2 = G0 3 [rt p, rt q] → JSs (DX P w K mg base "simplest" (topS 29) f ["low", "high", "found"] cdv A outer s H E) ⟨F, H, fun _ => False, T⟩ ((defBody (topS 29)).drop 3) G2 { nx := fun _ => (spSimp CF).post [rt p, rt q] .non, rt := fun d _ => (spSimp CF).post [rt p, rt q] d } (fun C d _ => (spSimp CF).exc [rt p, rt q] C d) := by
    rintro hpp _ rfl
    refine jss_cons ?_
    refine js_if ?_
    refine jt_gt ?_
    refine je_ix ?_
    refine v0 ⟨rfl, ?_⟩
    refine je_int ⟨_, _, rfl, rfl, ⟨_, rfl, ?_⟩⟩
    refine je_int ⟨_, rfl, fun k2 => ?_, fun k2 => ?_⟩
    · refine jss_one ?_
      refine js_ret ?_
      refine je_call C3 hr (by omega) (by rfl) ?_
      refine ja_cons ?_
      refine v0 ?_
      refine ja_cons ?_
      refine v1 ?_
      refine ja_nil ⟨rfl, ⟨p, q, n, rfl, rfl, ⟨hpp, hpq, zp, zq⟩, hn⟩, fun r h => ?_, fun _ _ z => z.elim⟩
      obtain ⟨x, rfl, L⟩ := h p q rfl rfl
      exact fin x (smp_pos hpp L)
    · exact absurd (num_pos' hpp) (by simpa using k2)
  have neg : q < 0 → ∀ G2 : List Sl, G2 = G0 3 [rt p, rt q] → JSs (DX P w K mg base "simplest" (topS 29) f ["low", "high", "found"] cdv A outer s H E) ⟨F, H, fun _ => False, T⟩ ((defBody (topS 29)).drop 3) G2 { nx := fun _ => (spSimp CF).post [rt p, rt q] .non, rt := fun d _ => (spSimp CF).post [rt p, rt q] d } (fun C d _ => (spSimp CF).exc [rt p, rt q] C d) := by
    rintro hqq _ rfl
    have np : p.num < 0 := by
      have h := (Rat.lt_iff p 0).mp (by grind)
      simpa using h
    refine jss_cons ?_
    refine js_if ?_
    refine jt_gt ?_
    refine je_ix ?_
    refine v0 ⟨rfl, ?_⟩
    refine je_int ⟨_, _, rfl, rfl, ⟨_, rfl, ?_⟩⟩
    refine je_int ⟨_, rfl, fun k2 => ?_, fun k2 => ?_⟩
    · have : 0 < p.num := by simpa using k2
      omega
    · refine jss_nil ?_
      refine jss_cons ?_
      refine js_s (i := 2) sc_simp.nd (by rfl) ?_
      refine je_call C3 hr (by omega) (by rfl) ?_
      refine ja_cons ?_
      refine je_tup ?_
      refine ja_cons ?_
      refine je_sub ?_
      refine je_int ⟨_, rfl, ?_⟩
      refine je_ix ?_
      refine v1 ⟨rfl, ?_⟩
      refine je_int ⟨_, _, rfl, rfl, ⟨_, rfl, ?_⟩⟩
      refine ja_cons ?_
      refine je_ix ?_
      refine v1 ⟨rfl, ?_⟩
      refine je_int ⟨_, _, rfl, rfl, ?_⟩
      refine ja_nil ⟨one_sz (show 2 ≤ 1000 by decide), ?_⟩
      refine ja_cons ?_
      refine je_tup ?_
      refine ja_cons ?_
      refine je_sub ?_
      refine je_int ⟨_, rfl, ?_⟩
      refine je_ix ?_
      refine v0 ⟨rfl, ?_⟩
      refine je_int ⟨_, _, rfl, rfl, ⟨_, rfl, ?_⟩⟩
      refine ja_cons ?_
      refine je_ix ?_
      refine v0 ⟨rfl, ?_⟩
      refine je_int ⟨_, _, rfl, rfl, ?_⟩
      refine ja_nil ⟨one_sz (show 2 ≤ 1000 by decide), ?_⟩
      refine ja_nil (⟨rfl, ?_, ?_, fun _ _ z => z.elim⟩)
      · exact ⟨-q, -p, n, rt_neg q, rt_neg p, ⟨by grind, by grind, sz_neg zq, sz_neg zp⟩, hn⟩
      intro r h
      obtain ⟨x, rfl, L⟩ := h (-q) (-p) (rt_neg q) (rt_neg p)
      refine ⟨show 2 < 3 by decide, ?_⟩
      refine jss_one ?_
      refine js_ret ?_
      refine je_tup ?_
      refine ja_cons ?_
      refine je_sub ?_
      refine je_int ⟨_, rfl, ?_⟩
      refine je_ix ?_
      refine v2 ⟨rfl, ?_⟩
      refine je_int ⟨_, _, rfl, rfl, ⟨_, rfl, ?_⟩⟩
      refine ja_cons ?_
      refine je_ix ?_
      refine v2 ⟨rfl, ?_⟩
      refine je_int ⟨_, _, rfl, rfl, ?_⟩
      refine ja_nil (⟨one_sz (show 2 ≤ 1000 by decide), ?_⟩)
      have := fin (-x) (smp_neg hqq L)
      rw [← rt_neg] at this
      exact this
  refine jss_cons ?_
  refine js_if ?_
  refine jt_chain op_le op_le ?_
  refine je_ix ?_
  refine v0 ⟨rfl, ?_⟩
  refine je_int ⟨_, _, rfl, rfl, ⟨_, rfl, ?_⟩⟩
  refine je_int ⟨_, rfl, fun k => ?_, fun k => je_ix (v1 (⟨rfl, je_int (⟨_, _, rfl, rfl, ⟨_, rfl, fun k2 => ?_, fun k2 => ?_⟩⟩)⟩))⟩
  · refine ⟨(fun z => nomatch z), fun _ => jss_nil (pos ?_ _ rfl)⟩
    have : 0 < p.num := by have : ¬ (p.num ≤ 0) := by simpa using k
                           omega
    rw [Rat.lt_iff]; simpa using this
  · have h1 : p ≤ 0 := by
      rw [Rat.le_iff]; simpa using k
    have h2 : 0 ≤ q := by
      rw [Rat.le_iff]; simpa using k2
    refine jss_one ?_
    refine js_ret ?_
    exact je_NONE O (fin 0 (smp_zero h1 h2))
  · refine jss_nil (neg ?_ _ rfl)
    have : ¬ (0 ≤ q.num) := by simpa using k2
    have h := Rat.num_nonneg (q := q)
    grind
end
end K05
end
section
set_option maxRecDepth 100000
set_option maxHeartbeats 4000000
namespace K05
open PySem PySem.Spec PyProof.Rows L2 J
section
variable {P : Program} {w : World} {K : PySem.W.Frag} {mg : Str → Option Value} {base : Heap} {T : List (Addr × Str)} {f : Addr} {fd : FuncData} {CF CL CN : Addr}
/-- a purse of which at most n draws were made -/
def purse (cs : List Int) (i h t s : Int) : List D := [.lst (cs.map .int), .int i, .int h, .int t, .int s]
structure PuI (n : Nat) (cs : List Int) (i h t s : Int) : Prop where
  i0 : 0 ≤ i
  len : cs.length ≤ 63
  h0 : 0 ≤ h
  cells : ∀ c ∈ cs, 0 ≤ c
  t0 : 0 ≤ t
  tn : t ≤ n
  s0 : 0 ≤ s
  s1 : s < 2147483647
def Pu (n : Nat) (l : List D) : Prop := ∃ cs i h t s, l = purse cs i h t s ∧ PuI n cs i h t s
theorem Pu.mono {n m : Nat} {l : List D} (p : Pu n l) (k : n ≤ m) : Pu m l := by
  obtain ⟨cs, i, h, t, s, e, q⟩ := p
  exact ⟨cs, i, h, t, s, e, ⟨q.i0, q.len, q.h0, q.cells, q.t0, by have := q.tn; omega, q.s0, q.s1⟩⟩
theorem iv {a : Int} {n : Nat} (h0 : 0 ≤ a) (h : a < 2 ^ n) : a.natAbs < 2 ^ n := by
  have : ((2 ^ n : Nat) : Int) = 2 ^ n := by simp
  omega
theorem Pu.le {n : Nat} {cs : List Int} {i h t s : Int} (p : Pu n (purse cs i h t s)) : t ≤ n := by
  obtain ⟨cs', i', h', t', s', e, q⟩ := p
  injection e with _ e
  injection e with _ e
  injection e with _ e
  injection e with e _
  injection e with e
  rw [e]; exact q.tn
theorem atI_of {l : List D} {i : Int} {d : D} (h0 : 0 ≤ i) (h : l[i.toNat]? = some d) : L2.atI l i = some d := by
  have hl := (List.getElem?_eq_some_iff.mp h).1
  unfold L2.atI ixN
  rw [if_pos h0, if_pos (by omega)]
  exact h
def spDraw : PSp where
  pre l ds := ∃ n many, ds = [.int many] ∧ Pu n l ∧ n + 1 < 2 ^ 60 ∧ 0 < many ∧ many < 2 ^ 200
  post l ds r l' := ∀ n many, ds = [.int many] → Pu n l → ∃ j, r = .int j ∧ 0 ≤ j ∧ j < many ∧ Pu (n + 1) l'
abbrev nD : List Str := ["purse", "many", "told", "mixed"]
theorem sc_draw : FnScope nD ["purse", "many"] (defScope (topS 32)) := ⟨rfl, rfl, rfl, by decide +kernel, rfl, by decide +kernel, by decide +kernel⟩
theorem ok_draw (B : Bt mg) (FN : Fd K "_law_draw" (topS 32) f fd) : FnG P w K mg base 1 f fd ["purse", "many"] (toP K T 1 spDraw) := by
  refine okP FN sc_draw rfl (by decide) fun cdv A outer s0 H E F a l ds hr hcd hl hp => ?_
  obtain ⟨n0, many, rfl, ⟨cs, i0, h0, t, s, rfl, q⟩, hn, hm, hm2⟩ := hp
  have rest : ∀ (i h : Int), 0 ≤ i → 0 ≤ h → JSs (DX P w K mg base "_law_draw" (topS 32) f nD cdv A outer s0 H E) ⟨F, H, (· = a), T⟩ ((defBody (topS 32)).drop 1) (.own a (purse cs i h t s) :: G0 3 [.int many]) { nx := fun G => ∃ l', G[0]? = some (Sl.own a l') ∧ spDraw.post (purse cs i0 h0 t s) [.int many] .non l', rt := fun d G => ∃ l', G[0]? = some (Sl.own a l') ∧ spDraw.post (purse cs i0 h0 t s) [.int many] d l' } NoX := fun i h hi hh => by
    refine jss_cons ?_
    refine js_if ?_
    refine jt_ge ?_
    refine je_ixO (i := 0) (by rfl) (by exact .inl rfl) (by rfl) ?_
    refine je_int ⟨_, _, _, rfl, rfl, rfl, ⟨_, rfl, ?_⟩⟩
    refine v1 ⟨_, rfl, fun k => ?_, fun k => ?_⟩
    · have k1 : many ≤ h := by simpa using k
      refine jss_cons ?_
      refine js_s (i := 2) sc_draw.nd (by rfl) ?_
      refine je_mod ?_
      refine je_intI B (by rfl) ?_
      refine je_ixO (i := 0) (by rfl) (by exact .inl rfl) (by rfl) ?_
      refine je_int ⟨_, _, _, rfl, rfl, rfl, ⟨_, rfl, ⟨_, rfl, ?_⟩⟩⟩
      refine v1 (⟨_, rfl, hm, ⟨show 2 < 4 by decide, ?_⟩⟩)
      refine jss_cons ?_
      refine js_setitem (i := 0) (by rfl) (by exact .inl rfl) (by rfl) ?_
      refine je_fdiv ?_
      refine je_ixO (i := 0) (by rfl) (by exact .inl rfl) (by rfl) ?_
      refine je_int ⟨_, _, _, rfl, rfl, rfl, ⟨_, rfl, ?_⟩⟩
      refine v1 ⟨_, rfl, cdiv_of (by omega) (iv (by omega) hm2) (by decide), ?_⟩
      refine je_int ⟨_, _, _, rfl, rfl, rfl, ?_⟩
      refine jss_one ?_
      refine js_ret ?_
      refine v2 ⟨_, rfl, fun n many' e p => ?_⟩
      cases e
      refine ⟨_, rfl, Int.emod_nonneg _ (by omega), Int.emod_lt_of_pos _ hm, cs, i, h.fdiv many, t, s, rfl, hi, q.len, ?_, q.cells, q.t0, by have := p.le; omega, q.s0, q.s1⟩
      rw [Int.fdiv_eq_ediv_of_nonneg _ (by omega)]
      exact Int.ediv_nonneg hh (by omega)
    · refine jss_nil ?_
      have tb : t + 1 < 2 ^ 61 := by have := q.tn; omega
      refine jss_cons ?_
      refine js_augitem (i := 0) (k := 3) (by rfl) (by exact .inl rfl) (by rfl) (by rfl) ?_
      refine je_int ⟨_, _, rfl, rfl, show 3 < 5 by decide, ?_⟩
      have cm : (t + 1) * (t + 1) + s < 2 ^ 123 ∧ 0 ≤ (t + 1) * (t + 1) := by
        have h1 := bd_mul (iv (by have := q.t0; omega) tb) (iv (by have := q.t0; omega) tb)
        have h2 : (0 : Int) ≤ (t + 1) * (t + 1) := Int.mul_nonneg (by have := q.t0; omega) (by have := q.t0; omega)
        have := q.s1
        omega
      refine jss_cons ?_
      refine js_s (i := 3) sc_draw.nd (by rfl) ?_
      refine je_mod ?_
      refine je_intI B (by rfl) ?_
      refine je_mul ?_
      refine je_add ?_
      refine je_mul ?_
      refine je_ixO (i := 0) (by rfl) (by exact .inl rfl) (by rfl) ?_
      refine je_int ⟨_, _, _, rfl, rfl, rfl, ⟨_, rfl, ?_⟩⟩
      refine je_ixO (i := 0) (by rfl) (by exact .inl rfl) (by rfl) ?_
      refine je_int ⟨_, _, _, rfl, rfl, rfl, ⟨_, rfl, cmul_of (iv (by have := q.t0; omega) tb) (iv (by have := q.t0; omega) tb) (by decide), ⟨_, rfl, ?_⟩⟩⟩
      refine je_ixO (i := 0) (by rfl) (by exact .inl rfl) (by rfl) ?_
      refine je_int ⟨_, _, _, rfl, rfl, rfl, ⟨_, rfl, ⟨_, rfl, ?_⟩⟩⟩
      refine je_int ⟨_, rfl, cmul_of (n := 123) (m := 16) (iv (by have := q.s0; omega) cm.1) (by decide) (by decide), ⟨_, rfl, ⟨_, rfl, ?_⟩⟩⟩
      refine je_int (⟨_, rfl, by decide, ⟨show 3 < 4 by decide, ?_⟩⟩)
      have m0 := Int.emod_nonneg (((t + 1) * (t + 1) + s) * 48271) (show (2147483629 : Int) ≠ 0 by decide)
      have m1 := Int.emod_lt_of_pos (((t + 1) * (t + 1) + s) * 48271) (show (0 : Int) < 2147483629 by decide)
      refine jss_one ?_
      refine js_ret ?_
      refine je_mod ?_
      refine je_intI B (by rfl) ?_
      refine je_mod ?_
      refine je_intI B (by rfl) ?_
      refine je_mul ?_
      refine v3 ⟨_, rfl, ?_⟩
      refine v3 ⟨_, rfl, cmul_of (n := 32) (m := 32) (iv m0 (by omega)) (iv m0 (by omega)) (by decide), ⟨_, rfl, ⟨_, rfl, ?_⟩⟩⟩
      refine je_int ⟨_, rfl, by decide, ⟨_, rfl, ⟨_, rfl, ?_⟩⟩⟩
      refine v1 (⟨_, rfl, hm, ⟨_, rfl, ?_⟩⟩)
      intro n many' e p
      cases e
      exact ⟨_, rfl, Int.emod_nonneg _ (by omega), Int.emod_lt_of_pos _ hm, cs, i, h, t + 1, s, rfl, hi, q.len, hh, q.cells, by have := q.t0; omega, by have := p.le; omega, q.s0, q.s1⟩
  refine jss_cons ?_
  refine js_if ?_
  refine jt_w ?_
  refine jw_and ?_
  refine jt_lt ?_
  refine je_ixO (i := 0) (by rfl) (by exact .inl rfl) (by rfl) ?_
  refine je_int ⟨_, _, _, rfl, rfl, rfl, ⟨_, rfl, ?_⟩⟩
  refine v1 ⟨_, rfl, fun k => ?_, fun k => ?_⟩
  · refine jw_and1 ?_
    refine jt_lt ?_
    refine je_ixO (i := 0) (by rfl) (by exact .inl rfl) (by rfl) ?_
    refine je_int ⟨_, _, _, rfl, rfl, rfl, ⟨_, rfl, ?_⟩⟩
    refine je_len B (by rfl) ?_
    refine je_ixO (i := 0) (by rfl) (by exact .inl rfl) (by rfl) ?_
    refine je_int (⟨_, _, _, rfl, rfl, rfl, ⟨rfl, ⟨_, rfl, fun k2 => ?_, fun k2 => ?_⟩⟩⟩)
    · have hi : i0 < cs.length := by
        have k3 : decide (i0 < ((cs.map D.int).length : Int)) = true := k2
        simpa using k3
      have hi2 : i0.toNat < cs.length := by have := q.i0; omega
      have at1 : L2.atI (cs.map D.int) i0 = some (.int cs[i0.toNat]) := atI_of q.i0 (by rw [List.getElem?_map, List.getElem?_eq_getElem hi2]; rfl)
      refine jss_cons ?_
      refine js_setitem (i := 0) (by rfl) (by exact .inl rfl) (by rfl) ?_
      refine je_ix ?_
      refine je_ixO (i := 0) (by rfl) (by exact .inl rfl) (by rfl) ?_
      refine je_int ⟨_, _, _, rfl, rfl, rfl, ⟨rfl, ?_⟩⟩
      refine je_ixO (i := 0) (by rfl) (by exact .inl rfl) (by rfl) ?_
      refine je_int ⟨_, _, _, rfl, rfl, rfl, ⟨_, _, rfl, at1, ?_⟩⟩
      refine je_int ⟨_, _, _, rfl, rfl, rfl, ?_⟩
      refine jss_one ?_
      refine js_augitem (i := 0) (k := 1) (by rfl) (by exact .inl rfl) (by rfl) (by rfl) ?_
      refine je_int ⟨_, _, rfl, rfl, show 1 < 5 by decide, ?_⟩
      exact rest (i0 + 1) _ (by have := q.i0; omega) (q.cells _ (List.getElem_mem hi2))
    · exact jss_nil (rest i0 h0 q.i0 q.h0)
  · exact ⟨(fun z => nomatch z), fun _ => jss_nil (rest i0 h0 q.i0 q.h0)⟩
end
end K05
end
section
set_option maxRecDepth 100000
set_option maxHeartbeats 4000000
namespace K05
open PySem PySem.Spec PyProof.Rows L2 J
section
variable {P : Program} {w : World} {K : PySem.W.Frag} {mg : Str → Option Value} {base : Heap} {T : List (Addr × Str)} {f : Addr} {fd : FuncData} {CF CL CN : Addr}
/-! _law_pick, _law_between -/
def spPick : PSp where
  pre l ds := ∃ n xs, ds = [.lst xs] ∧ Pu n l ∧ n + 1 < 2 ^ 60 ∧ 0 < xs.length ∧ xs.length < 1000
  post l ds r l' := ∀ n xs, ds = [.lst xs] → Pu n l → r ∈ xs ∧ Pu (n + 1) l'
theorem sc_pick : FnScope ["purse", "things"] ["purse", "things"] (defScope (topS 33)) := ⟨rfl, rfl, rfl, by decide +kernel, rfl, by decide +kernel, by decide +kernel⟩
theorem ok_pick (B : Bt mg) (C1 : CalP P w K mg base T 1 "_law_draw" ["purse", "many"] 1 spDraw) (FN : Fd K "_law_pick" (topS 33) f fd) : FnG P w K mg base 2 f fd ["purse", "things"] (toP K T 1 spPick) := by
  refine okP FN sc_pick rfl (by decide) fun cdv A outer s0 H E F a l ds hr hcd hl hp => ?_
  obtain ⟨n, xs, rfl, pu, hn, h0, hz⟩ := hp
  have hz2 : ((xs.length : Nat) : Int) < 2 ^ 200 := by omega
  have hz3 : (0 : Int) < ((xs.length : Nat) : Int) := by omega
  refine jss_one ?_
  refine js_ret ?_
  refine je_ix ?_
  refine v1 ⟨rfl, ?_⟩
  refine je_callO C1 hr (by omega) (by rfl) (i := 0) (by rfl) (by exact .inl rfl) (by rfl) (?_)
  refine ja_cons ?_
  refine je_len B (by rfl) ?_
  refine v1 ⟨rfl, ?_⟩
  refine ja_nil ⟨l, rfl, rfl, ⟨n, ((xs.length : Nat) : Int), rfl, pu, hn, hz3, hz2⟩, fun d l' h => ?_⟩
  obtain ⟨j, rfl, j0, j1, pu'⟩ := h n _ rfl pu
  have j1 : j < (xs.length : Nat) := j1
  have hj : j.toNat < xs.length := by omega
  refine ⟨_, xs[j.toNat], rfl, atI_of j0 (List.getElem?_eq_getElem hj), _, rfl, fun n' xs' e p => ?_⟩
  cases e
  refine ⟨List.getElem_mem hj, ?_⟩
  obtain ⟨_, _, _, _, pu2⟩ := h n' _ rfl p
  exact pu2
def spBtw : PSp where
  pre l ds := ∃ n lo hi, ds = [.int lo, .int hi] ∧ Pu n l ∧ n + 1 < 2 ^ 60 ∧ lo ≤ hi ∧ hi - lo < 2 ^ 199
  post l ds r l' := ∀ n lo hi, ds = [.int lo, .int hi] → Pu n l → ∃ j, r = .int j ∧ lo ≤ j ∧ j ≤ hi ∧ Pu (n + 1) l'
theorem sc_btw : FnScope ["purse", "low", "high"] ["purse", "low", "high"] (defScope (topS 34)) := ⟨rfl, rfl, rfl, by decide +kernel, rfl, by decide +kernel, by decide +kernel⟩
theorem ok_btw (C1 : CalP P w K mg base T 1 "_law_draw" ["purse", "many"] 1 spDraw) (FN : Fd K "_law_between" (topS 34) f fd) : FnG P w K mg base 2 f fd ["purse", "low", "high"] (toP K T 2 spBtw) := by
  refine okP FN sc_btw rfl (by decide) fun cdv A outer s0 H E F a l ds hr hcd hl hp => ?_
  obtain ⟨n, lo, hi, rfl, pu, hn, h0, hz⟩ := hp
  refine jss_one ?_
  refine js_ret ?_
  refine je_add ?_
  refine v1 ⟨_, rfl, ?_⟩
  refine je_callO C1 hr (by omega) (by rfl) (i := 0) (by rfl) (by exact .inl rfl) (by rfl) (?_)
  refine ja_cons ?_
  refine je_add ?_
  refine je_sub ?_
  refine v2 ⟨_, rfl, ?_⟩
  refine v1 ⟨_, rfl, ⟨_, rfl, ?_⟩⟩
  refine je_int ⟨_, rfl, ?_⟩
  refine ja_nil ⟨l, rfl, rfl, ⟨n, hi - lo + 1, rfl, pu, hn, (by omega : 0 < hi - lo + 1), (by omega : hi - lo + 1 < 2 ^ 200)⟩, fun d l' h => ?_⟩
  obtain ⟨j, rfl, j0, j1, pu'⟩ := h n _ rfl pu
  refine ⟨_, rfl, _, rfl, fun n' lo' hi' e p => ?_⟩
  cases e
  obtain ⟨j2, e2, _, _, pu2⟩ := h n' _ rfl p
  exact ⟨_, rfl, by omega, by omega, pu2⟩
/-! _law_frac -/
def spLF : FSp := F2 (fun a b => ∃ i j n, a = .int i ∧ b = .int j ∧ j ≠ 0 ∧ i.natAbs < 2 ^ n ∧ j.natAbs < 2 ^ n ∧ n ≤ 9000) fun a b r => r = lowD a b
abbrev nF : List Str := ["top", "under", "one", "other", "sign"]
theorem sc_lf : FnScope nF ["top", "under"] (defScope (topS 37)) := ⟨rfl, rfl, rfl, by decide +kernel, rfl, by decide +kernel, by decide +kernel⟩
theorem ok_lf (B : Bt mg) (FN : Fd K "_law_frac" (topS 37) f fd) : FnG P w K mg base 1 f fd ["top", "under"] (toV K T 2 spLF) := by
  refine okV FN sc_lf rfl (by decide) fun cdv A outer s H E F ds hr hcd hl hp => ?_
  obtain ⟨a, b, rfl⟩ := len2 hl
  obtain ⟨i, j, n, rfl, rfl, hj, hi, hb, hn⟩ := hp
  refine jss_cons ?_
  refine js_par (i := 2) (j := 3) (by rfl) sc_lf.nd (by rfl) (by rfl) (by decide) (by rfl) (by rfl) ?_
  refine je_abs B (by rfl) ?_
  refine v0 ⟨_, rfl, ?_⟩
  refine je_abs B (by rfl) ?_
  refine v1 (⟨_, rfl, ⟨show 2 < 5 by decide, show 3 < 5 by decide, ?_⟩⟩)
  refine jss_cons (js_while (passes_of rfl) (fun m G => ∃ x y : Nat, G = [.val (.int i), .val (.int j), .val (.int x), .val (.int y), .no] ∧ Nat.gcd x y = Nat.gcd i.natAbs j.natAbs ∧ m = y) ⟨j.natAbs, i.natAbs, j.natAbs, rfl, rfl, rfl⟩ fun m G ⟨x, y, e, e1, e2⟩ => ?_)
  subst e
  refine jt_neI ?_
  refine v3 ⟨_, rfl, ?_⟩
  refine je_int ⟨_, rfl, fun hk => ?_, fun hk => ?_⟩
  · have hy : 0 < y := by
      rcases Nat.eq_zero_or_pos y with z | z
      · rw [z] at hk; simp at hk
      · exact z
    refine jss_one ?_
    refine js_par (i := 2) (j := 3) (by rfl) sc_lf.nd (by rfl) (by rfl) (by decide) (by rfl) (by rfl) ?_
    refine v3 ?_
    refine je_mod ?_
    refine je_intI B (by rfl) ?_
    refine v2 ⟨_, rfl, ⟨_, rfl, ?_⟩⟩
    refine v3 (⟨_, rfl, (by omega : (0 : Int) < (y : Nat)), ⟨show 2 < 5 by decide, show 3 < 5 by decide, x % y, (by rw [e2]; exact Nat.mod_lt _ hy : x % y < m), y, x % y, rfl, ?_, rfl⟩⟩)
    rw [← e1, Nat.gcd_comm x y, Nat.gcd_rec y x, Nat.gcd_comm]
  · have hy : y = 0 := by simpa using hk
    subst hy
    rw [Nat.gcd_zero_right] at e1
    have gp : 0 < Nat.gcd i.natAbs j.natAbs := Nat.gcd_pos_of_pos_right _ (by omega)
    have gl : Nat.gcd i.natAbs j.natAbs ≤ j.natAbs := Nat.gcd_le_right _ (by omega)
    have fin : ∀ sg : Int, sg = j.sign → D.tup [.int ((sg * i).fdiv x), .int ((sg * j).fdiv x)] = rt (Rat.divInt i j) := fun sg hs => by
      subst hs
      unfold rt
      rw [Rat.num_divInt, Rat.den_divInt, if_neg hj, Int.fdiv_eq_ediv_of_nonneg _ (by omega), Int.fdiv_eq_ediv_of_nonneg _ (by omega)]
      have e : (j.gcd i) = x := by rw [Int.gcd_comm, e1]; rfl
      have sn : j.sign * j = (j.natAbs : Int) := by
        rcases Int.lt_trichotomy j 0 with h | h | h
        · rw [Int.sign_eq_neg_one_of_neg h]; omega
        · exact absurd h hj
        · rw [Int.sign_eq_one_of_pos h]; omega
      rw [e, sn, Int.natCast_ediv]
    have sz : ∀ sg : Int, sg.natAbs < 2 ^ 1 → ∀ z : Int, z.natAbs < 2 ^ n → CMulW sg z := fun sg h1 z h2 => cmul_of h1 h2 (by omega)
    have s1 : (1 : Int).natAbs < 2 ^ 1 := by decide
    have s2 : (0 - 1 : Int).natAbs < 2 ^ 1 := by decide
    have dv : ∀ z : Int, CDivX z (x : Int) := fun z => cdiv_of (by omega) (n := n) (by omega) hn
    refine jss_cons ?_
    refine js_s (i := 4) sc_lf.nd (by rfl) ?_
    refine je_if ?_
    refine jt_gt ?_
    refine v1 ⟨_, rfl, ?_⟩
    refine je_int ⟨_, rfl, fun k => ?_, fun k => ?_⟩
    · have hs : (1 : Int) = j.sign := by rw [Int.sign_eq_one_of_pos (by simpa using k)]
      refine je_int ⟨show 4 < 5 by decide, ?_⟩
      refine jss_one ?_
      refine js_ret ?_
      refine je_tup ?_
      refine ja_cons ?_
      refine je_fdiv ?_
      refine je_mul ?_
      refine v4 ⟨_, rfl, ?_⟩
      refine v0 ⟨_, rfl, sz 1 s1 _ hi, ⟨_, rfl, ?_⟩⟩
      refine v2 ⟨_, rfl, dv _, ?_⟩
      refine ja_cons ?_
      refine je_fdiv ?_
      refine je_mul ?_
      refine v4 ⟨_, rfl, ?_⟩
      refine v1 ⟨_, rfl, sz 1 s1 _ hb, ⟨_, rfl, ?_⟩⟩
      refine v2 ⟨_, rfl, dv _, ?_⟩
      refine ja_nil (⟨one_sz (show 2 ≤ 1000 by decide), ?_⟩)
      exact fin 1 hs
    · have hneg : j < 0 := by
        have : ¬ (0 < j) := by simpa using k
        omega
      have hs : (0 - 1 : Int) = j.sign := by rw [Int.sign_eq_neg_one_of_neg hneg]; rfl
      refine je_sub ?_
      refine je_int ⟨_, rfl, ?_⟩
      refine je_int ⟨_, rfl, ⟨show 4 < 5 by decide, ?_⟩⟩
      refine jss_one ?_
      refine js_ret ?_
      refine je_tup ?_
      refine ja_cons ?_
      refine je_fdiv ?_
      refine je_mul ?_
      refine v4 ⟨_, rfl, ?_⟩
      refine v0 ⟨_, rfl, sz (0 - 1) s2 _ hi, ⟨_, rfl, ?_⟩⟩
      refine v2 ⟨_, rfl, dv _, ?_⟩
      refine ja_cons ?_
      refine je_fdiv ?_
      refine je_mul ?_
      refine v4 ⟨_, rfl, ?_⟩
      refine v1 ⟨_, rfl, sz (0 - 1) s2 _ hb, ⟨_, rfl, ?_⟩⟩
      refine v2 ⟨_, rfl, dv _, ?_⟩
      refine ja_nil (⟨one_sz (show 2 ≤ 1000 by decide), ?_⟩)
      exact fin (0 - 1) hs
end
end K05
end
section
set_option maxRecDepth 100000
set_option maxHeartbeats 4000000
namespace K05
open PySem PySem.Spec PyProof.Rows L2 J
section
variable {P : Program} {w : World} {K : PySem.W.Frag} {mg : Str → Option Value} {base : Heap} {T : List (Addr × Str)} {f : Addr} {fd : FuncData} {CF CL CN : Addr}
/-! _law_kind -/
structure Ks (K : PySem.W.Frag) (CF CL CN : Addr) : Prop where
  iF : EcI K CF
  iL : EcI K CL
  iN : EcI K CN
  kit : ∀ C ∈ [CF, CL, CN], ∀ D ∈ [CF, CL, CN], PySem.W.kitOne K (.ref C) (.ref D) = some (decide (C = D))
  ne1 : CF ≠ CL
  ne2 : CF ≠ CN
  ne3 : CL ≠ CN
def kd (CF CL CN : Addr) (C : Addr) (w : Str) : Prop := (C = CF ∧ w = "InvalidFraction") ∨ (C = CL ∧ w = "InvalidList") ∨ (C = CN ∧ w = "InvalidNumber")
abbrev nK : List Str := ["caught", "kinds", "word", "held"]
theorem sc_kind : FnScope nK ["caught"] (defScope (topS 49)) := ⟨rfl, rfl, rfl, by decide +kernel, rfl, by decide +kernel, by decide +kernel⟩
def kinds3 (a b c : Bool) : List D := [.tup [.str "InvalidFraction", .bl a], .tup [.str "InvalidList", .bl b], .tup [.str "InvalidNumber", .bl c]]
theorem ok_kind (B : Bt mg) (R : Er P K mg CF CL CN) (S : Ks K CF CL CN) (FN : Fd K "_law_kind" (topS 49) f fd) : FnG P w K mg base 1 f fd ["caught"] (toV K T 1 (spKind (kd CF CL CN))) := by
  refine okV FN sc_kind rfl (by decide) fun cdv A outer s H E F ds hr hcd hl hp => ?_
  obtain ⟨C, d, wd, rfl, hk⟩ := hp
  have mC : C ∈ [CF, CL, CN] := by rcases hk with ⟨e, _⟩ | ⟨e, _⟩ | ⟨e, _⟩ <;> simp [e]
  have eC : ∃ nm, EcT K nm C := by rcases hk with ⟨e, _⟩ | ⟨e, _⟩ | ⟨e, _⟩ <;> subst e <;> first | exact ⟨_, R.tf⟩ | exact ⟨_, R.tl⟩ | exact ⟨_, R.tn⟩
  have iC : EcI K C := by rcases hk with ⟨e, _⟩ | ⟨e, _⟩ | ⟨e, _⟩ <;> subst e <;> first | exact S.iF | exact S.iL | exact S.iN
  obtain ⟨nm, eC⟩ := eC
  refine jss_cons ?_
  refine js_s (i := 1) sc_kind.nd (by rfl) ?_
  refine je_lst ?_
  refine ja_cons ?_
  refine je_tup ?_
  refine ja_cons ?_
  refine je_str ?_
  refine ja_cons ?_
  refine je_isiX (D := CF) B (by rfl) (by rfl) R.gf ?_
  refine v0 ⟨nm, C, d, _, rfl, eC, iC, S.kit C mC CF (by simp), ?_⟩
  refine ja_nil ⟨one_sz (show 2 ≤ 1000 by decide), ?_⟩
  refine ja_cons ?_
  refine je_tup ?_
  refine ja_cons ?_
  refine je_str ?_
  refine ja_cons ?_
  refine je_isiX (D := CL) B (by rfl) (by rfl) R.gl ?_
  refine v0 ⟨nm, C, d, _, rfl, eC, iC, S.kit C mC CL (by simp), ?_⟩
  refine ja_nil ⟨one_sz (show 2 ≤ 1000 by decide), ?_⟩
  refine ja_nil ⟨one_sz (show 2 ≤ 1000 by decide), show 1 < 4 by decide, ?_⟩
  refine jss_cons ?_
  refine js_s (i := 1) sc_kind.nd (by rfl) ?_
  refine JE.of_air ?_
  refine jn_cat ?_
  refine v1 ⟨_, rfl, ?_⟩
  refine je_lst ?_
  refine ja_cons ?_
  refine je_tup ?_
  refine ja_cons ?_
  refine je_str ?_
  refine ja_cons ?_
  refine je_isiX (D := CN) B (by rfl) (by rfl) R.gn ?_
  refine v0 ⟨nm, C, d, _, rfl, eC, iC, S.kit C mC CN (by simp), ?_⟩
  refine ja_nil ⟨one_sz (show 2 ≤ 1000 by decide), ?_⟩
  refine ja_nil ⟨one_sz (show 1 ≤ 1000 by decide), _, rfl, one_sz (show 3 ≤ 1000 by decide), fun _ => ⟨show 1 < 4 by decide, ?_⟩⟩
  refine jss_one (js_ret (JE.of_air (jn_lc2 (x := "word") (y := "held") (i := 2) (j := 3) (l := kinds3 (decide (C = CF)) (decide (C = CL)) (decide (C = CN))) (f := fun a _ => a) (t := fun _ b => match b with | .bl k => k | _ => false) rfl sc_kind.nd (blkOk_by (by rfl))
    (fun s H C cl fp => pgs_cons (pg_name sc_kind.nd rfl (.inl rfl) (.inr rfl)) (pgs_cons (pg_name sc_kind.nd rfl (.inl rfl) (.inr rfl)) pgs_nil)) (by decide) rfl rfl (fun G0 eG => v1 (d := .lst (kinds3 (decide (C = CF)) (decide (C = CL)) (decide (C = CN)))) ⟨eG, rfl⟩ rfl (by rw [eG]; rfl)) (one_sz (show 3 ≤ 1000 by decide)) ?_ ?_ ?_ ?_)))
  · intro a b hm F1 H1 W
    have hb : ∃ k, b = .bl k := by
      simp only [kinds3, List.mem_cons, List.not_mem_nil, or_false, D.tup.injEq, List.cons.injEq, and_true] at hm
      rcases hm with ⟨_, e⟩ | ⟨_, e⟩ | ⟨_, e⟩ <;> exact ⟨_, e⟩
    obtain ⟨k, rfl⟩ := hb
    exact jb_one fun s0 H0 C cl fp => jt_val (v3 ⟨k, rfl, rfl, rfl⟩)
  · intro a b hm ht F1 H1 W s0 H0 C cl fp
    exact v2 ⟨rfl, rfl⟩
  · intro d' hm
    simp only [kinds3, List.mem_cons, List.not_mem_nil, or_false] at hm
    rcases hm with e | e | e <;> exact ⟨_, _, e⟩
  · intro p C' d' w' e hk'
    injection e with e _
    injection e with e1 e2
    subst e1 e2
    have n1 := S.ne1
    have n2 := S.ne2
    have n3 := S.ne3
    rcases hk' with ⟨rfl, rfl⟩ | ⟨rfl, rfl⟩ | ⟨rfl, rfl⟩
    · simp [kinds3, List.filterMap_cons, n1, n2]
    · simp [kinds3, List.filterMap_cons, Ne.symm n1, n3]
    · simp [kinds3, List.filterMap_cons, Ne.symm n2, Ne.symm n3]
/-! _law_same -/
def Due : Nat → D → Prop
  | 0, d => (∃ b, d = .bl b) ∨ ∃ i, d = .int i
  | k + 1, d => (∃ b, d = .bl b) ∨ (∃ i, d = .int i) ∨ ∃ l, (d = .lst l ∨ d = .tup l) ∧ l.length ≤ 1000 ∧ ∀ x ∈ l, Due k x
def spSame (k : Nat) : FSp := F2 (fun a b => a = b ∧ Due k b) fun _ _ r => r = .bl true
abbrev nS : List Str := ["told", "due", "alike", "at"]
theorem sc_same : FnScope nS ["told", "due"] (defScope (topS 36)) := ⟨rfl, rfl, rfl, by decide +kernel, rfl, by decide +kernel, by decide +kernel⟩
theorem ok_same (B : Bt mg) (k m : Nat) (FN : Fd K "_law_same" (topS 36) f fd) (rec : ∀ j, k = j + 1 → Cal P w K mg base T m "_law_same" ["told", "due"] 2 (spSame j)) : FnG P w K mg base (m + 1) f fd ["told", "due"] (toV K T 2 (spSame k)) := by
  refine okV FN sc_same rfl (by decide) fun cdv A outer s H E F ds hr hcd hl hp => ?_
  obtain ⟨a, d, rfl⟩ := len2 hl
  obtain ⟨rfl, hd⟩ := hp
  have atom : (∃ b, a = .bl b) ∨ (∃ i, a = .int i) ∨ ∃ j l, k = j + 1 ∧ (a = .lst l ∨ a = .tup l) ∧ l.length ≤ 1000 ∧ ∀ x ∈ l, Due j x := by
    cases k with
    | zero => exact hd.elim .inl fun h => .inr (.inl h)
    | succ j =>
      rcases hd with h | h | ⟨l, h⟩
      · exact .inl h
      · exact .inr (.inl h)
      · exact .inr (.inr ⟨j, l, rfl, h⟩)
  rcases atom with ⟨b, rfl⟩ | ⟨i, rfl⟩ | ⟨j, l, rfl, hd', hz, hx⟩
  · refine jss_cons (js_if (jt_w (jw_or (jt_isN (v1 (d := .bl b) ⟨fun _ => ?_, fun z => nomatch z⟩)))))
    refine jw_or ?_
    refine jt_isB ?_
    refine v1 (d := .bl b) ⟨fun k1 => ?_, fun k1 => ?_⟩
    · refine jw_or1 ?_
      refine jt_isB ?_
      refine v1 (d := .bl b) ⟨fun k2 => ?_, fun k2 => ?_⟩
      · have kb : b = false := by cases b <;> first | rfl | cases k1
        subst kb
        refine jss_one (js_ret (je_or (je_and (je_isN (v1 (d := .bl false) ⟨false, rfl, (fun z => nomatch z), fun _ => ⟨false, rfl, fun _ => ?_, fun z => nomatch z⟩⟩)))))
        refine je_or (je_and (je_isB (v1 (d := .bl false) ⟨false, rfl, (fun z => nomatch z), fun _ => ⟨false, rfl, fun _ => ?_, fun z => nomatch z⟩⟩)))
        exact je_one (je_and (je_isB (v1 (d := .bl false) ⟨true, rfl, (fun _ => je_one (je_isB (v0 (d := .bl false) rfl))), fun z => nomatch z⟩)))
      · cases b with
        | true => cases k1
        | false => cases k2
    · have kb : b = true := by cases b <;> first | rfl | cases k1
      subst kb
      refine ⟨fun _ => ?_, fun z => nomatch z⟩
      refine jss_one (js_ret (je_or (je_and (je_isN (v1 (d := .bl true) ⟨false, rfl, (fun z => nomatch z), fun _ => ⟨false, rfl, fun _ => ?_, fun z => nomatch z⟩⟩)))))
      exact je_or (je_and (je_isB (v1 (d := .bl true) ⟨true, rfl, (fun _ => je_one (je_isB (v0 (d := .bl true) ⟨true, rfl, (fun z => nomatch z), fun _ => rfl⟩))), fun z => nomatch z⟩)))
  · refine jss_cons (js_if (jt_w (jw_or (jt_isN (v1 (d := .int i) ⟨fun _ => ?_, fun z => nomatch z⟩)))))
    refine jw_or (jt_isB (v1 (d := .int i) ⟨fun _ => ?_, fun z => nomatch z⟩))
    refine jw_or1 (jt_isB (v1 (d := .int i) ⟨(fun z => nomatch z), fun _ => jss_nil ?_⟩))
    refine jss_cons ?_
    refine js_if ?_
    refine jt_val ?_
    refine je_isi2 (T := "list") (U := "tuple") B (by rfl) (by rfl) B.list (by rfl) (by rfl) B.tuple (by rfl) (v1 (d := .int i) ⟨"int", false, false, rfl, by decide +kernel, by decide +kernel, false, rfl, (fun z => nomatch z), fun _ => jss_nil ?_⟩)
    refine jss_cons ?_
    refine js_if ?_
    refine jt_val ?_
    refine je_isi (T := "int") B (by rfl) (by rfl) B.int (by rfl) (v1 (d := .int i) ⟨"int", true, rfl, by decide +kernel, true, rfl, fun _ => ?_, fun z => nomatch z⟩)
    refine jss_one ?_
    refine js_ret ?_
    refine je_and ?_
    refine je_isi (T := "int") B (by rfl) (by rfl) B.int (by rfl) (v0 (d := .int i) ⟨"int", true, rfl, by decide +kernel, true, rfl, (fun _ => je_and (je_not ?_)), fun z => nomatch z⟩)
    refine je_isi (T := "bool") B (by rfl) (by rfl) B.bool (by rfl) (v0 (d := .int i) ⟨"int", false, rfl, by decide +kernel, false, rfl, true, rfl, (fun _ => je_one (je_eqI (v0 (d := .int i) ⟨_, rfl, v1 ⟨_, rfl, ?_⟩⟩))), fun z => nomatch z⟩)
    show D.bl _ = D.bl true
    simp
  · have C := rec j rfl
    have ty : ∃ t bl bt, a.ty = some t ∧ kitB t "list" = some bl ∧ kitB t "tuple" = some bt ∧ (bl || bt) = true ∧ a.isNon = false ∧ a.isBl true = false ∧ a.isBl false = false ∧ a.isSeq = true ∧ a.items = l ∧ (bl = false → bt = true) := by
      rcases hd' with rfl | rfl
      · exact ⟨"list", true, false, rfl, by decide +kernel, by decide +kernel, rfl, rfl, rfl, rfl, rfl, rfl, by decide⟩
      · exact ⟨"tuple", false, true, rfl, by decide +kernel, by decide +kernel, rfl, rfl, rfl, rfl, rfl, rfl, by decide⟩
    obtain ⟨t, bl, bt, e0, e1, e2, e3, e4, e5, e6, e7, e8, e9⟩ := ty
    refine jss_cons ?_
    refine js_if ?_
    refine jt_w ?_
    refine jw_or ?_
    refine jt_isN ?_
    refine v1 (d := a) ⟨fun _ => ?_, fun z => by rw [e4] at z; cases z⟩
    refine jw_or ?_
    refine jt_isB ?_
    refine v1 (d := a) ⟨fun _ => ?_, fun z => by rw [e5] at z; cases z⟩
    refine jw_or1 ?_
    refine jt_isB ?_
    refine v1 (d := a) ⟨(fun z => by rw [e6] at z; cases z), fun _ => jss_nil ?_⟩
    refine jss_cons ?_
    refine js_if ?_
    refine jt_val ?_
    refine je_isi2 (T := "list") (U := "tuple") B (by rfl) (by rfl) B.list (by rfl) (by rfl) B.tuple (by rfl) ?_
    refine v1 ⟨t, bl, bt, e0, e1, e2, _, rfl, fun _ => ?_, fun z => by rw [e3] at z; cases z⟩
    have fin : JSs (DX P w K mg base "_law_same" (topS 36) f nS cdv A outer s H E) ⟨F, H, fun _ => False, T⟩ (match defBody (topS 36) with | [_, .If _ [_, st] _ _, _, _] => [st] | _ => []) [.val a, .val a, .val (.bl true), .no] { nx := fun G1 => JSs (DX P w K mg base "_law_same" (topS 36) f nS cdv A outer s H E) ⟨F, H, fun _ => False, T⟩ ((defBody (topS 36)).drop 2) G1 { nx := fun _ => (spSame (j + 1)).post [a, a] .non, rt := fun r _ => (spSame (j + 1)).post [a, a] r } (fun C d' _ => (spSame (j + 1)).exc [a, a] C d'), rt := fun r _ => (spSame (j + 1)).post [a, a] r } (fun C d' _ => (spSame (j + 1)).exc [a, a] C d') := by
      refine jss_one (js_ret (je_and (v2 ⟨true, rfl, (fun _ => je_and (je_eqI (je_len B (by rfl) (v0 ⟨e7, _, rfl, je_len B (by rfl) (v1 ⟨e7, _, rfl, _, rfl, fun _ => je_one ?_, fun z => ?_⟩)⟩)))), fun z => nomatch z⟩)))
      · refine je_eqP hr (JE.of_air (jn_lcR (x := "at") (i := 3) rfl sc_same.nd (blkOk_by (by rfl)) (fun s H C cl fp => pg_name sc_same.nd rfl (.inl rfl) (.inr rfl)) B (by rfl) (ja_cons (je_len B (by rfl) (v1 ⟨e7, ja_nil ⟨_, rfl, ?_, lcR_map (f := fun _ => .non) (t := fun _ => false) rfl ?_ (fun y hy F1 H1 W => jb_one fun s0 H0 C' cl fp => jt_not (jt_val ?_)) (fun y hy z => nomatch z) fun p => ?_⟩⟩)))))
        · rw [e8]; omega
        · rw [e8]; exact one_sz (by simpa using hz)
        · have hy2 : y < l.length := by
            have : y < (a.items.length : Int).toNat := hy
            rw [e8] at this; simpa using this
          have at1 : L2.atI a.items (y : Int) = some l[y] := by
            rw [e8]
            exact atI_of (by omega) (by simpa using List.getElem?_eq_getElem hy2)
          refine je_call C hr (by omega) (by rfl) ?_
          refine ja_cons ?_
          refine je_ix ?_
          refine v0 ⟨e7, ?_⟩
          refine v3 ⟨_, _, rfl, at1, ?_⟩
          refine ja_cons ?_
          refine je_ix ?_
          refine v1 ⟨e7, ?_⟩
          refine v3 ⟨_, _, rfl, at1, ?_⟩
          refine ja_nil ⟨rfl, ⟨rfl, hx _ (List.getElem_mem hy2)⟩, ?_, fun _ _ z => z.elim⟩
          rintro _ ⟨⟩
          exact ⟨true, rfl, rfl, rfl⟩
        · rw [show (List.range (a.items.length : Int).toNat).filter (fun _ => false) = [] by simp]
          exact je_lst (ja_nil ⟨one_sz (show 0 ≤ 1000 by decide), _, _, rfl, rfl, rfl, rfl, rfl⟩)
      · simp at z
    refine jss_cons ?_
    refine js_s (i := 2) sc_same.nd (by rfl) ?_
    refine je_if ?_
    refine jt_val ?_
    refine je_isi (T := "list") B (by rfl) (by rfl) B.list (by rfl) ?_
    refine v1 ⟨t, bl, e0, e1, bl, rfl, fun k1 => ?_, fun k1 => ?_⟩
    · refine je_isi (T := "list") B (by rfl) (by rfl) B.list (by rfl) ?_
      refine v0 ⟨t, bl, e0, e1, show 2 < 4 by decide, ?_⟩
      rw [k1]
      exact fin
    · refine je_isi (T := "tuple") B (by rfl) (by rfl) B.tuple (by rfl) ?_
      refine v0 ⟨t, bt, e0, e2, show 2 < 4 by decide, ?_⟩
      rw [e9 k1]
      exact fin
end
end K05
end
section
set_option maxRecDepth 100000
set_option maxHeartbeats 4000000
namespace K05
open PySem PySem.Spec PyProof.Rows L2 J
section
variable {P : Program} {w : World} {K : PySem.W.Frag} {mg : Str → Option Value} {base : Heap} {T : List (Addr × Str)} {f : Addr} {fd : FuncData} {CF CL CN : Addr}
abbrev fr (a b : Int) : D := .tup [.int a, .int b]
/-- elders of a walk down the tree -/
structure Eld (k : Nat) (a b c d : Int) : Prop where
  det : c * b - a * d = 1
  a0 : 0 ≤ a
  b1 : 1 ≤ b
  c1 : 1 ≤ c
  d0 : 0 ≤ d
  ab : a < 2 ^ k
  bb : b < 2 ^ k
  cb : c < 2 ^ k
  db : d < 2 ^ k
theorem eld_low {k : Nat} {a b c d m : Int} (e : Eld k a b c d) (m0 : 1 ≤ m) (m1 : m ≤ 1000) : Eld (k + 10) (a + m * c) (b + m * d) c d := by
  have p : (2 : Int) ^ (k + 10) = 2 ^ k * 1024 := by rw [Int.pow_add]; rfl
  have h1 : m * c ≤ 1000 * c := Int.mul_le_mul_of_nonneg_right m1 (by have := e.c1; omega)
  have h2 : m * d ≤ 1000 * d := Int.mul_le_mul_of_nonneg_right m1 e.d0
  have h3 : 0 ≤ m * c := Int.mul_nonneg (by omega) (by have := e.c1; omega)
  have h4 : 0 ≤ m * d := Int.mul_nonneg (by omega) e.d0
  have := e.a0; have := e.b1; have := e.c1; have := e.d0; have := e.ab; have := e.bb; have := e.cb; have := e.db
  refine ⟨?_, by omega, by omega, by omega, by omega, by rw [p]; omega, by rw [p]; omega, by rw [p]; omega, by rw [p]; omega⟩
  have k1 : c * (b + m * d) = c * b + m * (c * d) := by rw [Int.mul_add, ← Int.mul_assoc, Int.mul_comm c m, Int.mul_assoc]
  have k2 : (a + m * c) * d = a * d + m * (c * d) := by rw [Int.add_mul, Int.mul_assoc]
  have := e.det
  omega
theorem eld_high {k : Nat} {a b c d m : Int} (e : Eld k a b c d) (m0 : 1 ≤ m) (m1 : m ≤ 1000) : Eld (k + 10) a b (c + m * a) (d + m * b) ∧ 1 ≤ d + m * b := by
  have p : (2 : Int) ^ (k + 10) = 2 ^ k * 1024 := by rw [Int.pow_add]; rfl
  have h1 : m * a ≤ 1000 * a := Int.mul_le_mul_of_nonneg_right m1 e.a0
  have h2 : m * b ≤ 1000 * b := Int.mul_le_mul_of_nonneg_right m1 (by have := e.b1; omega)
  have h3 : 0 ≤ m * a := Int.mul_nonneg (by omega) e.a0
  have h4 : 1 * b ≤ m * b := Int.mul_le_mul_of_nonneg_right m0 (by have := e.b1; omega)
  have := e.a0; have := e.b1; have := e.c1; have := e.d0; have := e.ab; have := e.bb; have := e.cb; have := e.db
  refine ⟨⟨?_, by omega, by omega, by omega, by omega, by rw [p]; omega, by rw [p]; omega, by rw [p]; omega, by rw [p]; omega⟩, by omega⟩
  have k1 : (c + m * a) * b = c * b + m * (a * b) := by rw [Int.add_mul, Int.mul_assoc]
  have k2 : a * (d + m * b) = a * d + m * (a * b) := by rw [Int.mul_add, ← Int.mul_assoc, Int.mul_comm a m, Int.mul_assoc]
  have := e.det
  omega
def spPlanted : PSp where
  pre l ds := ∃ (n r : Nat), ds = [.int r] ∧ Pu n l ∧ n + 20 < 2 ^ 60 ∧ 2 ≤ r ∧ r ≤ 12
  post l ds r l' := ∀ n : Nat, Pu n l → ∃ a b c d, r = .tup [fr a b, fr (a + c) (b + d), fr c d] ∧ Eld 130 a b c d ∧ 1 ≤ d ∧ Pu (n + 12) l'
abbrev nP : List Str := ["purse", "runs", "low", "high", "run", "many"]
theorem sc_planted : FnScope nP ["purse", "runs"] (defScope (topS 50)) := ⟨rfl, rfl, rfl, by decide +kernel, rfl, by decide +kernel, by decide +kernel⟩
theorem lt23 : ∀ i ∈ [2, 3], i < 6 := by decide
theorem mem6 {r : D} (h : r ∈ [D.int 1, .int 1, .int 2, .int 3, .int 9, .int 1000]) : ∃ m, r = .int m ∧ 1 ≤ m ∧ m ≤ 1000 := by
  simp only [List.mem_cons, List.not_mem_nil, or_false] at h
  rcases h with rfl | rfl | rfl | rfl | rfl | rfl <;> exact ⟨_, rfl, by decide, by decide⟩
theorem Eld.mono {k m : Nat} {a b c d : Int} (e : Eld k a b c d) (h : k ≤ m) : Eld m a b c d := by
  have p : (2 : Int) ^ k ≤ 2 ^ m := by
    have := Nat.pow_le_pow_right (n := 2) (by decide) h
    exact_mod_cast this
  exact ⟨e.det, e.a0, e.b1, e.c1, e.d0, by have := e.ab; omega, by have := e.bb; omega, by have := e.cb; omega, by have := e.db; omega⟩
theorem ok_planted (B : Bt mg) (C1 : CalP P w K mg base T 2 "_law_pick" ["purse", "things"] 1 spPick) (FN : Fd K "_law_planted" (topS 50) f fd) : FnG P w K mg base 3 f fd ["purse", "runs"] (toP K T 1 spPlanted) := by
  refine okP FN sc_planted rfl (by decide) fun cdv A outer s0 H E F ad l ds hr hcd hl hp => ?_
  obtain ⟨n0, r, rfl, pu0, hn, hr1, hr2⟩ := hp
  refine jss_cons ?_
  refine js_unT (is := [2, 3]) (n := 2) (by rfl) (pgs_cons (pg_name sc_planted.nd rfl (.inl rfl) (.inr rfl)) (pgs_cons (pg_name sc_planted.nd rfl (.inl rfl) (.inr rfl)) pgs_nil)) (by rfl) ?_
  refine je_tup ?_
  refine ja_cons ?_
  refine je_tup ?_
  refine ja_cons ?_
  refine je_int ?_
  refine ja_cons ?_
  refine je_int ?_
  refine ja_nil ⟨one_sz (show 2 ≤ 1000 by decide), ?_⟩
  refine ja_cons ?_
  refine je_tup ?_
  refine ja_cons ?_
  refine je_int ?_
  refine ja_cons ?_
  refine je_int ?_
  refine ja_nil ⟨one_sz (show 2 ≤ 1000 by decide), ?_⟩
  refine ja_nil (⟨one_sz (show 2 ≤ 1000 by decide), ⟨_, rfl, rfl, lt23, ?_⟩⟩)
  refine jss_cons (js_forR (i := 4) (passes_of rfl) rfl sc_planted.nd rfl (.inl rfl) B (by rfl) (v1 ⟨(r : Nat), rfl, ⟨by omega, by omega⟩, fun t G => ∃ l1 a b c d s1 s2, G = [.own ad l1, .val (.int r), .val (fr a b), .val (fr c d), s1, s2] ∧ Eld (10 * t + 1) a b c d ∧ (2 ≤ t → 1 ≤ d) ∧ ∀ n : Nat, Pu n l → Pu (n + t) l1,
    ⟨l, 0, 1, 1, 0, .no, .no, rfl, ⟨by decide, by decide, by decide, by decide, by decide, by decide, by decide, by decide, by decide⟩, by omega, fun n p => p⟩, ?_, ?_⟩))
  · rintro t G2 ht ⟨l1, a, b, c, d, s1, s2, rfl, el, h2, hp⟩
    have ht2 : t < r := by simpa using ht
    have pu := hp n0 pu0
    refine ⟨show 4 < 6 by decide, ?_⟩
    refine jss_cons ?_
    refine js_s (i := 5) sc_planted.nd (by rfl) ?_
    refine je_callO C1 hr (by omega) (by rfl) (i := 0) (by rfl) (by exact .inl rfl) (by rfl) ?_
    refine ja_cons ?_
    refine je_lst ?_
    refine ja_cons ?_
    refine je_int ?_
    refine ja_cons ?_
    refine je_int ?_
    refine ja_cons ?_
    refine je_int ?_
    refine ja_cons ?_
    refine je_int ?_
    refine ja_cons ?_
    refine je_int ?_
    refine ja_cons ?_
    refine je_int ?_
    refine ja_nil ⟨one_sz (show 6 ≤ 1000 by decide), ?_⟩
    refine ja_nil ⟨l1, rfl, rfl, ⟨_, _, rfl, pu, (by omega), (by decide), (by decide)⟩, fun d' l2 hd => ?_⟩
    obtain ⟨hm, _⟩ := hd _ _ rfl pu
    obtain ⟨m, rfl, m0, m1⟩ := mem6 hm
    have pu2 : ∀ n : Nat, Pu n l → Pu (n + (t + 1)) l2 := fun n p => (hd _ _ rfl (hp n p)).2
    have els := el.mono (m := 200) (by omega)
    have := els.a0; have := els.b1; have := els.c1; have := els.d0; have := els.ab; have := els.bb; have := els.cb; have := els.db
    have cm : ∀ z : Int, 0 ≤ z → z < 2 ^ 200 → CMulW m z := fun z h1 h2 => cmul_of (n := 10) (m := 200) (iv (by omega) (by omega)) (iv h1 h2) (by decide)
    refine ⟨show 5 < 6 by decide, ?_⟩
    refine jss_one ?_
    refine js_if ?_
    refine jt_eqI ?_
    refine je_mod ?_
    refine je_intI B (by rfl) ?_
    refine v4 ⟨_, rfl, ⟨_, rfl, ?_⟩⟩
    refine je_int ⟨_, rfl, (by decide : (0 : Int) < 2), ⟨_, rfl, ?_⟩⟩
    refine je_int ⟨_, rfl, fun k => ?_, fun k => ?_⟩
    · have te : t % 2 = 0 := by
        have : ((t : Int) % 2 = 0) := by simpa using k
        omega
      refine jss_one ?_
      refine js_s (i := 2) sc_planted.nd (by rfl) ?_
      refine je_tup ?_
      refine ja_cons ?_
      refine je_add ?_
      refine je_ix ?_
      refine v2 ⟨rfl, ?_⟩
      refine je_int ⟨_, _, rfl, rfl, ⟨_, rfl, ?_⟩⟩
      refine je_mul ?_
      refine v5 ⟨_, rfl, ?_⟩
      refine je_ix ?_
      refine v3 ⟨rfl, ?_⟩
      refine je_int ⟨_, _, rfl, rfl, ⟨_, rfl, cm c (by omega) (by omega), ⟨_, rfl, ?_⟩⟩⟩
      refine ja_cons ?_
      refine je_add ?_
      refine je_ix ?_
      refine v2 ⟨rfl, ?_⟩
      refine je_int ⟨_, _, rfl, rfl, ⟨_, rfl, ?_⟩⟩
      refine je_mul ?_
      refine v5 ⟨_, rfl, ?_⟩
      refine je_ix ?_
      refine v3 ⟨rfl, ?_⟩
      refine je_int ⟨_, _, rfl, rfl, ⟨_, rfl, cm d (by omega) (by omega), ⟨_, rfl, ?_⟩⟩⟩
      refine ja_nil (⟨one_sz (show 2 ≤ 1000 by decide), ?_⟩)
      refine ⟨show 2 < 6 by decide, l2, _, _, c, d, _, _, rfl, (eld_low el m0 m1).mono (by omega), fun h => h2 (by omega), pu2⟩
    · refine jss_one ?_
      refine js_s (i := 3) sc_planted.nd (by rfl) ?_
      refine je_tup ?_
      refine ja_cons ?_
      refine je_add ?_
      refine je_ix ?_
      refine v3 ⟨rfl, ?_⟩
      refine je_int ⟨_, _, rfl, rfl, ⟨_, rfl, ?_⟩⟩
      refine je_mul ?_
      refine v5 ⟨_, rfl, ?_⟩
      refine je_ix ?_
      refine v2 ⟨rfl, ?_⟩
      refine je_int ⟨_, _, rfl, rfl, ⟨_, rfl, cm a (by omega) (by omega), ⟨_, rfl, ?_⟩⟩⟩
      refine ja_cons ?_
      refine je_add ?_
      refine je_ix ?_
      refine v3 ⟨rfl, ?_⟩
      refine je_int ⟨_, _, rfl, rfl, ⟨_, rfl, ?_⟩⟩
      refine je_mul ?_
      refine v5 ⟨_, rfl, ?_⟩
      refine je_ix ?_
      refine v2 ⟨rfl, ?_⟩
      refine je_int ⟨_, _, rfl, rfl, ⟨_, rfl, cm b (by omega) (by omega), ⟨_, rfl, ?_⟩⟩⟩
      refine ja_nil (⟨one_sz (show 2 ≤ 1000 by decide), ?_⟩)
      refine ⟨show 3 < 6 by decide, l2, a, b, _, _, _, _, rfl, (eld_high el m0 m1).1.mono (by omega), fun _ => (eld_high el m0 m1).2, pu2⟩
  · rintro G2 ⟨l1, a, b, c, d, s1, s2, rfl, el, h2, hp⟩
    have er : ((r : Nat) : Int).toNat = r := by omega
    rw [er] at el h2 hp
    refine jss_one ?_
    refine js_ret ?_
    refine je_tup ?_
    refine ja_cons ?_
    refine v2 ?_
    refine ja_cons ?_
    refine je_tup ?_
    refine ja_cons ?_
    refine je_add ?_
    refine je_ix ?_
    refine v2 ⟨rfl, ?_⟩
    refine je_int ⟨_, _, rfl, rfl, ⟨_, rfl, ?_⟩⟩
    refine je_ix ?_
    refine v3 ⟨rfl, ?_⟩
    refine je_int ⟨_, _, rfl, rfl, ⟨_, rfl, ?_⟩⟩
    refine ja_cons ?_
    refine je_add ?_
    refine je_ix ?_
    refine v2 ⟨rfl, ?_⟩
    refine je_int ⟨_, _, rfl, rfl, ⟨_, rfl, ?_⟩⟩
    refine je_ix ?_
    refine v3 ⟨rfl, ?_⟩
    refine je_int ⟨_, _, rfl, rfl, ⟨_, rfl, ?_⟩⟩
    refine ja_nil ⟨one_sz (show 2 ≤ 1000 by decide), ?_⟩
    refine ja_cons ?_
    refine v3 ?_
    refine ja_nil (⟨one_sz (show 3 ≤ 1000 by decide), ?_⟩)
    exact ⟨l1, rfl, fun n p => ⟨a, b, c, d, rfl, el.mono (by omega), h2 (by omega), (hp n p).mono (by omega)⟩⟩
def spBT : PSp where
  pre l ds := ∃ (n : Nat) (a b c d : Int), ds = [fr a b, fr c d] ∧ Pu n l ∧ n + 4 < 2 ^ 60 ∧ 0 ≤ a ∧ 0 ≤ c ∧ 1 ≤ b ∧ 1 ≤ d ∧ a < 2 ^ 150 ∧ b < 2 ^ 150 ∧ c < 2 ^ 150 ∧ d < 2 ^ 150
  post l ds r l' := ∀ (n : Nat) (a b c d : Int), ds = [fr a b, fr c d] → Pu n l → ∃ α β : Int, 1 ≤ α ∧ α ≤ 1000000 ∧ 1 ≤ β ∧ β ≤ 1000000 ∧ r = rt (Rat.divInt (α * a + β * c) (α * b + β * d)) ∧ Pu (n + 2) l'
abbrev nB : List Str := ["purse", "one", "other", "mine", "yours"]
theorem sc_bt : FnScope nB ["purse", "one", "other"] (defScope (topS 51)) := ⟨rfl, rfl, rfl, by decide +kernel, rfl, by decide +kernel, by decide +kernel⟩
theorem mem3a {r : D} (h : r ∈ [D.int 1, .int 2, .int (10 ^ (6 : Int).toNat)]) : ∃ m, r = .int m ∧ 1 ≤ m ∧ m ≤ 1000000 := by
  simp only [List.mem_cons, List.not_mem_nil, or_false] at h
  rcases h with rfl | rfl | rfl <;> exact ⟨_, rfl, by decide, by decide⟩
theorem mem3b {r : D} (h : r ∈ [D.int 1, .int 3, .int (10 ^ (5 : Int).toNat)]) : ∃ m, r = .int m ∧ 1 ≤ m ∧ m ≤ 1000000 := by
  simp only [List.mem_cons, List.not_mem_nil, or_false] at h
  rcases h with rfl | rfl | rfl <;> exact ⟨_, rfl, by decide, by decide⟩
theorem ok_bt (B : Bt mg) (C1 : CalP P w K mg base T 2 "_law_pick" ["purse", "things"] 1 spPick) (C2 : Cal P w K mg base T 1 "_law_frac" ["top", "under"] 2 spLF) (FN : Fd K "_law_between_two" (topS 51) f fd) : FnG P w K mg base 3 f fd ["purse", "one", "other"] (toP K T 2 spBT) := by
  refine okP FN sc_bt rfl (by decide) fun cdv A outer s0 H E F ad l ds hr hcd hl hp => ?_
  obtain ⟨n, a, b, c, d, rfl, pu, hn, a0, c0, b1, d1, ab, bb, cb, db⟩ := hp
  refine jss_cons ?_
  refine js_par (i := 3) (j := 4) (by rfl) sc_bt.nd (by rfl) (by rfl) (by decide) (by rfl) (by rfl) ?_
  refine je_callO C1 hr (by omega) (by rfl) (i := 0) (by rfl) (by exact .inl rfl) (by rfl) ?_
  refine ja_cons ?_
  refine je_lst ?_
  refine ja_cons ?_
  refine je_int ?_
  refine ja_cons ?_
  refine je_int ?_
  refine ja_cons ?_
  refine je_pow ?_
  refine je_int ⟨_, rfl, ?_⟩
  refine je_int ⟨_, rfl, (⟨by decide, by decide, by decide⟩ : CPow 10 6), ?_⟩
  refine ja_nil ⟨one_sz (show 3 ≤ 1000 by decide), ?_⟩
  refine ja_nil ⟨l, rfl, rfl, ⟨_, _, rfl, pu, (by omega), (by decide), (by decide)⟩, fun d' l2 hd => ?_⟩
  obtain ⟨hm, pu2⟩ := hd _ _ rfl pu
  obtain ⟨α, rfl, α0, α1⟩ := mem3a hm
  refine je_callO C1 hr (by omega) (by rfl) (i := 0) (by rfl) (by exact .inl rfl) (by rfl) ?_
  refine ja_cons ?_
  refine je_lst ?_
  refine ja_cons ?_
  refine je_int ?_
  refine ja_cons ?_
  refine je_int ?_
  refine ja_cons ?_
  refine je_pow ?_
  refine je_int ⟨_, rfl, ?_⟩
  refine je_int ⟨_, rfl, (⟨by decide, by decide, by decide⟩ : CPow 10 5), ?_⟩
  refine ja_nil ⟨one_sz (show 3 ≤ 1000 by decide), ?_⟩
  refine ja_nil ⟨l2, rfl, rfl, ⟨_, _, rfl, pu2, (by omega), (by decide), (by decide)⟩, fun d' l3 hd' => ?_⟩
  obtain ⟨hm2, pu4⟩ := hd' _ _ rfl pu2
  obtain ⟨β, rfl, β0, β1⟩ := mem3b hm2
  have cm : ∀ m z : Int, 1 ≤ m → m ≤ 1000000 → 0 ≤ z → z < 2 ^ 150 → CMulW m z ∧ 0 ≤ m * z ∧ m * z < 2 ^ 170 := fun m z h1 h2 h3 h4 => by
    refine ⟨cmul_of (n := 20) (m := 150) (iv (by omega) (by omega)) (iv h3 h4) (by decide), Int.mul_nonneg (by omega) h3, ?_⟩
    have := Int.mul_le_mul_of_nonneg_right h2 h3
    omega
  have p1 := cm α a α0 α1 a0 ab
  have p2 := cm β c β0 β1 c0 cb
  have p3 := cm α b α0 α1 (by omega) bb
  have p4 := cm β d β0 β1 (by omega) db
  have p5 : 1 * b ≤ α * b := Int.mul_le_mul_of_nonneg_right α0 (by omega)
  refine ⟨show 3 < 5 by decide, show 4 < 5 by decide, ?_⟩
  refine jss_one ?_
  refine js_ret ?_
  refine je_call C2 hr (by omega) (by rfl) ?_
  refine ja_cons ?_
  refine je_add ?_
  refine je_mul ?_
  refine v3 ⟨_, rfl, ?_⟩
  refine je_ix ?_
  refine v1 ⟨rfl, ?_⟩
  refine je_int ⟨_, _, rfl, rfl, ⟨_, rfl, p1.1, ⟨_, rfl, ?_⟩⟩⟩
  refine je_mul ?_
  refine v4 ⟨_, rfl, ?_⟩
  refine je_ix ?_
  refine v2 ⟨rfl, ?_⟩
  refine je_int ⟨_, _, rfl, rfl, ⟨_, rfl, p2.1, ⟨_, rfl, ?_⟩⟩⟩
  refine ja_cons ?_
  refine je_add ?_
  refine je_mul ?_
  refine v3 ⟨_, rfl, ?_⟩
  refine je_ix ?_
  refine v1 ⟨rfl, ?_⟩
  refine je_int ⟨_, _, rfl, rfl, ⟨_, rfl, p3.1, ⟨_, rfl, ?_⟩⟩⟩
  refine je_mul ?_
  refine v4 ⟨_, rfl, ?_⟩
  refine je_ix ?_
  refine v2 ⟨rfl, ?_⟩
  refine je_int ⟨_, _, rfl, rfl, ⟨_, rfl, p4.1, ⟨_, rfl, ?_⟩⟩⟩
  refine ja_nil (⟨rfl, ⟨_, _, 180, rfl, rfl, (by omega), iv (by omega) (by omega), iv (by omega) (by omega), (by decide)⟩, ?_, fun _ _ z => z.elim⟩)
  rintro _ ⟨⟩
  refine ⟨l3, rfl, fun n' a' b' c' d' e p => ?_⟩
  cases e
  exact ⟨α, β, α0, α1, β0, β1, rfl, (hd' _ _ rfl (hd _ _ rfl p).2).2⟩
end
end K05
end
section
/-! between two elders the middle has the least under -/
namespace K05
open J
theorem sgn_divInt (x y : Int) (hy : 0 < y) : ((Rat.divInt x y).num < 0 ↔ x < 0) ∧ (0 < (Rat.divInt x y).num ↔ 0 < x) := by
  obtain ⟨h1, h2⟩ := low_divInt (i := x) (j := y) (by omega) (Int.gcd x y) (by rw [if_neg (by omega)])
  have g1 : (0 : Int) < Int.gcd x y := by have := Int.gcd_pos_of_ne_zero_right x (show y ≠ 0 by omega); omega
  have d1 : (Int.gcd x y : Int) ∣ x := Int.gcd_dvd_left ..
  rw [Int.fdiv_eq_ediv_of_dvd d1] at h1
  have := Int.ediv_mul_cancel d1
  rw [h1]
  constructor
  · constructor
    · intro h
      have := Int.mul_neg_of_neg_of_pos h g1
      omega
    · intro h
      rcases Int.lt_or_le (x / (Int.gcd x y : Int)) 0 with k | k
      · exact k
      · have := Int.mul_nonneg k (Int.le_of_lt g1); omega
  · constructor
    · intro h
      have := Int.mul_pos h g1
      omega
    · intro h
      rcases Int.lt_or_le 0 (x / (Int.gcd x y : Int)) with k | k
      · exact k
      · have := Int.mul_nonneg (show 0 ≤ -(x / (Int.gcd x y : Int)) by omega) (Int.le_of_lt g1)
        rw [Int.neg_mul] at this
        omega
theorem lt_divInt {q : Rat} {a b : Int} (hb : 0 < b) : (q < Rat.divInt a b ↔ q.num * b < a * q.den) ∧ (Rat.divInt a b < q ↔ a * q.den < q.num * b) := by
  have hq := q.den_pos
  have e1 : q - Rat.divInt a b = Rat.divInt (q.num * b - a * q.den) (q.den * b) := by
    rw [← Rat.divInt_sub_divInt _ _ (den_ne q) (by omega), Rat.num_divInt_den]
  have hp : 0 < (q.den : Int) * b := Int.mul_pos (by omega) hb
  obtain ⟨s1, s2⟩ := sgn_divInt (q.num * b - a * q.den) (q.den * b) hp
  have z1 : q < Rat.divInt a b ↔ q - Rat.divInt a b < 0 := by constructor <;> intro h <;> grind
  have z2 : Rat.divInt a b < q ↔ 0 < q - Rat.divInt a b := by constructor <;> intro h <;> grind
  have n1 : ∀ r : Rat, r < 0 ↔ r.num < 0 := fun r => by rw [Rat.lt_iff]; simp
  have n2 : ∀ r : Rat, 0 < r ↔ 0 < r.num := fun r => by rw [Rat.lt_iff]; simp
  rw [z1, z2, n1, n2, e1, s1, s2]
  constructor <;> constructor <;> intro h <;> omega
theorem sb {a b c d : Int} {y : Rat} (det : c * b - a * d = 1) (b1 : 1 ≤ b) (d1 : 1 ≤ d) (h1 : Rat.divInt a b < y) (h2 : y < Rat.divInt c d) : b + d ≤ y.den ∧ ((y.den : Int) = b + d → y = Rat.divInt (a + c) (b + d)) := by
  have k1 := (lt_divInt (q := y) (by omega)).2.mp h1
  have k2 := (lt_divInt (q := y) (by omega)).1.mp h2
  generalize hp : y.num = p at *
  generalize hq : (y.den : Int) = q at *
  have eq : q = b * (c * q - p * d) + d * (p * b - a * q) := by
    have : b * (c * q - p * d) + d * (p * b - a * q) = q * (c * b - a * d) := by grind
    rw [this, det, Int.mul_one]
  have ep : p = a * (c * q - p * d) + c * (p * b - a * q) := by
    have : a * (c * q - p * d) + c * (p * b - a * q) = p * (c * b - a * d) := by grind
    rw [this, det, Int.mul_one]
  have u1 : 1 ≤ c * q - p * d := by omega
  have u2 : 1 ≤ p * b - a * q := by omega
  generalize hu : c * q - p * d = u at *
  generalize hv : p * b - a * q = v at *
  have w1 : b * 1 ≤ b * u := Int.mul_le_mul_of_nonneg_left u1 (by omega)
  have w2 : d * 1 ≤ d * v := Int.mul_le_mul_of_nonneg_left u2 (by omega)
  refine ⟨by omega, fun e => ?_⟩
  have x1 : 1 * (u - 1) ≤ b * (u - 1) := Int.mul_le_mul_of_nonneg_right b1 (by omega)
  have x2 : 1 * (v - 1) ≤ d * (v - 1) := Int.mul_le_mul_of_nonneg_right d1 (by omega)
  have y1 : b * (u - 1) = b * u - b := by rw [Int.mul_sub, Int.mul_one]
  have y2 : d * (v - 1) = d * v - d := by rw [Int.mul_sub, Int.mul_one]
  have eu : u = 1 := by omega
  have ev : v = 1 := by omega
  rw [eu, ev, Int.mul_one, Int.mul_one] at ep
  rw [← Rat.num_divInt_den y, hp, hq, ep, e]
theorem den_le {x y : Int} (hy : 1 ≤ y) : ((Rat.divInt x y).den : Int) ≤ y := by
  rw [Rat.den_divInt, if_neg (by omega)]
  have := Nat.div_le_self y.natAbs (y.gcd x)
  omega
/-- what lies between the elders, moved by a whole number -/
theorem sb_shift {a b c d s : Int} {p q x : Rat} (det : c * b - a * d = 1) (b1 : 1 ≤ b) (d1 : 1 ≤ d) (hp : Rat.divInt a b < p) (hq : q < Rat.divInt c d) (pm : p ≤ Rat.divInt (a + c) (b + d)) (mq : Rat.divInt (a + c) (b + d) ≤ q) (hs : Smp (p + s) (q + s) x) : x = Rat.divInt (a + c) (b + d) + s := by
  obtain ⟨y, ey⟩ : ∃ y : Rat, y = x + ((-s : Int) : Rat) := ⟨_, rfl⟩
  have exy : x = y + s := by grind
  have ge := hs.ge
  have le := hs.le
  obtain ⟨_, hd⟩ := add_int y s
  rw [← exy] at hd
  obtain ⟨k1, k2⟩ := sb (y := y) det b1 d1 (by grind) (by grind)
  have hm := hs.den (Rat.divInt (a + c) (b + d) + s) (by grind) (by grind)
  rw [(add_int _ s).2, hd] at hm
  have := den_le (x := a + c) (show 1 ≤ b + d by omega)
  rw [exy, k2 (by omega)]
theorem smp_flip {p q x : Rat} (h : Smp (-q) (-p) x) : Smp p q (-x) := by
  have a := h.ge
  have b := h.le
  refine ⟨by grind, by grind, fun y h1 h2 => h.den (-y) (by grind) (by grind), fun y h1 h2 => ?_⟩
  have c := h.num (-y) (by grind) (by grind)
  show (-x.num).natAbs ≤ y.num.natAbs
  have e : (-y).num = -y.num := rfl
  rw [e] at c
  omega
/-- the middle lies between, and so do the mixtures -/
theorem lt_dd {a b c d : Int} (hb : 0 < b) (hd : 0 < d) : Rat.divInt a b < Rat.divInt c d ↔ a * d < c * b := by
  have e : Rat.divInt c d - Rat.divInt a b = Rat.divInt (c * b - a * d) (d * b) := Rat.divInt_sub_divInt _ _ (by omega) (by omega)
  obtain ⟨_, s2⟩ := sgn_divInt (c * b - a * d) (d * b) (Int.mul_pos hd hb)
  have n2 : ∀ r : Rat, 0 < r ↔ 0 < r.num := fun r => by rw [Rat.lt_iff]; simp
  have z : Rat.divInt a b < Rat.divInt c d ↔ 0 < Rat.divInt c d - Rat.divInt a b := by constructor <;> intro h <;> grind
  rw [z, n2, e, s2]
  omega
theorem mix {a b c d α β : Int} (det : c * b - a * d = 1) (b1 : 1 ≤ b) (d1 : 1 ≤ d) (hα : 1 ≤ α) (hβ : 1 ≤ β) :
    Rat.divInt a b < Rat.divInt (α * a + β * c) (α * b + β * d) ∧ Rat.divInt (α * a + β * c) (α * b + β * d) < Rat.divInt c d := by
  have p1 : 1 * b ≤ α * b := Int.mul_le_mul_of_nonneg_right hα (by omega)
  have p2 : 1 * d ≤ β * d := Int.mul_le_mul_of_nonneg_right hβ (by omega)
  rw [lt_dd (by omega) (by omega), lt_dd (by omega) (by omega)]
  have e1 : (α * a + β * c) * b - a * (α * b + β * d) = β * (c * b - a * d) := by grind
  have e2 : c * (α * b + β * d) - (α * a + β * c) * d = α * (c * b - a * d) := by grind
  rw [det, Int.mul_one] at e1 e2
  omega
end K05
end
section
set_option maxRecDepth 100000
set_option maxHeartbeats 4000000
namespace K05
open PySem PySem.Spec PyProof.Rows L2 J
section
variable {P : Program} {w : World} {K : PySem.W.Frag} {mg : Str → Option Value} {base : Heap} {T : List (Addr × Str)} {f : Addr} {fd : FuncData} {CF CL CN CS : Addr}
/-- a fraction as a pair of numbers, not in lowest terms perhaps -/
structure Fp (k : Nat) (d : D) (q : Rat) : Prop where
  ex : ∃ x y : Int, d = fr x y ∧ 1 ≤ y ∧ x.natAbs < 2 ^ k ∧ y < 2 ^ k ∧ q = Rat.divInt x y
theorem lt_den {k : Nat} {q : Rat} (h : Sz k q) : (q.den : Int) < 2 ^ k := by
  have := h.den
  have : ((2 ^ k : Nat) : Int) = 2 ^ k := by simp
  omega
theorem fp_rt {k : Nat} {q : Rat} (h : Sz k q) : Fp k (rt q) q := ⟨q.num, q.den, rfl, by have := q.den_pos; omega, h.num, lt_den h, (Rat.num_divInt_den q).symm⟩
theorem mul_add_divInt {x y s : Int} (hy : 1 ≤ y) : Rat.divInt (x + s * y) y = Rat.divInt x y + s := by
  have e : ((s : Int) : Rat) = Rat.divInt s 1 := (Rat.num_divInt_den (s : Rat)).symm
  rw [e, Rat.divInt_add_divInt _ _ (by omega) (by decide), Int.mul_one, Int.mul_one]
theorem neg_divInt' {x y : Int} : Rat.divInt (-x) y = -Rat.divInt x y := by rw [Rat.neg_divInt]
theorem py_rt (q : Rat) : (rt q).py.isSome = true := rfl
def spSR : PSp where
  pre l ds := ∃ n : Nat, ds = [] ∧ Pu n l ∧ n + 100 < 2 ^ 60
  post l ds r l' := r = .bl true ∧ ∀ n : Nat, Pu n l → Pu (n + 20) l'
theorem due_rt (q : Rat) : Due 1 (rt q) := .inr (.inr ⟨_, .inr rfl, show 2 ≤ 1000 by decide, fun x hx => by
  simp only [List.mem_cons, List.not_mem_nil, or_false] at hx
  rcases hx with rfl | rfl <;> exact .inr ⟨_, rfl⟩⟩)
theorem due_rts (p q : Rat) : Due 2 (.lst [rt p, rt q]) := .inr (.inr ⟨_, .inl rfl, show 2 ≤ 1000 by decide, fun x hx => by
  simp only [List.mem_cons, List.not_mem_nil, or_false] at hx
  rcases hx with rfl | rfl <;> exact due_rt _⟩)
def bodyOf : Stmt → List Stmt
  | .For _ _ b _ _ => b
  | _ => []
/-- a place of a stretch, moved and turned -/
def fE (sg s : Int) : D → D
  | .tup [.int x, .int y] => rt (Rat.divInt (sg * (x + s * y)) y)
  | _ => .non
theorem fE_pos {k : Nat} {e : D} {q : Rat} {s : Int} (h : Fp k e q) : fE 1 s e = rt (q + s) := by
  obtain ⟨x, y, rfl, hy, _, _, rfl⟩ := h.ex
  show rt (Rat.divInt (1 * (x + s * y)) y) = _
  rw [Int.one_mul, mul_add_divInt hy]
theorem fE_neg {k : Nat} {e : D} {q : Rat} {s : Int} (h : Fp k e q) : fE (0 - 1) s e = rt (-(q + s)) := by
  obtain ⟨x, y, rfl, hy, _, _, rfl⟩ := h.ex
  show rt (Rat.divInt ((0 - 1) * (x + s * y)) y) = _
  rw [show (0 - 1 : Int) * (x + s * y) = -(x + s * y) by omega, neg_divInt', mul_add_divInt hy]
theorem sz_shift {k : Nat} {e : D} {q : Rat} {s : Int} (h : Fp k e q) (s0 : 0 ≤ s) (s1 : s ≤ 10 ^ 9) : Sz (k + 31) (q + s) := by
  obtain ⟨x, y, _, hy, hx, hyk, rfl⟩ := h.ex
  rw [← mul_add_divInt hy]
  have p : (2 : Int) ^ (k + 31) = 2 ^ k * 2147483648 := by rw [Int.pow_add]; rfl
  have pn : (2 : Nat) ^ (k + 31) = 2 ^ k * 2147483648 := by rw [Nat.pow_add]
  have c : ((2 ^ k : Nat) : Int) = 2 ^ k := by simp
  have m1 := Int.mul_le_mul_of_nonneg_right s1 (show 0 ≤ y by omega)
  have m0 := Int.mul_nonneg s0 (show 0 ≤ y by omega)
  exact sz_low (by omega) (by omega) (by omega)
theorem lt123 : ∀ i ∈ [1, 2, 3], i < 13 := by decide
abbrev nR1 : List Str := ["purse", "low", "middle", "high", "near", "far", "ends", "shift", "sign", "one", "other", "due", "end"]
theorem sc_sr : FnScope nR1 ["purse"] (defScope (topS 52)) := ⟨rfl, rfl, rfl, by decide +kernel, rfl, by decide +kernel, by decide +kernel⟩
section
variable {qual : Str} {cdv : Value} {A : Around} {outer : List Env} {s0 : Shared} {H F : Hp} {E : XK} {ad cc PP : Addr} {g1 g2 g3 g4 g5 g6 g7 g8 g12 : Sl} {l6 : List D} {lo hi du : Rat} {D₀ : JD}
abbrev XR (P : Program) (w : World) (K : PySem.W.Frag) (mg : Str → Option Value) (base : Heap) (f : Addr) (cdv : Value) (A : Around) (outer : List Env) (s0 : Shared) (H : Hp) (E : XK) : Cx := DX P w K mg base "_law_simplest_right" (topS 52) f nR1 cdv A outer s0 H E
abbrev tailR : List Stmt := (bodyOf ((defBody (topS 52)).getD 5 (.Pass ⟨0, 0, 0, 0⟩))).drop 3
theorem simp_exc {C : Addr} {v : D} (hle : lo ≤ hi) (h : (spSimp CF).exc [rt lo, rt hi] C v) : False := by
  rcases h with ⟨_, h⟩ | ⟨_, _, p', q', h1, h2, h3⟩
  · rcases h with ⟨h, _⟩ | ⟨_, h, _⟩ <;> (rw [isFr_rt] at h; cases h)
  · rw [← rt_inj h1, ← rt_inj h2] at h3
    grind
theorem simp_exc2 {C : Addr} {v : D} (h : (spSimp CF).exc [rt lo, rt hi] C v) : C = CF ∧ v = rt lo := by
  rcases h with ⟨_, h⟩ | ⟨h1, h2, _⟩
  · rcases h with ⟨h, _⟩ | ⟨_, h, _⟩ <;> (rw [isFr_rt] at h; cases h)
  · exact ⟨h1, h2⟩
theorem simp_pre (zl : Sz 210 lo) (zh : Sz 210 hi) : (spSimp CF).pre [rt lo, rt hi] := ⟨rfl, rfl, fun p' q' h1 h2 => ⟨210, rt_inj h1 ▸ zl, rt_inj h2 ▸ zh, by omega⟩⟩
theorem simp_post {r : D} (un : ∀ x, Smp lo hi x → x = du) (h : (spSimp CF).post [rt lo, rt hi] r) : r = rt du := by
  obtain ⟨p', q', x, h1, h2, _, rfl, sx⟩ := h
  rw [← rt_inj h1, ← rt_inj h2] at sx
  rw [un x sx]
theorem simp_post2 {r : D} (hlt : hi < lo) (h : (spSimp CF).post [rt lo, rt hi] r) : False := by
  obtain ⟨p', q', x, h1, h2, h3, _⟩ := h
  rw [← rt_inj h1, ← rt_inj h2] at h3
  grind
theorem sr_tail (B : Bt mg) (RT : RefT P w K mg base T 6 CS (kd CF CL CN)) (C6 : Cal P w K mg base T 3 "_law_same" ["told", "due"] 2 (spSame 2)) (C7 : Cal P w K mg base T 6 "simplest" ["low", "high"] 2 (spSimp CF)) (C8 : CalK P w K mg base T 6 "simplest" ["low", "high"] ["high", "low"] 2 List.reverse (spSimp CF))
    (hr : RoomG 11 (A.deeper (envOfC "_law_simplest_right" (defScope (topS 52)) s0.heap.objs.size f (.ref cc)))) (TB : LamX.TabB base mg cc PP) (hm : (PP, (("_law_simplest_right" : Str) ++ ".<locals>." : Str) ++ "<lambda>") ∈ T) (hu : ∀ p ∈ T, p.1 = PP → p.2 = (("_law_simplest_right" : Str) ++ ".<locals>." : Str) ++ "<lambda>") (hle : lo ≤ hi) (zl : Sz 210 lo) (zh : Sz 210 hi) (un : ∀ x, Smp lo hi x → x = du)
    (nx : D₀.nx [.own ad l6, g1, g2, g3, g4, g5, g6, g7, g8, .val (rt lo), .val (rt hi), .val (rt du), g12]) :
    JSs (XR P w K mg base f (.ref cc) A outer s0 H E) ⟨F, H, (· = ad), T⟩ tailR [.own ad l6, g1, g2, g3, g4, g5, g6, g7, g8, .val (rt lo), .val (rt hi), .val (rt du), g12] D₀ NoX := by
  refine jss_cons ?_
  refine js_if ?_
  refine jt_not ?_
  refine jt_val ?_
  refine je_call C6 hr (by omega) (by rfl) ?_
  refine ja_cons ?_
  refine je_lst ?_
  refine ja_cons ?_
  refine je_call C7 hr (by omega) (by rfl) ?_
  refine ja_cons ?_
  refine v9 (d := rt lo) ?_
  refine ja_cons ?_
  refine v10 (d := rt hi) ?_
  refine ja_nil ⟨rfl, simp_pre zl zh, fun r h => ?_, fun C v h => (simp_exc hle h).elim⟩
  obtain rfl := simp_post un h
  refine ja_cons ?_
  refine je_k C8 hr (by omega) (by rfl) (fun _ r => r.reverse) ?_
  refine jk_cons ?_
  refine v10 (d := rt hi) ?_
  refine jk_cons ?_
  refine v9 (d := rt lo) ?_
  refine jk_nil ⟨rfl, rfl, simp_pre zl zh, fun r h => ?_, fun C v h => (simp_exc hle h).elim⟩
  obtain rfl := simp_post un h
  refine ja_nil ⟨one_sz (show 2 ≤ 1000 by decide), ?_⟩
  refine ja_cons ?_
  refine je_lst ?_
  refine ja_cons ?_
  refine v11 (d := rt du) ?_
  refine ja_cons ?_
  refine v11 (d := rt du) ?_
  refine ja_nil ⟨one_sz (show 2 ≤ 1000 by decide), ?_⟩
  refine ja_nil ⟨rfl, ⟨rfl, due_rts _ _⟩, fun r h => ?_, fun _ _ z => z.elim⟩
  obtain rfl := (show r = .bl true from h)
  refine ⟨true, rfl, (fun z => nomatch z), fun _ => jss_nil ?_⟩
  refine jss_one (js_if (jt_w (jw_and (jt_neP hr (v10 (d := rt hi) (v9 (d := rt lo) ⟨_, _, (shaped_rt hi).1, (shaped_rt lo).1, (shaped_rt hi).2, (shaped_rt lo).2, fun k => ?_, fun k => ⟨(fun z => nomatch z), fun _ => jss_nil nx⟩⟩))))))
  have hlt : lo < hi := by
    rw [eqv_rt] at k
    have : ¬ (hi = lo) := by simpa using k
    clear k nx un RT C6 C7 C8
    grind
  refine jw_and1 ?_
  refine jt_not ?_
  refine jt_val ?_
  have rp := rp_rt zh (by decide)
  refine je_refused (X := XR P w K mg base f (.ref cc) A outer s0 H E) (c := ⟨F, H, (· = ad), T⟩) RT hr (by omega) (by rfl) (.inl ⟨rfl, rfl⟩) TB (by rfl) hm hu (LamX.lamS_by (by rfl)) (dv := rt hi) (fun _ => v10 (d := rt hi) ⟨rfl, rfl⟩) rp.py rp.sh (rp.len (by decide)) (Nat.le_trans rp.dp (by decide)) (fun A' outer' s' H' F' E' f' c' hr' => ?_) ?_
  · refine je_call C7 hr' (by omega) (by rfl) ?_
    refine ja_cons ?_
    refine v10 (d := rt hi) ?_
    refine ja_cons ?_
    refine v9 (d := rt lo) ?_
    exact ja_nil ⟨rfl, simp_pre zh zl, fun r h => (simp_post2 hlt h).elim, fun C v h => simp_exc2 h⟩
  · exact ⟨true, rfl, (fun z => nomatch z), fun _ => jss_nil nx⟩
end
end
end K05
end
section
set_option maxRecDepth 100000
set_option maxHeartbeats 4000000
namespace K05
open PySem PySem.Spec PyProof.Rows L2 J
section
variable {P : Program} {w : World} {K : PySem.W.Frag} {mg : Str → Option Value} {base : Heap} {T : List (Addr × Str)} {f : Addr} {fd : FuncData} {CF CL CN CS : Addr}
theorem v12 {X : Cx} {c : JC} {G : List Sl} {Ex : XQ} {pos : Pos} {Q : D → List Sl → Prop} {x : Str} {d : D} (q : Q d G) (hN : X.N[12]? = some x := by rfl) (hg : G[12]? = some (Sl.val d) := by rfl) (hv : Vis X.env.scope x := by first | exact .inl rfl | exact .inr (.inl rfl) | exact .inr (.inr rfl)) (hd : (x == ("__debug__" : Str)) = false := by decide) (hcd : (x == ("__classdict__" : Str)) = false := by decide) : JE X c (.Name x pos) G Q Ex := je_var hN hv hg q hd hcd
theorem v13 {X : Cx} {c : JC} {G : List Sl} {Ex : XQ} {pos : Pos} {Q : D → List Sl → Prop} {x : Str} {d : D} (q : Q d G) (hN : X.N[13]? = some x := by rfl) (hg : G[13]? = some (Sl.val d) := by rfl) (hv : Vis X.env.scope x := by first | exact .inl rfl | exact .inr (.inl rfl) | exact .inr (.inr rfl)) (hd : (x == ("__debug__" : Str)) = false := by decide) (hcd : (x == ("__classdict__" : Str)) = false := by decide) : JE X c (.Name x pos) G Q Ex := je_var hN hv hg q hd hcd
theorem v14 {X : Cx} {c : JC} {G : List Sl} {Ex : XQ} {pos : Pos} {Q : D → List Sl → Prop} {x : Str} {d : D} (q : Q d G) (hN : X.N[14]? = some x := by rfl) (hg : G[14]? = some (Sl.val d) := by rfl) (hv : Vis X.env.scope x := by first | exact .inl rfl | exact .inr (.inl rfl) | exact .inr (.inr rfl)) (hd : (x == ("__debug__" : Str)) = false := by decide) (hcd : (x == ("__classdict__" : Str)) = false := by decide) : JE X c (.Name x pos) G Q Ex := je_var hN hv hg q hd hcd
theorem v15 {X : Cx} {c : JC} {G : List Sl} {Ex : XQ} {pos : Pos} {Q : D → List Sl → Prop} {x : Str} {d : D} (q : Q d G) (hN : X.N[15]? = some x := by rfl) (hg : G[15]? = some (Sl.val d) := by rfl) (hv : Vis X.env.scope x := by first | exact .inl rfl | exact .inr (.inl rfl) | exact .inr (.inr rfl)) (hd : (x == ("__debug__" : Str)) = false := by decide) (hcd : (x == ("__classdict__" : Str)) = false := by decide) : JE X c (.Name x pos) G Q Ex := je_var hN hv hg q hd hcd
theorem lt910 : ∀ i ∈ [9, 10], i < 13 := by decide
theorem mem4 {r : D} (h : r ∈ [D.int 0, .int 0, .int 1, .int (10 ^ (9 : Int).toNat)]) : ∃ m, r = .int m ∧ 0 ≤ m ∧ m ≤ 10 ^ 9 := by
  simp only [List.mem_cons, List.not_mem_nil, or_false] at h
  rcases h with rfl | rfl | rfl | rfl <;> exact ⟨_, rfl, by decide, by decide⟩
/-- _law_frac at a place, moved and turned -/
theorem frac_at {k : Nat} {e : D} {q : Rat} {s sg : Int} (h : Fp k e q) (hk : k ≤ 200) (s0 : 0 ≤ s) (s1 : s ≤ 10 ^ 9) (hs : sg = 1 ∨ sg = 0 - 1) : ∃ x y : Int, e = fr x y ∧ y ≠ 0 ∧ y.natAbs < 2 ^ 240 ∧ CMulW s y ∧ CMulW sg (x + s * y) ∧ (sg * (x + s * y)).natAbs < 2 ^ 240 := by
  obtain ⟨x, y, rfl, hy, hx, hyk, _⟩ := h.ex
  have m1 := Int.mul_le_mul_of_nonneg_right s1 (show 0 ≤ y by omega)
  have m0 := Int.mul_nonneg s0 (show 0 ≤ y by omega)
  have p : (2 : Int) ^ k ≤ 2 ^ 200 := by
    have := Nat.pow_le_pow_right (n := 2) (by decide) hk
    exact_mod_cast this
  have c : ((2 ^ k : Nat) : Int) = 2 ^ k := by simp
  have xb : (x + s * y).natAbs < 2 ^ 235 := by omega
  refine ⟨x, y, rfl, by omega, by omega, cmul_of (n := 30) (m := 200) (iv s0 (by omega)) (iv (by omega) (by omega)) (by decide), ?_, ?_⟩
  · refine cmul_of (n := 1) (m := 235) ?_ xb (by decide)
    rcases hs with rfl | rfl <;> decide
  · rcases hs with rfl | rfl <;> omega
theorem ok_sr (B : Bt mg) (hF : LamF base mg T fd "_law_simplest_right") (RT : RefT P w K mg base T 6 CS (kd CF CL CN)) (C1 : CalP P w K mg base T 2 "_law_between" ["purse", "low", "high"] 2 spBtw) (C2 : CalP P w K mg base T 3 "_law_planted" ["purse", "runs"] 1 spPlanted) (C3 : CalP P w K mg base T 3 "_law_between_two" ["purse", "one", "other"] 2 spBT)
    (C4 : CalP P w K mg base T 2 "_law_pick" ["purse", "things"] 1 spPick) (C5 : Cal P w K mg base T 1 "_law_frac" ["top", "under"] 2 spLF) (C6 : Cal P w K mg base T 3 "_law_same" ["told", "due"] 2 (spSame 2)) (C7 : Cal P w K mg base T 6 "simplest" ["low", "high"] 2 (spSimp CF))
    (C8 : CalK P w K mg base T 6 "simplest" ["low", "high"] ["high", "low"] 2 List.reverse (spSimp CF)) (FN : Fd K "_law_simplest_right" (topS 52) f fd) : FnG P w K mg base 12 f fd ["purse"] (toP K T 0 spSR) := by
  refine okPc FN sc_sr rfl (by decide) fun cdv A outer s0 H E F ad l ds hcv hr hl hp => ?_
  obtain ⟨n0, rfl, pu0, hn⟩ := hp
  obtain ⟨cc, PP, hc1, hc2, hc3, hc4⟩ := hF.ex
  rw [hcv] at hc1
  subst hc1
  -- low, middle, high
  refine jss_cons ?_
  refine js_unT (is := [1, 2, 3]) (n := 3) (by rfl) (pgs_cons (pg_name sc_sr.nd rfl (.inl rfl) (.inr rfl)) (pgs_cons (pg_name sc_sr.nd rfl (.inl rfl) (.inr rfl)) (pgs_cons (pg_name sc_sr.nd rfl (.inl rfl) (.inr rfl)) pgs_nil))) (by rfl) ?_
  refine je_callO C2 hr (by omega) (by rfl) (i := 0) (by rfl) (by exact .inl rfl) (by rfl) ?_
  refine ja_cons ?_
  refine je_callO C1 hr (by omega) (by rfl) (i := 0) (by rfl) (by exact .inl rfl) (by rfl) ?_
  refine ja_cons ?_
  refine je_int ?_
  refine ja_cons ?_
  refine je_int ?_
  refine ja_nil ⟨l, rfl, rfl, ⟨n0, 2, 12, rfl, pu0, by omega, by decide, by decide⟩, fun d l1 hd => ?_⟩
  obtain ⟨j, rfl, j0, j1, pu1⟩ := hd n0 2 12 rfl pu0
  have ej : ((j.toNat : Nat) : Int) = j := by omega
  refine ja_nil ⟨l1, rfl, rfl, ⟨n0 + 1, j.toNat, by rw [ej], pu1, by omega, by omega, by omega⟩, fun d l2 hd2 => ?_⟩
  obtain ⟨a, b, c, d', rfl, el, d1, pu2⟩ := hd2 _ pu1
  have all1 : ∀ n, Pu n l → Pu (n + 13) l2 := fun n p => by
    obtain ⟨_, _, _, _, p1⟩ := hd n 2 12 rfl p
    obtain ⟨_, _, _, _, _, _, _, p2⟩ := hd2 _ p1
    exact p2
  have pu2 := all1 n0 pu0
  refine ⟨_, rfl, rfl, lt123, ?_⟩
  refine jss_cons ?_
  refine js_if ?_
  refine jt_gt ?_
  refine je_ix ?_
  refine v2 ⟨rfl, ?_⟩
  refine je_int ⟨_, _, rfl, rfl, ⟨_, rfl, ?_⟩⟩
  refine je_pow ?_
  refine je_int ⟨_, rfl, ?_⟩
  refine je_int ⟨_, rfl, (⟨by decide, by decide, by decide⟩ : CPow 10 20), ⟨_, rfl, fun _ => ?_, fun _ => ?_⟩⟩
  · refine jss_one ?_
    refine js_ret ?_
    exact je_bl ⟨l2, rfl, rfl, fun n p => (all1 n p).mono (by omega)⟩
  refine jss_nil ?_
  have := el.a0; have := el.b1; have := el.c1; have := el.d0; have := el.ab; have := el.bb; have := el.cb; have := el.db
  have det := el.det
  -- near, far
  refine jss_cons ?_
  refine js_par (i := 4) (j := 5) (by rfl) sc_sr.nd (by rfl) (by rfl) (by decide) (by rfl) (by rfl) ?_
  refine je_callO C3 hr (by omega) (by rfl) (i := 0) (by rfl) (by exact .inl rfl) (by rfl) ?_
  refine ja_cons ?_
  refine v1 ?_
  refine ja_cons ?_
  refine v2 ?_
  refine ja_nil ⟨l2, rfl, rfl, ⟨n0 + 13, a, b, a + c, b + d', rfl, pu2, by omega, by omega, by omega, by omega, by omega, by omega, by omega, by omega, by omega⟩, fun d l3 hd3 => ?_⟩
  obtain ⟨α, β, α0, α1, β0, β1, rfl, pu3⟩ := hd3 _ a b (a + c) (b + d') rfl pu2
  refine je_callO C3 hr (by omega) (by rfl) (i := 0) (by rfl) (by exact .inl rfl) (by rfl) ?_
  refine ja_cons ?_
  refine v2 ?_
  refine ja_cons ?_
  refine v3 ?_
  refine ja_nil ⟨l3, rfl, rfl, ⟨n0 + 15, a + c, b + d', c, d', rfl, pu3, by omega, by omega, by omega, by omega, by omega, by omega, by omega, by omega, by omega⟩, fun d l4 hd4 => ?_⟩
  obtain ⟨γ, δ, γ0, γ1, δ0, δ1, rfl, pu4⟩ := hd4 _ (a + c) (b + d') c d' rfl pu3
  refine ⟨show 4 < 13 by decide, show 5 < 13 by decide, ?_⟩
  have all2 : ∀ n, Pu n l → Pu (n + 17) l4 := fun n p => by
    obtain ⟨_, _, _, _, _, _, _, p3⟩ := hd3 _ a b (a + c) (b + d') rfl (all1 n p)
    obtain ⟨_, _, _, _, _, _, _, p4⟩ := hd4 _ (a + c) (b + d') c d' rfl p3
    exact p4
  -- where they lie
  have detL : (a + c) * b - a * (b + d') = 1 := by rw [Int.add_mul, Int.mul_add]; omega
  have detR : c * (b + d') - (a + c) * d' = 1 := by rw [Int.add_mul, Int.mul_add]; omega
  have mx0 := mix (α := 1) (β := 1) det el.b1 d1 (by decide) (by decide)
  rw [Int.one_mul, Int.one_mul, Int.one_mul, Int.one_mul] at mx0
  have mxL := mix detL el.b1 (by omega) α0 β0
  have mxR := mix detR (by omega) d1 γ0 δ0
  generalize hM : Rat.divInt (a + c) (b + d') = M at *
  have bnd : ∀ m z : Int, 1 ≤ m → m ≤ 1000000 → 0 ≤ z → z < 2 ^ 140 → 0 ≤ m * z ∧ m * z < 2 ^ 160 := fun m z h1 h2 h3 h4 => by
    have := Int.mul_le_mul_of_nonneg_right h2 h3
    have := Int.mul_nonneg (show 0 ≤ m by omega) h3
    omega
  have nearP : Sz 170 (Rat.divInt (α * a + β * (a + c)) (α * b + β * (b + d'))) := by
    have q1 := bnd α a α0 α1 (by omega) (by omega)
    have q2 := bnd β (a + c) β0 β1 (by omega) (by omega)
    have q3 := bnd α b α0 α1 (by omega) (by omega)
    have q4 := bnd β (b + d') β0 β1 (by omega) (by omega)
    have q5 : 1 * b ≤ α * b := Int.mul_le_mul_of_nonneg_right α0 (by omega)
    exact sz_low (by omega) (iv (by omega) (by omega)) (iv (by omega) (by omega))
  have farP : Sz 170 (Rat.divInt (γ * (a + c) + δ * c) (γ * (b + d') + δ * d')) := by
    have q1 := bnd γ (a + c) γ0 γ1 (by omega) (by omega)
    have q2 := bnd δ c δ0 δ1 (by omega) (by omega)
    have q3 := bnd γ (b + d') γ0 γ1 (by omega) (by omega)
    have q4 := bnd δ d' δ0 δ1 (by omega) (by omega)
    have q5 : 1 * (b + d') ≤ γ * (b + d') := Int.mul_le_mul_of_nonneg_right γ0 (by omega)
    exact sz_low (by omega) (iv (by omega) (by omega)) (iv (by omega) (by omega))
  generalize Rat.divInt (α * a + β * (a + c)) (α * b + β * (b + d')) = nr at *
  generalize Rat.divInt (γ * (a + c) + δ * c) (γ * (b + d') + δ * d') = fa at *
  have fpM : Fp 170 (fr (a + c) (b + d')) M := ⟨a + c, b + d', rfl, by omega, iv (by omega) (by omega), by omega, hM.symm⟩
  -- ends
  refine jss_cons ?_
  refine js_s (i := 6) sc_sr.nd (by rfl) ?_
  refine je_callO C4 hr (by omega) (by rfl) (i := 0) (by rfl) (by exact .inl rfl) (by rfl) ?_
  refine ja_cons ?_
  refine je_lst ?_
  refine ja_cons ?_
  refine je_lst ?_
  refine ja_cons ?_
  refine v2 ?_
  refine ja_cons ?_
  refine v2 ?_
  refine ja_nil ⟨one_sz (show 2 ≤ 1000 by decide), ?_⟩
  refine ja_cons ?_
  refine je_lst ?_
  refine ja_cons ?_
  refine v2 ?_
  refine ja_cons ?_
  refine v5 ?_
  refine ja_nil ⟨one_sz (show 2 ≤ 1000 by decide), ?_⟩
  refine ja_cons ?_
  refine je_lst ?_
  refine ja_cons ?_
  refine v4 ?_
  refine ja_cons ?_
  refine v2 ?_
  refine ja_nil ⟨one_sz (show 2 ≤ 1000 by decide), ?_⟩
  refine ja_cons ?_
  refine je_lst ?_
  refine ja_cons ?_
  refine v4 ?_
  refine ja_cons ?_
  refine v5 ?_
  refine ja_nil ⟨one_sz (show 2 ≤ 1000 by decide), ?_⟩
  refine ja_nil ⟨one_sz (show 4 ≤ 1000 by decide), ?_⟩
  refine ja_nil ⟨l4, rfl, rfl, ⟨n0 + 17, _, rfl, pu4, by omega, show 0 < 4 by decide, show 4 < 1000 by decide⟩, fun d l5 hd5 => ?_⟩
  obtain ⟨hm, pu5⟩ := hd5 _ _ rfl pu4
  have ends : ∃ e1 e2 p q, d = .lst [e1, e2] ∧ Fp 170 e1 p ∧ Fp 170 e2 q ∧ Rat.divInt a b < p ∧ p ≤ M ∧ M ≤ q ∧ q < Rat.divInt c d' := by
    simp only [List.mem_cons, List.not_mem_nil, or_false] at hm
    rcases hm with rfl | rfl | rfl | rfl
    · exact ⟨_, _, M, M, rfl, fpM, fpM, mx0.1, by grind, by grind, mx0.2⟩
    · exact ⟨_, _, M, fa, rfl, fpM, fp_rt farP, mx0.1, by grind, by grind, mxR.2⟩
    · exact ⟨_, _, nr, M, rfl, fp_rt nearP, fpM, mxL.1, by grind, by grind, mx0.2⟩
    · exact ⟨_, _, nr, fa, rfl, fp_rt nearP, fp_rt farP, mxL.1, by grind, by grind, mxR.2⟩
  obtain ⟨e1, e2, p, q, rfl, fp, fq, lp, pm, mq, qh⟩ := ends
  refine ⟨show 6 < 13 by decide, ?_⟩
  have all3 : ∀ n, Pu n l → Pu (n + 18) l5 := fun n p => (hd5 _ _ rfl (all2 n p)).2
  have e7 : Fp 170 (fr (a + c) (b + d')) M := fpM
  refine jss_cons ?_
  refine js_s (i := 7) sc_sr.nd (by rfl) ?_
  refine je_if ?_
  refine jt_gt ?_
  refine je_ix ?_
  refine v2 ⟨rfl, ?_⟩
  refine je_int ⟨_, _, rfl, rfl, ⟨_, rfl, ?_⟩⟩
  refine je_int ⟨_, rfl, fun _ => ?_, fun k => ?_⟩
  rotate_left
  · have : ¬ (0 < a + c) := by simpa using k
    omega
  refine je_callO C4 hr (by omega) (by rfl) (i := 0) (by rfl) (by exact .inl rfl) (by rfl) ?_
  refine ja_cons ?_
  refine je_lst ?_
  refine ja_cons ?_
  refine je_int ?_
  refine ja_cons ?_
  refine je_int ?_
  refine ja_cons ?_
  refine je_int ?_
  refine ja_cons ?_
  refine je_pow ?_
  refine je_int ⟨_, rfl, ?_⟩
  refine je_int ⟨_, rfl, (⟨by decide, by decide, by decide⟩ : CPow 10 9), ?_⟩
  refine ja_nil ⟨one_sz (show 4 ≤ 1000 by decide), ?_⟩
  refine ja_nil ⟨l5, rfl, rfl, ⟨n0 + 18, _, rfl, pu5, by omega, show 0 < 4 by decide, show 4 < 1000 by decide⟩, fun d l6 hd6 => ?_⟩
  obtain ⟨hms, pu6⟩ := hd6 _ _ rfl pu5
  obtain ⟨sh, rfl, sh0, sh1⟩ := mem4 hms
  have all4 : ∀ n, Pu n l → Pu (n + 19) l6 := fun n p => (hd6 _ _ rfl (all3 n p)).2
  refine ⟨show 7 < 13 by decide, ?_⟩
  refine jss_cons ?_
  refine js_forL (i := 8) (by exact passes_of rfl) (by rfl) sc_sr.nd (by rfl) (by exact .inr rfl) ?_
  refine je_lst ?_
  refine ja_cons ?_
  refine je_int ?_
  refine ja_cons ?_
  refine je_sub ?_
  refine je_int ⟨_, rfl, ?_⟩
  refine je_int ⟨_, rfl, ?_⟩
  refine ja_nil (⟨one_sz (show 2 ≤ 1000 by decide), ⟨_, rfl, fun t G => ∃ g9 g10 g11 g12 g8, G = [.own ad l6, .val (fr a b), .val (fr (a + c) (b + d')), .val (fr c d'), .val (rt nr), .val (rt fa), .val (.lst [e1, e2]), .val (.int sh), g8, g9, g10, g11, g12] ∧ g12 = .no, ⟨.no, .no, .no, .no, .no, rfl, rfl⟩, ?_, ?_⟩⟩)
  rotate_left
  · rintro G2 ⟨g9, g10, g11, g12, g8, rfl, _⟩
    refine jss_one ?_
    refine js_ret ?_
    exact je_bl ⟨l6, rfl, rfl, fun n p => (all4 n p).mono (by omega)⟩
  rintro t y G2 hy ⟨g9, g10, g11, g12, g8, rfl, rfl⟩
  obtain ⟨sg, rfl, hsg⟩ : ∃ sg : Int, y = .int sg ∧ (sg = 1 ∨ sg = 0 - 1) := by
    match t, hy with
    | 0, hy => exact ⟨1, (Option.some.inj hy).symm, .inl rfl⟩
    | 1, hy => exact ⟨0 - 1, (Option.some.inj hy).symm, .inr rfl⟩
  refine ⟨show 8 < 13 by decide, ?_⟩
  refine jss_cons ?_
  refine js_unL (is := [9, 10]) (n := 2) (by rfl) (pgs_cons (pg_name sc_sr.nd rfl (.inr rfl) (.inl rfl)) (pgs_cons (pg_name sc_sr.nd rfl (.inr rfl) (.inl rfl)) pgs_nil)) (by rfl) ?_
  refine JE.of_air ?_
  refine jn_lcL (x := "end") (i := 12) (by rfl) sc_sr.nd (blkOk_by (by rfl)) (fun s H C cl fp => pg_name sc_sr.nd rfl (.inl rfl) (.inr rfl)) ?_
  refine v6 (d := .lst [e1, e2]) ⟨_, rfl, lcL_all (f := fE sg sh) rfl (one_sz (show 2 ≤ 1000 by decide)) (fun y hy F1 H1 W s1 H2 C cl fp => ?_) fun pp => ⟨_, rfl, rfl, lt910, ?_⟩⟩
  · have fy : ∃ q', Fp 170 y q' := by
      simp only [List.mem_cons, List.not_mem_nil, or_false] at hy
      rcases hy with rfl | rfl
      · exact ⟨_, fp⟩
      · exact ⟨_, fq⟩
    obtain ⟨q', fy⟩ := fy
    obtain ⟨x, y2, rfl, k1, k2, k3, k4, k5⟩ := frac_at fy (by decide) sh0 sh1 hsg
    refine je_call C5 hr (by omega) (by rfl) ?_
    refine ja_cons ?_
    refine je_mul ?_
    refine v8 ⟨_, rfl, ?_⟩
    refine je_add ?_
    refine je_ix ?_
    refine v12 ⟨rfl, ?_⟩
    refine je_int ⟨_, _, rfl, rfl, ⟨_, rfl, ?_⟩⟩
    refine je_mul ?_
    refine v7 ⟨_, rfl, ?_⟩
    refine je_ix ?_
    refine v12 ⟨rfl, ?_⟩
    refine je_int ⟨_, _, rfl, rfl, ⟨_, rfl, k3, ⟨_, rfl, ⟨_, rfl, k4, ?_⟩⟩⟩⟩
    refine ja_cons ?_
    refine je_ix ?_
    refine v12 ⟨rfl, ?_⟩
    refine je_int ⟨_, _, rfl, rfl, ?_⟩
    refine ja_nil (⟨rfl, ⟨_, _, 240, rfl, rfl, k1, k5, k2, (by decide)⟩, ?_, fun _ _ z => z.elim⟩)
    rintro _ ⟨⟩
    exact ⟨rfl, rfl⟩
  have z1 := sz_shift fp sh0 sh1
  have z2 := sz_shift fq sh0 sh1
  have zM := sz_shift fpM sh0 sh1
  have pgs2 := fun (px py : Pos) => pgs_cons (X := XR P w K mg base f (.ref cc) A outer s0 H E) (pg_name (pos := px) sc_sr.nd (i := 9) rfl (.inr rfl) (.inl rfl)) (pgs_cons (pg_name (pos := py) sc_sr.nd (i := 10) rfl (.inr rfl) (.inl rfl)) pgs_nil)
  obtain ⟨x, y2, ex, k1, k2, k3, k4, k5⟩ := frac_at fpM (by decide) sh0 sh1 hsg
  cases ex
  rcases hsg with rfl | rfl
  · have em : [e1, e2].map (fE 1 sh) = [rt (p + sh), rt (q + sh)] := by rw [List.map_cons, List.map_cons, List.map_nil, fE_pos fp, fE_pos fq]
    rw [em]
    refine jss_cons ?_
    refine js_unT (is := [9, 10]) (n := 2) (by rfl) (pgs2 _ _) (by rfl) ?_
    refine je_if ?_
    refine jt_gt ?_
    refine v8 ⟨_, rfl, ?_⟩
    refine je_int ⟨_, rfl, fun k => ?_, fun k => ?_⟩
    rotate_left
    · exact absurd k (by decide)
    refine je_tup ?_
    refine ja_cons ?_
    refine v9 ?_
    refine ja_cons ?_
    refine v10 ?_
    refine ja_nil (⟨one_sz (show 2 ≤ 1000 by decide), ⟨_, rfl, rfl, lt910, ?_⟩⟩)
    refine jss_cons ?_
    refine js_s (i := 11) sc_sr.nd (by rfl) ?_
    refine je_call C5 hr (by omega) (by rfl) ?_
    refine ja_cons ?_
    refine je_mul ?_
    refine v8 ⟨_, rfl, ?_⟩
    refine je_add ?_
    refine je_ix ?_
    refine v2 ⟨rfl, ?_⟩
    refine je_int ⟨_, _, rfl, rfl, ⟨_, rfl, ?_⟩⟩
    refine je_mul ?_
    refine v7 ⟨_, rfl, ?_⟩
    refine je_ix ?_
    refine v2 ⟨rfl, ?_⟩
    refine je_int ⟨_, _, rfl, rfl, ⟨_, rfl, k3, ⟨_, rfl, ⟨_, rfl, k4, ?_⟩⟩⟩⟩
    refine ja_cons ?_
    refine je_ix ?_
    refine v2 ⟨rfl, ?_⟩
    refine je_int ⟨_, _, rfl, rfl, ?_⟩
    refine ja_nil (⟨rfl, ⟨_, _, 240, rfl, rfl, k1, k5, k2, (by decide)⟩, ?_, fun _ _ z => z.elim⟩)
    rintro _ ⟨⟩
    refine ⟨show 11 < 13 by decide, ?_⟩
    have e : lowD (.int (1 * (a + c + sh * (b + d')))) (.int (b + d')) = rt (M + sh) := fE_pos fpM
    rw [e]
    exact sr_tail B RT C6 C7 C8 hr hc2 hc3 hc4 (show p + sh ≤ q + sh by grind) (z1.mono (by decide)) (z2.mono (by decide)) (fun x sx => by
      have z := sb_shift (s := sh) det el.b1 d1 lp qh (by rw [hM]; exact pm) (by rw [hM]; exact mq) sx
      rw [hM] at z
      exact z) ⟨_, _, _, _, _, rfl, rfl⟩
  · have em : [e1, e2].map (fE (0 - 1) sh) = [rt (-(p + sh)), rt (-(q + sh))] := by rw [List.map_cons, List.map_cons, List.map_nil, fE_neg fp, fE_neg fq]
    rw [em]
    refine jss_cons ?_
    refine js_unT (is := [9, 10]) (n := 2) (by rfl) (pgs2 _ _) (by rfl) ?_
    refine je_if ?_
    refine jt_gt ?_
    refine v8 ⟨_, rfl, ?_⟩
    refine je_int ⟨_, rfl, fun k => ?_, fun k => ?_⟩
    · exact absurd k (by decide)
    refine je_tup ?_
    refine ja_cons ?_
    refine v10 ?_
    refine ja_cons ?_
    refine v9 ?_
    refine ja_nil (⟨one_sz (show 2 ≤ 1000 by decide), ⟨_, rfl, rfl, lt910, ?_⟩⟩)
    refine jss_cons ?_
    refine js_s (i := 11) sc_sr.nd (by rfl) ?_
    refine je_call C5 hr (by omega) (by rfl) ?_
    refine ja_cons ?_
    refine je_mul ?_
    refine v8 ⟨_, rfl, ?_⟩
    refine je_add ?_
    refine je_ix ?_
    refine v2 ⟨rfl, ?_⟩
    refine je_int ⟨_, _, rfl, rfl, ⟨_, rfl, ?_⟩⟩
    refine je_mul ?_
    refine v7 ⟨_, rfl, ?_⟩
    refine je_ix ?_
    refine v2 ⟨rfl, ?_⟩
    refine je_int ⟨_, _, rfl, rfl, ⟨_, rfl, k3, ⟨_, rfl, ⟨_, rfl, k4, ?_⟩⟩⟩⟩
    refine ja_cons ?_
    refine je_ix ?_
    refine v2 ⟨rfl, ?_⟩
    refine je_int ⟨_, _, rfl, rfl, ?_⟩
    refine ja_nil (⟨rfl, ⟨_, _, 240, rfl, rfl, k1, k5, k2, (by decide)⟩, ?_, fun _ _ z => z.elim⟩)
    rintro _ ⟨⟩
    refine ⟨show 11 < 13 by decide, ?_⟩
    have e : lowD (.int ((0 - 1) * (a + c + sh * (b + d')))) (.int (b + d')) = rt (-(M + sh)) := fE_neg fpM
    rw [e]
    exact sr_tail B RT C6 C7 C8 hr hc2 hc3 hc4 (show -(q + sh) ≤ -(p + sh) by grind) (sz_neg (z2.mono (by decide))) (sz_neg (z1.mono (by decide))) (fun x sx => by
      have z := sb_shift (s := sh) det el.b1 d1 lp qh (by rw [hM]; exact pm) (by rw [hM]; exact mq) (smp_flip sx)
      rw [hM] at z
      grind) ⟨_, _, _, _, _, rfl, rfl⟩
end
end K05
end
section
set_option maxRecDepth 100000
set_option maxHeartbeats 4000000
namespace K05
open PySem PySem.Spec PyProof.Rows L2 J
section
variable {P : Program} {w : World} {K : PySem.W.Frag} {mg : Str → Option Value} {base : Heap} {T : List (Addr × Str)} {f : Addr} {fd : FuncData} {CF CL CN CS : Addr}
/-- of the whole numbers from lo to hi the one nearest to 0 -/
def near0 (lo hi : Int) : Int := if lo ≤ 0 ∧ 0 ≤ hi then 0 else if 0 < lo then lo else hi
theorem smp_int {p q x : Rat} {lo hi : Int} (h : Smp p q x) (hle : lo ≤ hi) (h1 : ((lo - 1 : Int) : Rat) < p) (h2 : p ≤ lo) (h3 : (hi : Rat) ≤ q) (h4 : q < ((hi + 1 : Int) : Rat)) : x = (near0 lo hi : Int) := by
  have z : ((lo : Int) : Rat) ≤ (hi : Int) := Rat.intCast_le_intCast.mpr hle
  have hd := h.den lo h2 (by grind)
  rw [(int_parts lo).2] at hd
  have hp := x.den_pos
  have hx : x = (x.num : Rat) := Rat.ext rfl (by show x.den = 1; omega)
  have ge := h.ge
  have le := h.le
  have a1 : ((lo - 1 : Int) : Rat) < (x.num : Rat) := by grind
  have a2 : (x.num : Rat) < ((hi + 1 : Int) : Rat) := by grind
  rw [Rat.intCast_lt_intCast] at a1 a2
  have nm : ∀ m : Int, lo ≤ m → m ≤ hi → x.num.natAbs ≤ m.natAbs := fun m k1 k2 => by
    have b1 : ((lo : Int) : Rat) ≤ (m : Int) := Rat.intCast_le_intCast.mpr k1
    have b2 : ((m : Int) : Rat) ≤ (hi : Int) := Rat.intCast_le_intCast.mpr k2
    exact h.num (m : Rat) (by grind) (by grind)
  rw [hx]
  congr 1
  unfold near0
  split
  · have := nm 0 (by omega) (by omega)
    simpa using this
  · split
    · have := nm lo (by omega) (by omega)
      omega
    · have := nm hi (by omega) (by omega)
      omega
def spWR : PSp where
  pre l ds := ∃ n : Nat, ds = [] ∧ Pu n l ∧ n + 100 < 2 ^ 60
  post l ds r l' := r = .bl true ∧ ∀ n : Nat, Pu n l → Pu (n + 20) l'
abbrev nW : List Str := ["purse", "low", "wide", "under", "one", "other", "due"]
theorem sc_wr : FnScope nW ["purse"] (defScope (topS 53)) := ⟨rfl, rfl, rfl, by decide +kernel, rfl, by decide +kernel, by decide +kernel⟩
theorem mem4u {r : D} (h : r ∈ [D.int 1, .int 2, .int 7, .int (10 ^ (9 : Int).toNat)]) : ∃ m, r = .int m ∧ 1 ≤ m ∧ m ≤ 10 ^ 9 := by
  simp only [List.mem_cons, List.not_mem_nil, or_false] at h
  rcases h with rfl | rfl | rfl | rfl <;> exact ⟨_, rfl, by decide, by decide⟩
theorem ok_wr (B : Bt mg) (C1 : CalP P w K mg base T 2 "_law_between" ["purse", "low", "high"] 2 spBtw) (C2 : CalP P w K mg base T 2 "_law_pick" ["purse", "things"] 1 spPick) (C3 : CalP P w K mg base T 1 "_law_draw" ["purse", "many"] 1 spDraw) (C4 : Cal P w K mg base T 1 "_law_frac" ["top", "under"] 2 spLF)
    (C6 : Cal P w K mg base T 3 "_law_same" ["told", "due"] 2 (spSame 2)) (C7 : Cal P w K mg base T 6 "simplest" ["low", "high"] 2 (spSimp CF)) (C8 : CalK P w K mg base T 6 "simplest" ["low", "high"] ["low", "high"] 2 (fun l => l) (spSimp CF)) (FN : Fd K "_law_whole_right" (topS 53) f fd) : FnG P w K mg base 12 f fd ["purse"] (toP K T 0 spWR) := by
  refine okP FN sc_wr rfl (by decide) fun cdv A outer s0 H E F ad l ds hr hcd hl hp => ?_
  obtain ⟨n0, rfl, pu0, hn⟩ := hp
  refine jss_cons ?_
  refine js_par (i := 1) (j := 2) (by rfl) sc_wr.nd (by rfl) (by rfl) (by decide) (by rfl) (by rfl) ?_
  refine je_callO C1 hr (by omega) (by rfl) (i := 0) (by rfl) (by exact .inl rfl) (by rfl) ?_
  refine ja_cons ?_
  refine je_sub ?_
  refine je_int ⟨_, rfl, ?_⟩
  refine je_int ⟨_, rfl, ?_⟩
  refine ja_cons ?_
  refine je_int ?_
  refine ja_nil (⟨l, rfl, rfl, ⟨n0, 0 - 40, 40, rfl, pu0, by omega, by decide, by decide⟩, fun d l1 hd => ?_⟩)
  obtain ⟨low, rfl, lo0, lo1, pu1⟩ := hd n0 (0 - 40) 40 rfl pu0
  refine je_callO C1 hr (by omega) (by rfl) (i := 0) (by rfl) (by exact .inl rfl) (by rfl) ?_
  refine ja_cons ?_
  refine je_int ?_
  refine ja_cons ?_
  refine je_int ?_
  refine ja_nil (⟨l1, rfl, rfl, ⟨n0 + 1, 0, 30, rfl, pu1, by omega, by decide, by decide⟩, fun d l2 hd2 => ?_⟩)
  obtain ⟨wide, rfl, w0, w1, pu2⟩ := hd2 _ 0 30 rfl pu1
  refine ⟨show 1 < 7 by decide, show 2 < 7 by decide, ?_⟩
  refine jss_cons ?_
  refine js_s (i := 3) sc_wr.nd (by rfl) ?_
  refine je_callO C2 hr (by omega) (by rfl) (i := 0) (by rfl) (by exact .inl rfl) (by rfl) ?_
  refine ja_cons ?_
  refine je_lst ?_
  refine ja_cons ?_
  refine je_int ?_
  refine ja_cons ?_
  refine je_int ?_
  refine ja_cons ?_
  refine je_int ?_
  refine ja_cons ?_
  refine je_pow ?_
  refine je_int ⟨_, rfl, ?_⟩
  refine je_int ⟨_, rfl, (⟨by decide, by decide, by decide⟩ : CPow 10 9), ?_⟩
  refine ja_nil ⟨one_sz (show 4 ≤ 1000 by decide), ?_⟩
  refine ja_nil ⟨l2, rfl, rfl, ⟨n0 + 2, _, rfl, pu2, by omega, show 0 < 4 by decide, show 4 < 1000 by decide⟩, fun d l3 hd3 => ?_⟩
  obtain ⟨hm, pu3⟩ := hd3 _ _ rfl pu2
  obtain ⟨u, rfl, u0, u1⟩ := mem4u hm
  refine ⟨show 3 < 7 by decide, ?_⟩
  have all : ∀ n, Pu n l → Pu (n + 3) l3 := fun n p => by
    obtain ⟨_, _, _, _, p1⟩ := hd n (0 - 40) 40 rfl p
    obtain ⟨_, _, _, _, p2⟩ := hd2 _ 0 30 rfl p1
    exact (hd3 _ _ rfl p2).2
  have hlo : (0 - 40) ≤ low ∧ low ≤ 70 := by omega
  have mb : ∀ z : Int, (0 - 40) ≤ z → z ≤ 70 → (0 - 40) * u ≤ z * u ∧ z * u ≤ 70 * u := fun z h1 h2 => ⟨Int.mul_le_mul_of_nonneg_right h1 (by omega), Int.mul_le_mul_of_nonneg_right h2 (by omega)⟩
  have cm : ∀ z : Int, (0 - 40) ≤ z → z ≤ 70 → CMulW z u := fun z h1 h2 => cmul_of (n := 10) (m := 40) (by omega) (iv (by omega) (by omega)) (by decide)
  refine jss_cons ?_
  refine js_s (i := 4) sc_wr.nd (by rfl) ?_
  refine je_call C4 hr (by omega) (by rfl) ?_
  refine ja_cons ?_
  refine je_sub ?_
  refine je_mul ?_
  refine v1 ⟨_, rfl, ?_⟩
  refine v3 ⟨_, rfl, cm low hlo.1 hlo.2, ⟨_, rfl, ?_⟩⟩
  refine je_callO C3 hr (by omega) (by rfl) (i := 0) (by rfl) (by exact .inl rfl) (by rfl) ?_
  refine ja_cons ?_
  refine v3 (d := .int u) ?_
  refine ja_nil ⟨l3, rfl, rfl, ⟨n0 + 3, u, rfl, pu3, by omega, by omega, by omega⟩, fun d l4 hd4 => ?_⟩
  obtain ⟨j1, rfl, j10, j11, pu4⟩ := hd4 _ u rfl pu3
  have b1 := mb low hlo.1 hlo.2
  have b2 := mb (low + wide) (by omega) (by omega)
  refine ⟨_, rfl, ?_⟩
  refine ja_cons ?_
  refine v3 (d := .int u) ?_
  refine ja_nil ⟨rfl, ⟨_, _, 60, rfl, rfl, by omega, by omega, by omega, by decide⟩, fun r h => ?_, fun _ _ z => z.elim⟩
  obtain rfl : r = rt (Rat.divInt (low * u - j1) u) := h
  refine ⟨show 4 < 7 by decide, ?_⟩
  refine jss_cons ?_
  refine js_s (i := 5) sc_wr.nd (by rfl) ?_
  refine je_call C4 hr (by omega) (by rfl) ?_
  refine ja_cons ?_
  refine je_add ?_
  refine je_mul ?_
  refine je_add ?_
  refine v1 ⟨_, rfl, ?_⟩
  refine v2 ⟨_, rfl, ⟨_, rfl, ?_⟩⟩
  refine v3 ⟨_, rfl, cm (low + wide) (by omega) (by omega), ⟨_, rfl, ?_⟩⟩
  refine je_callO C3 hr (by omega) (by rfl) (i := 0) (by rfl) (by exact .inl rfl) (by rfl) ?_
  refine ja_cons ?_
  refine v3 (d := .int u) ?_
  refine ja_nil ⟨l4, rfl, rfl, ⟨n0 + 4, u, rfl, pu4, by omega, by omega, by omega⟩, fun d l5 hd5 => ?_⟩
  obtain ⟨j2, rfl, j20, j21, pu5⟩ := hd5 _ u rfl pu4
  refine ⟨_, rfl, ?_⟩
  refine ja_cons ?_
  refine v3 (d := .int u) ?_
  refine ja_nil ⟨rfl, ⟨_, _, 60, rfl, rfl, by omega, by omega, by omega, by decide⟩, fun r h => ?_, fun _ _ z => z.elim⟩
  obtain rfl : r = rt (Rat.divInt ((low + wide) * u + j2) u) := h
  refine ⟨show 5 < 7 by decide, ?_⟩
  have all5 : ∀ n, Pu n l → Pu (n + 5) l5 := fun n p => by
    obtain ⟨_, _, _, _, p4⟩ := hd4 _ u rfl (all n p)
    obtain ⟨_, _, _, _, p5⟩ := hd5 _ u rfl p4
    exact p5
  have z1 : Sz 60 (Rat.divInt (low * u - j1) u) := sz_low (by omega) (by omega) (by omega)
  have z2 : Sz 60 (Rat.divInt ((low + wide) * u + j2) u) := sz_low (by omega) (by omega) (by omega)
  have ic : ∀ z : Int, ((z : Int) : Rat) = Rat.divInt z 1 := fun z => (Rat.num_divInt_den (z : Rat)).symm
  have q1 : ((low - 1 : Int) : Rat) < Rat.divInt (low * u - j1) u := by
    rw [ic, lt_dd (by decide) (by omega), Int.sub_mul]; omega
  have q2 : Rat.divInt (low * u - j1) u ≤ (low : Rat) := by
    have : ¬ ((low : Rat) < Rat.divInt (low * u - j1) u) := by rw [ic, lt_dd (by decide) (by omega)]; omega
    grind
  have q3 : ((low + wide : Int) : Rat) ≤ Rat.divInt ((low + wide) * u + j2) u := by
    have : ¬ (Rat.divInt ((low + wide) * u + j2) u < ((low + wide : Int) : Rat)) := by rw [ic, lt_dd (by omega) (by decide)]; omega
    grind
  have q4 : Rat.divInt ((low + wide) * u + j2) u < ((low + wide + 1 : Int) : Rat) := by
    rw [ic, lt_dd (by omega) (by decide), Int.add_mul (low + wide)]; omega
  generalize Rat.divInt (low * u - j1) u = p at *
  generalize Rat.divInt ((low + wide) * u + j2) u = q at *
  have hpq : p ≤ q := by
    have : ((low : Int) : Rat) ≤ ((low + wide : Int) : Rat) := Rat.intCast_le_intCast.mpr (by omega)
    grind
  have fin : ∀ due : Int, due = near0 low (low + wide) → JSs (DX P w K mg base "_law_whole_right" (topS 53) f nW cdv A outer s0 H E) ⟨F, H, (· = ad), T⟩ ((defBody (topS 53)).drop 5) [.own ad l5, .val (.int low), .val (.int wide), .val (.int u), .val (rt p), .val (rt q), .val (.int due)] { nx := fun G => ∃ l', G[0]? = some (Sl.own ad l') ∧ spWR.post l [] .non l', rt := fun d G => ∃ l', G[0]? = some (Sl.own ad l') ∧ spWR.post l [] d l' } NoX := fun due hdue => by
    have un : ∀ x, Smp p q x → x = (due : Rat) := fun x sx => by rw [hdue]; exact smp_int sx (by omega) q1 q2 q3 q4
    refine jss_one ?_
    refine js_ret ?_
    refine je_call C6 hr (by omega) (by rfl) ?_
    refine ja_cons ?_
    refine je_lst ?_
    refine ja_cons ?_
    refine je_call C7 hr (by omega) (by rfl) ?_
    refine ja_cons ?_
    refine v4 (d := rt p) ?_
    refine ja_cons ?_
    refine v5 (d := rt q) ?_
    refine ja_nil ⟨rfl, simp_pre (z1.mono (by decide)) (z2.mono (by decide)), fun r h => ?_, fun C v h => (simp_exc hpq h).elim⟩
    obtain rfl := simp_post un h
    refine ja_cons ?_
    refine je_k C8 hr (by omega) (by rfl) (fun _ r => r) ?_
    refine jk_cons ?_
    refine v4 (d := rt p) ?_
    refine jk_cons ?_
    refine v5 (d := rt q) ?_
    refine jk_nil ⟨rfl, rfl, simp_pre (z1.mono (by decide)) (z2.mono (by decide)), fun r h => ?_, fun C v h => (simp_exc hpq h).elim⟩
    obtain rfl := simp_post un h
    refine ja_nil ⟨one_sz (show 2 ≤ 1000 by decide), ?_⟩
    refine ja_cons ?_
    refine je_lst ?_
    refine ja_cons ?_
    refine je_tup ?_
    refine ja_cons ?_
    refine v6 ?_
    refine ja_cons ?_
    refine je_int ?_
    refine ja_nil ⟨one_sz (show 2 ≤ 1000 by decide), ?_⟩
    refine ja_cons ?_
    refine je_tup ?_
    refine ja_cons ?_
    refine v6 ?_
    refine ja_cons ?_
    refine je_int ?_
    refine ja_nil ⟨one_sz (show 2 ≤ 1000 by decide), ?_⟩
    refine ja_nil ⟨one_sz (show 2 ≤ 1000 by decide), ?_⟩
    refine ja_nil ⟨rfl, ⟨rfl, due_rts (due : Rat) (due : Rat)⟩, fun r h => ?_, fun _ _ z => z.elim⟩
    exact ⟨l5, rfl, h, fun n p => (all5 n p).mono (by omega)⟩
  refine jss_cons ?_
  refine js_s (i := 6) sc_wr.nd (by rfl) ?_
  refine je_if ?_
  refine jt_chain op_le op_le ?_
  refine v1 ⟨_, rfl, ?_⟩
  refine je_int ⟨_, rfl, fun k => ?_, fun k => je_add (v1 (⟨_, rfl, v2 (⟨_, rfl, ⟨_, rfl, fun k2 => ?_, fun k2 => ?_⟩⟩)⟩))⟩
  · refine ⟨(fun z => nomatch z), fun _ => je_if (jt_gt (v1 (⟨_, rfl, je_int ⟨_, rfl, fun k2 => ?_, fun k2 => ?_⟩⟩)))⟩
    · exact v1 (d := .int low) ⟨show 6 < 7 by decide, fin low (by
        have a : ¬ (low ≤ 0) := by simpa using k
        unfold near0; rw [if_neg (by omega), if_pos (by omega)])⟩
    · have a : ¬ (low ≤ 0) := by simpa using k
      have b : ¬ (0 < low) := by simpa using k2
      omega
  · have a : low ≤ 0 := by simpa using k
    have b : 0 ≤ low + wide := by simpa using k2
    exact je_int ⟨show 6 < 7 by decide, fin 0 (by unfold near0; rw [if_pos ⟨a, b⟩])⟩
  · have a : low ≤ 0 := by simpa using k
    have b : ¬ (0 ≤ low + wide) := by simpa using k2
    refine je_if ?_
    refine jt_gt ?_
    refine v1 ⟨_, rfl, ?_⟩
    refine je_int ⟨_, rfl, fun k2 => ?_, fun k2 => ?_⟩
    · have : 0 < low := by simpa using k2
      omega
    · refine je_add ?_
      refine v1 (d := .int low) ⟨_, rfl, ?_⟩
      exact v2 (d := .int wide) ⟨_, rfl, show 6 < 7 by decide, fin (low + wide) (by unfold near0; rw [if_neg (by omega), if_neg (by omega)])⟩
end
end K05
end
section
set_option maxRecDepth 100000
set_option maxHeartbeats 4000000
namespace K05
open PySem PySem.Spec PyProof.Rows L2 J
section
variable {P : Program} {w : World} {K : PySem.W.Frag} {mg : Str → Option Value} {base : Heap} {T : List (Addr × Str)} {f : Addr} {fd : FuncData} {CF CL CN CS : Addr}
theorem cut63 (l : List D) : J.cutD l none (some 63) = l.take 63 := by
  unfold J.cutD
  rw [show HT.sIx l.length 0 none = 0 from rfl, show (63 : Int) = ((63 : Nat) : Int) from rfl, HT.sIx_nat, List.drop_zero, Nat.sub_zero]
  rcases Nat.le_total 63 l.length with h | h
  · rw [Nat.min_eq_left h]
  · rw [Nat.min_eq_right h, List.take_length, List.take_of_length_le h]
theorem jr_weak {X : Cx} {c : JC} {sts : List Stmt} {G G' : List Sl} {N : List D → Prop} {Ex : XQ} (h : JRs X c sts G' N Ex) (hl : G'.length = G.length) (hv : ∀ (i : Nat) d, G'[i]? = some (Sl.val d) → G[i]? = some (Sl.val d)) (ho : ∀ (i : Nat) a l, G'[i]? = some (Sl.own a l) → G[i]? = some (Sl.own a l)) : JRs X c sts G N Ex := fun xt F σ H I =>
  h xt F σ H (I.weak (I.len.trans hl.symm) (fun i d e => ⟨hv i d e, rfl⟩) fun i a l e => ⟨ho i a l e, rfl⟩)
theorem jn_63 {X : Cx} {c : JC} {a : Expr} {G : List Sl} {N : Addr → List D → List Sl → Prop} {Ex : XQ} {k : Nat} {p1 p2 pos : Pos} (h : JE X c a G (fun d G1 => ∃ l, d = .lok l ∧ ∀ p, N p (l.take 63) G1) Ex) : JN X c (.Subscript a (.Slice none (some (.Constant (.int 63) k p1)) none p2) pos) G N Ex :=
  jn_slF (h.imp fun d G1 ⟨l, e, q⟩ => ⟨l, e, (by
    have key : JE X c (.Constant (.int 63) k p1) G1 (fun d G3 => ∃ j, d = .int j ∧ ∀ p, N p (J.cutD l none (some j)) G3) Ex := je_int ⟨63, rfl, fun p => by rw [cut63]; exact q p⟩
    exact key)⟩)
def spPurse : NSp where
  pre ds := ∃ cs : List Int, ds = [.lok (cs.map .int)]
  post _ l := Pu 0 l
theorem sc_purse : FnScope ["script", "seed", "cell"] ["script"] (defScope (topS 31)) := ⟨rfl, rfl, rfl, by decide +kernel, rfl, by decide +kernel, by decide +kernel⟩
theorem ok_purse (B : Bt mg) (FN : Fd K "_law_purse" (topS 31) f fd) : FnG P w K mg base 1 f fd ["script"] (toN K T 1 spPurse) := by
  refine okN FN sc_purse rfl (by decide) fun cdv A outer s0 H E F ds hr hcd hl hp => ?_
  obtain ⟨cs, rfl⟩ := hp
  have ct : (cs.map D.int).take 63 = (cs.take 63).map .int := by rw [List.map_take]
  refine jr_cons ?_
  refine js_s (i := 1) sc_purse.nd (by rfl) ?_
  refine je_int ⟨show 1 < 3 by decide, ?_⟩
  refine jr_cons ?_
  refine js_forL (i := 2) (by exact passes_of rfl) (by rfl) sc_purse.nd (by rfl) (by exact .inl rfl) ?_
  refine JE.of_air ?_
  refine jn_63 ?_
  refine v0 (d := .lok (cs.map .int)) ⟨_, rfl, fun p => ⟨_, rfl, fun t G => ∃ s g, G = [.val (.lok (cs.map .int)), .val (.int s), g] ∧ 0 ≤ s ∧ s < 2147483647, ⟨7, .no, rfl, by decide, by decide⟩, ?_, ?_⟩⟩
  · rintro t y G2 hy ⟨s, g, rfl, s0, s1⟩
    rw [ct, List.getElem?_map] at hy
    obtain ⟨c, _, rfl⟩ := Option.map_eq_some_iff.mp hy
    refine ⟨show 2 < 3 by decide, ?_⟩
    refine jss_one ?_
    refine js_s (i := 1) sc_purse.nd (by rfl) ?_
    refine je_mod ?_
    refine je_intI B (by rfl) ?_
    refine je_add ?_
    refine je_mul ?_
    refine v1 ⟨_, rfl, ?_⟩
    refine je_int ⟨_, rfl, cmul_of (n := 31) (m := 10) (iv s0 (by omega)) (by decide) (by decide), ⟨_, rfl, ?_⟩⟩
    refine v2 ⟨_, rfl, ⟨_, rfl, ⟨_, rfl, ?_⟩⟩⟩
    refine je_int (⟨_, rfl, (by decide : (0 : Int) < 2147483647), ⟨show 1 < 3 by decide, ?_⟩⟩)
    exact ⟨_, _, rfl, Int.emod_nonneg _ (by decide), Int.emod_lt_of_pos _ (by decide)⟩
  · rintro G2 ⟨s, g, rfl, s0, s1⟩
    refine jr_weak (G' := [.val (.lok (cs.map .int)), .val (.int s), .no]) ?_ (by rfl) (fun i d e => ?_) (fun i a l e => ?_)
    · refine jr_ret ?_
      refine jn_lst ?_
      refine ja_cons ?_
      refine JE.of_air ?_
      refine (jn_lcL (x := "cell") (i := 2) rfl sc_purse.nd (blkOk_by (by rfl)) (fun s H C cl fp => pg_name sc_purse.nd rfl (.inl rfl) (.inr rfl)) (JE.of_air (jn_63 (v0 (d := .lok (cs.map .int)) ⟨_, rfl, fun p => ⟨_, rfl, lcL_map (f := fun d => d) (t := fun d => match d with | .int c => decide (10 ^ 18 ≤ c) | _ => false) rfl ?_ (fun y hy F1 H1 W => ?_) (fun y hy ht F1 H1 W s1 H2 C cl fp => v2 ⟨rfl, rfl⟩) fun pp => ?_⟩⟩))))
      · rw [ct, List.length_map, List.length_take]; exact one_sz (by omega)
      · rw [ct, List.mem_map] at hy
        obtain ⟨c, _, rfl⟩ := hy
        refine jb_one fun s1 H2 C cl fp => jt_ge (v2 (⟨_, rfl, je_pow (je_int ⟨_, rfl, je_int ⟨_, rfl, (⟨by decide, by decide, by decide⟩ : CPow 10 18), ⟨_, rfl, rfl, rfl⟩⟩⟩)⟩))
      · refine ja_cons ?_
        refine je_int ?_
        refine ja_cons ?_
        refine je_int ?_
        refine ja_cons ?_
        refine je_int ?_
        refine ja_cons ?_
        refine v1 (d := .int s) ?_
        refine ja_nil ⟨one_sz (show 5 ≤ 1000 by decide), fun _ => ?_⟩
        rw [ct]
        refine ⟨(cs.take 63).filter (fun c => decide (10 ^ 18 ≤ c)), 0, 0, 0, s, ?_, ⟨by decide, ?_, by decide, fun c hc => ?_, by decide, by decide, s0, s1⟩⟩
        · unfold purse
          rw [List.map_id'' (fun _ => rfl), List.filter_map]
          rfl
        · exact Nat.le_trans (List.length_filter_le _ _) (by rw [List.length_take]; omega)
        · have := (List.mem_filter.mp hc).2
          have h2 : (10 : Int) ^ 18 ≤ c := by simpa using this
          have h3 : (0 : Int) ≤ 10 ^ 18 := by decide
          omega
    · match i, e with
      | 0, e => exact e
      | 1, e => exact e
      | 2, e => cases e
      | n + 3, e => cases e
    · match i, e with
      | 0, e => exact e
      | 1, e => exact e
      | 2, e => cases e
      | n + 3, e => cases e
end
end K05
end
section
set_option maxRecDepth 100000
set_option maxHeartbeats 4000000
namespace J
open PySem PySem.Spec PyProof.Rows L2 LamX
/-- the promise of a law -/
def spLaw (n : Nat) : FSp where
  pre ds := ∃ ns : List Int, ds = [.lok (ns.map .int)] ∧ ns.length ≤ n ∧ ∀ z ∈ ns, Builtin.Int.intBits z ≤ 1048576
  post _ r := r = .bl true
def sysHO (o : Obj) : HO := .ext fun h => h.get? sysModules = some o
open Classical in
/-- what is tracked at the head: the script, the tables of code objects (tb), sys.modules -/
noncomputable def headH (K : PySem.W.Frag) (cs : List (Addr × Addr)) (a : Addr) (ho : HO) (os : Obj) (tb : Bool) : Hp := fun b =>
  if b = a then (if K.lookup a = none then some ho else none) else if b ∈ cs.map (·.2) then (if tb then some (.tbl #[]) else none) else if b = sysModules then some (sysHO os) else none
theorem repL_ints {K : PySem.W.Frag} {F : Hp} : ∀ ns : List Int, RepL K F (ns.map D.int) (ns.map V.int)
  | [] => rfl
  | n :: ns => ⟨.int n, ns.map V.int, rfl, rfl, repL_ints ns⟩
theorem law_callJ {P : Program} {w : World} {K : PySem.W.Frag} {mg mb : Str → Option Value} {k n : Nat} {fa a : Addr} {cs : List (Addr × Addr)} {T : List (Addr × Str)} {fd : FuncData} {x : Str} {s₁ : Shared} {vs : List Value} {ns : List Int} {os : Obj}
    (KX : K.In s₁.heap) (hns : s₁.heap.Ns mainGlobals mg) (hb : s₁.heap.Ns builtinsNs mb) (hbb : ∀ x : Str, x ≠ "__name__" → mb x = bootBuiltins x) (hlim : s₁.heap.NoLimit) (hg : s₁.gens = #[]) (hT : ∀ p ∈ cs, s₁.heap.get? p.2 = some { cls := .none, data := .fields #[] }) (nT : ∀ p ∈ cs, K.lookup p.2 = none)
    (C : ∀ p ∈ cs, PySem.W.CodeHd s₁.heap p.1 p.2) (hbm : ∃ (bm : Addr) (ob : Obj), mg "__builtins__" = some (.ref bm) ∧ bm ≠ builtinsNs ∧ s₁.heap.get? bm = some ob ∧ ob.cls = .type "module" ∧ ob.dict = some builtinsNs ∧ ob.data = .plain)
    (hos : s₁.heap.get? sysModules = some os) (hosd : ∃ es ep, os.data = .dict es ep) (nS : K.lookup sysModules = none) (T1 : ∀ p ∈ T, p.1 ∈ cs.map (·.2)) (T2 : ∀ b ∈ cs.map (·.2), ∃ q, (b, q) ∈ T)
    (ha : s₁.heap.get? a = some { cls := .type "list", data := .seq vs.toArray }) (hi : IntsAre vs ns) (hz : ∀ z ∈ ns, Builtin.Int.intBits z ≤ 1048576) (hn : ns.length ≤ n) (hl : ns.length ≤ sizeLine) (hr : RoomG k callerA)
    (Fn : ∀ base : Heap, K.In base → base.Ns mainGlobals mg → (∀ p ∈ cs, TabB base mg p.1 p.2) → FnG P w K mg base k fa fd [x] (toV K T 1 (spLaw n))) (hbind : ∀ (s : Shared) (u : Value), BindsTo s fd ⟨[u], []⟩ [(x, u)]) :
    codeAny (model P w) callerA (.call (.ref fa) ⟨[.ref a], []⟩) (fun r s' => r = .ok (.ret (.bool true)) ∧ OldK s₁.heap s'.heap ∧ s'.os = s₁.os ∧ AllBare s'.gens) s₁ := by
  obtain ⟨es, ep, hosd⟩ := hosd
  have rv := vals_ints hi
  have isT : ∀ b ∈ cs.map (·.2), s₁.heap.get? b = some { cls := .none, data := .fields #[] } := fun b hb => by
    obtain ⟨p, hp, rfl⟩ := List.mem_map.mp hb
    exact hT p hp
  have aT : a ∉ cs.map (·.2) := fun z => by
    have q := isT a z
    rw [ha] at q
    have := congrArg Obj.data (Option.some.inj q)
    cases this
  have sT : sysModules ∉ cs.map (·.2) := fun z => by
    have q := isT _ z
    rw [hos] at q
    cases q
    cases hosd
  have sA : sysModules ≠ a := fun z => by
    rw [z, ha] at hos
    cases hos
    cases hosd
  obtain ⟨ho, eho⟩ : ∃ ho : HO, ho = .frz { cls := .type "list", data := .seq vs.toArray } (.lst (ns.map V.int)) := ⟨_, rfl⟩
  obtain ⟨H, eH⟩ : ∃ H : Hp, H = headH K cs a ho os true := ⟨_, rfl⟩
  obtain ⟨F, eF⟩ : ∃ F : Hp, F = headH K cs a ho os false := ⟨_, rfl⟩
  have Ha : H a = if K.lookup a = none then some ho else none := by rw [eH]; unfold headH; rw [if_pos rfl]
  have Fa : F a = if K.lookup a = none then some ho else none := by rw [eF]; unfold headH; rw [if_pos rfl]
  have Ht : ∀ b ∈ cs.map (·.2), H b = some (.tbl #[]) := fun b hb => by
    rw [eH]; unfold headH; rw [if_neg (fun z : b = a => aT (z ▸ hb)), if_pos hb]; rfl
  have Ft : ∀ b ∈ cs.map (·.2), F b = none := fun b hb => by
    rw [eF]; unfold headH; rw [if_neg (fun z : b = a => aT (z ▸ hb)), if_pos hb]; rfl
  have Hs : H sysModules = some (sysHO os) := by rw [eH]; unfold headH; rw [if_neg sA, if_neg sT, if_pos rfl]
  have Fs : F sysModules = some (sysHO os) := by rw [eF]; unfold headH; rw [if_neg sA, if_neg sT, if_pos rfl]
  have Hn : ∀ b, b ≠ a → b ∉ cs.map (·.2) → b ≠ sysModules → H b = none := fun b h1 h2 h3 => by rw [eH]; unfold headH; rw [if_neg h1, if_neg h2, if_neg h3]
  have Fn' : ∀ b, b ≠ a → b ∉ cs.map (·.2) → b ≠ sysModules → F b = none := fun b h1 h2 h3 => by rw [eF]; unfold headH; rw [if_neg h1, if_neg h2, if_neg h3]
  have look : ∀ b, b = a ∨ b ∈ cs.map (·.2) ∨ b = sysModules ∨ H b = none := fun b => by
    by_cases h1 : b = a
    · exact .inl h1
    · by_cases h2 : b ∈ cs.map (·.2)
      · exact .inr (.inl h2)
      · by_cases h3 : b = sysModules
        · exact .inr (.inr (.inl h3))
        · exact .inr (.inr (.inr (Hn b h1 h2 h3)))
  have FH : Same F H := fun b u e => by
    by_cases h1 : b = a
    · rw [h1, Fa] at e; rw [h1, Ha]; exact e
    · by_cases h2 : b ∈ cs.map (·.2)
      · rw [Ft b h2] at e; cases e
      · by_cases h3 : b = sysModules
        · rw [h3, Fs] at e; rw [h3, Hs]; exact e
        · rw [Fn' b h1 h2 h3] at e; cases e
  have KH : ∀ b o, K.lookup b = some o → H b = none := fun b o e => by
    rcases look b with h | h | h | h
    · rw [h, Ha, if_neg (by rw [← h, e]; simp)]
    · obtain ⟨p, hp, rfl⟩ := List.mem_map.mp h
      rw [nT p hp] at e; cases e
    · rw [h, nS] at e; cases e
    · exact h
  have dictN : ∀ b o es ep, b ≠ sysModules → s₁.heap.get? b = some o → o.data = .dict es ep → H b = none := fun b o es ep hb e d => by
    rcases look b with h | h | h | h
    · rw [h, ha] at e; cases e; cases d
    · rw [isT b h] at e; cases e; cases d
    · exact absurd h hb
    · exact h
  have nsK : ∀ {b : Addr} {m : Str → Option Value}, b ≠ sysModules → s₁.heap.Ns b m → (hidT s₁.heap H).Ns b m := fun {b m} hb ⟨o, es, ep, e, d, r⟩ => ⟨o, es, ep, hidT_get e (dictN b o es ep hb e d), d, r⟩
  have hKb : K.In (hidT s₁.heap H) := fun b o e => hidT_get (KX b o e) (KH b o e)
  have m1 : mainGlobals ≠ sysModules := by decide
  have m2 : builtinsNs ≠ sysModules := by decide
  have m3 : cStatics ≠ sysModules := by decide
  have hM : L2.Mod K mg (hidT s₁.heap H) := ⟨hKb, nsK m1 hns, ⟨mb, nsK m2 hb, hbb⟩, let ⟨mc, h1, h2⟩ := hlim; ⟨mc, nsK m3 h1, h2⟩⟩
  have other : ∀ b o, s₁.heap.get? b = some o → (∀ vs n, o.data ≠ .seq vs n) → (∀ es ep, o.data ≠ .dict es ep) → o.data ≠ .fields #[] → H b = none := fun b o e h1 h2 h3 => by
    rcases look b with h | h | h | h
    · rw [h, ha] at e; cases e; exact absurd rfl (h1 _ _)
    · rw [isT b h] at e; cases e; exact absurd rfl h3
    · rw [h, hos] at e; cases e; exact absurd hosd (h2 _ _)
    · exact h
  have TB : ∀ p ∈ cs, TabB (hidT s₁.heap H) mg p.1 p.2 := fun p hp => by
    have hTp := hT p hp
    refine ⟨?_, ?_, fun z => ?_⟩
    · obtain ⟨o, us, file, tf, flags, tg, inF, text, tt, e1, r1, r2, r3, rest⟩ := C p hp
      exact ⟨o, us, file, tf, flags, tg, inF, text, tt, hidT_get e1 (other p.1 o e1 (fun vs n z => by rw [r2] at z; cases z) (fun es ep z => by rw [r2] at z; cases z) fun z => by rw [r2] at z; cases z; simp at r3), r1, r2, r3, rest⟩
    · obtain ⟨bm, ob, b1, b2, b3, b4, b5, b6⟩ := hbm
      refine ⟨bm, ob, b1, b2, fun q => ?_, fun q => ?_, hidT_get b3 (other bm ob b3 (fun vs n z => by rw [b6] at z; cases z) (fun es ep z => by rw [b6] at z; cases z) fun z => by rw [b6] at z; cases z), b4, b5, b6⟩
      · obtain ⟨o, es, ep, e, hd, _⟩ := hns
        rw [q, e] at b3
        cases b3
        rw [hd] at b6
        cases b6
      · rw [q, hTp] at b3
        cases b3
        cases b6
    · obtain ⟨o, es, ep, e, hd, _⟩ := hns
      rw [z, hTp] at e
      cases e
      cases hd
  have hok : HOk P w H s₁.heap := fun b u e => by
    rcases look b with h | h | h | h
    · subst h
      rw [Ha] at e
      split at e
      · cases e
        rw [eho]
        exact ⟨ha, by rw [List.length_map]; exact hl, vs, _, rv, ha⟩
      · cases e
    · rw [Ht b h] at e
      cases e
      exact isT b h
    · subst h
      rw [Hs] at e
      cases e
      exact ⟨hos, ⟨os, hos⟩, fun h1 h2 q st => st os q⟩
    · rw [h] at e; cases e
  have e0 : Env0 P w K mg (hidT s₁.heap H) callerA [] s₁ H := ⟨rfl, hM, fun b o e => of_hidT e, Nat.le_of_eq (hidT_size _ _), trivial, fun b hb => absurd (show b ∈ ([] : List Addr) from hb) (by simp), hok, .of_eq hg⟩
  have jx : JX ⟨F, H, fun _ => False, T⟩ F H := JX.start FH (fun p hp => TabS.nil (Ht p.1 (T1 p hp))) (fun p hp => Ft p.1 (T1 p hp)) ⟨_, Hs⟩ fun b ps e => by
    rcases look b with h | h | h | h
    · subst h
      rw [Ha, eho] at e
      split at e <;> cases e
    · exact T2 b h
    · subst h
      rw [Hs] at e
      unfold sysHO at e
      cases e
    · rw [h] at e; cases e
  have rs : Rep K F (.lok (ns.map .int)) (.ref a) := by
    refine ⟨a, ns.map V.int, rfl, ?_, repL_ints ns⟩
    cases hk : K.lookup a with
    | none => exact .inl (.inr ⟨_, by rw [Fa, if_pos hk, eho]⟩)
    | some o =>
      have e := KX a o hk
      rw [ha] at e
      cases e
      exact .inr ⟨_, vs.toArray, _, hk, rfl, rfl, rfl, by rw [List.size_toArray, hi.length]; exact hl, by simpa using rv⟩
  refine codeAny_mono ((Fn _ hKb (nsK m1 hns) TB).run callerA [] s₁ H ⟨[.ref a], []⟩ [.ref a] [.ref a] (fun v H' => v = .bl true ∧ H' sysModules = some (sysHO os)) (fun _ _ _ => False) hr e0 (hbind s₁ (.ref a)) (.cons rfl .nil) ⟨F, [.lok (ns.map .int)], jx, ⟨_, _, rfl, rs, rfl⟩, rfl, ⟨ns, rfl, hn, hz⟩, fun d v F' H' y rd q => ?_, fun _ _ _ _ _ _ _ _ _ z => z.elim⟩) fun r s' h => ?_
  · have q : d = .bl true := q
    subst q
    exact ⟨rd, y.hh _ _ Hs (fun z => z) (fun ps z => by unfold sysHO at z; cases z)⟩
  · cases r with
    | error e =>
      obtain ⟨_, _, _, _, _, _, _, _, _, _, _, _, z⟩ := h
      exact z.elim
    | ok fl =>
      cases fl with
      | next => exact False.elim h
      | brk => exact False.elim h
      | cont => exact False.elim h
      | ret u =>
        obtain ⟨v, H', os', bare, un, hok', r', q⟩ := h
        obtain ⟨q', hsys⟩ := q
        subst q'
        obtain rfl : u = Value.bool true := r'
        have nin : ∀ b : Addr, b ∉ frs [] := fun b z => absurd (show b ∈ ([] : List Addr) from z) (by simp)
        have key : ∀ b o, b ∉ cs.map (·.2) → s₁.heap.get? b = some o → s'.heap.get? b = some o := fun b o nb e => by
          rcases look b with h | h | h | h
          · subst h
            cases hk : K.lookup b with
            | some o' => exact un.keep b o e (KH b o' hk) (nin b) (by simp)
            | none =>
              have z2 := un.frzs b _ _ (show H b = some (.frz { cls := .type "list", data := .seq vs.toArray } (.lst (ns.map V.int))) by rw [Ha, if_pos hk, eho])
              obtain ⟨e2, _⟩ := hok' b _ z2
              rw [ha] at e; cases e
              exact e2
          · exact absurd h nb
          · subst h
            obtain ⟨z, _, _⟩ := hok' _ _ hsys
            rw [hos] at e
            cases e
            exact z
          · exact un.keep b o e h (nin b) (by simp)
        have grown : ∀ p ∈ cs, ∃ more : Array Value, s'.heap.get? p.2 = some { cls := .none, data := .fields more } := fun p hp => by
          obtain ⟨more, z⟩ := un.tbls p.2 #[] (Ht p.2 (List.mem_map.mpr ⟨p, hp, rfl⟩))
          exact ⟨_, hok' p.2 _ z⟩
        refine ⟨rfl, ⟨fun b o e => ?_, fun b o e => ?_⟩, os', bare⟩
        · by_cases hb : b ∈ cs.map (·.2)
          · obtain ⟨p, hp, rfl⟩ := List.mem_map.mp hb
            obtain ⟨more, hm⟩ := grown p hp
            rw [hT p hp] at e
            cases e
            exact .inr (.inl ⟨((C p hp).tab (hT p hp)).isCodeTable, rfl, #[], more, rfl, by rw [Array.empty_append]; exact hm⟩)
          · exact .inl (key b o hb e)
        · by_cases hb : b ∈ cs.map (·.2)
          · obtain ⟨p, hp, rfl⟩ := List.mem_map.mp hb
            obtain ⟨more, hm⟩ := grown p hp
            exact ⟨_, hm⟩
          · exact ⟨o, key b o hb e⟩
end J
end
section
set_option maxRecDepth 100000
set_option maxHeartbeats 4000000
namespace J
open PySem PySem.Spec PyProof.Rows L2 LamX
/-- what is known of the law's def at the head -/
def LawJ (l : PySem.W.OpenLaw) (w : World) (K : PySem.W.Frag) (k n : Nat) (x : Str) (mg : Str → Option Value) (fa : Addr) (h : Heap) : Prop :=
  ∃ (fd : FuncData) (cs : List (Addr × Addr)) (T : List (Addr × Str)), (∀ p ∈ cs, h.get? p.2 = some { cls := .none, data := .fields #[] }) ∧ (∀ p ∈ cs, K.lookup p.2 = none) ∧ (∀ p ∈ cs, PySem.W.CodeHd h p.1 p.2) ∧ (∀ (s : Shared) (u : Value), BindsTo s fd ⟨[u], []⟩ [(x, u)]) ∧
    K.lookup sysModules = none ∧ (∀ p ∈ T, p.1 ∈ cs.map (·.2)) ∧ (∀ b ∈ cs.map (·.2), ∃ q, (b, q) ∈ T) ∧
    ∀ base : Heap, K.In base → base.Ns mainGlobals mg → (∀ p ∈ cs, TabB base mg p.1 p.2) → FnG l.prog w K mg base k fa fd [x] (toV K T 1 (spLaw n))
theorem walk_J {l : PySem.W.OpenLaw} {n k : Nat} {q : Program} {loose : List Str} {XP : (Str → Option Value) → Heap → Prop} {YP : World → Heap → Prop} {d : DefRec} {K : Params → PySem.W.Frag} {x : Str} (hn : l.most = some n) (hn2 : n ≤ sizeLine) (hdf : d.params.defaults = []) (hr : RoomG k callerA) (hq : importsNone q = true)
    (hY : ∀ (w : World) (h : Heap), YP w h → (K w.params).In h) (F : ∀ (w : World) (mg : Str → Option Value) (fa : Addr) (h : Heap), YP w h → (K w.params).In h → h.Ns mainGlobals mg → mg d.name = some (.ref fa) → LawJ l w (K w.params) k n x mg fa h) :
    PySem.W.WalkO q loose XP YP l.row.toRowW d [] (fun f vs => PySem.call f vs) := by
  refine Att.attach_callB hn hdf fun w s₀ s₁ mg mb fa o pm cd doc a vs ns G Y ho hd hcd hmg hobj hints hlen hbits hg => ?_
  have KX := hY w _ Y
  obtain ⟨fd, cs, T, hT, nT, C, hb, nS, T1, T2, hF⟩ := F w mg fa _ Y KX G.T.g hmg
  obtain ⟨mm, ⟨os, es, ep, hos, hod, _⟩, _⟩ := (G.T.seer hq).mods
  exact law_callJ KX G.T.g G.T.b G.T.builtins G.T.nolimit hg hT nT C G.T.bmain hos ⟨es, ep, hod⟩ nS T1 T2 hobj hints hbits hlen (Nat.le_trans hlen hn2) hr hF hb
end J
end
section
set_option maxRecDepth 100000
set_option maxHeartbeats 4000000
namespace K05
open PySem PySem.Spec PyProof.Rows L2 J
/-- a def as the written part tells it -/
structure FnK (K : PySem.W.Frag) (nm : Str) (st : Stmt) (f : Addr) (fd : FuncData) : Prop where
  ns : PySem.W.nsIn K mainGlobals nm = some (some (.ref f))
  ex : ∃ (oc : Value) (od : Option Addr) (kV doc pm : Value) (an : Option Addr) (cdv ct : Value) (osl : Array (Option Value)), fd = PySem.W.fnOf nm nm (defArgs st) (defBody st) (defScope st) .none kV doc pm an cdv ct ∧ K.lookup f = some ⟨oc, od, .func fd, osl⟩ ∧ PySem.W.codeIn K cdv nm = true
  kp : PySem.W.keepIn K (.ref f) = true
theorem FnK.mk' {K : PySem.W.Frag} {h : Heap} (_X : K.In h) {nm : Str} {st : Stmt} {f : Addr} {oc : Value} {od : Option Addr} {kV doc pm : Value} {an : Option Addr} {cdv ct : Value} {osl : Array (Option Value)} (ns : PySem.W.nsIn K mainGlobals nm = some (some (.ref f)))
    (lk : K.lookup f = some ⟨oc, od, .func (PySem.W.fnOf nm nm (defArgs st) (defBody st) (defScope st) .none kV doc pm an cdv ct), osl⟩) (hc : PySem.W.codeIn K cdv nm = true) (kp : PySem.W.keepIn K (.ref f) = true) : ∃ fd, FnK K nm st f fd ∧ fd.code = cdv :=
  ⟨_, ⟨ns, ⟨oc, od, kV, doc, pm, an, cdv, ct, osl, rfl, lk, hc⟩, kp⟩, rfl⟩
end K05
end
section
set_option maxRecDepth 100000
set_option maxHeartbeats 4000000
namespace K05
open PySem PySem.Spec PyProof.Rows L2 J
abbrev nU : List Str := ["purse", "some", "turn", "under", "one", "kept", "top", "product", "dues", "other", "told", "below_v", "due"]
abbrev XS (P : Program) (w : World) (K : PySem.W.Frag) (mg : Str → Option Value) (base : Heap) (f : Addr) (cdv : Value) (A : Around) (outer : List Env) (s0 : Shared) (H : Hp) (E : XK) : Cx := DX P w K mg base "_law_sums_right" (topS 54) f nU cdv A outer s0 H E
/-- the rows of the inner loop -/
abbrev innerS : List Stmt := bodyOf ((bodyOf ((defBody (topS 54)).getD 8 (.Pass ⟨0, 0, 0, 0⟩))).getD 0 (.Pass ⟨0, 0, 0, 0⟩))
section
variable {P : Program} {w : World} {K : PySem.W.Frag} {mg : Str → Option Value} {base : Heap} {T : List (Addr × Str)} {f : Addr} {fd : FuncData} {CF CL CN CS : Addr}
theorem sc_sums : FnScope nU ["purse"] (defScope (topS 54)) := ⟨rfl, rfl, rfl, by decide +kernel, rfl, by decide +kernel, by decide +kernel⟩
theorem due4 (q : Rat) (b : Bool) : Due 2 (.lst [rt q, .bl b, rt q, .bl b]) := .inr (.inr ⟨_, .inl rfl, show 4 ≤ 1000 by decide, fun x hx => by
  simp only [List.mem_cons, List.not_mem_nil, or_false] at hx
  rcases hx with rfl | rfl | rfl | rfl
  · exact due_rt _
  · exact .inl ⟨_, rfl⟩
  · exact due_rt _
  · exact .inl ⟨_, rfl⟩⟩)
theorem two_exc {a b : Rat} {C : Addr} {v : D} (h : excTwo CF (rt a) (rt b) C v) : False := by
  obtain ⟨_, ⟨h, _⟩ | ⟨_, h, _⟩⟩ := h <;> (rw [isFr_rt] at h; cases h)
theorem less_pre {g : Rat → Rat → D} {a b : Rat} (za : Sz 80 a) (zb : Sz 80 b) : (spLess CF g).pre [rt a, rt b] := ⟨rfl, rfl, fun p q h1 h2 => ⟨80, 80, rt_inj h1 ▸ za, rt_inj h2 ▸ zb, by decide⟩⟩
theorem less_post {g : Rat → Rat → D} {a b : Rat} {r : D} (h : (spLess CF g).post [rt a, rt b] r) : r = g a b := by
  obtain ⟨p, q, h1, h2, rfl⟩ := h
  rw [rt_inj h1, rt_inj h2]
theorem share_pre {a b : Rat} (za : Sz 80 a) (zb : Sz 80 b) : (spShare CF).pre [rt a, rt b] := ⟨rfl, rfl, fun p q h1 h2 => ⟨80, 80, rt_inj h1 ▸ za, rt_inj h2 ▸ zb, by decide⟩⟩
section
variable {cc PP : Addr} {A : Around} {outer : List Env} {s0 : Shared} {H F : Hp} {E : XK} {ad : Addr} {g1 g2 g3 g5 g6 g7 g8 g10 g11 g12 : Sl} {l6 : List D} {a b : Rat} {D₀ : JD}
theorem sums_pair (B : Bt mg) (RT : RefT P w K mg base T 6 CS (kd CF CL CN)) (C5 : Cal P w K mg base T 1 "_law_frac" ["top", "under"] 2 spLF) (C6 : Cal P w K mg base T 3 "_law_same" ["told", "due"] 2 (spSame 2)) (L1 : Cal P w K mg base T 6 "less" ["one", "other"] 2 (spLess CF fun p q => rt (p - q))) (L2' : Cal P w K mg base T 6 "is_less" ["one", "other"] 2 (spLess CF fun p q => .bl (decide (p < q))))
    (L3 : CalK P w K mg base T 6 "less" ["one", "other"] ["other", "one"] 2 List.reverse (spLess CF fun p q => rt (p - q))) (L4 : CalK P w K mg base T 6 "is_less" ["one", "other"] ["other", "one"] 2 List.reverse (spLess CF fun p q => .bl (decide (p < q)))) (L5 : Cal P w K mg base T 6 "share" ["one", "other"] 2 (spShare CF)) (L6 : CalK P w K mg base T 6 "share" ["one", "other"] ["other", "one"] 2 List.reverse (spShare CF))
    (hr : RoomG 11 (A.deeper (envOfC "_law_sums_right" (defScope (topS 54)) s0.heap.objs.size f (.ref cc)))) (TB : LamX.TabB base mg cc PP) (hm : (PP, (("_law_sums_right" : Str) ++ ".<locals>." : Str) ++ "<lambda>") ∈ T) (hu : ∀ p ∈ T, p.1 = PP → p.2 = (("_law_sums_right" : Str) ++ ".<locals>." : Str) ++ "<lambda>") (za : Sz 80 a) (zb : Sz 80 b)
    (nx : ∀ h10 h11 h12, D₀.nx [.own ad l6, g1, g2, g3, .val (rt a), g5, g6, g7, g8, .val (rt b), h10, h11, h12]) :
    JSs (XS P w K mg base f (.ref cc) A outer s0 H E) ⟨F, H, (· = ad), T⟩ innerS [.own ad l6, g1, g2, g3, .val (rt a), g5, g6, g7, g8, .val (rt b), g10, g11, g12] D₀ NoX := by
  refine jss_cons ?_
  refine js_s (i := 10) sc_sums.nd (by rfl) ?_
  refine je_lst ?_
  refine ja_cons ?_
  refine je_call L1 hr (by omega) (by rfl) ?_
  refine ja_cons ?_
  refine v4 (d := rt a) ?_
  refine ja_cons ?_
  refine v9 (d := rt b) ?_
  refine ja_nil ⟨rfl, less_pre za zb, fun r h => ?_, fun C v h => (two_exc h).elim⟩
  obtain rfl := less_post h
  refine ja_cons ?_
  refine je_call L2' hr (by omega) (by rfl) ?_
  refine ja_cons ?_
  refine v4 (d := rt a) ?_
  refine ja_cons ?_
  refine v9 (d := rt b) ?_
  refine ja_nil ⟨rfl, less_pre za zb, fun r h => ?_, fun C v h => (two_exc h).elim⟩
  obtain rfl := less_post h
  refine ja_cons ?_
  refine je_k L3 hr (by omega) (by rfl) (fun _ r => r.reverse) ?_
  refine jk_cons ?_
  refine v9 (d := rt b) ?_
  refine jk_cons ?_
  refine v4 (d := rt a) ?_
  refine jk_nil ⟨rfl, rfl, less_pre za zb, fun r h => ?_, fun C v h => (two_exc h).elim⟩
  obtain rfl := less_post h
  refine ja_cons ?_
  refine je_k L4 hr (by omega) (by rfl) (fun _ r => r.reverse) ?_
  refine jk_cons ?_
  refine v9 (d := rt b) ?_
  refine jk_cons ?_
  refine v4 (d := rt a) ?_
  refine jk_nil ⟨rfl, rfl, less_pre za zb, fun r h => ?_, fun C v h => (two_exc h).elim⟩
  obtain rfl := less_post h
  refine ja_nil ⟨one_sz (show 4 ≤ 1000 by decide), show 10 < 13 by decide, ?_⟩
  refine jss_cons ?_
  refine js_s (i := 11) sc_sums.nd (by rfl) ?_
  refine je_lt ?_
  refine je_mul ?_
  refine je_ix ?_
  refine v4 ⟨rfl, ?_⟩
  refine je_int ⟨_, _, rfl, rfl, ⟨_, rfl, ?_⟩⟩
  refine je_ix ?_
  refine v9 ⟨rfl, ?_⟩
  refine je_int ⟨_, _, rfl, rfl, ⟨_, rfl, cmul_of za.num (szd zb) (by decide), ⟨_, rfl, ?_⟩⟩⟩
  refine je_mul ?_
  refine je_ix ?_
  refine v9 ⟨rfl, ?_⟩
  refine je_int ⟨_, _, rfl, rfl, ⟨_, rfl, ?_⟩⟩
  refine je_ix ?_
  refine v4 ⟨rfl, ?_⟩
  refine je_int (⟨_, _, rfl, rfl, ⟨_, rfl, cmul_of zb.num (szd za) (by decide), ⟨_, rfl, ⟨show 11 < 13 by decide, ?_⟩⟩⟩⟩)
  have eb : decide (a.num * (b.den : Int) < b.num * (a.den : Int)) = decide (a < b) := by rw [decide_eq_decide, Rat.lt_iff]
  rw [eb]
  refine jss_cons ?_
  refine js_s (i := 12) sc_sums.nd (by rfl) ?_
  refine je_call C5 hr (by omega) (by rfl) ?_
  refine ja_cons ?_
  refine je_sub ?_
  refine je_mul ?_
  refine je_ix ?_
  refine v4 ⟨rfl, ?_⟩
  refine je_int ⟨_, _, rfl, rfl, ⟨_, rfl, ?_⟩⟩
  refine je_ix ?_
  refine v9 ⟨rfl, ?_⟩
  refine je_int ⟨_, _, rfl, rfl, ⟨_, rfl, cmul_of za.num (szd zb) (by decide), ⟨_, rfl, ?_⟩⟩⟩
  refine je_mul ?_
  refine je_ix ?_
  refine v9 ⟨rfl, ?_⟩
  refine je_int ⟨_, _, rfl, rfl, ⟨_, rfl, ?_⟩⟩
  refine je_ix ?_
  refine v4 ⟨rfl, ?_⟩
  refine je_int ⟨_, _, rfl, rfl, ⟨_, rfl, cmul_of zb.num (szd za) (by decide), ⟨_, rfl, ?_⟩⟩⟩
  refine ja_cons ?_
  refine je_mul ?_
  refine je_ix ?_
  refine v4 ⟨rfl, ?_⟩
  refine je_int ⟨_, _, rfl, rfl, ⟨_, rfl, ?_⟩⟩
  refine je_ix ?_
  refine v9 ⟨rfl, ?_⟩
  refine je_int ⟨_, _, rfl, rfl, ⟨_, rfl, cmul_of (szd za) (szd zb) (by decide), ?_⟩⟩
  refine ja_nil (⟨rfl, ⟨_, _, 170, rfl, rfl, Int.mul_ne_zero (den_ne a) (den_ne b), bd_le (bd_sub (bd_mul za.num (szd zb)) (bd_mul zb.num (szd za))) (by decide), bd_le (bd_mul (szd za) (szd zb)) (by decide), by decide⟩, ?_, fun _ _ z => z.elim⟩)
  rintro _ ⟨⟩
  refine ⟨show 12 < 13 by decide, ?_⟩
  have ed : lowD (.int (a.num * b.den - b.num * a.den)) (.int (a.den * b.den)) = rt (a - b) := congrArg rt (rt_sub a b)
  rw [ed]
  refine jss_cons ?_
  refine js_if ?_
  refine jt_not ?_
  refine jt_val ?_
  refine je_call C6 hr (by omega) (by rfl) ?_
  refine ja_cons ?_
  refine v10 (d := .lst [rt (a - b), .bl (decide (a < b)), rt (a - b), .bl (decide (a < b))]) ?_
  refine ja_cons ?_
  refine je_lst ?_
  refine ja_cons ?_
  refine v12 ?_
  refine ja_cons ?_
  refine v11 ?_
  refine ja_cons ?_
  refine v12 ?_
  refine ja_cons ?_
  refine v11 ?_
  refine ja_nil ⟨one_sz (show 4 ≤ 1000 by decide), ?_⟩
  refine ja_nil ⟨rfl, ⟨rfl, due4 _ _⟩, fun r h => ?_, fun _ _ z => z.elim⟩
  obtain rfl := (show r = .bl true from h)
  refine ⟨true, rfl, (fun z => nomatch z), fun _ => jss_nil ?_⟩
  refine jss_one ?_
  refine js_if ?_
  refine jt_eqI ?_
  refine je_ix ?_
  refine v9 (d := rt b) ⟨rfl, ?_⟩
  refine je_int ⟨_, _, rfl, rfl, _, rfl, ?_⟩
  refine je_int ⟨_, rfl, fun k => ?_, fun k => ?_⟩
  · have hb : b = 0 := by
      have : b.num = 0 := by simpa using k
      exact Rat.num_eq_zero.mp this
    subst hb
    refine jss_one ?_
    refine js_if ?_
    refine jt_not ?_
    refine jt_val ?_
    have rp := rp_rt zb (by decide)
    refine je_refused (X := XS P w K mg base f (.ref cc) A outer s0 H E) (c := ⟨F, H, (· = ad), T⟩) RT hr (by omega) (by rfl) (.inl ⟨rfl, rfl⟩) TB (by rfl) hm hu (LamX.lamS_by (by rfl)) (dv := rt 0) (fun _ => v9 (d := rt 0) ⟨rfl, rfl⟩) rp.py rp.sh (rp.len (by decide)) (Nat.le_trans rp.dp (by decide)) (fun A' outer' s' H' F' E' f' c' hr' => ?_) ?_
    · refine je_call L5 hr' (by omega) (by rfl) ?_
      refine ja_cons ?_
      refine v4 (d := rt a) ?_
      refine ja_cons ?_
      refine v9 (d := rt 0) ?_
      exact ja_nil ⟨rfl, share_pre za zb, fun r ⟨p, q, h1, h2, h3, _⟩ => h3 (rt_inj h2).symm, fun C v h => h.elim (fun h => (two_exc h).elim) fun ⟨_, h1, _, h2⟩ => ⟨h1, h2⟩⟩
    · exact ⟨true, rfl, (fun z => nomatch z), fun _ => jss_nil (nx _ _ _)⟩
  · have hb : b ≠ 0 := by
      intro z
      subst z
      exact absurd k (by decide)
    have sp : ∀ r, (spShare CF).post [rt a, rt b] r → r = rt (a / b) := fun r ⟨p, q, h1, h2, _, h3⟩ => by rw [h3, rt_inj h1, rt_inj h2]
    have se : ∀ C v, (spShare CF).exc [rt a, rt b] C v → False := fun C v h => h.elim two_exc fun ⟨_, _, h, _⟩ => hb (rt_inj h)
    refine jss_one ?_
    refine js_if ?_
    refine jt_not ?_
    refine jt_val ?_
    refine je_call C6 hr (by omega) (by rfl) ?_
    refine ja_cons ?_
    refine je_lst ?_
    refine ja_cons ?_
    refine je_call L5 hr (by omega) (by rfl) ?_
    refine ja_cons ?_
    refine v4 (d := rt a) ?_
    refine ja_cons ?_
    refine v9 (d := rt b) ?_
    refine ja_nil ⟨rfl, share_pre za zb, fun r h => ?_, fun C v h => (se C v h).elim⟩
    obtain rfl := sp r h
    refine ja_cons ?_
    refine je_k L6 hr (by omega) (by rfl) (fun _ r => r.reverse) ?_
    refine jk_cons ?_
    refine v9 (d := rt b) ?_
    refine jk_cons ?_
    refine v4 (d := rt a) ?_
    refine jk_nil ⟨rfl, rfl, share_pre za zb, fun r h => ?_, fun C v h => (se C v h).elim⟩
    obtain rfl := sp r h
    refine ja_nil ⟨one_sz (show 2 ≤ 1000 by decide), ?_⟩
    refine ja_cons ?_
    refine JE.of_air ?_
    refine jn_rep ?_
    refine je_lst ?_
    refine ja_cons ?_
    refine je_call C5 hr (by omega) (by rfl) ?_
    refine ja_cons ?_
    refine je_mul ?_
    refine je_ix ?_
    refine v4 ⟨rfl, ?_⟩
    refine je_int ⟨_, _, rfl, rfl, ⟨_, rfl, ?_⟩⟩
    refine je_ix ?_
    refine v9 ⟨rfl, ?_⟩
    refine je_int ⟨_, _, rfl, rfl, ⟨_, rfl, cmul_of za.num (szd zb) (by decide), ?_⟩⟩
    refine ja_cons ?_
    refine je_mul ?_
    refine je_ix ?_
    refine v4 ⟨rfl, ?_⟩
    refine je_int ⟨_, _, rfl, rfl, ⟨_, rfl, ?_⟩⟩
    refine je_ix ?_
    refine v9 ⟨rfl, ?_⟩
    refine je_int ⟨_, _, rfl, rfl, ⟨_, rfl, cmul_of (szd za) zb.num (by decide), ?_⟩⟩
    refine ja_nil (⟨rfl, ⟨_, _, 160, rfl, rfl, Int.mul_ne_zero (den_ne a) (num_ne hb), bd_mul za.num (szd zb), bd_mul (szd za) zb.num, by decide⟩, ?_, fun _ _ z => z.elim⟩)
    rintro _ ⟨⟩
    have ef : lowD (.int (a.num * b.den)) (.int (a.den * b.num)) = rt (a / b) := congrArg rt (rt_div a b)
    rw [ef]
    refine ja_nil ⟨one_sz (show 1 ≤ 1000 by decide), _, rfl, ?_⟩
    refine je_int ⟨2, rfl, by decide, by decide, one_sz (show 2 ≤ 1000 by decide), fun p => ja_nil ⟨rfl, ⟨rfl, due_rts _ _⟩, fun r h => ?_, fun _ _ z => z.elim⟩⟩
    obtain rfl := (show r = .bl true from h)
    exact ⟨true, rfl, (fun z => nomatch z), fun _ => jss_nil (nx _ _ _)⟩
end
end
end K05
end
section
set_option maxRecDepth 100000
set_option maxHeartbeats 4000000
namespace K05
open PySem PySem.Spec PyProof.Rows L2 J
section
variable {P : Program} {w : World} {K : PySem.W.Frag} {mg : Str → Option Value} {base : Heap} {T : List (Addr × Str)} {f : Addr} {fd : FuncData} {CF CL CN CS : Addr}
/-! slices -/
section
variable {X : Cx} {c : JC} {a : Expr} {G : List Sl} {N : Addr → List D → List Sl → Prop} {Ex : XQ} {p1 p2 p3 pos : Pos} {k j : Nat}
theorem cut_to (l : List D) (n : Nat) : J.cutD l none (some (n : Int)) = l.take n := by
  unfold J.cutD
  rw [show HT.sIx l.length 0 none = 0 from rfl, HT.sIx_nat, List.drop_zero, Nat.sub_zero]
  rcases Nat.le_total n l.length with h | h
  · rw [Nat.min_eq_left h]
  · rw [Nat.min_eq_right h, List.take_length, List.take_of_length_le h]
theorem cut_12 (l : List D) : J.cutD l (some 1) (some 2) = (l.drop 1).take 1 := by
  unfold J.cutD
  rw [show (1 : Int) = ((1 : Nat) : Int) from rfl, show (2 : Int) = ((2 : Nat) : Int) from rfl, HT.sIx_nat, HT.sIx_nat]
  match l with
  | [] => rfl
  | [x] => rfl
  | x :: y :: t =>
    rw [Nat.min_eq_left (by simp), Nat.min_eq_left (by simp)]
theorem jn_to (n : Nat) (h : JE X c a G (fun d G1 => ∃ l, d = .lst l ∧ ∀ p, N p (l.take n) G1) Ex) : JN X c (.Subscript a (.Slice none (some (.Constant (.int (n : Int)) k p1)) none p2) pos) G N Ex :=
  jn_sl (h.imp fun d G1 ⟨l, e, q⟩ => ⟨l, e, (by
    have key : JE X c (.Constant (.int (n : Int)) k p1) G1 (fun d G3 => ∃ j, d = .int j ∧ ∀ p, N p (J.cutD l none (some j)) G3) Ex := je_int ⟨(n : Int), rfl, fun p => by rw [cut_to]; exact q p⟩
    exact key)⟩)
theorem jn_12 (h : JE X c a G (fun d G1 => ∃ l, d = .lst l ∧ ∀ p, N p ((l.drop 1).take 1) G1) Ex) : JN X c (.Subscript a (.Slice (some (.Constant (.int 1) k p1)) (some (.Constant (.int 2) j p3)) none p2) pos) G N Ex :=
  jn_sl (h.imp fun d G1 ⟨l, e, q⟩ => ⟨l, e, (by
    have key : JE X c (.Constant (.int 1) k p1) G1 (fun d G2 => ∃ i, d = .int i ∧ JE X c (.Constant (.int 2) j p3) G2 (fun d G3 => ∃ j, d = .int j ∧ ∀ p, N p (J.cutD l (some i) (some j)) G3) Ex) Ex := je_int ⟨1, rfl, je_int ⟨2, rfl, fun p => by rw [cut_12]; exact q p⟩⟩
    exact key)⟩)
end
/-! lists of fractions -/
theorem rp_rts {n : Nat} (hn : n ≤ 1900) : ∀ qs : List Rat, (∀ q ∈ qs, Sz n q) → Rp ((2 * n + 5) * qs.length) (.lst (qs.map rt)) (.list (qs.map fun q => .tuple [.int q.num, .int q.den]))
  | [], _ => ⟨rfl, rfl, rfl, by simp [PyData.weight, PyData.weightAll], by simp [PyData.depth, PyData.depthAll]⟩
  | q :: qs, h => by
    have r := rp_rt (h q List.mem_cons_self) hn
    have s := rp_rts hn qs fun x hx => h x (List.mem_cons_of_mem _ hx)
    have s1 := s.sh
    have s2 := s.lv
    have s3 := s.wt
    have s4 := s.dp
    have s5 : D.pyL (qs.map rt) = some (qs.map fun q => .tuple [.int q.num, .int q.den]) := by
      have := s.py
      simp only [D.py] at this
      cases hh : D.pyL (qs.map rt) with
      | none => rw [hh] at this; cases this
      | some ps => rw [hh] at this; simpa using this
    have dq : PyData.depth (.tuple [.int q.num, .int q.den]) ≤ 2 := by simp [PyData.depth, PyData.depthAll]
    refine ⟨?_, ?_, ?_, ?_, ?_⟩
    · simp only [List.map_cons, D.py, D.pyL, r.py, s5]; rfl
    · have t : PyData.showableAll (qs.map fun q => PyData.tuple [.int q.num, .int q.den]) = true := by simpa [PyData.showable] using s1
      simp only [List.map_cons, PyData.showable, PyData.showableAll, t]
      have := r.sh
      simp only [PyData.showable, PyData.showableAll] at this
      rw [this]; rfl
    · have t : PyData.leavesShortAll 1921 (qs.map fun q => PyData.tuple [.int q.num, .int q.den]) = true := by simpa [PyData.leavesShort] using s2
      have := r.lv
      simp only [List.map_cons, PyData.leavesShort, PyData.leavesShortAll, t] at this ⊢
      rw [this]; rfl
    · have := r.wt
      simp only [List.map_cons, PyData.weight, PyData.weightAll, List.length_cons] at this s3 ⊢
      rw [Nat.mul_succ]
      omega
    · simp only [List.map_cons, PyData.depth, PyData.depthAll] at s4 dq ⊢
      omega
theorem okSz_rts {qs : List Rat} (h : ∀ q ∈ qs, Sz 80 q) (hl : qs.length ≤ 20) : okSz (.lst (qs.map rt)) := by
  refine ⟨show (qs.map rt).length ≤ 1000 by rw [List.length_map]; omega, fun qs' e => ⟨80, ?_, ?_⟩⟩
  · injection e with e
    rw [← rts_inj e]; exact h
  · injection e with e
    rw [← rts_inj e]
    have := Nat.mul_le_mul_right 81 (show qs.length + 1 ≤ 21 by omega)
    omega
theorem sum_rev : ∀ (l : List Rat) (a : Rat), l.reverse.foldl (· + ·) a = l.foldl (· + ·) a
  | [], a => rfl
  | x :: l, a => by
    rw [List.reverse_cons, List.foldl_append, List.foldl_cons, List.foldl_cons, List.foldl_nil, sum_rev l a]
    have g : ∀ (l : List Rat) (a b : Rat), l.foldl (· + ·) (a + b) = l.foldl (· + ·) a + b := fun l => by
      induction l with
      | nil => intros; rfl
      | cons y l ih => intro a b; rw [List.foldl_cons, List.foldl_cons, show a + b + y = (a + y) + b by grind, ih]
    rw [g]
theorem all_exc {g : List Rat → Rat} {qs : List Rat} {C : Addr} {v : D} (h : (spAll CL g).exc [.lst (qs.map rt)] C v) : False := by
  obtain ⟨h, _⟩ := h
  have : isFrL (.lst (qs.map rt)) = true := by
    show (qs.map rt).all isFr = true
    rw [List.all_map, List.all_eq_true]
    exact fun q _ => isFr_rt q
  rw [this] at h
  cases h
/-- the list of the sums -/
def more (qs : List Rat) : List Rat := qs ++ (qs.take 1).map (fun q => -q) ++ (((qs.drop 1).take 1).filter fun q => decide (q ≠ 0)).map fun q => q⁻¹
theorem more_sz {n : Nat} {qs : List Rat} (h : ∀ q ∈ qs, Sz n q) : (∀ q ∈ more qs, Sz n q) ∧ (more qs).length ≤ qs.length + 2 := by
  constructor
  · intro q hq
    unfold more at hq
    rcases List.mem_append.mp hq with hq | hq
    · rcases List.mem_append.mp hq with hq | hq
      · exact h q hq
      · obtain ⟨x, hx, rfl⟩ := List.mem_map.mp hq
        exact sz_neg (h x (List.mem_of_mem_take hx))
    · obtain ⟨x, hx, rfl⟩ := List.mem_map.mp hq
      obtain ⟨hx1, hx2⟩ := List.mem_filter.mp hx
      have hs := h x (List.mem_of_mem_drop (List.mem_of_mem_take hx1))
      have hn : x ≠ 0 := by simpa using hx2
      have h1 := hs.num
      have h2 := hs.den
      refine ⟨?_, ?_⟩
      · rw [Rat.num_inv, Int.natAbs_mul, Int.natAbs_sign_of_ne_zero (num_ne hn)]
        simpa using h2
      · rw [Rat.den_inv, if_neg (num_ne hn)]
        exact h1
  · unfold more
    have h1 : ((qs.take 1).map fun q => -q).length ≤ 1 := by rw [List.length_map, List.length_take]; omega
    have h2 : ((((qs.drop 1).take 1).filter fun q => decide (q ≠ 0)).map fun q => q⁻¹).length ≤ 1 := by
      rw [List.length_map]
      exact Nat.le_trans (List.length_filter_le _ _) (by rw [List.length_take]; omega)
    rw [List.length_append, List.length_append]
    omega
end
end K05
end
section
set_option maxRecDepth 100000
set_option maxHeartbeats 4000000
namespace K05
open PySem PySem.Spec PyProof.Rows L2 J
section
variable {P : Program} {w : World} {K : PySem.W.Frag} {mg : Str → Option Value} {base : Heap} {T : List (Addr × Str)} {f : Addr} {fd : FuncData} {CF CL CN CS : Addr}
theorem lt367 : ∀ i ∈ [3, 6, 7], i < 13 := by decide
theorem mem6u {r : D} (h : r ∈ [D.int 1, .int 2, .int 3, .int 12, .int (10 ^ (12 : Int).toNat), .int (10 ^ (20 : Int).toNat)]) : ∃ m, r = .int m ∧ 1 ≤ m ∧ m ≤ 10 ^ 20 := by
  simp only [List.mem_cons, List.not_mem_nil, or_false] at h
  rcases h with rfl | rfl | rfl | rfl | rfl | rfl <;> exact ⟨_, rfl, by decide, by decide⟩
theorem due3 (p q r : Rat) : Due 2 (.lst [rt p, rt q, rt r]) := .inr (.inr ⟨_, .inl rfl, show 3 ≤ 1000 by decide, fun x hx => by
  simp only [List.mem_cons, List.not_mem_nil, or_false] at hx
  rcases hx with rfl | rfl | rfl <;> exact due_rt _⟩)
def negD : D → D | .tup [.int a, .int b] => rt (Rat.divInt (0 - a) b) | _ => .non
def invD : D → D | .tup [.int a, .int b] => rt (Rat.divInt b a) | _ => .non
def nzD : D → Bool | .tup [.int a, .int _] => !decide (a = 0) | _ => false
theorem negD_rt (q : Rat) : negD (rt q) = rt (-q) := by
  show rt (Rat.divInt (0 - q.num) q.den) = _
  rw [Int.zero_sub, neg_divInt', Rat.num_divInt_den]
theorem invD_rt (q : Rat) : invD (rt q) = rt q⁻¹ := by
  show rt (Rat.divInt q.den q.num) = _
  rw [← Rat.inv_def]
theorem nzD_rt (q : Rat) : nzD (rt q) = decide (q ≠ 0) := by
  show (!decide (q.num = 0)) = _
  rw [Bool.eq_iff_iff]
  simp [Rat.num_eq_zero]
theorem more_D (qs : List Rat) : qs.map rt ++ ((qs.map rt).take 1).map negD ++ (((qs.map rt).drop 1).take 1 |>.filter nzD).map invD = (more qs).map rt := by
  unfold more
  rw [List.map_append, List.map_append, ← List.map_take, ← List.map_drop, ← List.map_take, List.filter_map, List.map_map, List.map_map, List.map_map, List.map_map]
  congr 1
  · congr 1
    exact List.map_congr_left fun q _ => negD_rt q
  · have e : (nzD ∘ rt) = fun q : Rat => decide (q ≠ 0) := funext nzD_rt
    rw [e]
    exact List.map_congr_left fun q _ => invD_rt q
def spSu : PSp where
  pre l ds := ∃ n : Nat, ds = [] ∧ Pu n l ∧ n + 100 < 2 ^ 60
  post l ds r l' := r = .bl true ∧ ∀ n : Nat, Pu n l → Pu (n + 30) l'
theorem ok_sums (B : Bt mg) (O : Co K mg) (hF : LamF base mg T fd "_law_sums_right") (RT : RefT P w K mg base T 6 CS (kd CF CL CN)) (C1 : CalP P w K mg base T 1 "_law_draw" ["purse", "many"] 1 spDraw) (C2 : CalP P w K mg base T 2 "_law_pick" ["purse", "things"] 1 spPick) (C3 : CalP P w K mg base T 2 "_law_between" ["purse", "low", "high"] 2 spBtw)
    (C5 : Cal P w K mg base T 1 "_law_frac" ["top", "under"] 2 spLF) (C6 : Cal P w K mg base T 3 "_law_same" ["told", "due"] 2 (spSame 2)) (L1 : Cal P w K mg base T 6 "less" ["one", "other"] 2 (spLess CF fun p q => rt (p - q))) (L2' : Cal P w K mg base T 6 "is_less" ["one", "other"] 2 (spLess CF fun p q => .bl (decide (p < q))))
    (L3 : CalK P w K mg base T 6 "less" ["one", "other"] ["other", "one"] 2 List.reverse (spLess CF fun p q => rt (p - q))) (L4 : CalK P w K mg base T 6 "is_less" ["one", "other"] ["other", "one"] 2 List.reverse (spLess CF fun p q => .bl (decide (p < q)))) (L5 : Cal P w K mg base T 6 "share" ["one", "other"] 2 (spShare CF)) (L6 : CalK P w K mg base T 6 "share" ["one", "other"] ["other", "one"] 2 List.reverse (spShare CF))
    (S1 : Cal P w K mg base T 5 "sum_of" ["some"] 1 (spAll CL sumQ)) (S2 : Cal P w K mg base T 5 "product_of" ["some"] 1 (spAll CL prodQ)) (S3 : CalK P w K mg base T 5 "sum_of" ["some"] ["some"] 1 (fun l => l) (spAll CL sumQ)) (FN : Fd K "_law_sums_right" (topS 54) f fd) : FnG P w K mg base 12 f fd ["purse"] (toP K T 0 spSu) := by
  refine okPc FN sc_sums rfl (by decide) fun cdv A outer s0 H E F ad l ds hcv hr hl hp => ?_
  obtain ⟨n0, rfl, pu0, hn⟩ := hp
  obtain ⟨cc, PP, hc1, hc2, hc3, hc4⟩ := hF.ex
  rw [hcv] at hc1
  subst hc1
  refine jss_cons ?_
  refine js_own (i := 1) sc_sums.nd (by rfl) (by exact .inl rfl) ?_
  refine jn_lst ?_
  refine ja_nil ⟨one_sz (show 0 ≤ 1000 by decide), fun p => ⟨show 1 < 13 by decide, ?_⟩⟩
  refine jss_cons ?_
  refine js_forR (i := 2) (by exact passes_of rfl) (by rfl) sc_sums.nd (by rfl) (by exact .inl rfl) B (by rfl) ?_
  refine je_callO C1 hr (by omega) (by rfl) (i := 0) (by rfl) (by exact .inl rfl) (by rfl) ?_
  refine ja_cons ?_
  refine je_int ?_
  refine ja_nil ⟨l, rfl, rfl, ⟨n0, 13, rfl, pu0, by omega, by decide, by decide⟩, fun d l0 hd0 => ?_⟩
  obtain ⟨r, rfl, r0, r1, pur⟩ := hd0 n0 13 rfl pu0
  have allr : ∀ n, Pu n l → Pu (n + 1) l0 := fun n p => by
    obtain ⟨_, _, _, _, z⟩ := hd0 n 13 rfl p
    exact z
  refine ⟨r, rfl, ⟨by omega, by omega⟩, fun t G => ∃ lt qs s2 s3, G = [.own ad lt, .own p (qs.map rt), s2, s3, .no, .no, .no, .no, .no, .no, .no, .no, .no] ∧ qs.length = t ∧ (∀ q ∈ qs, Sz 72 q) ∧ ∀ n, Pu n l → Pu (n + 1 + 2 * t) lt, ⟨l0, [], .no, .no, rfl, rfl, (fun q h => nomatch h), allr⟩, ?_, ?_⟩
  · rintro t G2 ht ⟨lt, qs, s2, s3, rfl, hqs, hz, hpu⟩
    have put := hpu n0 pu0
    have tb : t < 13 := by omega
    refine ⟨show 2 < 13 by decide, ?_⟩
    refine jss_cons ?_
    refine js_s (i := 3) sc_sums.nd (by rfl) ?_
    refine je_callO C2 hr (by omega) (by rfl) (i := 0) (by rfl) (by exact .inl rfl) (by rfl) ?_
    refine ja_cons ?_
    refine je_lst ?_
    refine ja_cons ?_
    refine je_int ?_
    refine ja_cons ?_
    refine je_int ?_
    refine ja_cons ?_
    refine je_int ?_
    refine ja_cons ?_
    refine je_int ?_
    refine ja_cons ?_
    refine je_pow ?_
    refine je_int ⟨_, rfl, ?_⟩
    refine je_int ⟨_, rfl, (⟨by decide, by decide, by decide⟩ : CPow 10 12), ?_⟩
    refine ja_cons ?_
    refine je_pow ?_
    refine je_int ⟨_, rfl, ?_⟩
    refine je_int ⟨_, rfl, (⟨by decide, by decide, by decide⟩ : CPow 10 20), ?_⟩
    refine ja_nil ⟨one_sz (show 6 ≤ 1000 by decide), ?_⟩
    refine ja_nil ⟨lt, rfl, rfl, ⟨_, _, rfl, put, by omega, show 0 < 6 by decide, show 6 < 1000 by decide⟩, fun d l1 hd1 => ?_⟩
    obtain ⟨hm, pu1⟩ := hd1 _ _ rfl put
    obtain ⟨u, rfl, u0, u1⟩ := mem6u hm
    have cm : ∀ z : Int, z = u → CMulW 9 z := fun z e => e ▸ cmul_of (n := 4) (m := 70) (by decide) (iv (by omega) (by omega)) (by decide)
    refine ⟨show 3 < 13 by decide, ?_⟩
    refine jss_one ?_
    refine js_append (i := 1) (by rfl) (by exact .inl rfl) (by rfl) ?_
    refine je_call C5 hr (by omega) (by rfl) ?_
    refine ja_cons ?_
    refine je_callO C3 hr (by omega) (by rfl) (i := 0) (by rfl) (by exact .inl rfl) (by rfl) ?_
    refine ja_cons ?_
    refine je_sub ?_
    refine je_int ⟨_, rfl, ?_⟩
    refine je_mul ?_
    refine je_int ⟨_, rfl, ?_⟩
    refine v3 ⟨_, rfl, cm u rfl, ⟨_, rfl, ?_⟩⟩
    refine ja_cons ?_
    refine je_mul ?_
    refine je_int ⟨_, rfl, ?_⟩
    refine v3 ⟨_, rfl, cm u rfl, ?_⟩
    refine ja_nil (⟨l1, rfl, rfl, ⟨_, 0 - 9 * u, 9 * u, rfl, pu1, by omega, by omega, by omega⟩, fun d l2 hd2 => ?_⟩)
    obtain ⟨j, rfl, j0, j1, pu2⟩ := hd2 _ _ _ rfl pu1
    refine ja_cons ?_
    refine v3 (d := .int u) ?_
    refine ja_nil ⟨rfl, ⟨_, _, 72, rfl, rfl, by omega, by omega, by omega, by decide⟩, fun r h => ?_, fun _ _ z => z.elim⟩
    obtain rfl : r = rt (Rat.divInt j u) := h
    refine ⟨_, rfl, by rw [List.length_map, sizeLine_eq]; omega, l2, qs ++ [Rat.divInt j u], .val (.int t), .val (.int u), ?_, by rw [List.length_append, hqs]; rfl, fun q hq => ?_, fun n pn => ?_⟩
    · rw [List.map_append]; rfl
    · rcases List.mem_append.mp hq with h | h
      · exact hz q h
      · rw [List.mem_singleton.mp h]
        exact sz_low (by omega) (by omega) (by omega)
    · obtain ⟨_, p1⟩ := hd1 _ _ rfl (hpu n pn)
      obtain ⟨_, _, _, _, p2⟩ := hd2 _ _ _ rfl p1
      exact p2.mono (by omega)
  rintro G2 ⟨lt, qs, s2, s3, rfl, hqs, hz, hpu⟩
  have hq20 : qs.length ≤ 13 := by omega
  refine jss_freezeP (i := 1) (fun b z => z) (by rfl) (by rfl) (by decide) ?_
  have pg1 : ∀ (s : Shared) (H : Hp) (C : Addr) (cl : List (Str × Addr)) (fp : List Addr), True := fun _ _ _ _ _ => trivial
  refine jss_cons ?_
  refine js_s (i := 1) sc_sums.nd (by rfl) ?_
  refine JE.of_air ?_
  refine jn_cat ?_
  refine JE.of_air ?_
  refine jn_cat ?_
  refine v1 (d := .lst (qs.map rt)) ⟨_, rfl, ?_⟩
  refine JE.of_air ?_
  refine jn_lcL (x := "one") (i := 4) (by rfl) sc_sums.nd (blkOk_by (by rfl)) (fun s H C cl fp => pg_name sc_sums.nd rfl (.inl rfl) (.inr rfl)) ?_
  refine JE.of_air ?_
  refine jn_to 1 ?_
  refine v1 (d := .lst (qs.map rt)) ⟨_, rfl, fun p1 => ⟨_, rfl, lcL_all (f := negD) rfl (one_sz ?_) (fun y hy F1 H1 W s1 H2 C cl fp => ?_) fun p2 => ⟨_, rfl, one_sz ?_, fun p3 => ⟨_, rfl, JE.of_air ?_⟩⟩⟩⟩
  · rw [List.length_take]; omega
  · obtain ⟨q, hq1, rfl⟩ := List.mem_map.mp (List.mem_of_mem_take hy)
    have hq := hz q hq1
    refine je_call C5 hr (by omega) (by rfl) ?_
    refine ja_cons ?_
    refine je_sub ?_
    refine je_int ⟨_, rfl, ?_⟩
    refine je_ix ?_
    refine v4 ⟨rfl, ?_⟩
    refine je_int ⟨_, _, rfl, rfl, ⟨_, rfl, ?_⟩⟩
    refine ja_cons ?_
    refine je_ix ?_
    refine v4 ⟨rfl, ?_⟩
    refine je_int ⟨_, _, rfl, rfl, ?_⟩
    refine ja_nil (⟨rfl, ⟨_, _, 72, rfl, rfl, (den_ne q), (by have := hq.num; show (0 - q.num).natAbs < _; omega), szd hq, by decide⟩, ?_, fun _ _ z => z.elim⟩)
    rintro _ ⟨⟩
    exact ⟨rfl, rfl⟩
  · rw [List.length_map, List.length_map, List.length_take]; omega
  refine jn_lcL (x := "one") (i := 4) (by rfl) sc_sums.nd (blkOk_by (by rfl)) (fun s H C cl fp => pg_name sc_sums.nd rfl (.inl rfl) (.inr rfl)) ?_
  refine JE.of_air ?_
  refine jn_12 ?_
  refine v1 (d := .lst (qs.map rt)) ⟨_, rfl, fun p1 => ⟨_, rfl, lcL_map (f := invD) (t := nzD) rfl (one_sz ?_) (fun y hy F1 H1 W => ?_) (fun y hy hn F1 H1 W s1 H2 C cl fp => ?_) fun p2 => ⟨_, rfl, one_sz ?_, fun p3 => ⟨show 1 < 13 by decide, ?_⟩⟩⟩⟩
  · rw [List.length_take]; omega
  · obtain ⟨q, hq1, rfl⟩ := List.mem_map.mp (List.mem_of_mem_drop (List.mem_of_mem_take hy))
    exact jb_one fun s1 H2 C cl fp => jt_neI (je_ix (v4 (⟨rfl, je_int (⟨_, _, rfl, rfl, ⟨_, rfl, je_int ⟨_, rfl, rfl, rfl⟩⟩⟩)⟩)))
  · obtain ⟨q, hq1, rfl⟩ := List.mem_map.mp (List.mem_of_mem_drop (List.mem_of_mem_take hy))
    have hq := hz q hq1
    have hn0 : q ≠ 0 := by rw [nzD_rt] at hn; simpa using hn
    refine je_call C5 hr (by omega) (by rfl) ?_
    refine ja_cons ?_
    refine je_ix ?_
    refine v4 ⟨rfl, ?_⟩
    refine je_int ⟨_, _, rfl, rfl, ?_⟩
    refine ja_cons ?_
    refine je_ix ?_
    refine v4 ⟨rfl, ?_⟩
    refine je_int ⟨_, _, rfl, rfl, ?_⟩
    refine ja_nil (⟨rfl, ⟨_, _, 72, rfl, rfl, num_ne hn0, szd hq, hq.num, by decide⟩, ?_, fun _ _ z => z.elim⟩)
    rintro _ ⟨⟩
    exact ⟨rfl, rfl⟩
  · rw [List.length_append, List.length_map, List.length_map, List.length_map, List.length_take]
    have := List.length_filter_le nzD (((qs.map rt).drop 1).take 1)
    rw [List.length_take] at this
    omega
  rw [more_D]
  obtain ⟨hms, hml⟩ := more_sz hz
  generalize more qs = ms at *
  have hml : ms.length ≤ 15 := by omega
  have rp := rp_rts (n := 72) (by decide) ms hms
  have rpl := rp.len (by omega)
  refine jss_cons ?_
  refine js_s (i := 5) sc_sums.nd (by rfl) ?_
  refine je_repr B hr.rm hr.gd (by rfl) ?_
  refine v1 (d := .lst (ms.map rt)) ⟨_, rp.py, rp.sh, rpl, Nat.le_trans rp.dp (by decide), show 5 < 13 by decide, ?_⟩
  generalize etxt : (PyData.list (ms.map fun q => PyData.tuple [.int q.num, .int q.den])).shown = txt
  refine jss_cons ?_
  refine js_unT (is := [3, 6, 7]) (n := 3) (by rfl) (pgs_cons (pg_name sc_sums.nd rfl (.inl rfl) (.inr rfl)) (pgs_cons (pg_name sc_sums.nd rfl (.inl rfl) (.inr rfl)) (pgs_cons (pg_name sc_sums.nd rfl (.inl rfl) (.inr rfl)) pgs_nil))) (by rfl) ?_
  refine je_tup ?_
  refine ja_cons ?_
  refine je_int ?_
  refine ja_cons ?_
  refine je_int ?_
  refine ja_cons ?_
  refine je_tup ?_
  refine ja_cons ?_
  refine je_int ?_
  refine ja_cons ?_
  refine je_int ?_
  refine ja_nil ⟨one_sz (show 2 ≤ 1000 by decide), ?_⟩
  refine ja_nil (⟨one_sz (show 3 ≤ 1000 by decide), ⟨_, rfl, rfl, lt367, ?_⟩⟩)
  refine jss_cons (js_forL (i := 4) (passes_of rfl) rfl sc_sums.nd rfl (.inr rfl) (v1 (d := .lst (ms.map rt)) ⟨_, rfl, fun t G => ∃ u0 t0 p0 p1 s4, G = [.own ad lt, .val (.lst (ms.map rt)), s2, .val (.int u0), s4, .val (.str txt), .val (.int t0), .val (fr p0 p1), .no, .no, .no, .no, .no] ∧ u0 ≠ 0 ∧ p1 ≠ 0 ∧ Rat.divInt t0 u0 = sumQ (ms.take t) ∧ Rat.divInt p0 p1 = prodQ (ms.take t) ∧ t0.natAbs < 2 ^ (75 * t + 2) ∧ u0.natAbs < 2 ^ (75 * t + 2) ∧ p0.natAbs < 2 ^ (75 * t + 2) ∧ p1.natAbs < 2 ^ (75 * t + 2),
    ⟨1, 0, 1, 1, .no, rfl, by decide, by decide, (show Rat.divInt 0 1 = (0 : Rat) from by decide +kernel), (show Rat.divInt 1 1 = (1 : Rat) from by decide +kernel), by decide, by decide, by decide, by decide⟩, ?_, ?_⟩))
  · rintro t y G2 hy ⟨u0, t0, p0, p1, s4, rfl, hu0, hp1, es, ep, bt, bu, b0, b1⟩
    obtain ⟨q, hq1, rfl, htk⟩ := take_succ_map hy
    have hq := hms q (List.mem_of_getElem? hq1)
    have tl := (List.getElem?_eq_some_iff.mp hq1).1
    refine ⟨show 4 < 13 by decide, ?_⟩
    refine jss_cons ?_
    refine js_par (i := 6) (j := 3) (by rfl) sc_sums.nd (by rfl) (by rfl) (by decide) (by rfl) (by rfl) ?_
    refine je_add ?_
    refine je_mul ?_
    refine v6 (d := .int t0) ⟨_, rfl, ?_⟩
    refine je_ix ?_
    refine v4 ⟨rfl, ?_⟩
    refine je_int ⟨_, _, rfl, rfl, ⟨_, rfl, cmul_of bt (szd hq) (by omega), _, rfl, ?_⟩⟩
    refine je_mul ?_
    refine je_ix ?_
    refine v4 ⟨rfl, ?_⟩
    refine je_int ⟨_, _, rfl, rfl, ⟨_, rfl, ?_⟩⟩
    refine v3 (d := .int u0) ⟨_, rfl, cmul_of hq.num bu (by omega), _, rfl, ?_⟩
    refine je_mul ?_
    refine v3 (d := .int u0) ⟨_, rfl, ?_⟩
    refine je_ix ?_
    refine v4 ⟨rfl, ?_⟩
    refine je_int (⟨_, _, rfl, rfl, ⟨_, rfl, cmul_of bu (szd hq) (by omega), show 6 < 13 by decide, show 3 < 13 by decide, ?_⟩⟩)
    refine jss_one ?_
    refine js_s (i := 7) sc_sums.nd (by rfl) ?_
    refine je_tup ?_
    refine ja_cons ?_
    refine je_mul ?_
    refine je_ix ?_
    refine v7 ⟨rfl, ?_⟩
    refine je_int ⟨_, _, rfl, rfl, ⟨_, rfl, ?_⟩⟩
    refine je_ix ?_
    refine v4 ⟨rfl, ?_⟩
    refine je_int ⟨_, _, rfl, rfl, ⟨_, rfl, cmul_of b0 hq.num (by omega), ?_⟩⟩
    refine ja_cons ?_
    refine je_mul ?_
    refine je_ix ?_
    refine v7 ⟨rfl, ?_⟩
    refine je_int ⟨_, _, rfl, rfl, ⟨_, rfl, ?_⟩⟩
    refine je_ix ?_
    refine v4 ⟨rfl, ?_⟩
    refine je_int ⟨_, _, rfl, rfl, ⟨_, rfl, cmul_of b1 (szd hq) (by omega), ?_⟩⟩
    refine ja_nil (⟨one_sz (show 2 ≤ 1000 by decide), ⟨show 7 < 13 by decide, ?_⟩⟩)
    have w : ∀ {x : Int}, x.natAbs < 2 ^ (75 * t + 2 + 72 + 1) → x.natAbs < 2 ^ (75 * (t + 1) + 2) := fun h => bd_le h (by omega)
    have w2 : ∀ {x : Int}, x.natAbs < 2 ^ (75 * t + 2 + 72) → x.natAbs < 2 ^ (75 * (t + 1) + 2) := fun h => bd_le h (by omega)
    refine ⟨u0 * q.den, t0 * q.den + q.num * u0, p0 * q.num, p1 * q.den, .val (rt q), rfl, Int.mul_ne_zero hu0 (den_ne q), Int.mul_ne_zero hp1 (den_ne q), ?_, ?_, w (bd_add (n := 75 * t + 2 + 72) (bd_mul bt (szd hq)) (by rw [Nat.add_comm (75 * t + 2) 72]; exact bd_mul hq.num bu)), w2 (bd_mul bu (szd hq)), w2 (bd_mul b0 hq.num), w2 (bd_mul b1 (szd hq))⟩
    · rw [← Rat.divInt_add_divInt _ _ hu0 (den_ne q), Rat.num_divInt_den, es, htk]
      unfold sumQ; rw [List.foldl_append]; rfl
    · rw [← Rat.divInt_mul_divInt, Rat.num_divInt_den, ep, htk]
      unfold prodQ; rw [List.foldl_append]; rfl
  rintro G2 ⟨u0, t0, p0, p1, s4, rfl, hu0, hp1, es, ep, bt, bu, b0, b1⟩
  rw [List.length_map] at es ep bt bu b0 b1
  rw [List.take_length] at es ep
  refine jss_cons ?_
  refine js_s (i := 8) sc_sums.nd (by rfl) ?_
  refine je_lst ?_
  refine ja_cons ?_
  refine je_call C5 hr (by omega) (by rfl) ?_
  refine ja_cons ?_
  refine v6 (d := .int t0) ?_
  refine ja_cons ?_
  refine v3 (d := .int u0) ?_
  refine ja_nil ⟨rfl, ⟨_, _, 2000, rfl, rfl, hu0, bd_le bt (by omega), bd_le bu (by omega), by decide⟩, fun r h => ?_, fun _ _ z => z.elim⟩
  obtain rfl : r = rt (Rat.divInt t0 u0) := h
  refine ja_cons ?_
  refine je_call C5 hr (by omega) (by rfl) ?_
  refine ja_cons ?_
  refine je_ix ?_
  refine v7 ⟨rfl, ?_⟩
  refine je_int ⟨_, _, rfl, rfl, ?_⟩
  refine ja_cons ?_
  refine je_ix ?_
  refine v7 ⟨rfl, ?_⟩
  refine je_int ⟨_, _, rfl, rfl, ?_⟩
  refine ja_nil (⟨rfl, ⟨_, _, 2000, rfl, rfl, hp1, bd_le b0 (by omega), bd_le b1 (by omega), by decide⟩, ?_, fun _ _ z => z.elim⟩)
  rintro _ ⟨⟩
  rw [es, show lowD (.int p0) (.int p1) = rt (prodQ ms) from congrArg rt ep]
  refine ja_nil ⟨one_sz (show 2 ≤ 1000 by decide), show 8 < 13 by decide, ?_⟩
  have ms80 : ∀ q ∈ ms, Sz 80 q := fun q h => (hms q h).mono (by decide)
  have pre : ∀ {g : List Rat → Rat}, (spAll CL g).pre [.lst (ms.map rt)] := ⟨by rw [rp.py]; rfl, okSz_rts ms80 (by omega)⟩
  have preR : ∀ {g : List Rat → Rat}, (spAll CL g).pre [.lst (ms.map rt).reverse] := by
    intro g
    rw [← List.map_reverse]
    have rr := rp_rts (n := 72) (by decide) ms.reverse fun q h => hms q (List.mem_reverse.mp h)
    exact ⟨by rw [rr.py]; rfl, okSz_rts (fun q h => ms80 q (List.mem_reverse.mp h)) (by rw [List.length_reverse]; omega)⟩
  refine jss_cons ?_
  refine js_if ?_
  refine jt_w ?_
  refine jw_or ?_
  refine jt_not ?_
  refine jt_val ?_
  refine je_call C6 hr (by omega) (by rfl) ?_
  refine ja_cons ?_
  refine je_lst ?_
  refine ja_cons ?_
  refine je_call S1 hr (by omega) (by rfl) ?_
  refine ja_cons ?_
  refine v1 (d := .lst (ms.map rt)) ?_
  refine ja_nil ⟨rfl, pre, fun r h => ?_, fun C v h => (all_exc h).elim⟩
  obtain rfl := h.2 ms rfl
  refine ja_cons ?_
  refine je_call S2 hr (by omega) (by rfl) ?_
  refine ja_cons ?_
  refine v1 (d := .lst (ms.map rt)) ?_
  refine ja_nil ⟨rfl, pre, fun r h => ?_, fun C v h => (all_exc h).elim⟩
  obtain rfl := h.2 ms rfl
  refine ja_cons ?_
  refine je_k S3 hr (by omega) (by rfl) (fun _ r => r) ?_
  refine jk_cons ?_
  refine JE.of_air ?_
  refine jn_rev0 ?_
  refine v1 (d := .lst (ms.map rt)) ⟨_, rfl, fun pz => jk_nil ⟨rfl, rfl, preR, fun r h => ?_, fun C v h => ?_⟩⟩
  rotate_left
  · rw [← List.map_reverse] at h
    exact (all_exc h).elim
  obtain rfl : r = rt (sumQ ms) := by
    have := h.2 ms.reverse (by rw [List.map_reverse])
    rw [this]
    unfold sumQ
    rw [sum_rev]
  refine ja_nil ⟨one_sz (show 3 ≤ 1000 by decide), ?_⟩
  refine ja_cons ?_
  refine je_lst ?_
  refine ja_cons ?_
  refine je_ix ?_
  refine v8 ⟨rfl, ?_⟩
  refine je_int ⟨_, _, rfl, rfl, ?_⟩
  refine ja_cons ?_
  refine je_ix ?_
  refine v8 ⟨rfl, ?_⟩
  refine je_int ⟨_, _, rfl, rfl, ?_⟩
  refine ja_cons ?_
  refine je_ix ?_
  refine v8 ⟨rfl, ?_⟩
  refine je_int ⟨_, _, rfl, rfl, ?_⟩
  refine ja_nil ⟨one_sz (show 3 ≤ 1000 by decide), ?_⟩
  refine ja_nil ⟨rfl, ⟨rfl, due3 _ _ _⟩, fun r h => ?_, fun _ _ z => z.elim⟩
  obtain rfl := (show r = .bl true from h)
  refine ⟨true, rfl, fun _ => ?_, fun z => nomatch z⟩
  refine jw_or1 ?_
  refine jt_neS ?_
  refine je_repr B hr.rm hr.gd (by rfl) ?_
  refine v1 (d := .lst (ms.map rt)) ⟨_, rp.py, rp.sh, rpl, Nat.le_trans rp.dp (by decide), _, rfl, ?_⟩
  refine v5 (d := .str txt) ⟨_, rfl, fun k => ?_, fun _ => jss_nil ?_⟩
  · rw [etxt] at k
    simp at k
  refine jss_cons ?_
  refine js_forL (i := 4) (by exact passes_of rfl) (by rfl) sc_sums.nd (by rfl) (by exact .inr rfl) ?_
  refine JE.of_air ?_
  refine jn_to 4 ?_
  refine v1 (d := .lst (ms.map rt)) ⟨_, rfl, fun _ => ⟨_, rfl, fun t G => ∃ s4 s9 s10 s11 s12, G = [.own ad lt, .val (.lst (ms.map rt)), s2, .val (.int u0), s4, .val (.str txt), .val (.int t0), .val (fr p0 p1), .val (.lst [rt (sumQ ms), rt (prodQ ms)]), s9, s10, s11, s12], ⟨_, _, _, _, _, rfl⟩, ?_, ?_⟩⟩
  · rintro t y G2 hy ⟨s4, s9, s10, s11, s12, rfl⟩
    obtain ⟨a, ha, rfl⟩ := List.mem_map.mp (List.mem_of_mem_take (List.mem_of_getElem? hy))
    refine ⟨show 4 < 13 by decide, ?_⟩
    refine jss_one ?_
    refine js_forL (i := 9) (by exact passes_of rfl) (by rfl) sc_sums.nd (by rfl) (by exact .inr rfl) ?_
    refine JE.of_air ?_
    refine jn_to 4 ?_
    refine v1 (d := .lst (ms.map rt)) ⟨_, rfl, fun _ => ⟨_, rfl, fun t G => ∃ s9 s10 s11 s12, G = [.own ad lt, .val (.lst (ms.map rt)), s2, .val (.int u0), .val (rt a), .val (.str txt), .val (.int t0), .val (fr p0 p1), .val (.lst [rt (sumQ ms), rt (prodQ ms)]), s9, s10, s11, s12], ⟨_, _, _, _, rfl⟩, ?_, ?_⟩⟩
    · rintro t' y' G3 hy' ⟨s9, s10, s11, s12, rfl⟩
      obtain ⟨b, hb, rfl⟩ := List.mem_map.mp (List.mem_of_mem_take (List.mem_of_getElem? hy'))
      exact ⟨show 9 < 13 by decide, sums_pair B RT C5 C6 L1 L2' L3 L4 L5 L6 hr hc2 hc3 hc4 (ms80 a ha) (ms80 b hb) fun h10 h11 h12 => ⟨_, _, _, _, rfl⟩⟩
    · rintro G3 ⟨s9, s10, s11, s12, rfl⟩
      exact ⟨_, _, _, _, _, rfl⟩
  rintro G2 ⟨s4, s9, s10, s11, s12, rfl⟩
  have preE : ∀ {g : List Rat → Rat}, (spAll CL g).pre [.lst ([].map rt)] := ⟨rfl, okSz_rts (fun q h => nomatch h) (by decide)⟩
  refine jss_one ?_
  refine js_ret ?_
  refine je_call C6 hr (by omega) (by rfl) ?_
  refine ja_cons ?_
  refine je_lst ?_
  refine ja_cons ?_
  refine je_call S1 hr (by omega) (by rfl) ?_
  refine ja_cons ?_
  refine je_lst ?_
  refine ja_nil ⟨one_sz (show 0 ≤ 1000 by decide), ?_⟩
  refine ja_nil ⟨rfl, preE, fun r h => ?_, fun C v h => (all_exc (qs := []) h).elim⟩
  obtain rfl := h.2 [] rfl
  refine ja_cons ?_
  refine je_call S2 hr (by omega) (by rfl) ?_
  refine ja_cons ?_
  refine je_lst ?_
  refine ja_nil ⟨one_sz (show 0 ≤ 1000 by decide), ?_⟩
  refine ja_nil ⟨rfl, preE, fun r h => ?_, fun C v h => (all_exc (qs := []) h).elim⟩
  obtain rfl := h.2 [] rfl
  refine ja_nil ⟨one_sz (show 2 ≤ 1000 by decide), ?_⟩
  refine ja_cons ?_
  refine je_lst ?_
  refine ja_cons ?_
  refine je_tup ?_
  refine ja_cons ?_
  refine je_int ?_
  refine ja_cons ?_
  refine je_int ?_
  refine ja_nil ⟨one_sz (show 2 ≤ 1000 by decide), ?_⟩
  refine ja_cons ?_
  refine je_tup ?_
  refine ja_cons ?_
  refine je_int ?_
  refine ja_cons ?_
  refine je_int ?_
  refine ja_nil ⟨one_sz (show 2 ≤ 1000 by decide), ?_⟩
  refine ja_nil ⟨one_sz (show 2 ≤ 1000 by decide), ?_⟩
  refine ja_nil ⟨rfl, ⟨rfl, due_rts 0 1⟩, fun r h => ?_, fun _ _ z => z.elim⟩
  exact ⟨lt, rfl, h, fun n p => (hpu n p).mono (by omega)⟩
end
end K05
end
section
set_option maxRecDepth 100000
set_option maxHeartbeats 4000000
namespace K05
open PySem PySem.Spec PyProof.Rows L2 J
/-! what repr makes of the odd values -/
structure RpS (n : Nat) (ds : List D) (ps : List PyData) : Prop where
  py : D.pyL ds = some ps
  sh : PyData.showableAll ps = true
  lv : PyData.leavesShortAll 1921 ps = true
  wt : PyData.weightAll ps ≤ n
  dp : PyData.depthAll ps ≤ 20
theorem rps_nil : RpS 0 [] [] := ⟨rfl, rfl, rfl, by simp [PyData.weightAll], by simp [PyData.depthAll]⟩
theorem rps_cons {n m : Nat} {d : D} {p : PyData} {ds : List D} {ps : List PyData} (h : Rp n d p) (hd : p.depth ≤ 20) (k : RpS m ds ps) : RpS (n + 1 + m) (d :: ds) (p :: ps) := by
  refine ⟨?_, ?_, ?_, ?_, ?_⟩
  · simp only [D.pyL, h.py, k.py]; rfl
  · simp only [PyData.showableAll, h.sh, k.sh]; rfl
  · simp only [PyData.leavesShortAll, h.lv, k.lv]; rfl
  · have := h.wt; have := k.wt; simp only [PyData.weightAll]; omega
  · have := k.dp; simp only [PyData.depthAll]; omega
theorem rp_tup {n : Nat} {ds : List D} {ps : List PyData} (h : RpS n ds ps) : Rp n (.tup ds) (.tuple ps) ∧ (PyData.tuple ps).depth ≤ 21 := by
  refine ⟨⟨?_, ?_, ?_, ?_, ?_⟩, ?_⟩
  · simp only [D.py, h.py]; rfl
  · simp only [PyData.showable, h.sh]
  · simp only [PyData.leavesShort, h.lv]
  · have := h.wt; simp only [PyData.weight]; omega
  · have := h.dp; simp only [PyData.depth]; omega
  · have := h.dp; simp only [PyData.depth]; omega
theorem rp_lst {n : Nat} {ds : List D} {ps : List PyData} (h : RpS n ds ps) : Rp n (.lst ds) (.list ps) ∧ (PyData.list ps).depth ≤ 21 := by
  refine ⟨⟨?_, ?_, ?_, ?_, ?_⟩, ?_⟩
  · simp only [D.py, h.py]; rfl
  · simp only [PyData.showable, h.sh]
  · simp only [PyData.leavesShort, h.lv]
  · have := h.wt; simp only [PyData.weight]; omega
  · have := h.dp; simp only [PyData.depth]; omega
  · have := h.dp; simp only [PyData.depth]; omega
theorem _root_.J.Rp.le {n m : Nat} {d : D} {p : PyData} (h : Rp n d p) (k : n ≤ m) : Rp m d p := ⟨h.py, h.sh, h.lv, Nat.le_trans h.wt k, h.dp⟩
theorem rp_non : Rp 0 .non .none := ⟨rfl, rfl, rfl, by simp [PyData.weight], by simp [PyData.depth]⟩
theorem rp_bl (b : Bool) : Rp 0 (.bl b) (.bool b) := ⟨rfl, rfl, rfl, by simp [PyData.weight], by simp [PyData.depth]⟩
theorem rp_dic : Rp 0 (.dic [] []) (.dict []) := ⟨rfl, rfl, rfl, by simp [PyData.weight, PyData.weightKv], by simp [PyData.depth, PyData.depthKv]⟩
/-- a value that is no fraction, its repr short -/
structure Bad (d : D) : Prop where
  rp : ∃ p, Rp 1500 d p ∧ p.depth ≤ 12
  no : isFr d = false
/-- the odd values -/
def odds (t : Int) (q : Rat) : List D :=
  [.tup [.int (t * q.num), .int (t * q.den)], .tup [.int (0 - q.num), .int (0 - q.den)], .lst [.int q.num, .int q.den], .tup [.int q.num, .int q.den, .int 1], .tup [.int q.num], .tup [.int q.num, .bl true], .tup [.bl true, .int 1]]
def bads (t : Int) (q : Rat) : List D := odds t q ++ [.tup [.int q.num, .str "1"], .non, .int q.num, .dic [] [], .tup [.int 0, .int 2], .tup [.int 1, .int 0], .tup [.int 0, .int 0], .tup [.tup [.int 1, .int 1], .int 1]]
theorem rpi {i : Int} (h : i.natAbs < 2 ^ 400) : Rp 401 (.int i) (.int i) := rp_int h (by decide)
theorem dpi {i : Int} : (PyData.int i).depth ≤ 20 := by simp [PyData.depth]
theorem bad_2i {a b : Int} (ha : a.natAbs < 2 ^ 400) (hb : b.natAbs < 2 ^ 400) (no : isFr (.tup [.int a, .int b]) = false) : Bad (.tup [.int a, .int b]) :=
  ⟨⟨_, (rp_tup (rps_cons (rpi ha) dpi (rps_cons (rpi hb) dpi rps_nil))).1.le (by decide), by simp [PyData.depth, PyData.depthAll]⟩, no⟩
theorem odd_gcd {t : Int} (ht : 2 ≤ t) (a b : Int) : isFr (.tup [.int (t * a), .int (t * b)]) = false := by
  show (decide (1 ≤ t * b) && decide (Nat.gcd (t * a).natAbs (t * b).natAbs = 1)) = false
  have k : ¬ (Nat.gcd (t * a).natAbs (t * b).natAbs = 1) := fun h => by
    rw [Int.natAbs_mul, Int.natAbs_mul, Nat.gcd_mul_left] at h
    have := Nat.eq_one_of_mul_eq_one_right h
    omega
  rw [decide_eq_false k, Bool.and_false]
theorem odd_neg (q : Rat) : isFr (.tup [.int (0 - q.num), .int (0 - q.den)]) = false := by
  show (decide (1 ≤ (0 - (q.den : Int))) && _) = false
  rw [show decide (1 ≤ (0 - (q.den : Int))) = false by simp; omega]
  rfl
theorem rp_1 : Rp 1 (.str "1") (.str "1") := ⟨rfl, by decide +kernel, by decide +kernel, by decide +kernel, by decide +kernel⟩
theorem bads_bad {t : Int} {q : Rat} (ht : 2 ≤ t) (ht9 : t ≤ 9) (hq : Sz 300 q) : ∀ d ∈ bads t q, Bad d := by
  have up : (2 : Nat) ^ 300 * 16 ≤ 2 ^ 400 := by decide +kernel
  have hn := hq.num
  have hd := hq.den
  have hd2 : (q.den : Int).natAbs < 2 ^ 300 := hq.den
  have m9 : ∀ x : Int, x.natAbs < 2 ^ 300 → (t * x).natAbs < 2 ^ 400 := fun x hx => by
    rw [Int.natAbs_mul]
    have h9 : t.natAbs ≤ 16 := by omega
    have := Nat.mul_le_mul h9 (Nat.le_of_lt_succ (Nat.lt_succ_of_lt hx))
    have h3 : 16 * x.natAbs < 16 * 2 ^ 300 := by omega
    have h4 := Nat.mul_le_mul_right x.natAbs h9
    omega
  have w : ∀ x : Int, x.natAbs < 2 ^ 300 → x.natAbs < 2 ^ 400 := fun x hx => by omega
  have wn := w _ hn
  have wd := w _ hd2
  have one : (1 : Int).natAbs < 2 ^ 400 := by decide +kernel
  intro d hm
  simp only [bads, odds, List.mem_append, List.mem_cons, List.not_mem_nil, or_false] at hm
  rcases hm with (rfl | rfl | rfl | rfl | rfl | rfl | rfl) | rfl | rfl | rfl | rfl | rfl | rfl | rfl | rfl
  · exact bad_2i (m9 _ hn) (m9 _ hd2) (odd_gcd ht _ _)
  · exact bad_2i (w _ (by omega)) (w _ (by omega)) (odd_neg q)
  · exact ⟨⟨_, (rp_lst (rps_cons (rpi wn) dpi (rps_cons (rpi wd) dpi rps_nil))).1.le (by decide), by simp [PyData.depth, PyData.depthAll]⟩, rfl⟩
  · exact ⟨⟨_, (rp_tup (rps_cons (rpi wn) dpi (rps_cons (rpi wd) dpi (rps_cons (rpi one) dpi rps_nil)))).1.le (by decide), by simp [PyData.depth, PyData.depthAll]⟩, rfl⟩
  · exact ⟨⟨_, (rp_tup (rps_cons (rpi wn) dpi rps_nil)).1.le (by decide), by simp [PyData.depth, PyData.depthAll]⟩, rfl⟩
  · exact ⟨⟨_, (rp_tup (rps_cons (rpi wn) dpi (rps_cons (rp_bl true) (by simp [PyData.depth]) rps_nil))).1.le (by decide), by simp [PyData.depth, PyData.depthAll]⟩, rfl⟩
  · exact ⟨⟨_, (rp_tup (rps_cons (rp_bl true) (by simp [PyData.depth]) (rps_cons (rpi one) dpi rps_nil))).1.le (by decide), by simp [PyData.depth, PyData.depthAll]⟩, rfl⟩
  · exact ⟨⟨_, (rp_tup (rps_cons (rpi wn) dpi (rps_cons rp_1 (by simp [PyData.depth]) rps_nil))).1.le (by decide), by simp [PyData.depth, PyData.depthAll]⟩, rfl⟩
  · exact ⟨⟨_, rp_non.le (by decide), by simp [PyData.depth]⟩, rfl⟩
  · exact ⟨⟨_, (rpi wn).le (by decide), by simp [PyData.depth]⟩, rfl⟩
  · exact ⟨⟨_, rp_dic.le (by decide), by simp [PyData.depth, PyData.depthKv]⟩, rfl⟩
  · exact bad_2i (by decide +kernel) (by decide +kernel) (by decide +kernel)
  · exact bad_2i (by decide +kernel) (by decide +kernel) (by decide +kernel)
  · exact bad_2i (by decide +kernel) (by decide +kernel) (by decide +kernel)
  · exact ⟨⟨_, (rp_tup (rps_cons (rp_tup (rps_cons (rpi one) dpi (rps_cons (rpi one) dpi rps_nil))).1 (by simp [PyData.depth, PyData.depthAll]) (rps_cons (rpi one) dpi rps_nil))).1.le (by decide), by simp [PyData.depth, PyData.depthAll]⟩, rfl⟩
/-- the refused list [(1, 2), bad] -/
theorem bad_list {d : D} (h : Bad d) : ∃ p, Rp 1906 (.lst [.tup [.int 1, .int 2], d]) p ∧ p.depth ≤ 20 := by
  obtain ⟨p, r, z⟩ := h.rp
  have r12 : Rp 402 (.tup [.int 1, .int 2]) (.tuple [.int 1, .int 2]) := (rp_tup (rps_cons (rp_int (n := 2) (by decide) (by decide)) dpi (rps_cons (rp_int (n := 2) (by decide) (by decide)) dpi rps_nil))).1.le (by decide)
  exact ⟨_, (rp_lst (rps_cons r12 (by simp [PyData.depth, PyData.depthAll]) (rps_cons r (by omega) rps_nil))).1.le (by decide), by simp [PyData.depth, PyData.depthAll]; omega⟩
end K05
end
section
set_option maxRecDepth 100000
set_option maxHeartbeats 4000000
namespace K05
open PySem PySem.Spec PyProof.Rows L2 J
abbrev nKi : List Str := ["purse", "top", "under", "due", "times_v", "odd", "bad", "call"]
abbrev XK' (P : Program) (w : World) (K : PySem.W.Frag) (mg : Str → Option Value) (base : Heap) (f : Addr) (cdv : Value) (A : Around) (outer : List Env) (s0 : Shared) (H : Hp) (E : XK) : Cx := DX P w K mg base "_law_kinds_right" (topS 55) f nKi cdv A outer s0 H E
/-- the rows under `for bad in odd + ..` -/
abbrev badS : List Stmt := bodyOf ((defBody (topS 55)).getD 5 (.Pass ⟨0, 0, 0, 0⟩))
abbrev callS : List Stmt := bodyOf (badS.getD 1 (.Pass ⟨0, 0, 0, 0⟩))
abbrev callT : List Stmt := bodyOf (badS.getD 2 (.Pass ⟨0, 0, 0, 0⟩))
/-- a def that refuses a value that is no fraction -/
structure TwoR (P : Program) (w : World) (K : PySem.W.Frag) (mg : Str → Option Value) (base : Heap) (T : List (Addr × Str)) (CF : Addr) (fa : Addr) : Prop where
  ex : ∃ fd ps sp, FnG P w K mg base 6 fa fd ps (toV K T 2 sp) ∧ PySem.W.keepIn K (.ref fa) = true ∧ Binds K fd ps [] ∧ ∀ d : D, isFr d = false → d.py.isSome = true →
    (sp.pre [d, .non] ∧ (∀ r, ¬ sp.post [d, .non] r) ∧ ∀ C v, sp.exc [d, .non] C v → C = CF ∧ v = d) ∧
    (sp.pre [.tup [.int 1, .int 2], d] ∧ (∀ r, ¬ sp.post [.tup [.int 1, .int 2], d] r) ∧ ∀ C v, sp.exc [.tup [.int 1, .int 2], d] C v → C = CF ∧ v = d)
structure One' (P : Program) (w : World) (K : PySem.W.Frag) (mg : Str → Option Value) (base : Heap) (T : List (Addr × Str)) (CL : Addr) (fa : Addr) : Prop where
  ex : ∃ fd ps sp, FnG P w K mg base 6 fa fd ps (toV K T 1 sp) ∧ PySem.W.keepIn K (.ref fa) = true ∧ Binds K fd ps [] ∧ ∀ d : D, isFr d = false → d.py.isSome = true →
    (sp.pre [.lst [.tup [.int 1, .int 2], d]] ∧ (∀ r, ¬ sp.post [.lst [.tup [.int 1, .int 2], d]] r) ∧ ∀ C v, sp.exc [.lst [.tup [.int 1, .int 2], d]] C v → C = CL ∧ v = .lst [.tup [.int 1, .int 2], d])
section
variable {P : Program} {w : World} {K : PySem.W.Frag} {mg : Str → Option Value} {base : Heap} {T : List (Addr × Str)} {f : Addr} {fd : FuncData} {CF CL CN CS : Addr}
theorem sc_kindsR : FnScope nKi ["purse"] (defScope (topS 55)) := ⟨rfl, rfl, rfl, by decide +kernel, rfl, by decide +kernel, by decide +kernel⟩
section
variable {cc PP : Addr} {A : Around} {outer : List Env} {s0 : Shared} {H F : Hp} {E : XK} {ad fa : Addr} {g1 g2 g3 g4 g5 : Sl} {l6 : List D} {d : D} {D₀ : JD}
theorem refuse_two (RT : RefT P w K mg base T 6 CS (kd CF CL CN)) (TW : TwoR P w K mg base T CF fa) (hd : Bad d)
    (hr : RoomG 11 (A.deeper (envOfC "_law_kinds_right" (defScope (topS 55)) s0.heap.objs.size f (.ref cc)))) (TB : LamX.TabB base mg cc PP) (hm : (PP, (("_law_kinds_right" : Str) ++ ".<locals>." : Str) ++ "<lambda>") ∈ T) (hu : ∀ p ∈ T, p.1 = PP → p.2 = (("_law_kinds_right" : Str) ++ ".<locals>." : Str) ++ "<lambda>")
    (nx : D₀.nx [.own ad l6, g1, g2, g3, g4, g5, .val d, .val (.ref fa)]) :
    JSs (XK' P w K mg base f (.ref cc) A outer s0 H E) ⟨F, H, (· = ad), T⟩ callS [.own ad l6, g1, g2, g3, g4, g5, .val d, .val (.ref fa)] D₀ NoX := by
  obtain ⟨fd', ps, sp, FG, hk, hb, q⟩ := TW.ex
  obtain ⟨p, rp, dp⟩ := hd.rp
  obtain ⟨⟨a1, a2, a3⟩, b1, b2, b3⟩ := q d hd.no (by rw [rp.py]; rfl)
  refine jss_cons ?_
  refine js_if ?_
  refine jt_not ?_
  refine jt_val ?_
  refine je_refused (X := XK' P w K mg base f (.ref cc) A outer s0 H E) (c := ⟨F, H, (· = ad), T⟩) RT hr (by omega) (by rfl) (.inl ⟨rfl, rfl⟩) TB (by rfl) hm hu (LamX.lamS_by (by rfl)) (dv := d) (fun _ => v6 (d := d) ⟨rfl, rfl⟩) rp.py rp.sh (rp.len (by decide)) (Nat.le_trans rp.dp (by decide)) (fun A' outer' s' H' F' E' f' c' hr' => ?_) ?_
  · refine je_callL (i := 7) FG hr' (by omega) (by rfl) (by exact .inr (.inr rfl)) (by rfl) hk hb ?_
    refine ja_cons ?_
    refine v6 (d := d) ?_
    refine ja_cons ?_
    refine je_non ?_
    exact ja_nil ⟨rfl, a1, fun r h => (a2 r h).elim, fun C v h => a3 C v h⟩
  refine ⟨true, rfl, (fun z => nomatch z), fun _ => jss_nil ?_⟩
  refine jss_one ?_
  refine js_if ?_
  refine jt_not ?_
  refine jt_val ?_
  refine je_refused (X := XK' P w K mg base f (.ref cc) A outer s0 H E) (c := ⟨F, H, (· = ad), T⟩) RT hr (by omega) (by rfl) (.inl ⟨rfl, rfl⟩) TB (by rfl) hm hu (LamX.lamS_by (by rfl)) (dv := d) (fun _ => v6 (d := d) ⟨rfl, rfl⟩) rp.py rp.sh (rp.len (by decide)) (Nat.le_trans rp.dp (by decide)) (fun A' outer' s' H' F' E' f' c' hr' => ?_) ?_
  · refine je_callL (i := 7) FG hr' (by omega) (by rfl) (by exact .inr (.inr rfl)) (by rfl) hk hb ?_
    refine ja_cons ?_
    refine je_tup ?_
    refine ja_cons ?_
    refine je_int ?_
    refine ja_cons ?_
    refine je_int ?_
    refine ja_nil ⟨one_sz (show 2 ≤ 1000 by decide), ?_⟩
    refine ja_cons ?_
    refine v6 (d := d) ?_
    exact ja_nil ⟨rfl, b1, fun r h => (b2 r h).elim, fun C v h => b3 C v h⟩
  exact ⟨true, rfl, (fun z => nomatch z), fun _ => jss_nil nx⟩
end
end
end K05
end
section
set_option maxRecDepth 100000
set_option maxHeartbeats 4000000
namespace K05
open PySem PySem.Spec PyProof.Rows L2 J
section
variable {P : Program} {w : World} {K : PySem.W.Frag} {mg : Str → Option Value} {base : Heap} {T : List (Addr × Str)} {f : Addr} {fd : FuncData} {CF CL CN CS : Addr}
theorem fr12 : isFr (.tup [.int 1, .int 2]) = true := by decide +kernel
theorem not_rt {d : D} (h : isFr d = false) (q : Rat) : d ≠ rt q := fun e => by rw [e, isFr_rt] at h; cases h
/-- the four defs of two fractions -/
theorem exc_two {d : D} (hd : isFr d = false) : (∀ C v, excTwo CF d .non C v → C = CF ∧ v = d) ∧ (∀ C v, excTwo CF (.tup [.int 1, .int 2]) d C v → C = CF ∧ v = d) := by
  refine ⟨fun C v h => ?_, fun C v h => ?_⟩
  · obtain ⟨h1, ⟨_, h2⟩ | ⟨h2, _⟩⟩ := h
    · exact ⟨h1, h2⟩
    · rw [hd] at h2; cases h2
  · obtain ⟨h1, ⟨h2, _⟩ | ⟨_, _, h2⟩⟩ := h
    · rw [fr12] at h2; cases h2
    · exact ⟨h1, h2⟩
theorem two_less {g : Rat → Rat → D} {fa : Addr} {ps : List Str} {n : Str} (C : Cal P w K mg base T 6 n ps 2 (spLess CF g)) : ∃ fa, mg n = some (.ref fa) ∧ TwoR P w K mg base T CF fa := by
  obtain ⟨fa, fd, h1, h2, h3, h4⟩ := C.ex
  refine ⟨fa, h1, ⟨fd, ps, _, h4, h2, h3, fun d hd hp => ⟨⟨⟨hp, rfl, fun p q e => (not_rt hd p e).elim⟩, fun r ⟨p, q, e, _⟩ => not_rt hd p e, (exc_two hd).1⟩, ⟨rfl, hp, fun p q _ e => (not_rt hd q e).elim⟩, fun r ⟨p, q, _, e, _⟩ => not_rt hd q e, (exc_two hd).2⟩⟩⟩
theorem two_share {ps : List Str} {n : Str} (C : Cal P w K mg base T 6 n ps 2 (spShare CF)) : ∃ fa, mg n = some (.ref fa) ∧ TwoR P w K mg base T CF fa := by
  obtain ⟨fa, fd, h1, h2, h3, h4⟩ := C.ex
  refine ⟨fa, h1, ⟨fd, ps, _, h4, h2, h3, fun d hd hp => ⟨⟨⟨hp, rfl, fun p q e => (not_rt hd p e).elim⟩, fun r ⟨p, q, e, _⟩ => not_rt hd p e, fun C v h => h.elim ((exc_two hd).1 C v) fun ⟨z, _⟩ => by rw [hd] at z; cases z⟩, ⟨rfl, hp, fun p q _ e => (not_rt hd q e).elim⟩, fun r ⟨p, q, _, e, _⟩ => not_rt hd q e, fun C v h => h.elim ((exc_two hd).2 C v) fun ⟨_, _, z, _⟩ => (not_rt hd 0 z).elim⟩⟩⟩
theorem two_simp {ps : List Str} {n : Str} (C : Cal P w K mg base T 6 n ps 2 (spSimp CF)) : ∃ fa, mg n = some (.ref fa) ∧ TwoR P w K mg base T CF fa := by
  obtain ⟨fa, fd, h1, h2, h3, h4⟩ := C.ex
  refine ⟨fa, h1, ⟨fd, ps, _, h4, h2, h3, fun d hd hp => ⟨⟨⟨hp, rfl, fun p q e => (not_rt hd p e).elim⟩, fun r ⟨p, q, _, e, _⟩ => not_rt hd p e, fun C v h => h.elim ((exc_two hd).1 C v) fun ⟨_, _, p, q, z, _⟩ => (not_rt hd p z).elim⟩, ⟨rfl, hp, fun p q _ e => (not_rt hd q e).elim⟩, fun r ⟨p, q, _, _, e, _⟩ => not_rt hd q e, fun C v h => h.elim ((exc_two hd).2 C v) fun ⟨_, _, p, q, _, z, _⟩ => (not_rt hd q z).elim⟩⟩⟩
theorem one_all {g : List Rat → Rat} {ps : List Str} {n : Str} (C : Cal P w K mg base T 6 n ps 1 (spAll CL g)) : ∃ fa, mg n = some (.ref fa) ∧ One' P w K mg base T CL fa := by
  obtain ⟨fa, fd, h1, h2, h3, h4⟩ := C.ex
  refine ⟨fa, h1, ⟨fd, ps, _, h4, h2, h3, fun d hd hp => ?_⟩⟩
  have nol : isFrL (.lst [.tup [.int 1, .int 2], d]) = false := by
    show ([.tup [.int 1, .int 2], d] : List D).all isFr = false
    simp [hd]
  refine ⟨⟨?_, show 2 ≤ 1000 by decide, fun qs e => ?_⟩, fun r h => ?_, fun C v ⟨_, a, b⟩ => ⟨a, b⟩⟩
  · obtain ⟨p, ep⟩ := Option.isSome_iff_exists.mp hp
    simp only [D.py, D.pyL, ep]; rfl
  · rw [e] at nol
    have : isFrL (.lst (qs.map rt)) = true := by
      show (qs.map rt).all isFr = true
      rw [List.all_eq_true]
      intro x hx
      obtain ⟨q, _, rfl⟩ := List.mem_map.mp hx
      exact isFr_rt q
    rw [this] at nol
    cases nol
  · have := h.1
    rw [nol] at this
    cases this
section
variable {cc PP : Addr} {A : Around} {outer : List Env} {s0 : Shared} {H F : Hp} {E : XK} {ad fa : Addr} {g1 g2 g3 g4 g5 : Sl} {l6 : List D} {d : D} {D₀ : JD}
theorem refuse_one (RT : RefT P w K mg base T 6 CS (kd CF CL CN)) (TW : One' P w K mg base T CL fa) (hd : Bad d)
    (hr : RoomG 11 (A.deeper (envOfC "_law_kinds_right" (defScope (topS 55)) s0.heap.objs.size f (.ref cc)))) (TB : LamX.TabB base mg cc PP) (hm : (PP, (("_law_kinds_right" : Str) ++ ".<locals>." : Str) ++ "<lambda>") ∈ T) (hu : ∀ p ∈ T, p.1 = PP → p.2 = (("_law_kinds_right" : Str) ++ ".<locals>." : Str) ++ "<lambda>")
    (nx : D₀.nx [.own ad l6, g1, g2, g3, g4, g5, .val d, .val (.ref fa)]) :
    JSs (XK' P w K mg base f (.ref cc) A outer s0 H E) ⟨F, H, (· = ad), T⟩ callT [.own ad l6, g1, g2, g3, g4, g5, .val d, .val (.ref fa)] D₀ NoX := by
  obtain ⟨fd', ps, sp, FG, hk, hb, q⟩ := TW.ex
  obtain ⟨p0, rp0, dp0⟩ := hd.rp
  obtain ⟨p, rp, dp⟩ := bad_list hd
  obtain ⟨a1, a2, a3⟩ := q d hd.no (by rw [rp0.py]; rfl)
  refine jss_one ?_
  refine js_if ?_
  refine jt_not ?_
  refine jt_val ?_
  refine je_refused (X := XK' P w K mg base f (.ref cc) A outer s0 H E) (c := ⟨F, H, (· = ad), T⟩) RT hr (by omega) (by rfl) (.inr (.inl ⟨rfl, rfl⟩)) TB (by rfl) hm hu (LamX.lamS_by (by rfl)) (dv := .lst [.tup [.int 1, .int 2], d]) (fun _ => je_lst (ja_cons (je_tup (ja_cons (je_int (ja_cons (je_int (ja_nil ⟨one_sz (show 2 ≤ 1000 by decide), ja_cons (v6 (d := d) (ja_nil ⟨one_sz (show 2 ≤ 1000 by decide), rfl, rfl⟩))⟩)))))))) rp.py rp.sh (rp.len (by decide)) (Nat.le_trans rp.dp (by decide)) (fun A' outer' s' H' F' E' f' c' hr' => ?_) ?_
  · refine je_callL (i := 7) FG hr' (by omega) (by rfl) (by exact .inr (.inr rfl)) (by rfl) hk hb ?_
    refine ja_cons ?_
    refine je_lst ?_
    refine ja_cons ?_
    refine je_tup ?_
    refine ja_cons ?_
    refine je_int ?_
    refine ja_cons ?_
    refine je_int ?_
    refine ja_nil ⟨one_sz (show 2 ≤ 1000 by decide), ?_⟩
    refine ja_cons ?_
    refine v6 (d := d) ?_
    refine ja_nil ⟨one_sz (show 2 ≤ 1000 by decide), ?_⟩
    exact ja_nil ⟨rfl, a1, fun r h => (a2 r h).elim, fun C v h => a3 C v h⟩
  exact ⟨true, rfl, (fun z => nomatch z), fun _ => jss_nil nx⟩
end
end
end K05
end
section
set_option maxRecDepth 100000
set_option maxHeartbeats 4000000
namespace K05
open PySem PySem.Spec PyProof.Rows L2 J
theorem je_fn {X : Cx} {c : JC} {G : List Sl} {Ex : XQ} {pos : Pos} {Q : D → List Sl → Prop} {x : Str} {fa : Addr} (hg : Gl X x) (hm : X.mg x = some (.ref fa)) (q : Q (.ref fa) G) (hd : (x == ("__debug__" : Str)) = false := by decide) : JE X c (.Name x pos) G Q Ex :=
  je_glob (d := .ref fa) (v := .ref fa) hg hm rfl (fun _ => rfl) q hd
section
variable {P : Program} {w : World} {K : PySem.W.Frag} {mg : Str → Option Value} {base : Heap} {T : List (Addr × Str)} {f : Addr} {fd : FuncData} {CF CL CN CS : Addr}
section
variable {cc PP : Addr} {A : Around} {outer : List Env} {s0 : Shared} {H F : Hp} {E : XK} {ad : Addr} {g1 g2 g3 g4 g5 g7 : Sl} {l6 : List D} {d : D} {D₀ : JD} {a1 a2 a3 a4 b1 b2 : Addr}
theorem bad_row (RT : RefT P w K mg base T 6 CS (kd CF CL CN)) (F1 : Cal P w K mg base T 3 "is_fraction" ["value"] 1 spFr) (F2 : CalK P w K mg base T 3 "is_fraction" ["value"] ["value"] 1 (fun l => l) spFr)
    (m1 : mg "less" = some (.ref a1)) (m2 : mg "share" = some (.ref a2)) (m3 : mg "is_less" = some (.ref a3)) (m4 : mg "simplest" = some (.ref a4)) (m5 : mg "sum_of" = some (.ref b1)) (m6 : mg "product_of" = some (.ref b2))
    (t1 : TwoR P w K mg base T CF a1) (t2 : TwoR P w K mg base T CF a2) (t3 : TwoR P w K mg base T CF a3) (t4 : TwoR P w K mg base T CF a4) (o1 : One' P w K mg base T CL b1) (o2 : One' P w K mg base T CL b2) (hd : Bad d)
    (hr : RoomG 11 (A.deeper (envOfC "_law_kinds_right" (defScope (topS 55)) s0.heap.objs.size f (.ref cc)))) (TB : LamX.TabB base mg cc PP) (hm : (PP, (("_law_kinds_right" : Str) ++ ".<locals>." : Str) ++ "<lambda>") ∈ T) (hu : ∀ p ∈ T, p.1 = PP → p.2 = (("_law_kinds_right" : Str) ++ ".<locals>." : Str) ++ "<lambda>")
    (nx : ∀ h7, D₀.nx [.own ad l6, g1, g2, g3, g4, g5, .val d, h7]) :
    JSs (XK' P w K mg base f (.ref cc) A outer s0 H E) ⟨F, H, (· = ad), T⟩ badS [.own ad l6, g1, g2, g3, g4, g5, .val d, g7] D₀ NoX := by
  have hp : d.py.isSome = true := by
    obtain ⟨p, rp, _⟩ := hd.rp
    rw [rp.py]; rfl
  refine jss_cons ?_
  refine js_if ?_
  refine jt_w ?_
  refine jw_or ?_
  refine jt_notB ?_
  refine je_call F1 hr (by omega) (by rfl) ?_
  refine ja_cons ?_
  refine v6 (d := d) ?_
  refine ja_nil ⟨rfl, hp, fun r h => ?_, fun _ _ z => z.elim⟩
  obtain rfl := (show r = .bl (isFr d) from h)
  rw [hd.no]
  refine ⟨fun _ => ?_, fun z => nomatch z⟩
  refine jw_or1 ?_
  refine jt_notB ?_
  refine je_k F2 hr (by omega) (by rfl) (fun _ r => r) ?_
  refine jk_cons ?_
  refine v6 (d := d) ?_
  refine jk_nil ⟨rfl, rfl, hp, fun r h => ?_, fun _ _ z => z.elim⟩
  obtain rfl := (show r = .bl (isFr d) from h)
  rw [hd.no]
  refine ⟨(fun z => nomatch z), fun _ => jss_nil ?_⟩
  refine jss_cons ?_
  refine js_forL (i := 7) (by exact passes_of rfl) (by rfl) sc_kindsR.nd (by rfl) (by exact .inr rfl) ?_
  refine je_lst ?_
  refine ja_cons ?_
  refine je_fn (fa := a1) (by rfl) m1 ?_
  refine ja_cons ?_
  refine je_fn (fa := a2) (by rfl) m2 ?_
  refine ja_cons ?_
  refine je_fn (fa := a3) (by rfl) m3 ?_
  refine ja_cons ?_
  refine je_fn (fa := a4) (by rfl) m4 ?_
  refine ja_nil ⟨one_sz (show 4 ≤ 1000 by decide), _, rfl, fun t G => ∃ s7, G = [.own ad l6, g1, g2, g3, g4, g5, .val d, s7], ⟨_, rfl⟩, ?_, ?_⟩
  · rintro t y G2 hy ⟨s7, rfl⟩
    have hy := List.mem_of_getElem? hy
    simp only [List.mem_cons, List.not_mem_nil, or_false] at hy
    refine ⟨show 7 < 8 by decide, ?_⟩
    rcases hy with rfl | rfl | rfl | rfl
    · exact refuse_two RT t1 hd hr TB hm hu ⟨_, rfl⟩
    · exact refuse_two RT t2 hd hr TB hm hu ⟨_, rfl⟩
    · exact refuse_two RT t3 hd hr TB hm hu ⟨_, rfl⟩
    · exact refuse_two RT t4 hd hr TB hm hu ⟨_, rfl⟩
  rintro G2 ⟨s7, rfl⟩
  refine jss_one ?_
  refine js_forL (i := 7) (by exact passes_of rfl) (by rfl) sc_kindsR.nd (by rfl) (by exact .inr rfl) ?_
  refine je_lst ?_
  refine ja_cons ?_
  refine je_fn (fa := b1) (by rfl) m5 ?_
  refine ja_cons ?_
  refine je_fn (fa := b2) (by rfl) m6 ?_
  refine ja_nil ⟨one_sz (show 2 ≤ 1000 by decide), _, rfl, fun t G => ∃ s7, G = [.own ad l6, g1, g2, g3, g4, g5, .val d, s7], ⟨_, rfl⟩, ?_, ?_⟩
  · rintro t y G2 hy ⟨s7, rfl⟩
    have hy := List.mem_of_getElem? hy
    simp only [List.mem_cons, List.not_mem_nil, or_false] at hy
    refine ⟨show 7 < 8 by decide, ?_⟩
    rcases hy with rfl | rfl
    · exact refuse_one RT o1 hd hr TB hm hu ⟨_, rfl⟩
    · exact refuse_one RT o2 hd hr TB hm hu ⟨_, rfl⟩
  rintro G2 ⟨s7, rfl⟩
  exact nx _
end
end
end K05
end
section
set_option maxRecDepth 100000
set_option maxHeartbeats 4000000
namespace K05
open PySem PySem.Spec PyProof.Rows L2 J
abbrev numS : List Stmt := bodyOf ((defBody (topS 55)).getD 6 (.Pass ⟨0, 0, 0, 0⟩))
abbrev lstS : List Stmt := bodyOf ((defBody (topS 55)).getD 7 (.Pass ⟨0, 0, 0, 0⟩))
/-- a value that is no number, its repr short -/
structure BadN (d : D) : Prop where
  rp : ∃ p, Rp 1500 d p
  no : isNum d = false
structure BadL (d : D) : Prop where
  rp : ∃ p, Rp 1500 d p
  no : isFrL d = false
  nl : ∀ l, d ≠ .lst l
def badNs : List D := [.non, .bl true, .str "1", .tup [.int 1, .int 1], .lst [.int 3]]
def badLs : List D := [.non, .tup [.tup [.int 1, .int 2]], .dic [] [], .str "some", .tup [.int 1, .int 2]]
theorem rpk {i : Int} (h : i.natAbs < 2 ^ 3) : Rp 4 (.int i) (.int i) := rp_int h (by decide)
theorem badNs_bad : ∀ d ∈ badNs, BadN d := by
  intro d hm
  simp only [badNs, List.mem_cons, List.not_mem_nil, or_false] at hm
  rcases hm with rfl | rfl | rfl | rfl | rfl
  · exact ⟨⟨_, rp_non.le (by decide)⟩, rfl⟩
  · exact ⟨⟨_, (rp_bl true).le (by decide)⟩, rfl⟩
  · exact ⟨⟨_, rp_1.le (by decide)⟩, rfl⟩
  · exact ⟨⟨_, (rp_tup (rps_cons (rpk (by decide)) dpi (rps_cons (rpk (by decide)) dpi rps_nil))).1.le (by decide)⟩, rfl⟩
  · exact ⟨⟨_, (rp_lst (rps_cons (rpk (by decide)) dpi rps_nil)).1.le (by decide)⟩, rfl⟩
theorem rp_some : Rp 4 (.str "some") (.str "some") := ⟨rfl, by decide +kernel, by decide +kernel, by decide +kernel, by decide +kernel⟩
theorem badLs_bad : ∀ d ∈ badLs, BadL d := by
  intro d hm
  simp only [badLs, List.mem_cons, List.not_mem_nil, or_false] at hm
  have r12 : Rp 10 (.tup [.int 1, .int 2]) (.tuple [.int 1, .int 2]) := (rp_tup (rps_cons (rpk (by decide)) dpi (rps_cons (rpk (by decide)) dpi rps_nil))).1.le (by decide)
  rcases hm with rfl | rfl | rfl | rfl | rfl
  · exact ⟨⟨_, rp_non.le (by decide)⟩, rfl, fun l z => nomatch z⟩
  · exact ⟨⟨_, (rp_tup (rps_cons r12 (by simp [PyData.depth, PyData.depthAll]) rps_nil)).1.le (by decide)⟩, rfl, fun l z => nomatch z⟩
  · exact ⟨⟨_, rp_dic.le (by decide)⟩, rfl, fun l z => nomatch z⟩
  · exact ⟨⟨_, rp_some.le (by decide)⟩, rfl, fun l z => nomatch z⟩
  · exact ⟨⟨_, r12.le (by decide)⟩, rfl, fun l z => nomatch z⟩
theorem okL_of {d : D} (h : ∀ l, d ≠ .lst l) : okL d := by
  cases d <;> first | trivial | exact (h _ rfl).elim
section
variable {P : Program} {w : World} {K : PySem.W.Frag} {mg : Str → Option Value} {base : Heap} {T : List (Addr × Str)} {f : Addr} {fd : FuncData} {CF CL CN CS : Addr}
section
variable {cc PP : Addr} {A : Around} {outer : List Env} {s0 : Shared} {H F : Hp} {E : XK} {ad : Addr} {g1 g2 g3 g4 g5 g7 : Sl} {l6 : List D} {d : D} {D₀ : JD}
theorem refuse_num (RT : RefT P w K mg base T 6 CS (kd CF CL CN)) (N1 : Cal P w K mg base T 6 "fraction_of" ["top", "under"] 2 (spFrac CN)) (hd : BadN d)
    (hr : RoomG 11 (A.deeper (envOfC "_law_kinds_right" (defScope (topS 55)) s0.heap.objs.size f (.ref cc)))) (TB : LamX.TabB base mg cc PP) (hm : (PP, (("_law_kinds_right" : Str) ++ ".<locals>." : Str) ++ "<lambda>") ∈ T) (hu : ∀ p ∈ T, p.1 = PP → p.2 = (("_law_kinds_right" : Str) ++ ".<locals>." : Str) ++ "<lambda>")
    (nx : D₀.nx [.own ad l6, g1, g2, g3, g4, g5, .val d, g7]) :
    JSs (XK' P w K mg base f (.ref cc) A outer s0 H E) ⟨F, H, (· = ad), T⟩ numS [.own ad l6, g1, g2, g3, g4, g5, .val d, g7] D₀ NoX := by
  obtain ⟨p, rp⟩ := hd.rp
  have hp : d.py.isSome = true := by rw [rp.py]; rfl
  have hn := hd.no
  have ni : ∀ i, d ≠ .int i := fun i e => by rw [e] at hn; cases hn
  refine jss_cons ?_
  refine js_if ?_
  refine jt_not ?_
  refine jt_val ?_
  refine je_refused (X := XK' P w K mg base f (.ref cc) A outer s0 H E) (c := ⟨F, H, (· = ad), T⟩) RT hr (by omega) (by rfl) (.inr (.inr ⟨rfl, rfl⟩)) TB (by rfl) hm hu (LamX.lamS_by (by rfl)) (dv := d) (fun _ => v6 (d := d) ⟨rfl, rfl⟩) rp.py rp.sh (rp.len (by decide)) (Nat.le_trans rp.dp (by decide)) (fun A' outer' s' H' F' E' f' c' hr' => ?_) ?_
  · refine je_call N1 hr' (by omega) (by rfl) (ja_cons (v6 (d := d) (ja_cons (je_non (ja_nil ⟨rfl, ⟨hp, rfl, fun j z => nomatch z⟩, fun r h => ?_, fun C v h => ?_⟩)))))
    · obtain ⟨i, j, e, _⟩ := h
      exact ni i e
    · obtain ⟨h1, ⟨_, h2⟩ | ⟨h2, _⟩⟩ := h
      · exact ⟨h1, h2⟩
      · rw [hn] at h2; cases h2
  refine ⟨true, rfl, (fun z => nomatch z), fun _ => jss_nil ?_⟩
  refine jss_one ?_
  refine js_if ?_
  refine jt_not ?_
  refine jt_val ?_
  refine je_refused (X := XK' P w K mg base f (.ref cc) A outer s0 H E) (c := ⟨F, H, (· = ad), T⟩) RT hr (by omega) (by rfl) (.inr (.inr ⟨rfl, rfl⟩)) TB (by rfl) hm hu (LamX.lamS_by (by rfl)) (dv := d) (fun _ => v6 (d := d) ⟨rfl, rfl⟩) rp.py rp.sh (rp.len (by decide)) (Nat.le_trans rp.dp (by decide)) (fun A' outer' s' H' F' E' f' c' hr' => ?_) ?_
  · refine je_call N1 hr' (by omega) (by rfl) ?_
    refine ja_cons ?_
    refine je_int ?_
    refine ja_cons ?_
    refine v6 (d := d) ?_
    refine ja_nil ⟨rfl, ⟨rfl, hp, fun j z => (ni j z).elim⟩, fun r h => ?_, fun C v h => ?_⟩
    · obtain ⟨i, j, _, e, _⟩ := h
      exact ni j e
    · obtain ⟨h1, ⟨h2, _⟩ | ⟨_, _, h2⟩⟩ := h
      · cases h2
      · exact ⟨h1, h2⟩
  exact ⟨true, rfl, (fun z => nomatch z), fun _ => jss_nil nx⟩
theorem refuse_lst (RT : RefT P w K mg base T 6 CS (kd CF CL CN)) (S1 : Cal P w K mg base T 6 "sum_of" ["some"] 1 (spAll CL sumQ)) (S2 : Cal P w K mg base T 6 "product_of" ["some"] 1 (spAll CL prodQ)) (hd : BadL d)
    (hr : RoomG 11 (A.deeper (envOfC "_law_kinds_right" (defScope (topS 55)) s0.heap.objs.size f (.ref cc)))) (TB : LamX.TabB base mg cc PP) (hm : (PP, (("_law_kinds_right" : Str) ++ ".<locals>." : Str) ++ "<lambda>") ∈ T) (hu : ∀ p ∈ T, p.1 = PP → p.2 = (("_law_kinds_right" : Str) ++ ".<locals>." : Str) ++ "<lambda>")
    (nx : D₀.nx [.own ad l6, g1, g2, g3, g4, g5, .val d, g7]) :
    JSs (XK' P w K mg base f (.ref cc) A outer s0 H E) ⟨F, H, (· = ad), T⟩ lstS [.own ad l6, g1, g2, g3, g4, g5, .val d, g7] D₀ NoX := by
  obtain ⟨p, rp⟩ := hd.rp
  have hp : d.py.isSome = true := by rw [rp.py]; rfl
  have hn := hd.no
  have ok : okSz d := ⟨okL_of hd.nl, fun qs e => (hd.nl _ e).elim⟩
  refine jss_cons ?_
  refine js_if ?_
  refine jt_not ?_
  refine jt_val ?_
  refine je_refused (X := XK' P w K mg base f (.ref cc) A outer s0 H E) (c := ⟨F, H, (· = ad), T⟩) RT hr (by omega) (by rfl) (.inr (.inl ⟨rfl, rfl⟩)) TB (by rfl) hm hu (LamX.lamS_by (by rfl)) (dv := d) (fun _ => v6 (d := d) ⟨rfl, rfl⟩) rp.py rp.sh (rp.len (by decide)) (Nat.le_trans rp.dp (by decide)) (fun A' outer' s' H' F' E' f' c' hr' => ?_) ?_
  · refine je_call S1 hr' (by omega) (by rfl) ?_
    refine ja_cons ?_
    refine v6 (d := d) ?_
    refine ja_nil ⟨rfl, ⟨hp, ok⟩, fun r h => ?_, fun C v ⟨_, a, b⟩ => ⟨a, b⟩⟩
    have := h.1
    rw [hn] at this; cases this
  refine ⟨true, rfl, (fun z => nomatch z), fun _ => jss_nil ?_⟩
  refine jss_one ?_
  refine js_if ?_
  refine jt_not ?_
  refine jt_val ?_
  refine je_refused (X := XK' P w K mg base f (.ref cc) A outer s0 H E) (c := ⟨F, H, (· = ad), T⟩) RT hr (by omega) (by rfl) (.inr (.inl ⟨rfl, rfl⟩)) TB (by rfl) hm hu (LamX.lamS_by (by rfl)) (dv := d) (fun _ => v6 (d := d) ⟨rfl, rfl⟩) rp.py rp.sh (rp.len (by decide)) (Nat.le_trans rp.dp (by decide)) (fun A' outer' s' H' F' E' f' c' hr' => ?_) ?_
  · refine je_call S2 hr' (by omega) (by rfl) ?_
    refine ja_cons ?_
    refine v6 (d := d) ?_
    refine ja_nil ⟨rfl, ⟨hp, ok⟩, fun r h => ?_, fun C v ⟨_, a, b⟩ => ⟨a, b⟩⟩
    have := h.1
    rw [hn] at this; cases this
  exact ⟨true, rfl, (fun z => nomatch z), fun _ => jss_nil nx⟩
end
end
end K05
end
section
set_option maxRecDepth 100000
set_option maxHeartbeats 4000000
namespace K05
open PySem PySem.Spec PyProof.Rows L2 J
section
variable {P : Program} {w : World} {K : PySem.W.Frag} {mg : Str → Option Value} {base : Heap} {T : List (Addr × Str)} {f : Addr} {fd : FuncData} {CF CL CN CS : Addr}
theorem kinds_tail {cc PP ad : Addr} {A : Around} {outer : List Env} {s0 : Shared} {H F : Hp} {E : XK} {l3 : List D} {j u t : Int} {q : Rat}
    (RT : RefT P w K mg base T 6 CS (kd CF CL CN)) (N1 : Cal P w K mg base T 6 "fraction_of" ["top", "under"] 2 (spFrac CN)) (F1 : Cal P w K mg base T 3 "is_fraction" ["value"] 1 spFr)
    (F2 : CalK P w K mg base T 3 "is_fraction" ["value"] ["value"] 1 (fun l => l) spFr)
    {a1 a2 a3 a4 b1 b2 : Addr} (m1 : mg "less" = some (.ref a1)) (m2 : mg "share" = some (.ref a2)) (m3 : mg "is_less" = some (.ref a3)) (m4 : mg "simplest" = some (.ref a4)) (m5 : mg "sum_of" = some (.ref b1)) (m6 : mg "product_of" = some (.ref b2))
    (t1 : TwoR P w K mg base T CF a1) (t2 : TwoR P w K mg base T CF a2) (t3 : TwoR P w K mg base T CF a3) (t4 : TwoR P w K mg base T CF a4) (o1 : One' P w K mg base T CL b1) (o2 : One' P w K mg base T CL b2)
    (S1 : Cal P w K mg base T 6 "sum_of" ["some"] 1 (spAll CL sumQ)) (S2 : Cal P w K mg base T 6 "product_of" ["some"] 1 (spAll CL prodQ))
    (tt0 : 2 ≤ t) (tt1 : t ≤ 9) (hq : Sz 300 q) (hr : RoomG 11 (A.deeper (envOfC "_law_kinds_right" (defScope (topS 55)) s0.heap.objs.size f (.ref cc)))) (TB : LamX.TabB base mg cc PP) (hm : (PP, (("_law_kinds_right" : Str) ++ ".<locals>." : Str) ++ "<lambda>") ∈ T) (hu : ∀ p ∈ T, p.1 = PP → p.2 = (("_law_kinds_right" : Str) ++ ".<locals>." : Str) ++ "<lambda>")
    (D₀ : JD) (hq0 : ∀ s6 s7, D₀.rt (.bl true) [.own ad l3, .val (.int j), .val (.int u), .val (rt q), .val (.int t), .val (.lst (odds t q)), s6, s7]) :
    JSs (XK' P w K mg base f (.ref cc) A outer s0 H E) ⟨F, H, (· = ad), T⟩ ((defBody (topS 55)).drop 5) [.own ad l3, .val (.int j), .val (.int u), .val (rt q), .val (.int t), .val (.lst (odds t q)), .no, .no] D₀ NoX := by
  refine jss_cons ?_
  refine js_forL (i := 6) ?hp0 ?hc0 ?hN0 ?hi0 ?hx0 ?h0 ?hf0 ?hs0
  case hp0 => exact passes_of rfl
  case hc0 => exact rfl
  case hN0 => exact sc_kindsR.nd
  case hi0 => exact rfl
  case hx0 => exact .inr rfl
  case hf0 => first | exact .inl rfl | exact .inr rfl
  case hs0 => intro _; rfl
  refine JE.of_air (jn_cat ?_)
  refine v5 (d := .lst (odds t q)) ⟨_, rfl, ?_⟩
  refine je_lst ?_
  refine ja_cons ?_
  refine je_tup ?_
  refine ja_cons ?_
  refine je_ix ?_
  refine v3 (d := rt q) ⟨rfl, ?_⟩
  refine je_int ⟨_, _, rfl, rfl, ?_⟩
  refine ja_cons ?_
  refine je_str ?_
  refine ja_nil ⟨one_sz (show 2 ≤ 1000 by decide), ?_⟩
  refine ja_cons ?_
  refine je_non ?_
  refine ja_cons ?_
  refine je_ix ?_
  refine v3 (d := rt q) ⟨rfl, ?_⟩
  refine je_int ⟨_, _, rfl, rfl, ?_⟩
  refine ja_cons ?_
  refine je_emp ?_
  refine ja_cons ?_
  refine je_tup ?_
  refine ja_cons ?_
  refine je_int ?_
  refine ja_cons ?_
  refine je_int ?_
  refine ja_nil ⟨one_sz (show 2 ≤ 1000 by decide), ?_⟩
  refine ja_cons ?_
  refine je_tup ?_
  refine ja_cons ?_
  refine je_int ?_
  refine ja_cons ?_
  refine je_int ?_
  refine ja_nil ⟨one_sz (show 2 ≤ 1000 by decide), ?_⟩
  refine ja_cons ?_
  refine je_tup ?_
  refine ja_cons ?_
  refine je_int ?_
  refine ja_cons ?_
  refine je_int ?_
  refine ja_nil ⟨one_sz (show 2 ≤ 1000 by decide), ?_⟩
  refine ja_cons ?_
  refine je_tup ?_
  refine ja_cons ?_
  refine je_tup ?_
  refine ja_cons ?_
  refine je_int ?_
  refine ja_cons ?_
  refine je_int ?_
  refine ja_nil ⟨one_sz (show 2 ≤ 1000 by decide), ?_⟩
  refine ja_cons ?_
  refine je_int ?_
  refine ja_nil ⟨one_sz (show 2 ≤ 1000 by decide), ?_⟩
  refine ja_nil ⟨one_sz (show 8 ≤ 1000 by decide), ?_⟩
  refine ⟨_, rfl, one_sz (show 7 + 8 ≤ 1000 by decide), fun p5 => ?_⟩
  refine ⟨_, rfl, fun _ G => ∃ s6 s7, G = [.own ad l3, .val (.int j), .val (.int u), .val (rt q), .val (.int t), .val (.lst (odds t q)), s6, s7], ⟨_, _, rfl⟩, ?_, ?_⟩
  · rintro n y G2 hy ⟨s6, s7, rfl⟩
    have bb := bads_bad (t := t) (q := q) tt0 tt1 hq
    exact ⟨show 6 < 8 by decide, bad_row RT F1 F2 m1 m2 m3 m4 m5 m6 t1 t2 t3 t4 o1 o2 (bb y (List.mem_of_getElem? hy)) hr TB hm hu fun h7 => ⟨_, _, rfl⟩⟩
  rintro G2 ⟨s6, s7, rfl⟩
  refine jss_cons ?_
  refine js_forL (i := 6) ?hp1 ?hc1 ?hN1 ?hi1 ?hx1 ?h1 ?hf1 ?hs1
  case hp1 => exact passes_of rfl
  case hc1 => exact rfl
  case hN1 => exact sc_kindsR.nd
  case hi1 => exact rfl
  case hx1 => exact .inr rfl
  case hf1 => first | exact .inl rfl | exact .inr rfl
  case hs1 => intro _; rfl
  refine je_lst ?_
  refine ja_cons ?_
  refine je_non ?_
  refine ja_cons ?_
  refine je_bl ?_
  refine ja_cons ?_
  refine je_str ?_
  refine ja_cons ?_
  refine je_tup ?_
  refine ja_cons ?_
  refine je_int ?_
  refine ja_cons ?_
  refine je_int ?_
  refine ja_nil ⟨one_sz (show 2 ≤ 1000 by decide), ?_⟩
  refine ja_cons ?_
  refine je_lst ?_
  refine ja_cons ?_
  refine je_int ?_
  refine ja_nil ⟨one_sz (show 1 ≤ 1000 by decide), ?_⟩
  refine ja_nil ⟨one_sz (show 5 ≤ 1000 by decide), ?_⟩
  refine ⟨_, rfl, fun _ G => ∃ s6 s7, G = [.own ad l3, .val (.int j), .val (.int u), .val (rt q), .val (.int t), .val (.lst (odds t q)), s6, s7], ⟨_, _, rfl⟩, ?_, ?_⟩
  · rintro n y G2 hy ⟨s6, s7, rfl⟩
    exact ⟨show 6 < 8 by decide, refuse_num RT N1 (badNs_bad y (List.mem_of_getElem? hy)) hr TB hm hu ⟨_, _, rfl⟩⟩
  rintro G2 ⟨s6, s7, rfl⟩
  refine jss_cons ?_
  refine js_forL (i := 6) ?hp2 ?hc2 ?hN2 ?hi2 ?hx2 ?h2 ?hf2 ?hs2
  case hp2 => exact passes_of rfl
  case hc2 => exact rfl
  case hN2 => exact sc_kindsR.nd
  case hi2 => exact rfl
  case hx2 => exact .inr rfl
  case hf2 => first | exact .inl rfl | exact .inr rfl
  case hs2 => intro _; rfl
  refine je_lst ?_
  refine ja_cons ?_
  refine je_non ?_
  refine ja_cons ?_
  refine je_tup ?_
  refine ja_cons ?_
  refine je_tup ?_
  refine ja_cons ?_
  refine je_int ?_
  refine ja_cons ?_
  refine je_int ?_
  refine ja_nil ⟨one_sz (show 2 ≤ 1000 by decide), ?_⟩
  refine ja_nil ⟨one_sz (show 1 ≤ 1000 by decide), ?_⟩
  refine ja_cons ?_
  refine je_emp ?_
  refine ja_cons ?_
  refine je_str ?_
  refine ja_cons ?_
  refine je_tup ?_
  refine ja_cons ?_
  refine je_int ?_
  refine ja_cons ?_
  refine je_int ?_
  refine ja_nil ⟨one_sz (show 2 ≤ 1000 by decide), ?_⟩
  refine ja_nil ⟨one_sz (show 5 ≤ 1000 by decide), ?_⟩
  refine ⟨_, rfl, fun _ G => ∃ s6 s7, G = [.own ad l3, .val (.int j), .val (.int u), .val (rt q), .val (.int t), .val (.lst (odds t q)), s6, s7], ⟨_, _, rfl⟩, ?_, ?_⟩
  · rintro n y G2 hy ⟨s6, s7, rfl⟩
    exact ⟨show 6 < 8 by decide, refuse_lst RT S1 S2 (badLs_bad y (List.mem_of_getElem? hy)) hr TB hm hu ⟨_, _, rfl⟩⟩
  rintro G2 ⟨s6, s7, rfl⟩
  refine jss_one (js_ret (je_refused (X := XK' P w K mg base f (.ref cc) A outer s0 H E) (c := ⟨F, H, (· = ad), T⟩) RT hr (by omega) (by rfl) (.inr (.inr ⟨rfl, rfl⟩)) TB rfl hm hu (LamX.lamS_by (by rfl)) (dv := .int 0) (fun _ => je_int ⟨rfl, rfl⟩) rfl (by decide +kernel) (by rw [sizeLine_eq]; decide +kernel) (by decide +kernel) (fun A' outer' s' H' F' E' f' c' hr' => ?_) (hq0 _ _)))
  refine je_call N1 hr' (by omega) (by rfl) (ja_cons (je_int (ja_cons (je_int (ja_nil ⟨rfl, ⟨rfl, rfl, fun z e => by cases e; exact ⟨1, by decide, by decide⟩⟩, fun r h => ?_, fun C v h => ?_⟩)))))
  · obtain ⟨a, b, e1, e2, h3, _⟩ := h
    cases e2
    exact h3 rfl
  · obtain ⟨h1, ⟨h2, _⟩ | ⟨_, _, h2⟩⟩ := h
    · cases h2
    · exact ⟨h1, h2⟩
end
end K05
end
section
set_option maxRecDepth 100000
set_option maxHeartbeats 4000000
namespace K05
open PySem PySem.Spec PyProof.Rows L2 J
section
variable {P : Program} {w : World} {K : PySem.W.Frag} {mg : Str → Option Value} {base : Heap} {T : List (Addr × Str)} {f : Addr} {fd : FuncData} {CF CL CN CS : Addr}
def spKi : PSp where
  pre l ds := ∃ n : Nat, ds = [] ∧ Pu n l ∧ n + 100 < 2 ^ 60
  post l ds r l' := r = .bl true
theorem due_ki (q : Rat) : Due 2 (.lst [rt q, rt q, .bl true]) := .inr (.inr ⟨_, .inl rfl, show 3 ≤ 1000 by decide, fun x hx => by
  simp only [List.mem_cons, List.not_mem_nil, or_false] at hx
  rcases hx with rfl | rfl | rfl
  · exact due_rt _
  · exact due_rt _
  · exact .inl ⟨_, rfl⟩⟩)
theorem lt12 : ∀ i ∈ [1, 2], i < 8 := by decide
theorem ok_kinds (B : Bt mg) (hF : LamF base mg T fd "_law_kinds_right") (RT : RefT P w K mg base T 6 CS (kd CF CL CN)) (C2 : CalP P w K mg base T 2 "_law_pick" ["purse", "things"] 1 spPick) (C3 : CalP P w K mg base T 2 "_law_between" ["purse", "low", "high"] 2 spBtw)
    (C5 : Cal P w K mg base T 1 "_law_frac" ["top", "under"] 2 spLF) (C6 : Cal P w K mg base T 3 "_law_same" ["told", "due"] 2 (spSame 2)) (N1 : Cal P w K mg base T 6 "fraction_of" ["top", "under"] 2 (spFrac CN)) (N2 : CalK P w K mg base T 6 "fraction_of" ["top", "under"] ["under", "top"] 2 List.reverse (spFrac CN)) (F1 : Cal P w K mg base T 3 "is_fraction" ["value"] 1 spFr)
    (F2 : CalK P w K mg base T 3 "is_fraction" ["value"] ["value"] 1 (fun l => l) spFr)
    {a1 a2 a3 a4 b1 b2 : Addr} (m1 : mg "less" = some (.ref a1)) (m2 : mg "share" = some (.ref a2)) (m3 : mg "is_less" = some (.ref a3)) (m4 : mg "simplest" = some (.ref a4)) (m5 : mg "sum_of" = some (.ref b1)) (m6 : mg "product_of" = some (.ref b2))
    (t1 : TwoR P w K mg base T CF a1) (t2 : TwoR P w K mg base T CF a2) (t3 : TwoR P w K mg base T CF a3) (t4 : TwoR P w K mg base T CF a4) (o1 : One' P w K mg base T CL b1) (o2 : One' P w K mg base T CL b2)
    (S1 : Cal P w K mg base T 6 "sum_of" ["some"] 1 (spAll CL sumQ)) (S2 : Cal P w K mg base T 6 "product_of" ["some"] 1 (spAll CL prodQ)) (FN : Fd K "_law_kinds_right" (topS 55) f fd) : FnG P w K mg base 12 f fd ["purse"] (toP K T 0 spKi) := by
  refine okPc FN sc_kindsR rfl (by decide) fun cdv A outer s0 H E F ad l ds hcv hr hl hp => ?_
  obtain ⟨n0, rfl, pu0, hn⟩ := hp
  obtain ⟨cc, PP, hc1, hc2, hc3, hc4⟩ := hF.ex
  rw [hcv] at hc1
  subst hc1
  refine jss_cons ?_
  refine js_par (i := 1) (j := 2) (by rfl) sc_kindsR.nd (by rfl) (by rfl) (by decide) (by rfl) (by rfl) ?_
  refine je_callO C3 hr (by omega) (by rfl) (i := 0) (by rfl) (by exact .inl rfl) (by rfl) ?_
  refine ja_cons ?_
  refine je_sub ?_
  refine je_int ⟨_, rfl, ?_⟩
  refine je_pow ?_
  refine je_int ⟨_, rfl, ?_⟩
  refine je_int ⟨_, rfl, (⟨by decide, by decide, by decide⟩ : CPow 10 39), _, rfl, ?_⟩
  refine ja_cons ?_
  refine je_pow ?_
  refine je_int ⟨_, rfl, ?_⟩
  refine je_int ⟨_, rfl, (⟨by decide, by decide, by decide⟩ : CPow 10 39), ?_⟩
  refine ja_nil ⟨l, rfl, rfl, ⟨n0, _, _, rfl, pu0, by omega, by decide, by decide⟩, fun d l1 hd1 => ?_⟩
  obtain ⟨j, rfl, j0, j1, pu1⟩ := hd1 _ _ _ rfl pu0
  refine je_callO C2 hr (by omega) (by rfl) (i := 0) (by rfl) (by exact .inl rfl) (by rfl) ?_
  refine ja_cons ?_
  refine je_lst ?_
  refine ja_cons ?_
  refine je_int ?_
  refine ja_cons ?_
  refine je_sub ?_
  refine je_int ⟨_, rfl, ?_⟩
  refine je_int ⟨_, rfl, ?_⟩
  refine ja_cons ?_
  refine je_int ?_
  refine ja_cons ?_
  refine je_sub ?_
  refine je_int ⟨_, rfl, ?_⟩
  refine je_int ⟨_, rfl, ?_⟩
  refine ja_cons ?_
  refine je_pow ?_
  refine je_int ⟨_, rfl, ?_⟩
  refine je_int ⟨_, rfl, (⟨by decide, by decide, by decide⟩ : CPow 10 38), ?_⟩
  refine ja_cons ?_
  refine je_sub ?_
  refine je_int ⟨_, rfl, ?_⟩
  refine je_pow ?_
  refine je_int ⟨_, rfl, ?_⟩
  refine je_int ⟨_, rfl, (⟨by decide, by decide, by decide⟩ : CPow 10 20), _, rfl, ?_⟩
  refine ja_nil ⟨one_sz (show 6 ≤ 1000 by decide), ?_⟩
  refine ja_nil ⟨l1, rfl, rfl, ⟨_, _, rfl, pu1, by omega, show 0 < 6 by decide, show 6 < 1000 by decide⟩, fun d l2 hd2 => ?_⟩
  obtain ⟨hm, pu2⟩ := hd2 _ _ rfl pu1
  obtain ⟨u, rfl, hu, hub⟩ : ∃ u : Int, d = .int u ∧ u ≠ 0 ∧ u.natAbs < 2 ^ 140 := by
    simp only [List.mem_cons, List.not_mem_nil, or_false] at hm
    rcases hm with rfl | rfl | rfl | rfl | rfl | rfl <;> exact ⟨_, rfl, by decide +kernel, by decide +kernel⟩
  have hj : j.natAbs < 2 ^ 140 := by
    have e : (10 : Int) ^ (39 : Int).toNat < 2 ^ 140 := by decide +kernel
    omega
  refine ⟨show 1 < 8 by decide, show 2 < 8 by decide, ?_⟩
  refine jss_cons ?_
  refine js_s (i := 3) sc_kindsR.nd (by rfl) ?_
  refine je_call C5 hr (by omega) (by rfl) ?_
  refine ja_cons ?_
  refine v1 (d := .int j) ?_
  refine ja_cons ?_
  refine v2 (d := .int u) ?_
  refine ja_nil ⟨rfl, ⟨_, _, 140, rfl, rfl, hu, hj, hub, by decide⟩, fun r h => ?_, fun _ _ z => z.elim⟩
  obtain rfl : r = rt (Rat.divInt j u) := h
  refine ⟨show 3 < 8 by decide, ?_⟩
  have fpre : (spFrac CN).pre [.int j, .int u] := ⟨rfl, rfl, fun z e => by cases e; exact ⟨140, hub, by decide⟩⟩
  have fexc : ∀ C v, (spFrac CN).exc [.int j, .int u] C v → False := fun C v h => by
    obtain ⟨_, ⟨h, _⟩ | ⟨_, h | h, _⟩⟩ := h
    · cases h
    · cases h
    · cases h; exact hu rfl
  have fpost : ∀ r, (spFrac CN).post [.int j, .int u] r → r = rt (Rat.divInt j u) := fun r h => by
    obtain ⟨a, b, e1, e2, _, e3⟩ := h
    cases e1; cases e2; exact e3
  refine jss_cons ?_
  refine js_if ?_
  refine jt_not ?_
  refine jt_val ?_
  refine je_call C6 hr (by omega) (by rfl) ?_
  refine ja_cons ?_
  refine je_lst ?_
  refine ja_cons ?_
  refine je_call N1 hr (by omega) (by rfl) ?_
  refine ja_cons ?_
  refine v1 (d := .int j) ?_
  refine ja_cons ?_
  refine v2 (d := .int u) ?_
  refine ja_nil ⟨rfl, fpre, fun r h => ?_, fun C v h => (fexc C v h).elim⟩
  obtain rfl := fpost r h
  refine ja_cons ?_
  refine je_k N2 hr (by omega) (by rfl) (fun _ r => r.reverse) ?_
  refine jk_cons ?_
  refine v2 (d := .int u) ?_
  refine jk_cons ?_
  refine v1 (d := .int j) ?_
  refine jk_nil ⟨rfl, rfl, fpre, fun r h => ?_, fun C v h => (fexc C v h).elim⟩
  obtain rfl := fpost r h
  refine ja_cons ?_
  refine je_call F1 hr (by omega) (by rfl) ?_
  refine ja_cons ?_
  refine v3 (d := rt (Rat.divInt j u)) ?_
  refine ja_nil ⟨rfl, rfl, fun r h => ?_, fun _ _ z => z.elim⟩
  obtain rfl := (show r = .bl (isFr (rt (Rat.divInt j u))) from h)
  rw [isFr_rt]
  refine ja_nil ⟨one_sz (show 3 ≤ 1000 by decide), ?_⟩
  refine ja_cons ?_
  refine je_lst ?_
  refine ja_cons ?_
  refine v3 (d := rt (Rat.divInt j u)) ?_
  refine ja_cons ?_
  refine v3 (d := rt (Rat.divInt j u)) ?_
  refine ja_cons ?_
  refine je_bl ?_
  refine ja_nil ⟨one_sz (show 3 ≤ 1000 by decide), ?_⟩
  refine ja_nil ⟨rfl, ⟨rfl, due_ki _⟩, fun r h => ?_, fun _ _ z => z.elim⟩
  obtain rfl := (show r = .bl true from h)
  refine ⟨true, rfl, (fun z => nomatch z), fun _ => jss_nil ?_⟩
  refine jss_cons ?_
  refine js_s (i := 4) sc_kindsR.nd (by rfl) ?_
  refine je_callO C3 hr (by omega) (by rfl) (i := 0) (by rfl) (by exact .inl rfl) (by rfl) ?_
  refine ja_cons ?_
  refine je_int ?_
  refine ja_cons ?_
  refine je_int ?_
  refine ja_nil ⟨l2, rfl, rfl, ⟨_, _, _, rfl, pu2, by omega, by decide, by decide⟩, fun d l3 hd3 => ?_⟩
  obtain ⟨t, rfl, t0, tt1, pu3⟩ := hd3 _ _ _ rfl pu2
  refine ⟨show 4 < 8 by decide, ?_⟩
  have hq : Sz 300 (Rat.divInt j u) := (sz_low hu hj hub).mono (by decide)
  generalize Rat.divInt j u = q at hq ⊢
  have ht : t.natAbs < 2 ^ 4 := by omega
  refine jss_cons ?_
  refine js_s (i := 5) sc_kindsR.nd (by rfl) ?_
  refine je_lst ?_
  refine ja_cons ?_
  refine je_tup ?_
  refine ja_cons ?_
  refine je_mul ?_
  refine v4 (d := .int t) ⟨_, rfl, ?_⟩
  refine je_ix ?_
  refine v3 (d := rt q) ⟨rfl, ?_⟩
  refine je_int ⟨_, _, rfl, rfl, _, rfl, cmul_of ht hq.num (by decide), ?_⟩
  refine ja_cons ?_
  refine je_mul ?_
  refine v4 (d := .int t) ⟨_, rfl, ?_⟩
  refine je_ix ?_
  refine v3 (d := rt q) ⟨rfl, ?_⟩
  refine je_int ⟨_, _, rfl, rfl, _, rfl, cmul_of ht (szd hq) (by decide), ?_⟩
  refine ja_nil ⟨one_sz (show 2 ≤ 1000 by decide), ?_⟩
  refine ja_cons ?_
  refine je_tup ?_
  refine ja_cons ?_
  refine je_sub ?_
  refine je_int ⟨_, rfl, ?_⟩
  refine je_ix ?_
  refine v3 (d := rt q) ⟨rfl, ?_⟩
  refine je_int ⟨_, _, rfl, rfl, _, rfl, ?_⟩
  refine ja_cons ?_
  refine je_sub ?_
  refine je_int ⟨_, rfl, ?_⟩
  refine je_ix ?_
  refine v3 (d := rt q) ⟨rfl, ?_⟩
  refine je_int ⟨_, _, rfl, rfl, _, rfl, ?_⟩
  refine ja_nil ⟨one_sz (show 2 ≤ 1000 by decide), ?_⟩
  refine ja_cons ?_
  refine JE.of_air ?_
  refine jn_list B (by rfl) ?_
  refine v3 (d := rt q) ⟨rfl, fun p => ?_⟩
  refine ja_cons ?_
  refine je_catT ?_
  refine v3 (d := rt q) ⟨_, rfl, by simp, ?_⟩
  refine je_tup ?_
  refine ja_cons ?_
  refine je_int ?_
  refine ja_nil ⟨one_sz (show 1 ≤ 1000 by decide), _, rfl, by simp, one_sz (show 2 + 1 ≤ 1000 by decide), ?_⟩
  refine ja_cons ?_
  refine je_slT ?_
  refine v3 (d := rt q) ⟨_, rfl, (show JE _ _ _ _ _ _ from je_int ⟨1, rfl, (by show ¬(HT.sIx 2 0 none = 0 ∧ HT.sIx 2 2 (some 1) = 2); decide), ?_⟩)⟩
  rw [show cutD [D.int q.num, D.int (q.den : Int)] none (some 1) = [D.int q.num] from rfl]
  refine ja_cons ?_
  refine je_tup ?_
  refine ja_cons ?_
  refine je_ix ?_
  refine v3 (d := rt q) ⟨rfl, ?_⟩
  refine je_int ⟨_, _, rfl, rfl, ?_⟩
  refine ja_cons ?_
  refine je_bl ?_
  refine ja_nil ⟨one_sz (show 2 ≤ 1000 by decide), ?_⟩
  refine ja_cons ?_
  refine je_tup ?_
  refine ja_cons ?_
  refine je_bl ?_
  refine ja_cons ?_
  refine je_int ?_
  refine ja_nil ⟨one_sz (show 2 ≤ 1000 by decide), ?_⟩
  refine ja_nil ⟨one_sz (show 7 ≤ 1000 by decide), show 5 < 8 by decide, ?_⟩
  exact kinds_tail RT N1 F1 F2 m1 m2 m3 m4 m5 m6 t1 t2 t3 t4 o1 o2 S1 S2 (by omega) (by omega) hq hr hc2 hc3 hc4 _ fun s6 s7 => ⟨l3, rfl, rfl⟩
end
end K05
end
section
set_option maxRecDepth 100000
set_option maxHeartbeats 4000000
namespace K05
open PySem PySem.Spec PyProof.Rows L2 J
section
variable {P : Program} {w : World} {K : PySem.W.Frag} {mg : Str → Option Value} {base : Heap} {T : List (Addr × Str)} {f : Addr} {fd : FuncData}
theorem sc_law : FnScope ["script", "purse", "turn"] ["script"] (defScope (topS 56)) := ⟨rfl, rfl, rfl, by decide +kernel, rfl, by decide +kernel, by decide +kernel⟩
theorem ok_law (B : Bt mg) (P0 : CalN P w K mg base T 1 "_law_purse" ["script"] 1 spPurse) (P1 : CalP P w K mg base T 12 "_law_simplest_right" ["purse"] 0 spSR) (P2 : CalP P w K mg base T 12 "_law_whole_right" ["purse"] 0 spWR)
    (P3 : CalP P w K mg base T 12 "_law_sums_right" ["purse"] 0 spSu) (P4 : CalP P w K mg base T 12 "_law_kinds_right" ["purse"] 0 spKi) (FN : Fd K "law" (topS 56) f fd) : FnG P w K mg base 13 f fd ["script"] (toV K T 1 (spLaw 63)) := by
  refine okV FN sc_law rfl (by decide) fun cdv A outer s0 H E F ds hr hcd hl hp => ?_
  obtain ⟨ns, rfl, hn, hz⟩ := hp
  refine jss_cons ?_
  refine js_own (i := 1) sc_law.nd (by rfl) (by exact .inl rfl) ?_
  refine jn_call P0 hr (by omega) (by rfl) ?_
  refine ja_cons ?_
  refine v0 (d := .lok (ns.map .int)) ?_
  refine ja_nil ⟨rfl, ⟨ns, rfl⟩, fun l p pu => ⟨show 1 < 3 by decide, ?_⟩⟩
  refine jss_cons ?_
  refine js_forR (i := 2) (by exact passes_of rfl) (by rfl) sc_law.nd (by rfl) (by exact .inl rfl) B (by rfl) ?_
  refine je_int ⟨12, rfl, ⟨by decide, by decide⟩, fun t G => ∃ lt s2, G = [.val (.lok (ns.map .int)), .own p lt, s2] ∧ Pu (80 * t) lt, ⟨l, .no, rfl, pu⟩, ?_, ?_⟩
  · rintro t G2 ht ⟨lt, s2, rfl, put⟩
    have ht : t < 12 := ht
    refine ⟨show 2 < 3 by decide, ?_⟩
    refine jss_one ?_
    refine js_if ?_
    refine jt_w ?_
    refine jw_or ?_
    refine jt_not ?_
    refine jt_val ?_
    refine je_callO P1 hr (by omega) (by rfl) (i := 1) (by rfl) (by exact .inl rfl) (by rfl) ?_
    refine ja_nil ⟨lt, rfl, rfl, ⟨_, rfl, put, by omega⟩, fun d l1 hd1 => ?_⟩
    obtain ⟨rfl, q1⟩ := hd1
    have pu1 := q1 _ put
    refine ⟨true, rfl, fun _ => ?_, fun z => nomatch z⟩
    refine jw_or ?_
    refine jt_not ?_
    refine jt_val ?_
    refine je_callO P2 hr (by omega) (by rfl) (i := 1) (by rfl) (by exact .inl rfl) (by rfl) ?_
    refine ja_nil ⟨l1, rfl, rfl, ⟨_, rfl, pu1, by omega⟩, fun d l2 hd2 => ?_⟩
    obtain ⟨rfl, q2⟩ := hd2
    have pu2 := q2 _ pu1
    refine ⟨true, rfl, fun _ => ?_, fun z => nomatch z⟩
    refine jw_or1 ?_
    refine jt_not ?_
    refine jt_val ?_
    refine je_callO P3 hr (by omega) (by rfl) (i := 1) (by rfl) (by exact .inl rfl) (by rfl) ?_
    refine ja_nil ⟨l2, rfl, rfl, ⟨_, rfl, pu2, by omega⟩, fun d l3 hd3 => ?_⟩
    obtain ⟨rfl, q3⟩ := hd3
    have pu3 := q3 _ pu2
    exact ⟨true, rfl, (fun z => nomatch z), fun _ => jss_nil ⟨l3, _, rfl, pu3.mono (by omega)⟩⟩
  rintro G2 ⟨lt, s2, rfl, put⟩
  refine jss_one ?_
  refine js_ret ?_
  refine je_callO P4 hr (by omega) (by rfl) (i := 1) (by rfl) (by exact .inl rfl) (by rfl) ?_
  refine ja_nil ⟨lt, rfl, rfl, ⟨_, rfl, put, by show 80 * 12 + 100 < _; decide⟩, fun d l1 hd1 => hd1⟩
end
end K05
end
section
set_option maxRecDepth 100000
set_option maxHeartbeats 4000000
namespace K05
open PySem PySem.Spec PyProof.Rows L2 J
section
variable {P : Program} {w : World} {K : PySem.W.Frag} {mg : Str → Option Value} {base h : Heap} {T : List (Addr × Str)} {f : Addr} {fd : FuncData} {nm : Str} {st : Stmt} {j k n : Nat} {ps ks : List Str}
theorem FnK.fd' (g : FnK K nm st f fd) : Fd K nm st f fd := by
  obtain ⟨oc, od, kV, doc, pm, an, cdv, ct, osl, e, l, c⟩ := g.ex
  exact ⟨nm, oc, od, .none, kV, doc, pm, an, cdv, ct, osl, e, l, c⟩
theorem FnK.bi (g : FnK K nm st f fd) (h : ∀ (kV doc pm : Value) (an : Option Addr) (cdv ct : Value) (us : List Value), us.length = ps.length → bindArgs (PySem.W.fnOf nm nm (defArgs st) (defBody st) (defScope st) .none kV doc pm an cdv ct) ⟨us, []⟩ = pure (ps.zip us)) : Binds K fd ps [] := by
  obtain ⟨oc, od, kV, doc, pm, an, cdv, ct, osl, rfl, l, c⟩ := g.ex
  exact .all (h kV doc pm an cdv ct)
theorem vals_reverse {vs : List V} {us : List Value} (h : Vals vs us) : Vals vs.reverse us.reverse := by
  induction h with
  | nil => exact .nil
  | cons a _ ih => rw [List.reverse_cons, List.reverse_cons]; exact ih.append (.cons a .nil)
theorem FnK.kbR (g : FnK K nm st f fd) {a b : Str} (h : ∀ (kV doc pm : Value) (an : Option Addr) (cdv ct : Value) (x y : Value), bindArgs (PySem.W.fnOf nm nm (defArgs st) (defBody st) (defScope st) .none kV doc pm an cdv ct) ⟨[], [(b, x), (a, y)]⟩ = pure [(a, y), (b, x)]) : KB K fd [a, b] [b, a] 2 List.reverse := by
  obtain ⟨oc, od, kV, doc, pm, an, cdv, ct, osl, rfl, l, c⟩ := g.ex
  exact ⟨fun s ws _ hl => match ws, hl with | [x, y], _ => .of_eq (h kV doc pm an cdv ct x y), fun _ r => vals_reverse r⟩
theorem FnK.kb2 (g : FnK K nm st f fd) {a b : Str} (h : ∀ (kV doc pm : Value) (an : Option Addr) (cdv ct : Value) (x y : Value), bindArgs (PySem.W.fnOf nm nm (defArgs st) (defBody st) (defScope st) .none kV doc pm an cdv ct) ⟨[], [(a, x), (b, y)]⟩ = pure [(a, x), (b, y)]) : KB K fd [a, b] [a, b] 2 (fun l => l) := by
  obtain ⟨oc, od, kV, doc, pm, an, cdv, ct, osl, rfl, l, c⟩ := g.ex
  exact ⟨fun s ws _ hl => match ws, hl with | [x, y], _ => .of_eq (h kV doc pm an cdv ct x y), fun _ r => r⟩
theorem FnK.kb1 (g : FnK K nm st f fd) {a : Str} (h : ∀ (kV doc pm : Value) (an : Option Addr) (cdv ct : Value) (x : Value), bindArgs (PySem.W.fnOf nm nm (defArgs st) (defBody st) (defScope st) .none kV doc pm an cdv ct) ⟨[], [(a, x)]⟩ = pure [(a, x)]) : KB K fd [a] [a] 1 (fun l => l) := by
  obtain ⟨oc, od, kV, doc, pm, an, cdv, ct, osl, rfl, l, c⟩ := g.ex
  exact ⟨fun s ws _ hl => match ws, hl with | [x], _ => .of_eq (h kV doc pm an cdv ct x), fun _ r => r⟩
/-- the facts of a def that may be called -/
structure FnC (K : PySem.W.Frag) (mg : Str → Option Value) (nm : Str) (st : Stmt) (ps : List Str) (f : Addr) (fd : FuncData) : Prop where
  mg : mg nm = some (.ref f)
  kp : PySem.W.keepIn K (.ref f) = true
  dd : Fd K nm st f fd
  bi : Binds K fd ps []
theorem FnK.c (X : K.In h) (G : h.Ns mainGlobals mg) (g : FnK K nm st f fd) (b : Binds K fd ps []) : FnC K mg nm st ps f fd := ⟨PySem.W.mg_of X G g.ns, g.kp, g.fd', b⟩
theorem FnC.cal {sp : FSp} (c : FnC K mg nm st ps f fd) (F : FnG P w K mg base j f fd ps (toV K T n sp)) (hj : j ≤ k) : Cal P w K mg base T k nm ps n sp := ⟨⟨f, fd, c.mg, c.kp, c.bi, F.mono hj⟩⟩
theorem FnC.calP {sp : PSp} (c : FnC K mg nm st ps f fd) (F : FnG P w K mg base j f fd ps (toP K T n sp)) (hj : j ≤ k) : CalP P w K mg base T k nm ps n sp := ⟨⟨f, fd, c.mg, c.kp, c.bi, F.mono hj⟩⟩
theorem FnC.calN {sp : NSp} (c : FnC K mg nm st ps f fd) (F : FnG P w K mg base j f fd ps (toN K T n sp)) (hj : j ≤ k) : CalN P w K mg base T k nm ps n sp := ⟨⟨f, fd, c.mg, c.kp, c.bi, F.mono hj⟩⟩
theorem FnC.calK {sp : FSp} {perm : {α : Type} → List α → List α} (c : FnC K mg nm st ps f fd) (b : KB K fd ps ks n perm) (F : FnG P w K mg base j f fd ps (toV K T n sp)) (hj : j ≤ k) : CalK P w K mg base T k nm ps ks n perm sp := ⟨⟨f, fd, c.mg, c.kp, b, F.mono hj⟩⟩
theorem Cal.up {sp : FSp} (c : Cal P w K mg base T j nm ps n sp) (hj : j ≤ k) : Cal P w K mg base T k nm ps n sp := by
  obtain ⟨f, fd, a, b, d, e⟩ := c.ex
  exact ⟨⟨f, fd, a, b, d, e.mono hj⟩⟩
theorem bi8 (g : FnK K "is_number" (topS 8) f fd) : Binds K fd ["value"] [] := g.bi fun _ _ _ _ _ _ us hl => match us, hl with | [_], _ => rfl
theorem bi10 (g : FnK K "divisor" (topS 10) f fd) : Binds K fd ["one", "other"] [] := g.bi fun _ _ _ _ _ _ us hl => match us, hl with | [_, _], _ => rfl
theorem bi11 (g : FnK K "by_lowest" (topS 11) f fd) : Binds K fd ["top", "under"] [] := g.bi fun _ _ _ _ _ _ us hl => match us, hl with | [_, _], _ => rfl
theorem bi12 (g : FnK K "is_fraction" (topS 12) f fd) : Binds K fd ["value"] [] := g.bi fun _ _ _ _ _ _ us hl => match us, hl with | [_], _ => rfl
theorem bi13 (g : FnK K "look_at_fraction" (topS 13) f fd) : Binds K fd ["value"] [] := g.bi fun _ _ _ _ _ _ us hl => match us, hl with | [_], _ => rfl
theorem bi14 (g : FnK K "are_fractions" (topS 14) f fd) : Binds K fd ["value"] [] := g.bi fun _ _ _ _ _ _ us hl => match us, hl with | [_], _ => rfl
theorem bi15 (g : FnK K "fraction_of" (topS 15) f fd) : Binds K fd ["top", "under"] [] := g.bi fun _ _ _ _ _ _ us hl => match us, hl with | [_, _], _ => rfl
theorem bi16 (g : FnK K "plus" (topS 16) f fd) : Binds K fd ["one", "other"] [] := g.bi fun _ _ _ _ _ _ us hl => match us, hl with | [_, _], _ => rfl
theorem bi17 (g : FnK K "minus" (topS 17) f fd) : Binds K fd ["one", "other"] [] := g.bi fun _ _ _ _ _ _ us hl => match us, hl with | [_, _], _ => rfl
theorem bi18 (g : FnK K "times" (topS 18) f fd) : Binds K fd ["one", "other"] [] := g.bi fun _ _ _ _ _ _ us hl => match us, hl with | [_, _], _ => rfl
theorem bi19 (g : FnK K "over" (topS 19) f fd) : Binds K fd ["one", "other"] [] := g.bi fun _ _ _ _ _ _ us hl => match us, hl with | [_, _], _ => rfl
theorem bi20 (g : FnK K "below" (topS 20) f fd) : Binds K fd ["one", "other"] [] := g.bi fun _ _ _ _ _ _ us hl => match us, hl with | [_, _], _ => rfl
theorem bi21 (g : FnK K "total" (topS 21) f fd) : Binds K fd ["some"] [] := g.bi fun _ _ _ _ _ _ us hl => match us, hl with | [_], _ => rfl
theorem bi22 (g : FnK K "sum_of" (topS 22) f fd) : Binds K fd ["some"] [] := g.bi fun _ _ _ _ _ _ us hl => match us, hl with | [_], _ => rfl
theorem bi23 (g : FnK K "product_of" (topS 23) f fd) : Binds K fd ["some"] [] := g.bi fun _ _ _ _ _ _ us hl => match us, hl with | [_], _ => rfl
theorem bi24 (g : FnK K "look_at_two" (topS 24) f fd) : Binds K fd ["one", "other"] [] := g.bi fun _ _ _ _ _ _ us hl => match us, hl with | [_, _], _ => rfl
theorem bi25 (g : FnK K "less" (topS 25) f fd) : Binds K fd ["one", "other"] [] := g.bi fun _ _ _ _ _ _ us hl => match us, hl with | [_, _], _ => rfl
theorem bi26 (g : FnK K "share" (topS 26) f fd) : Binds K fd ["one", "other"] [] := g.bi fun _ _ _ _ _ _ us hl => match us, hl with | [_, _], _ => rfl
theorem bi27 (g : FnK K "is_less" (topS 27) f fd) : Binds K fd ["one", "other"] [] := g.bi fun _ _ _ _ _ _ us hl => match us, hl with | [_, _], _ => rfl
theorem bi28 (g : FnK K "simplest_above" (topS 28) f fd) : Binds K fd ["low", "high"] [] := g.bi fun _ _ _ _ _ _ us hl => match us, hl with | [_, _], _ => rfl
theorem bi29 (g : FnK K "simplest" (topS 29) f fd) : Binds K fd ["low", "high"] [] := g.bi fun _ _ _ _ _ _ us hl => match us, hl with | [_, _], _ => rfl
theorem bi31 (g : FnK K "_law_purse" (topS 31) f fd) : Binds K fd ["script"] [] := g.bi fun _ _ _ _ _ _ us hl => match us, hl with | [_], _ => rfl
theorem bi32 (g : FnK K "_law_draw" (topS 32) f fd) : Binds K fd ["purse", "many"] [] := g.bi fun _ _ _ _ _ _ us hl => match us, hl with | [_, _], _ => rfl
theorem bi33 (g : FnK K "_law_pick" (topS 33) f fd) : Binds K fd ["purse", "things"] [] := g.bi fun _ _ _ _ _ _ us hl => match us, hl with | [_, _], _ => rfl
theorem bi34 (g : FnK K "_law_between" (topS 34) f fd) : Binds K fd ["purse", "low", "high"] [] := g.bi fun _ _ _ _ _ _ us hl => match us, hl with | [_, _, _], _ => rfl
theorem bi36 (g : FnK K "_law_same" (topS 36) f fd) : Binds K fd ["told", "due"] [] := g.bi fun _ _ _ _ _ _ us hl => match us, hl with | [_, _], _ => rfl
theorem bi37 (g : FnK K "_law_frac" (topS 37) f fd) : Binds K fd ["top", "under"] [] := g.bi fun _ _ _ _ _ _ us hl => match us, hl with | [_, _], _ => rfl
theorem bi47 (g : FnK K "_law_caught" (topS 47) f fd) : Binds K fd ["call"] [] := g.bi fun _ _ _ _ _ _ us hl => match us, hl with | [_], _ => rfl
theorem bi48 (g : FnK K "_law_refused" (topS 48) f fd) : Binds K fd ["call", "word", "value"] [] := g.bi fun _ _ _ _ _ _ us hl => match us, hl with | [_, _, _], _ => rfl
theorem bi49 (g : FnK K "_law_kind" (topS 49) f fd) : Binds K fd ["caught"] [] := g.bi fun _ _ _ _ _ _ us hl => match us, hl with | [_], _ => rfl
theorem bi50 (g : FnK K "_law_planted" (topS 50) f fd) : Binds K fd ["purse", "runs"] [] := g.bi fun _ _ _ _ _ _ us hl => match us, hl with | [_, _], _ => rfl
theorem bi51 (g : FnK K "_law_between_two" (topS 51) f fd) : Binds K fd ["purse", "one", "other"] [] := g.bi fun _ _ _ _ _ _ us hl => match us, hl with | [_, _, _], _ => rfl
theorem bi52 (g : FnK K "_law_simplest_right" (topS 52) f fd) : Binds K fd ["purse"] [] := g.bi fun _ _ _ _ _ _ us hl => match us, hl with | [_], _ => rfl
theorem bi53 (g : FnK K "_law_whole_right" (topS 53) f fd) : Binds K fd ["purse"] [] := g.bi fun _ _ _ _ _ _ us hl => match us, hl with | [_], _ => rfl
theorem bi54 (g : FnK K "_law_sums_right" (topS 54) f fd) : Binds K fd ["purse"] [] := g.bi fun _ _ _ _ _ _ us hl => match us, hl with | [_], _ => rfl
theorem bi55 (g : FnK K "_law_kinds_right" (topS 55) f fd) : Binds K fd ["purse"] [] := g.bi fun _ _ _ _ _ _ us hl => match us, hl with | [_], _ => rfl
theorem bi56 (g : FnK K "law" (topS 56) f fd) : Binds K fd ["script"] [] := g.bi fun _ _ _ _ _ _ us hl => match us, hl with | [_], _ => rfl
theorem kr29 (g : FnK K "simplest" (topS 29) f fd) : KB K fd ["low", "high"] ["high", "low"] 2 List.reverse := g.kbR fun _ _ _ _ _ _ _ _ => rfl
theorem kr25 (g : FnK K "less" (topS 25) f fd) : KB K fd ["one", "other"] ["other", "one"] 2 List.reverse := g.kbR fun _ _ _ _ _ _ _ _ => rfl
theorem kr27 (g : FnK K "is_less" (topS 27) f fd) : KB K fd ["one", "other"] ["other", "one"] 2 List.reverse := g.kbR fun _ _ _ _ _ _ _ _ => rfl
theorem kr26 (g : FnK K "share" (topS 26) f fd) : KB K fd ["one", "other"] ["other", "one"] 2 List.reverse := g.kbR fun _ _ _ _ _ _ _ _ => rfl
theorem kr15 (g : FnK K "fraction_of" (topS 15) f fd) : KB K fd ["top", "under"] ["under", "top"] 2 List.reverse := g.kbR fun _ _ _ _ _ _ _ _ => rfl
theorem ki29 (g : FnK K "simplest" (topS 29) f fd) : KB K fd ["low", "high"] ["low", "high"] 2 (fun l => l) := g.kb2 fun _ _ _ _ _ _ _ _ => rfl
theorem ki22 (g : FnK K "sum_of" (topS 22) f fd) : KB K fd ["some"] ["some"] 1 (fun l => l) := g.kb1 fun _ _ _ _ _ _ _ => rfl
theorem ki12 (g : FnK K "is_fraction" (topS 12) f fd) : KB K fd ["value"] ["value"] 1 (fun l => l) := g.kb1 fun _ _ _ _ _ _ _ => rfl
/-- is_count: a default -/
theorem c9 {TT : Addr} {o : Obj} {dv : Value} {m : Nat} {oc : Value} {od : Option Addr} {kV doc pm : Value} {an : Option Addr} {cdv ct : Value} {osl : Array (Option Value)} (X : K.In h) (G : h.Ns mainGlobals mg) (ns : PySem.W.nsIn K mainGlobals "is_count" = some (some (.ref f)))
    (lk : K.lookup f = some ⟨oc, od, .func (PySem.W.fnOf "is_count" "is_count" (defArgs (topS 9)) (defBody (topS 9)) (defScope (topS 9)) (.ref TT) kV doc pm an cdv ct), osl⟩) (hc : PySem.W.codeIn K cdv "is_count" = true) (kp : PySem.W.keepIn K (.ref f) = true) (lT : K.lookup TT = some o) (oT : o.data = .seq #[dv] m) :
    FnC K mg "is_count" (topS 9) ["value", "least"] f (PySem.W.fnOf "is_count" "is_count" (defArgs (topS 9)) (defBody (topS 9)) (defScope (topS 9)) (.ref TT) kV doc pm an cdv ct) :=
  ⟨PySem.W.mg_of X G ns, kp, ⟨"is_count", oc, od, .ref TT, kV, doc, pm, an, cdv, ct, osl, rfl, lk, hc⟩, fun s us X' hl => match us, hl with | [_, _], _ => BindsTo.of_defaults rfl (X' _ _ lT) oT rfl rfl⟩
end
end K05
end
section
set_option maxRecDepth 100000
set_option maxHeartbeats 4000000
namespace K05
open PySem PySem.Spec PyProof.Rows L2 J
section
variable {P : Program} {w : World} {K : PySem.W.Frag} {mg : Str → Option Value} {base h : Heap} {T : List (Addr × Str)} {CF CL CN CS : Addr}
theorem all4 {p : Str → Prop} {a b c d : Str} (h1 : p a) (h2 : p b) (h3 : p c) (h4 : p d) : ∀ x ∈ [a, b, c, d], p x := by
  intro x hx
  simp only [List.mem_cons, List.not_mem_nil, or_false] at hx
  rcases hx with rfl | rfl | rfl | rfl <;> assumption
theorem all3 {p : Str → Prop} {a b c : Str} (h1 : p a) (h2 : p b) (h3 : p c) : ∀ x ∈ [a, b, c], p x := by
  intro x hx
  simp only [List.mem_cons, List.not_mem_nil, or_false] at hx
  rcases hx with rfl | rfl | rfl <;> assumption
theorem cau_mk {f : Addr} {fd : FuncData} (c : FnC K mg "_law_caught" (topS 47) ["call"] f fd) (gS : mg "StoreError" = some (.ref CS)) : CauT K mg CS :=
  ⟨⟨_, _, f, fd, c.mg, c.kp, c.dd, ⟨_, _, _, _, _, _, _, _, _, _, _, _, _, _, _, rfl⟩, ⟨rfl, rfl, rfl, by decide +kernel, rfl, by decide +kernel, by decide +kernel⟩, rfl, all3 rfl rfl rfl, c.bi⟩, gS⟩
theorem ref_mk {f : Addr} {fd : FuncData} (c : FnC K mg "_law_refused" (topS 48) ["call", "word", "value"] f fd) (ca : CauT K mg CS) (B : Bt mg) (R : Er P K mg CF CL CN) (ki : Cal P w K mg base T 6 "_law_kind" ["caught"] 1 (spKind (kd CF CL CN)))
    (x1 : PySem.W.exmOne K (.ref CF) (.ref CS) = some true) (x2 : PySem.W.exmOne K (.ref CL) (.ref CS) = some true) (x3 : PySem.W.exmOne K (.ref CN) (.ref CS) = some true) : RefT P w K mg base T 6 CS (kd CF CL CN) :=
  ⟨⟨_, _, f, fd, c.mg, c.kp, c.dd, ⟨_, _, _, _, _, _, _, _, _, _, _, _, _, _, _, _, _, _, _, _, _, rfl⟩, ⟨rfl, rfl, rfl, by decide +kernel, rfl, by decide +kernel, by decide +kernel⟩, all4 rfl rfl rfl rfl, all3 rfl rfl rfl, c.bi⟩, ca, ki, B, fun C wd hk => by
    rcases hk with ⟨rfl, rfl⟩ | ⟨rfl, rfl⟩ | ⟨rfl, rfl⟩
    · exact ⟨x1, ⟨_, R.tf⟩, by decide +kernel⟩
    · exact ⟨x2, ⟨_, R.tl⟩, by decide +kernel⟩
    · exact ⟨x3, ⟨_, R.tn⟩, by decide +kernel⟩⟩
theorem law_mk {f8 f9 f10 f11 f12 f13 f14 f15 f16 f17 f18 f19 f20 f21 f22 f23 f24 f25 f26 f27 f28 f29 f31 f32 f33 f34 f36 f37 f47 f48 f49 f50 f51 f52 f53 f54 f55 f56 : Addr} {d8 d9 d10 d11 d12 d13 d14 d15 d16 d17 d18 d19 d20 d21 d22 d23 d24 d25 d26 d27 d28 d29 d31 d32 d33 d34 d36 d37 d47 d48 d49 d50 d51 d52 d53 d54 d55 d56 : FuncData} (X : K.In h) (G : h.Ns mainGlobals mg) (B : Bt mg) (R : Er P K mg CF CL CN) (S : Ks K CF CL CN) (O : Co K mg) (gS : mg "StoreError" = some (.ref CS))
    (x1 : PySem.W.exmOne K (.ref CF) (.ref CS) = some true) (x2 : PySem.W.exmOne K (.ref CL) (.ref CS) = some true) (x3 : PySem.W.exmOne K (.ref CN) (.ref CS) = some true)
    (g8 : FnK K "is_number" (topS 8) f8 d8) (c9 : FnC K mg "is_count" (topS 9) ["value", "least"] f9 d9) (g10 : FnK K "divisor" (topS 10) f10 d10) (g11 : FnK K "by_lowest" (topS 11) f11 d11) (g12 : FnK K "is_fraction" (topS 12) f12 d12) (g13 : FnK K "look_at_fraction" (topS 13) f13 d13)
    (g14 : FnK K "are_fractions" (topS 14) f14 d14) (g15 : FnK K "fraction_of" (topS 15) f15 d15) (g16 : FnK K "plus" (topS 16) f16 d16) (g17 : FnK K "minus" (topS 17) f17 d17) (g18 : FnK K "times" (topS 18) f18 d18) (g19 : FnK K "over" (topS 19) f19 d19)
    (g20 : FnK K "below" (topS 20) f20 d20) (g21 : FnK K "total" (topS 21) f21 d21) (g22 : FnK K "sum_of" (topS 22) f22 d22) (g23 : FnK K "product_of" (topS 23) f23 d23) (g24 : FnK K "look_at_two" (topS 24) f24 d24) (g25 : FnK K "less" (topS 25) f25 d25)
    (g26 : FnK K "share" (topS 26) f26 d26) (g27 : FnK K "is_less" (topS 27) f27 d27) (g28 : FnK K "simplest_above" (topS 28) f28 d28) (g29 : FnK K "simplest" (topS 29) f29 d29) (g31 : FnK K "_law_purse" (topS 31) f31 d31) (g32 : FnK K "_law_draw" (topS 32) f32 d32)
    (g33 : FnK K "_law_pick" (topS 33) f33 d33) (g34 : FnK K "_law_between" (topS 34) f34 d34) (g36 : FnK K "_law_same" (topS 36) f36 d36) (g37 : FnK K "_law_frac" (topS 37) f37 d37) (g47 : FnK K "_law_caught" (topS 47) f47 d47) (g48 : FnK K "_law_refused" (topS 48) f48 d48)
    (g49 : FnK K "_law_kind" (topS 49) f49 d49) (g50 : FnK K "_law_planted" (topS 50) f50 d50) (g51 : FnK K "_law_between_two" (topS 51) f51 d51) (g52 : FnK K "_law_simplest_right" (topS 52) f52 d52) (g53 : FnK K "_law_whole_right" (topS 53) f53 d53) (g54 : FnK K "_law_sums_right" (topS 54) f54 d54)
    (g55 : FnK K "_law_kinds_right" (topS 55) f55 d55) (g56 : FnK K "law" (topS 56) f56 d56)
    (hF52 : LamF base mg T d52 "_law_simplest_right") (hF54 : LamF base mg T d54 "_law_sums_right") (hF55 : LamF base mg T d55 "_law_kinds_right") : FnG P w K mg base 13 f56 d56 ["script"] (toV K T 1 (spLaw 63)) := by
  have c8 := g8.c X G (bi8 g8)
  have c10 := g10.c X G (bi10 g10)
  have c11 := g11.c X G (bi11 g11)
  have c12 := g12.c X G (bi12 g12)
  have c13 := g13.c X G (bi13 g13)
  have c14 := g14.c X G (bi14 g14)
  have c15 := g15.c X G (bi15 g15)
  have c16 := g16.c X G (bi16 g16)
  have c17 := g17.c X G (bi17 g17)
  have c18 := g18.c X G (bi18 g18)
  have c19 := g19.c X G (bi19 g19)
  have c20 := g20.c X G (bi20 g20)
  have c21 := g21.c X G (bi21 g21)
  have c22 := g22.c X G (bi22 g22)
  have c23 := g23.c X G (bi23 g23)
  have c24 := g24.c X G (bi24 g24)
  have c25 := g25.c X G (bi25 g25)
  have c26 := g26.c X G (bi26 g26)
  have c27 := g27.c X G (bi27 g27)
  have c28 := g28.c X G (bi28 g28)
  have c29 := g29.c X G (bi29 g29)
  have c31 := g31.c X G (bi31 g31)
  have c32 := g32.c X G (bi32 g32)
  have c33 := g33.c X G (bi33 g33)
  have c34 := g34.c X G (bi34 g34)
  have c36 := g36.c X G (bi36 g36)
  have c37 := g37.c X G (bi37 g37)
  have c47 := g47.c X G (bi47 g47)
  have c48 := g48.c X G (bi48 g48)
  have c49 := g49.c X G (bi49 g49)
  have c50 := g50.c X G (bi50 g50)
  have c51 := g51.c X G (bi51 g51)
  have c52 := g52.c X G (bi52 g52)
  have c53 := g53.c X G (bi53 g53)
  have c54 := g54.c X G (bi54 g54)
  have c55 := g55.c X G (bi55 g55)
  have c56 := g56.c X G (bi56 g56)
  have r8 := c8.cal (k := 1) (ok_num (P := P) (w := w) (base := base) (T := T) B c8.dd) (by decide)
  have r9 := c9.cal (k := 2) (ok_count r8 c9.dd) (by decide)
  have r10 := c10.cal (k := 1) (ok_divisor (P := P) (w := w) (mg := mg) (base := base) (T := T) c10.dd) (by decide)
  have r11 := c11.cal (k := 2) (ok_low B r10 c11.dd) (by decide)
  have r12 := c12.cal (k := 3) (ok_fr B r8 r9 r10 c12.dd) (by decide)
  have r13 := c13.cal (k := 4) (ok_look R r12 c13.dd) (by decide)
  have r14 := c14.cal (k := 4) (ok_frl B r12 c14.dd) (by decide)
  have r15 := c15.cal (k := 6) (ok_frac R r8 r11 c15.dd) (by decide)
  have r16 := c16.cal (k := 3) (ok_plus r11 c16.dd) (by decide)
  have r17 := c17.cal (k := 3) (ok_minus r11 c17.dd) (by decide)
  have r18 := c18.cal (k := 3) (ok_times r11 c18.dd) (by decide)
  have r19 := c19.cal (k := 3) (ok_over r11 c19.dd) (by decide)
  have r20 := c20.cal (k := 1) (ok_below (P := P) (w := w) (mg := mg) (base := base) (T := T) c20.dd) (by decide)
  have r21 := c21.cal (k := 4) (ok_total O r16 c21.dd) (by decide)
  have r22 := c22.cal (k := 5) (ok_sum R r14 r21 c22.dd) (by decide)
  have r23 := c23.cal (k := 5) (ok_prod R O r14 r18 c23.dd) (by decide)
  have r24 := c24.cal (k := 5) (ok_two r13 c24.dd) (by decide)
  have r25 := c25.cal (k := 6) (ok_less r24 r17 c25.dd) (by decide)
  have r26 := c26.cal (k := 6) (ok_share R O r24 r19 c26.dd) (by decide)
  have r27 := c27.cal (k := 6) (ok_isless r24 r20 c27.dd) (by decide)
  have r28 := c28.cal (k := 4) (ok_sa O r20 r19 r17 r16 c28.dd) (by decide)
  have r29 := c29.cal (k := 6) (ok_simp R O r24 r20 r28 c29.dd) (by decide)
  have q1 := c29.calK (k := 6) (kr29 g29) (ok_simp R O r24 r20 r28 c29.dd) (by decide)
  have q2 := c29.calK (k := 6) (ki29 g29) (ok_simp R O r24 r20 r28 c29.dd) (by decide)
  have q3 := c25.calK (k := 6) (kr25 g25) (ok_less r24 r17 c25.dd) (by decide)
  have q4 := c27.calK (k := 6) (kr27 g27) (ok_isless r24 r20 c27.dd) (by decide)
  have q5 := c26.calK (k := 6) (kr26 g26) (ok_share R O r24 r19 c26.dd) (by decide)
  have q6 := c22.calK (k := 5) (ki22 g22) (ok_sum R r14 r21 c22.dd) (by decide)
  have q7 := c15.calK (k := 6) (kr15 g15) (ok_frac R r8 r11 c15.dd) (by decide)
  have q8 := c12.calK (k := 3) (ki12 g12) (ok_fr B r8 r9 r10 c12.dd) (by decide)
  have r31 := c31.calN (k := 1) (ok_purse (P := P) (w := w) (base := base) (T := T) B c31.dd) (by decide)
  have r32 := c32.calP (k := 1) (ok_draw (P := P) (w := w) (base := base) (T := T) B c32.dd) (by decide)
  have r33 := c33.calP (k := 2) (ok_pick B r32 c33.dd) (by decide)
  have r34 := c34.calP (k := 2) (ok_btw r32 c34.dd) (by decide)
  have r37 := c37.cal (k := 1) (ok_lf (P := P) (w := w) (base := base) (T := T) B c37.dd) (by decide)
  have s0 := c36.cal (k := 1) (ok_same (P := P) (w := w) (base := base) (T := T) B 0 0 c36.dd fun j z => by omega) (by decide)
  have s1 := c36.cal (k := 2) (ok_same B 1 1 c36.dd fun j z => by (obtain rfl : j = 0 := (by omega)); exact s0) (by decide)
  have r36 := c36.cal (k := 3) (ok_same B 2 2 c36.dd fun j z => by (obtain rfl : j = 1 := (by omega)); exact s1) (by decide)
  have r49 := c49.cal (k := 6) (ok_kind (P := P) (w := w) (base := base) (T := T) B R S c49.dd) (by decide)
  have RT := ref_mk (CS := CS) c48 (cau_mk c47 gS) B R r49 x1 x2 x3
  have r50 := c50.calP (k := 3) (ok_planted B r33 c50.dd) (by decide)
  have r51 := c51.calP (k := 3) (ok_bt B r33 r37 c51.dd) (by decide)
  have r52 := c52.calP (k := 12) (ok_sr B hF52 RT r34 r50 r51 r33 r37 r36 r29 q1 c52.dd) (by decide)
  have r53 := c53.calP (k := 12) (ok_wr B r34 r33 r32 r37 r36 r29 q2 c53.dd) (by decide)
  have r54 := c54.calP (k := 12) (ok_sums B O hF54 RT r32 r33 r34 r37 r36 r25 r27 q3 q4 r26 q5 r22 r23 q6 c54.dd) (by decide)
  obtain ⟨a1, m1, t1⟩ := two_less (fa := f8) r25
  obtain ⟨a2, m2, t2⟩ := two_share r26
  obtain ⟨a3, m3, t3⟩ := two_less (fa := f8) r27
  obtain ⟨a4, m4, t4⟩ := two_simp r29
  have u1 := Cal.up (k := 6) r22 (by decide)
  have u2 := Cal.up (k := 6) r23 (by decide)
  obtain ⟨b1, m5, o1⟩ := one_all u1
  obtain ⟨b2, m6, o2⟩ := one_all u2
  have r55 := c55.calP (k := 12) (ok_kinds B hF55 RT r33 r34 r37 r36 r15 q7 r12 q8 m1 m2 m3 m4 m5 m6 t1 t2 t3 t4 o1 o2 u1 u2 c55.dd) (by decide)
  exact ok_law B r31 r52 r53 r54 r55 c56.dd
end
end K05
end
section
set_option maxRecDepth 100000
set_option maxHeartbeats 4000000
namespace K05
open PySem PySem.Spec PyProof.Rows L2 J PySem.W PySem.Calls PySem.HandSPX
section
variable {P : Program} {w : World} {K : PySem.W.Frag} {mg : Str → Option Value} {base h : Heap} {T : List (Addr × Str)} {CF CL CN CS : Addr}
theorem bt_mk (X : K.In h) (G : h.Ns mainGlobals mg) (a1 : nsIn K mainGlobals "isinstance" = some none) (a2 : nsIn K mainGlobals "int" = some none) (a3 : nsIn K mainGlobals "bool" = some none) (a4 : nsIn K mainGlobals "list" = some none) (a5 : nsIn K mainGlobals "tuple" = some none) (a6 : nsIn K mainGlobals "str" = some none)
    (a7 : nsIn K mainGlobals "len" = some none) (a8 : nsIn K mainGlobals "abs" = some none) (a9 : nsIn K mainGlobals "range" = some none) (a10 : nsIn K mainGlobals "repr" = some none) (a11 : nsIn K mainGlobals "all" = some none) : Bt mg :=
  ⟨mg_none_of X G a1, mg_none_of X G a2, mg_none_of X G a3, mg_none_of X G a4, mg_none_of X G a5, mg_none_of X G a6, mg_none_of X G a7, mg_none_of X G a8, mg_none_of X G a9, mg_none_of X G a10, mg_none_of X G a11⟩
theorem ect_mk {nm : Str} {C : Addr} {oS : Value} {dS : Option Addr} {cd : ClassData} {slS : Array (Option Value)} {n q N bs bm sn sub ab col dd k0 k1 k2 k3 k5} {fI cc cda dT : Addr} {oc kV doc pm ct : Value} {od an odT odC : Option Addr} {osl oslT oslC : Array (Option Value)} {vs : Array Value} {ccl cll : Value} {cld : Option Addr} {csl : Array (Option Value)} {file : Str} {tf : Tok} {p1 p2 p3 q1 q2 q3 q4 q5 q6 q7 q8 q9 q10 : Pos} {nT : Nat}
    (X : K.In h) (G : h.Ns mainGlobals mg) (a0 : nsIn K mainGlobals nm = some (some (.ref C))) (a1 : K.lookup C = some (excClassObj n q C N bs bm true sn sub ab col dd k0 k1 k2 k3 k5 "ValueError.__new__")) (a2 : refsVE bm = true) (a3 : ((Value.ref C :: bm).dropWhile (· != .ref C)).drop 1 = bm) (aS : nsIn K mainGlobals "StoreError" = some (some (.ref CS))) (lS : K.lookup CS = some ⟨oS, dS, .cls cd, slS⟩) (em : cd.mro = bm) (fS : findIn K (.ref CS) "__init__" = some (some (.builtin "ValueError.__init__")))
    (b1 : findIn K (.ref C) "__setattr__" = some (some (.builtin "object.__setattr__"))) (b2 : findIn K (.ref C) "__getattribute__" = some (some (.builtin "BaseException.__getattribute__"))) (b3 : findIn K (.ref C) "__getattr__" = some none) (b4 : findIn K (.ref C) "value" = some none)
    (b5 : typeIn K (.ref C) = some (.type "type")) (b6 : keepIn K (.ref C) = true) (b7 : subIn K (.ref C) (.type "BaseException") = some true) (b8 : subIn K (.ref C) (.type "ValueError") = some true) (b9 : mroIn K C (.ref C) = some true) (b10 : hasDictIn K C = true)
    (b11 : nsIn K cStatics "thirdparty.any" = some none) (b12 : nsIn K mainGlobals "super" = some none)
    (c1 : findIn K (.ref C) "__init__" = some (some (.ref fI))) (c2 : typeIn K (.ref fI) = some (.type "function"))
    (c3 : K.lookup fI = some ⟨oc, od, .func (PySem.W.ksFn "__init__" (nm ++ ".__init__") (eA p1 p2 p3) (eB q1 q2 q3 q4 q5 q6 q7 q8 q9 q10) eS (.ref dT) kV doc pm an (.ref cda) ct cc), osl⟩) (c4 : codeIn K (.ref cda) (nm ++ ".__init__") = true)
    (c5 : K.lookup dT = some ⟨.type "tuple", odT, .seq #[.none] nT, oslT⟩) (c6 : K.lookup cda = some ⟨ccl, odC, .fields vs, oslC⟩) (c7 : vs[2]? = some (.str file tf)) (c8 : file = ("/claim/cut.py" : Str)) (c9 : K.lookup cc = some ⟨cll, cld, .cell (some (.ref C)), csl⟩) (c10 : (q3.endLine == q5.line) = true) : EcT K nm C ∧ mg nm = some (.ref C) :=
  ⟨⟨⟨n, q, N, bs, bm, sn, sub, ab, col, dd, k0, k1, k2, k3, k5, a1, a2, a3, (by
      have z := fS
      unfold findIn at z
      dsimp only at z
      rw [lS] at z
      rw [← em]
      exact z)⟩, b1, b2, b3, b4, b5, b6, b7, b8, b9, b10, b11, b12,
   ⟨fI, cc, cda, dT, oc, kV, doc, pm, ct, od, an, odT, odC, osl, oslT, oslC, vs, ccl, cll, cld, csl, file, tf, p1, p2, p3, q1, q2, q3, q4, q5, q6, q7, q8, q9, q10, nT, c1, c2, c3, c4, c5, c6, c7, c8, c9, c10⟩⟩, mg_of X G a0⟩
theorem eci_mk {nm : Str} {C : Addr} (_e : EcT K nm C) (a1 : isClsIn K C = true) (a2 : findIn K (.ref C) "__class__" = some (some (.builtin "object.__class__"))) (a3 : specialIn K (.builtin "object.__class__") "__get__" = some (some (.builtin "getset_descriptor.__get__"))) (a4 : takesIn K (.builtin "object.__class__") = some true)
    (a5 : mroIn K C (.type "object") = some true) : EcI K C := ⟨a1, a2, a3, a4, a5⟩
theorem ks_mk (i1 : EcI K CF) (i2 : EcI K CL) (i3 : EcI K CN) (n1 : CF ≠ CL) (n2 : CF ≠ CN) (n3 : CL ≠ CN) (a12 : kitOne K (.ref CF) (.ref CL) = some false) (a13 : kitOne K (.ref CF) (.ref CN) = some false) (a21 : kitOne K (.ref CL) (.ref CF) = some false)
    (a23 : kitOne K (.ref CL) (.ref CN) = some false) (a31 : kitOne K (.ref CN) (.ref CF) = some false) (a32 : kitOne K (.ref CN) (.ref CL) = some false) : Ks K CF CL CN := by
  have self : ∀ C : Addr, kitOne K (.ref C) (.ref C) = some true := fun C => by
    unfold kitOne
    rw [if_pos (by simp)]
  refine ⟨i1, i2, i3, fun C hC D hD => ?_, n1, n2, n3⟩
  simp only [List.mem_cons, List.not_mem_nil, or_false] at hC hD
  rcases hC with rfl | rfl | rfl <;> rcases hD with rfl | rfl | rfl <;> first | (rw [self]; simp) | (rw [a12]; simp [n1]) | (rw [a13]; simp [n2]) | (rw [a21]; simp [Ne.symm n1]) | (rw [a23]; simp [n3]) | (rw [a31]; simp [Ne.symm n2]) | (rw [a32]; simp [Ne.symm n3])
theorem kit_mk {C D : Addr} (n : C ≠ D) (h2 : isClsIn K D = true) (h3 : typeIn K (.ref D) = some (.type "type")) (h4 : subIn K (.ref C) (.ref D) = some false) : kitOne K (.ref C) (.ref D) = some false := by
  have h2' : (clsIn K D).isSome = true := h2
  unfold kitOne
  rw [if_neg (by simpa using n)]
  show (if ((clsIn K D).isSome && typeIn K (.ref D) == some (.type "type")) = true then subIn K (.ref C) (.ref D) else none) = _
  rw [h2', h3, if_pos (by rfl), h4]
theorem exm_mk {C S : Addr} (h1 : subIn K (.ref S) (.type "BaseException") = some true) (h2 : isClsIn K S = true) (h3 : typeIn K (.ref S) = some (.type "type")) (h4 : subIn K (.ref C) (.ref S) = some true) : exmOne K (.ref C) (.ref S) = some true := by
  have h2' : (clsIn K S).isSome = true := h2
  show (if (subIn K (.ref S) (.type "BaseException") == some true) = true then (if ((clsIn K S).isSome && typeIn K (.ref S) == some (.type "type")) = true then subIn K (.ref C) (.ref S) else none) else none) = some true
  rw [h1, if_pos (by rfl), h2', h3, if_pos (by rfl), h4]
theorem co_mk {a : Addr} {q : Rat} {i j : Int} {t1 t2 : Tok} {od : Option Addr} {m : Nat} {osl : Array (Option Value)} (X : K.In h) (G : h.Ns mainGlobals mg) {nm : Str} (n1 : nsIn K mainGlobals nm = some (some (.ref a))) (l1 : K.lookup a = some ⟨.type "tuple", od, .seq #[.int i t1, .int j t2] m, osl⟩) (ei : i = q.num) (ej : j = q.den) :
    ∃ a : Addr, mg nm = some (.ref a) ∧ ∀ F, Rep K F (rt q) (.ref a) := by
  subst ei ej
  refine ⟨a, mg_of X G n1, fun F => ⟨a, [.int q.num, .int q.den], rfl, .inr ⟨_, _, _, l1, rfl, rfl, ?_, ?_⟩, ⟨_, _, rfl, rfl, ⟨_, _, rfl, rfl, rfl⟩⟩⟩⟩
  · rw [sizeLine_eq]; show 2 ≤ _; omega
  · exact .cons ⟨t1, rfl⟩ (.cons ⟨t2, rfl⟩ .nil)
theorem lawJ_mk {l : OpenLaw} {f fa cc1 cc2 cc3 P1 P2 P3 : Addr} {d d1 d2 d3 : FuncData} (X : K.In h) (G : h.Ns mainGlobals mg) (hfa : mg "law" = some (.ref fa)) (g : FnK K "law" (topS 56) f d)
    (t1 : h.get? P1 = some { cls := .none, data := .fields #[] }) (t2 : h.get? P2 = some { cls := .none, data := .fields #[] }) (t3 : h.get? P3 = some { cls := .none, data := .fields #[] }) (n1 : K.lookup P1 = none) (n2 : K.lookup P2 = none) (n3 : K.lookup P3 = none)
    (c1 : codeHdIn K cc1 P1 = true) (c2 : codeHdIn K cc2 P2 = true) (c3 : codeHdIn K cc3 P3 = true) (e1 : d1.code = .ref cc1) (e2 : d2.code = .ref cc2) (e3 : d3.code = .ref cc3) (x12 : P1 ≠ P2) (x13 : P1 ≠ P3) (x23 : P2 ≠ P3) (nS : K.lookup sysModules = none)
    (F : ∀ (base : Heap) (T : List (Addr × Str)), LamF base mg T d1 "_law_simplest_right" → LamF base mg T d2 "_law_sums_right" → LamF base mg T d3 "_law_kinds_right" → FnG l.prog w K mg base 13 f d ["script"] (toV K T 1 (spLaw 63))) : LawJ l w K 14 63 "script" mg fa h := by
  have e := hfa.symm.trans (mg_of X G g.ns)
  cases e
  refine ⟨d, [(cc1, P1), (cc2, P2), (cc3, P3)], [(P1, (("_law_simplest_right" : Str) ++ ".<locals>." : Str) ++ "<lambda>"), (P2, (("_law_sums_right" : Str) ++ ".<locals>." : Str) ++ "<lambda>"), (P3, (("_law_kinds_right" : Str) ++ ".<locals>." : Str) ++ "<lambda>")], ?_, ?_, ?_, ?_, nS, ?_, ?_, ?_⟩
  · intro p hp
    simp only [List.mem_cons, List.not_mem_nil, or_false] at hp
    rcases hp with rfl | rfl | rfl
    · exact t1
    · exact t2
    · exact t3
  · intro p hp
    simp only [List.mem_cons, List.not_mem_nil, or_false] at hp
    rcases hp with rfl | rfl | rfl
    · exact n1
    · exact n2
    · exact n3
  · intro p hp
    simp only [List.mem_cons, List.not_mem_nil, or_false] at hp
    rcases hp with rfl | rfl | rfl
    · exact codeHd_of_K X c1
    · exact codeHd_of_K X c2
    · exact codeHd_of_K X c3
  · obtain ⟨oc, od, kV, doc, pm, an, cdv, ct, osl, rfl, _, _⟩ := g.ex
    exact fun s u => .of_eq rfl
  · intro p hp
    simp only [List.mem_cons, List.not_mem_nil, or_false] at hp
    rcases hp with rfl | rfl | rfl <;> simp
  · intro b hb
    simp only [List.map_cons, List.map_nil, List.mem_cons, List.not_mem_nil, or_false] at hb
    rcases hb with rfl | rfl | rfl
    · exact ⟨_, List.mem_cons_self⟩
    · exact ⟨_, List.mem_cons_of_mem _ List.mem_cons_self⟩
    · exact ⟨_, List.mem_cons_of_mem _ (List.mem_cons_of_mem _ List.mem_cons_self)⟩
  · intro base hK hN hT
    refine (F base _ ⟨⟨cc1, P1, e1, hT _ List.mem_cons_self, List.mem_cons_self, ?_⟩⟩ ⟨⟨cc2, P2, e2, hT (cc2, P2) (List.mem_cons_of_mem _ List.mem_cons_self), List.mem_cons_of_mem _ List.mem_cons_self, ?_⟩⟩ ⟨⟨cc3, P3, e3, hT (cc3, P3) (List.mem_cons_of_mem _ (List.mem_cons_of_mem _ List.mem_cons_self)), List.mem_cons_of_mem _ (List.mem_cons_of_mem _ List.mem_cons_self), ?_⟩⟩).mono (by decide)
    · intro p hp z
      simp only [List.mem_cons, List.not_mem_nil, or_false] at hp
      rcases hp with rfl | rfl | rfl
      · rfl
      · exact absurd z.symm x12
      · exact absurd z.symm x13
    · intro p hp z
      simp only [List.mem_cons, List.not_mem_nil, or_false] at hp
      rcases hp with rfl | rfl | rfl
      · exact absurd z x12
      · rfl
      · exact absurd z.symm x23
    · intro p hp z
      simp only [List.mem_cons, List.not_mem_nil, or_false] at hp
      rcases hp with rfl | rfl | rfl
      · exact absurd z x13
      · exact absurd z x23
      · rfl
end
end K05
end
open PySem PySem.W PyProof.Rows
set_option maxRecDepth 100000 in
set_option maxHeartbeats 0 in
theorem PySem.Challenge.cw_nearerstill_k05_whole_fractions_planted_holds : PySem.Challenge.rw_nearerstill_k05_whole_fractions_planted.Holds := by
  w_on; o_law; k_head; (case hw => w_witness2)
  k_fill
  refine J.walk_J (l := PySem.Challenge.rw_nearerstill_k05_whole_fractions_planted) (n := 63) (k := 14) (x := "script") rfl (by decide) rfl ⟨⟨rfl, by decide, by decide⟩, rfl⟩ (by decide +kernel) (fun w h Y => PySem.W.km_in_of Y) ?F
  case F =>
    intro w mg fa h Y KX G hmg
    have t0 := PySem.W.km_tabs_of Y
    have B := K05.bt_mk KX G (by k_is) (by k_is) (by k_is) (by k_is) (by k_is) (by k_is) (by k_is) (by k_is) (by k_is) (by k_is) (by k_is)
    obtain ⟨eF, gF⟩ := K05.ect_mk KX G (nm := "InvalidFraction") (by k_is) (by k_is) (by decide) (by decide) (by k_is) (by k_is) (by rfl) (by k_is) (by k_is) (by k_is) (by k_is) (by k_is) (by k_is) (by k_is) (by k_is) (by k_is) (by k_is) (by k_is) (by k_is) (by k_is) (by k_is) (by k_is) (by k_is) (by k_is) (by k_is) (by k_is) rfl rfl (by k_is) (by decide)
    have iF := K05.eci_mk eF (by k_is) (by k_is) (by k_is) (by k_is) (by k_is)
    obtain ⟨eL, gL⟩ := K05.ect_mk KX G (nm := "InvalidList") (by k_is) (by k_is) (by decide) (by decide) (by k_is) (by k_is) (by rfl) (by k_is) (by k_is) (by k_is) (by k_is) (by k_is) (by k_is) (by k_is) (by k_is) (by k_is) (by k_is) (by k_is) (by k_is) (by k_is) (by k_is) (by k_is) (by k_is) (by k_is) (by k_is) (by k_is) rfl rfl (by k_is) (by decide)
    have iL := K05.eci_mk eL (by k_is) (by k_is) (by k_is) (by k_is) (by k_is)
    obtain ⟨eN, gN⟩ := K05.ect_mk KX G (nm := "InvalidNumber") (by k_is) (by k_is) (by decide) (by decide) (by k_is) (by k_is) (by rfl) (by k_is) (by k_is) (by k_is) (by k_is) (by k_is) (by k_is) (by k_is) (by k_is) (by k_is) (by k_is) (by k_is) (by k_is) (by k_is) (by k_is) (by k_is) (by k_is) (by k_is) (by k_is) (by k_is) rfl rfl (by k_is) (by decide)
    have iN := K05.eci_mk eN (by k_is) (by k_is) (by k_is) (by k_is) (by k_is)
    have S := K05.ks_mk iF iL iN (by decide) (by decide) (by decide) (K05.kit_mk (by decide) (by k_is) (by k_is) (by k_is)) (K05.kit_mk (by decide) (by k_is) (by k_is) (by k_is)) (K05.kit_mk (by decide) (by k_is) (by k_is) (by k_is)) (K05.kit_mk (by decide) (by k_is) (by k_is) (by k_is)) (K05.kit_mk (by decide) (by k_is) (by k_is) (by k_is)) (K05.kit_mk (by decide) (by k_is) (by k_is) (by k_is))
    have o0 := K05.co_mk (q := 0) KX G (nm := "NONE") (by k_is) (by k_is) (by decide +kernel) (by decide +kernel)
    have o1 := K05.co_mk (q := 1) KX G (nm := "ONE") (by k_is) (by k_is) (by decide +kernel) (by decide +kernel)
    have gS := PySem.W.mg_of (n := "StoreError") KX G (by k_is)
    obtain ⟨d8, g8, k8⟩ := K05.FnK.mk' KX (nm := "is_number") (st := K05.topS 8) (by k_is) (by k_is) (by k_is) (by k_is)
    have c9 := K05.c9 KX G (by k_is) (by k_is) (by k_is) (by k_is) (by k_is) rfl
    obtain ⟨d10, g10, k10⟩ := K05.FnK.mk' KX (nm := "divisor") (st := K05.topS 10) (by k_is) (by k_is) (by k_is) (by k_is)
    obtain ⟨d11, g11, k11⟩ := K05.FnK.mk' KX (nm := "by_lowest") (st := K05.topS 11) (by k_is) (by k_is) (by k_is) (by k_is)
    obtain ⟨d12, g12, k12⟩ := K05.FnK.mk' KX (nm := "is_fraction") (st := K05.topS 12) (by k_is) (by k_is) (by k_is) (by k_is)
    obtain ⟨d13, g13, k13⟩ := K05.FnK.mk' KX (nm := "look_at_fraction") (st := K05.topS 13) (by k_is) (by k_is) (by k_is) (by k_is)
    obtain ⟨d14, g14, k14⟩ := K05.FnK.mk' KX (nm := "are_fractions") (st := K05.topS 14) (by k_is) (by k_is) (by k_is) (by k_is)
    obtain ⟨d15, g15, k15⟩ := K05.FnK.mk' KX (nm := "fraction_of") (st := K05.topS 15) (by k_is) (by k_is) (by k_is) (by k_is)
    obtain ⟨d16, g16, k16⟩ := K05.FnK.mk' KX (nm := "plus") (st := K05.topS 16) (by k_is) (by k_is) (by k_is) (by k_is)
    obtain ⟨d17, g17, k17⟩ := K05.FnK.mk' KX (nm := "minus") (st := K05.topS 17) (by k_is) (by k_is) (by k_is) (by k_is)
    obtain ⟨d18, g18, k18⟩ := K05.FnK.mk' KX (nm := "times") (st := K05.topS 18) (by k_is) (by k_is) (by k_is) (by k_is)
    obtain ⟨d19, g19, k19⟩ := K05.FnK.mk' KX (nm := "over") (st := K05.topS 19) (by k_is) (by k_is) (by k_is) (by k_is)
    obtain ⟨d20, g20, k20⟩ := K05.FnK.mk' KX (nm := "below") (st := K05.topS 20) (by k_is) (by k_is) (by k_is) (by k_is)
    obtain ⟨d21, g21, k21⟩ := K05.FnK.mk' KX (nm := "total") (st := K05.topS 21) (by k_is) (by k_is) (by k_is) (by k_is)
    obtain ⟨d22, g22, k22⟩ := K05.FnK.mk' KX (nm := "sum_of") (st := K05.topS 22) (by k_is) (by k_is) (by k_is) (by k_is)
    obtain ⟨d23, g23, k23⟩ := K05.FnK.mk' KX (nm := "product_of") (st := K05.topS 23) (by k_is) (by k_is) (by k_is) (by k_is)
    obtain ⟨d24, g24, k24⟩ := K05.FnK.mk' KX (nm := "look_at_two") (st := K05.topS 24) (by k_is) (by k_is) (by k_is) (by k_is)
    obtain ⟨d25, g25, k25⟩ := K05.FnK.mk' KX (nm := "less") (st := K05.topS 25) (by k_is) (by k_is) (by k_is) (by k_is)
    obtain ⟨d26, g26, k26⟩ := K05.FnK.mk' KX (nm := "share") (st := K05.topS 26) (by k_is) (by k_is) (by k_is) (by k_is)
    obtain ⟨d27, g27, k27⟩ := K05.FnK.mk' KX (nm := "is_less") (st := K05.topS 27) (by k_is) (by k_is) (by k_is) (by k_is)
    obtain ⟨d28, g28, k28⟩ := K05.FnK.mk' KX (nm := "simplest_above") (st := K05.topS 28) (by k_is) (by k_is) (by k_is) (by k_is)
    obtain ⟨d29, g29, k29⟩ := K05.FnK.mk' KX (nm := "simplest") (st := K05.topS 29) (by k_is) (by k_is) (by k_is) (by k_is)
    obtain ⟨d31, g31, k31⟩ := K05.FnK.mk' KX (nm := "_law_purse") (st := K05.topS 31) (by k_is) (by k_is) (by k_is) (by k_is)
    obtain ⟨d32, g32, k32⟩ := K05.FnK.mk' KX (nm := "_law_draw") (st := K05.topS 32) (by k_is) (by k_is) (by k_is) (by k_is)
    obtain ⟨d33, g33, k33⟩ := K05.FnK.mk' KX (nm := "_law_pick") (st := K05.topS 33) (by k_is) (by k_is) (by k_is) (by k_is)
    obtain ⟨d34, g34, k34⟩ := K05.FnK.mk' KX (nm := "_law_between") (st := K05.topS 34) (by k_is) (by k_is) (by k_is) (by k_is)
    obtain ⟨d36, g36, k36⟩ := K05.FnK.mk' KX (nm := "_law_same") (st := K05.topS 36) (by k_is) (by k_is) (by k_is) (by k_is)
    obtain ⟨d37, g37, k37⟩ := K05.FnK.mk' KX (nm := "_law_frac") (st := K05.topS 37) (by k_is) (by k_is) (by k_is) (by k_is)
    obtain ⟨d47, g47, k47⟩ := K05.FnK.mk' KX (nm := "_law_caught") (st := K05.topS 47) (by k_is) (by k_is) (by k_is) (by k_is)
    obtain ⟨d48, g48, k48⟩ := K05.FnK.mk' KX (nm := "_law_refused") (st := K05.topS 48) (by k_is) (by k_is) (by k_is) (by k_is)
    obtain ⟨d49, g49, k49⟩ := K05.FnK.mk' KX (nm := "_law_kind") (st := K05.topS 49) (by k_is) (by k_is) (by k_is) (by k_is)
    obtain ⟨d50, g50, k50⟩ := K05.FnK.mk' KX (nm := "_law_planted") (st := K05.topS 50) (by k_is) (by k_is) (by k_is) (by k_is)
    obtain ⟨d51, g51, k51⟩ := K05.FnK.mk' KX (nm := "_law_between_two") (st := K05.topS 51) (by k_is) (by k_is) (by k_is) (by k_is)
    obtain ⟨d52, g52, k52⟩ := K05.FnK.mk' KX (nm := "_law_simplest_right") (st := K05.topS 52) (by k_is) (by k_is) (by k_is) (by k_is)
    obtain ⟨d53, g53, k53⟩ := K05.FnK.mk' KX (nm := "_law_whole_right") (st := K05.topS 53) (by k_is) (by k_is) (by k_is) (by k_is)
    obtain ⟨d54, g54, k54⟩ := K05.FnK.mk' KX (nm := "_law_sums_right") (st := K05.topS 54) (by k_is) (by k_is) (by k_is) (by k_is)
    obtain ⟨d55, g55, k55⟩ := K05.FnK.mk' KX (nm := "_law_kinds_right") (st := K05.topS 55) (by k_is) (by k_is) (by k_is) (by k_is)
    obtain ⟨d56, g56, k56⟩ := K05.FnK.mk' KX (nm := "law") (st := K05.topS 56) (by k_is) (by k_is) (by k_is) (by k_is)
    have R : K05.Er (PySem.Challenge.rw_nearerstill_k05_whole_fractions_planted : PySem.W.OpenLaw).prog _ mg _ _ _ := ⟨⟨by decide +kernel, by decide +kernel⟩, eF, eL, eN, gF, gL, gN⟩
    refine K05.lawJ_mk (P1 := 387) (P2 := 399) (P3 := 404) KX G hmg g56 ?t1 ?t2 ?t3 (by kernel_rfl) (by kernel_rfl) (by kernel_rfl) (by kernel_rfl) (by kernel_rfl) (by kernel_rfl) k52 k54 k55 (by decide) (by decide) (by decide) (by kernel_rfl) fun base T h1 h2 h3 => K05.law_mk KX G B R S ⟨o0, o1⟩ gS (K05.exm_mk (by k_is) (by k_is) (by k_is) (by k_is)) (K05.exm_mk (by k_is) (by k_is) (by k_is) (by k_is)) (K05.exm_mk (by k_is) (by k_is) (by k_is) (by k_is)) g8 c9 g10 g11 g12 g13 g14 g15 g16 g17 g18 g19 g20 g21 g22 g23 g24 g25 g26 g27 g28 g29 g31 g32 g33 g34 g36 g37 g47 g48 g49 g50 g51 g52 g53 g54 g55 g56 h1 h2 h3
    (case t1 => exact t0 _ (by simp)); (case t2 => exact t0 _ (by simp)); (case t3 => exact t0 _ (by simp))
