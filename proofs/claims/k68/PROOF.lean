import PyProof.Rows.All
import Wide.All
import OpenK.AllK
import Wide.FinOn
import PySem.Challenge.RW_steadyroom_k68_width_forms
import HandS.ForMost
import HandS.ForExc
import HandS.CallSlots
import HandS.ExcOwn
import HandS.Deep
import HandS.SortInts
import HandS.SortRule
import HandS.Comp
import HandS.Dict
import HandS.IsInst
import HandS.Conv
import HandS.Set
import HandS.SetFor
import HandS.Strs
set_option Elab.async false
set_option linter.all false
set_option maxRecDepth 100000
set_option maxHeartbeats 4000000
/-! D1: data, slots, what stands for them, the live state. -/
namespace Dl
open PySem PySem.Spec
open PyProof.Rows L2

/-- data -/
inductive Dat where
  | non | bl (b : Bool) | int (i : Int) | str (x : Str)
  | tup (xs : List Dat) | lst (xs : List Dat)
  | dk (ks : List Key) (xs : List Dat) | dt (ks : List (List Key)) (xs : List Dat)
  | obj (c : Nat) (ns : List Str) (xs : List Dat)
  | scr (ns : List Int)
/-- the written part and where its classes stand -/
structure Gd where
  K : PySem.W.Frag
  cl : Nat → Addr
  xc : Nat → Addr
section
variable (G : Gd) (F : Hp)
mutual
def Rep : Dat → V → Prop
  | .non, v => v = .non
  | .bl b, v => v = .bl b
  | .int i, v => v = .int i
  | .str x, v => v = .str x
  | .tup xs, v => ∃ a vs, v = .ref a ∧ SqT G.K F a vs ∧ RepL xs vs
  | .lst xs, v => ∃ a vs, v = .ref a ∧ F a = some (.lst vs) ∧ RepL xs vs
  | .dk ks xs, v => ∃ a vs, v = .ref a ∧ F a = some (.dK (ks.zip vs)) ∧ ks.length = vs.length ∧ RepL xs vs
  | .dt ks xs, v => ∃ a vs, v = .ref a ∧ F a = some (.dT (ks.zip vs)) ∧ ks.length = vs.length ∧ RepL xs vs
  | .obj c ns xs, v => ∃ a dx vs, v = .ref a ∧ F a = some (.ins (G.cl c) dx (ns.zip vs)) ∧ ns.length = vs.length ∧ RepL xs vs
  | .scr ns, v => ∃ a, v = .ref a ∧ SqL G.K F a (ns.map V.int)
def RepL : List Dat → List V → Prop
  | [], vs => vs = []
  | d :: ds, vs => ∃ v r, vs = v :: r ∧ Rep d v ∧ RepL ds r
end
end
section
variable {G : Gd} {F F' : Hp}
theorem rd_mono (e : Same F F') {a : Addr} {u : HO} (h : Rd F a u) : Rd F' a u := by
  rcases h with h | ⟨o, h⟩
  · exact .inl (e _ _ h)
  · exact .inr ⟨o, e _ _ h⟩
theorem sqL_mono {K : PySem.W.Frag} (e : Same F F') {a : Addr} {xs : List V} (h : SqL K F a xs) : SqL K F' a xs := h.imp (rd_mono e) id
theorem sqT_mono {K : PySem.W.Frag} (e : Same F F') {a : Addr} {xs : List V} (h : SqT K F a xs) : SqT K F' a xs := h.imp (rd_mono e) id
mutual
theorem Rep.mono (e : Same F F') : ∀ {d : Dat} {v : V}, Rep G F d v → Rep G F' d v
  | .non, _, h => h
  | .bl _, _, h => h
  | .int _, _, h => h
  | .str _, _, h => h
  | .tup _, _, ⟨a, vs, h1, h2, h3⟩ => ⟨a, vs, h1, sqT_mono e h2, RepL.mono e h3⟩
  | .lst _, _, ⟨a, vs, h1, h2, h3⟩ => ⟨a, vs, h1, e _ _ h2, RepL.mono e h3⟩
  | .dk _ _, _, ⟨a, vs, h1, h2, h3, h4⟩ => ⟨a, vs, h1, e _ _ h2, h3, RepL.mono e h4⟩
  | .dt _ _, _, ⟨a, vs, h1, h2, h3, h4⟩ => ⟨a, vs, h1, e _ _ h2, h3, RepL.mono e h4⟩
  | .obj _ _ _, _, ⟨a, dx, vs, h1, h2, h3, h4⟩ => ⟨a, dx, vs, h1, e _ _ h2, h3, RepL.mono e h4⟩
  | .scr _, _, ⟨a, h1, h2⟩ => ⟨a, h1, sqL_mono e h2⟩
theorem RepL.mono (e : Same F F') : ∀ {ds : List Dat} {vs : List V}, RepL G F ds vs → RepL G F' ds vs
  | [], _, h => h
  | _ :: _, _, ⟨v, r, h1, h2, h3⟩ => ⟨v, r, h1, Rep.mono e h2, RepL.mono e h3⟩
end
theorem RepL.len : ∀ {ds : List Dat} {vs : List V}, RepL G F ds vs → ds.length = vs.length
  | [], vs, h => by cases (show vs = [] from h); rfl
  | _ :: _, _, ⟨_, _, h1, _, h3⟩ => by rw [h1, List.length_cons, List.length_cons, h3.len]
theorem RepL.get : ∀ {ds : List Dat} {vs : List V} {i : Nat} {d : Dat}, RepL G F ds vs → ds[i]? = some d → ∃ v, vs[i]? = some v ∧ Rep G F d v
  | [], _, _, _, _, e => by simp at e
  | _ :: _, _, 0, d, ⟨v, r, h1, h2, h3⟩, e => by simp at e; subst e; exact ⟨v, by rw [h1] <;> rfl, h2⟩
  | _ :: _, _, i + 1, d, ⟨v, r, h1, h2, h3⟩, e => by
    obtain ⟨w, h4, h5⟩ := h3.get (i := i) (d := d) (by simpa using e)
    exact ⟨w, by rw [h1]; simpa using h4, h5⟩
theorem RepL.get' {ds : List Dat} {vs : List V} {i : Nat} {v : V} (h : RepL G F ds vs) (e : vs[i]? = some v) : ∃ d, ds[i]? = some d ∧ Rep G F d v := by
  have hi : i < ds.length := by rw [h.len]; exact (List.getElem?_eq_some_iff.mp e).1
  obtain ⟨w, h1, h2⟩ := h.get (List.getElem?_eq_getElem hi)
  rw [e] at h1; cases h1
  exact ⟨_, List.getElem?_eq_getElem hi, h2⟩
theorem RepL.app : ∀ {ds es : List Dat} {vs ws : List V}, RepL G F ds vs → RepL G F es ws → RepL G F (ds ++ es) (vs ++ ws)
  | [], _, _, _, h, k => by rw [show _ = [] from h]; exact k
  | _ :: _, _, _, _, ⟨v, r, h1, h2, h3⟩, k => ⟨v, r ++ _, by rw [h1] <;> rfl, h2, h3.app k⟩
theorem RepL.one {d : Dat} {v : V} (h : Rep G F d v) : RepL G F [d] [v] := ⟨v, [], rfl, h, rfl⟩
theorem RepL.take : ∀ {ds : List Dat} {vs : List V} (n : Nat), RepL G F ds vs → RepL G F (ds.take n) (vs.take n)
  | [], _, n, h => by rw [show _ = [] from h]; simp; rfl
  | _ :: _, _, 0, _ => rfl
  | _ :: _, _, n + 1, ⟨v, r, h1, h2, h3⟩ => ⟨v, r.take n, by rw [h1] <;> rfl, h2, h3.take n⟩
theorem RepL.drop : ∀ {ds : List Dat} {vs : List V} (n : Nat), RepL G F ds vs → RepL G F (ds.drop n) (vs.drop n)
  | [], _, n, h => by rw [show _ = [] from h]; simp; rfl
  | _ :: _, _, 0, h => h
  | _ :: _, _, n + 1, ⟨v, r, h1, h2, h3⟩ => by
    rw [h1]
    exact h3.drop n
theorem RepL.set : ∀ {ds : List Dat} {vs : List V} {d : Dat} {v : V} (n : Nat), RepL G F ds vs → Rep G F d v → RepL G F (ds.set n d) (vs.set n v)
  | [], _, _, _, n, h, _ => by rw [show _ = [] from h]; exact rfl
  | _ :: _, _, _, _, 0, ⟨v, r, h1, h2, h3⟩, k => by rw [h1]; exact ⟨_, r, rfl, k, h3⟩
  | _ :: _, _, _, _, n + 1, ⟨v, r, h1, h2, h3⟩, k => by rw [h1]; exact ⟨v, r.set n _, rfl, h2, h3.set n k⟩
theorem RepL.ints : ∀ {ns : List Int} {vs : List V}, RepL G F (ns.map Dat.int) vs → vs = ns.map V.int
  | [], _, h => h
  | n :: ns, _, ⟨v, r, h1, h2, h3⟩ => by
    rw [h1, h3.ints, show v = V.int n from h2]
    rfl
theorem RepL.of_ints : ∀ {ns : List Int}, RepL G F (ns.map Dat.int) (ns.map V.int)
  | [] => rfl
  | n :: ns => ⟨.int n, _, rfl, rfl, RepL.of_ints⟩
end

/-! ### slots -/
/-- what a slot holds, told: data that stands still, or an object that nobody else knows -/
inductive S where
  | val (d : Dat) | lst (xs : List Dat) | dk (ks : List Key) (xs : List Dat) | dt (ks : List (List Key)) (xs : List Dat) | ins (c : Nat) (ns : List Str) (xs : List Dat)
/-- .. with its places -/
inductive T where
  | val (v : V) (d : Dat) | lst (a : Addr) (vs : List V) (xs : List Dat) | dk (a : Addr) (ks : List Key) (vs : List V) (xs : List Dat) | dt (a : Addr) (ks : List (List Key)) (vs : List V) (xs : List Dat)
  | ins (a dx : Addr) (c : Nat) (ns : List Str) (vs : List V) (xs : List Dat)
@[reducible] def S.dat : S → Dat
  | .val d => d | .lst xs => .lst xs | .dk ks xs => .dk ks xs | .dt ks xs => .dt ks xs | .ins c ns xs => .obj c ns xs
def T.er : T → S
  | .val _ d => .val d | .lst _ _ xs => .lst xs | .dk _ ks _ xs => .dk ks xs | .dt _ ks _ xs => .dt ks xs | .ins _ _ c ns _ xs => .ins c ns xs
def T.v : T → V
  | .val v _ => v | .lst a _ _ => .ref a | .dk a _ _ _ => .ref a | .dt a _ _ _ => .ref a | .ins a _ _ _ _ _ => .ref a
def T.fp : T → List Addr
  | .val _ _ => [] | .lst a _ _ => [a] | .dk a _ _ _ => [a] | .dt a _ _ _ => [a] | .ins a dx _ _ _ _ => [a, dx]
def T.ok (G : Gd) (F H : Hp) : T → Prop
  | .val v d => Rep G F d v
  | .lst a vs xs => H a = some (.lst vs) ∧ RepL G F xs vs
  | .dk a ks vs xs => H a = some (.dK (ks.zip vs)) ∧ ks.length = vs.length ∧ RepL G F xs vs
  | .dt a ks vs xs => H a = some (.dT (ks.zip vs)) ∧ ks.length = vs.length ∧ RepL G F xs vs
  | .ins a dx c ns vs xs => H a = some (.ins (G.cl c) dx (ns.zip vs)) ∧ H dx = some (.own a) ∧ ns.length = vs.length ∧ RepL G F xs vs
def fps (tl : List T) : List Addr := tl.flatMap T.fp
theorem T.ok.of {G : Gd} {F F' H H' : Hp} (e : Same F F') : ∀ {t : T}, t.ok G F H → (∀ a ∈ t.fp, ∀ o, H a = some o → H' a = some o) → t.ok G F' H'
  | .val _ _, h, _ => Rep.mono e h
  | .lst a _ _, ⟨h1, h2⟩, k => ⟨k a (by simp [T.fp]) _ h1, h2.mono e⟩
  | .dk a _ _ _, ⟨h1, h2, h3⟩, k => ⟨k a (by simp [T.fp]) _ h1, h2, h3.mono e⟩
  | .dt a _ _ _, ⟨h1, h2, h3⟩, k => ⟨k a (by simp [T.fp]) _ h1, h2, h3.mono e⟩
  | .ins a dx _ _ _ _, ⟨h1, h2, h3, h4⟩, k => ⟨k a (by simp [T.fp]) _ h1, k dx (by simp [T.fp]) _ h2, h3, h4.mono e⟩
theorem T.ok.some_of {G : Gd} {F H : Hp} : ∀ {t : T}, t.ok G F H → ∀ a ∈ t.fp, H a ≠ none
  | .val _ _, _, a, ha => by simp [T.fp] at ha
  | .lst b _ _, ⟨h1, _⟩, a, ha => by simp [T.fp] at ha; subst ha; rw [h1]; exact fun z => nomatch z
  | .dk b _ _ _, ⟨h1, _⟩, a, ha => by simp [T.fp] at ha; subst ha; rw [h1]; exact fun z => nomatch z
  | .dt b _ _ _, ⟨h1, _⟩, a, ha => by simp [T.fp] at ha; subst ha; rw [h1]; exact fun z => nomatch z
  | .ins b dx _ _ _ _, ⟨h1, h2, _⟩, a, ha => by
    simp [T.fp] at ha
    rcases ha with rfl | rfl
    · rw [h1]; exact fun z => nomatch z
    · rw [h2]; exact fun z => nomatch z

/-! ### the live state -/
/-- a def's run: the heap at its entry, what of it was still then, what it may change -/
structure Act where
  G : Gd
  H0 : Hp
  F0 : Hp
  P0 : List Addr
  pin : List (Nat × V)
structure Liv (A : Act) (F H : Hp) (tl : List T) : Prop where
  fh : Same F H
  f0 : Same A.F0 F
  keep : ∀ a o, A.H0 a = some o → a ∉ A.P0 → H a = some o
  new : ∀ a, F a ≠ none → A.F0 a ≠ none ∨ A.H0 a = none ∨ a ∈ A.P0
  ok : ∀ t ∈ tl, t.ok A.G F H
  nd : (fps tl).Nodup
  fr : ∀ a ∈ fps tl, F a = none ∧ (A.H0 a = none ∨ a ∈ A.P0)
section
variable {A : Act} {F F' H H' : Hp} {tl tl' : List T} {t t' : T}
theorem fps_perm (p : tl.Perm tl') : (fps tl).Perm (fps tl') := List.Perm.flatMap_right _ p
theorem Liv.perm (L : Liv A F H tl) (p : tl.Perm tl') : Liv A F H tl' :=
  ⟨L.fh, L.f0, L.keep, L.new, fun t h => L.ok t (p.mem_iff.mpr h), (fps_perm p).nodup_iff.mp L.nd, fun a h => L.fr a ((fps_perm p).mem_iff.mpr h)⟩
theorem Liv.drop1 (L : Liv A F H (t :: tl)) : Liv A F H tl :=
  ⟨L.fh, L.f0, L.keep, L.new, fun t h => L.ok t (List.mem_cons_of_mem _ h), (List.nodup_append.mp L.nd).2.1, fun a h => L.fr a (List.mem_append_right _ h)⟩
theorem Liv.fresh0 (L : Liv A F H tl) {p : Addr} (h : H p = none) : A.H0 p = none ∨ p ∈ A.P0 := by
  by_cases hp : p ∈ A.P0
  · exact .inr hp
  · refine .inl ?_
    cases q : A.H0 p with
    | none => rfl
    | some o => rw [L.keep p o q hp] at h; cases h
theorem Liv.freshF (L : Liv A F H tl) {p : Addr} (h : H p = none) : F p = none := by
  cases q : F p with
  | none => rfl
  | some o => rw [L.fh p o q] at h; cases h
theorem Liv.fpne (L : Liv A F H tl) {p : Addr} (h : H p = none) : p ∉ fps tl := fun hm => by
  obtain ⟨t, ht, hp⟩ := List.mem_flatMap.mp hm
  exact (L.ok t ht).some_of p hp h
theorem same_new {p : Addr} {o : HO} (h : F p = none) : Same F (upd F p o) := fun b x e => by
  rw [upd_ne (ne_of_none e h)]
  exact e
theorem same_upd2 {p : Addr} {o : HO} (e : Same F H) : Same (upd F p o) (upd H p o) := fun b x h => by
  by_cases hb : b = p
  · subst hb; rw [upd_same] at h ⊢; exact h
  · rw [upd_ne hb] at h ⊢; exact e b x h
/-- a value that stands still -/
theorem Liv.val (L : Liv A F H tl) {v : V} {d : Dat} (h : Rep A.G F d v) : Liv A F H (.val v d :: tl) :=
  ⟨L.fh, L.f0, L.keep, L.new, fun t ht => (List.mem_cons.mp ht).elim (fun e => by rw [e]; exact h) (L.ok t), by simpa [fps, T.fp] using L.nd, fun a ha => L.fr a (by simpa [fps, T.fp] using ha)⟩
/-- a new object that stands still -/
theorem Liv.still (L : Liv A F H tl) {p : Addr} {o : HO} (h : H p = none) : Liv A (upd F p o) (upd H p o) tl := by
  have hF := L.freshF h
  refine ⟨same_upd2 L.fh, L.f0.trans (same_new hF), fun a u e n => ?_, fun a e => ?_, fun t ht => (L.ok t ht).of (same_new hF) fun a ha u e => ?_, L.nd, fun a ha => ⟨?_, (L.fr a ha).2⟩⟩
  · have := L.keep a u e n
    rw [upd_ne (ne_of_none this h)]; exact this
  · by_cases ea : a = p
    · subst ea; exact .inr (L.fresh0 h)
    · rw [upd_ne ea] at e; exact L.new a e
  · rw [upd_ne (ne_of_none e h)]; exact e
  · have ne : a ≠ p := fun z => L.fpne h (z ▸ ha)
    rw [upd_ne ne]; exact (L.fr a ha).1
/-- another heap, where all that is told is as it was -/
theorem Liv.heap (L : Liv A F H tl) (k : ∀ a o, H a = some o → H' a = some o) : Liv A F H' tl :=
  ⟨fun a o e => k a o (L.fh a o e), L.f0, fun a o e n => k a o (L.keep a o e n), L.new, fun t ht => (L.ok t ht).of (Same.refl _) fun a _ o e => k a o e, L.nd, L.fr⟩
/-- the own object t becomes t', at the same place -/
theorem Liv.write (L : Liv A F H (t :: tl)) (hfp : t'.fp = t.fp) (k : ∀ a o, a ∉ t.fp → H a = some o → H' a = some o) (ok : t'.ok A.G F H') : Liv A F H' (t' :: tl) := by
  have hap : ∀ a ∈ t.fp, a ∈ fps (t :: tl) := fun a ha => List.mem_append_left _ ha
  have nF : ∀ a o, F a = some o → a ∉ t.fp := fun a o e hm => by
    rw [(L.fr a (hap a hm)).1] at e; cases e
  refine ⟨fun a o e => k a o (nF a o e) (L.fh a o e), L.f0, fun a o e n => k a o (fun hm => ?_) (L.keep a o e n), L.new, fun u hu => ?_, ?_, fun a ha => L.fr a ?_⟩
  · rcases (L.fr a (hap a hm)).2 with q | q
    · rw [e] at q; cases q
    · exact n q
  · rcases List.mem_cons.mp hu with rfl | hu
    · exact ok
    · refine (L.ok u (List.mem_cons_of_mem _ hu)).of (Same.refl _) fun a ha o e => k a o (fun hm => ?_) e
      exact (List.nodup_append.mp L.nd).2.2 a hm a (List.mem_flatMap.mpr ⟨u, hu, ha⟩) rfl
  · have e : fps (t' :: tl) = fps (t :: tl) := by show t'.fp ++ _ = t.fp ++ _; rw [hfp]
    rw [e]; exact L.nd
  · have e : fps (t' :: tl) = fps (t :: tl) := by show t'.fp ++ _ = t.fp ++ _; rw [hfp]
    rw [← e]; exact ha
/-- a new own object -/
theorem Liv.make1 (L : Liv A F H tl) {p : Addr} {o : HO} (h : H p = none) (hfp : t.fp = [p]) (ok : t.ok A.G F (upd H p o)) : Liv A F (upd H p o) (t :: tl) := by
  have k : ∀ a u, H a = some u → upd H p o a = some u := fun a u e => by rw [upd_ne (ne_of_none e h)]; exact e
  have L2 := L.heap k
  refine ⟨L2.fh, L2.f0, L2.keep, L2.new, fun u hu => ?_, ?_, fun a ha => ?_⟩
  · rcases List.mem_cons.mp hu with rfl | hu
    · exact ok
    · exact L2.ok u hu
  · show (t.fp ++ fps tl).Nodup
    rw [hfp]
    exact List.nodup_cons.mpr ⟨L.fpne h, L.nd⟩
  · have ha : a ∈ t.fp ++ fps tl := ha
    rw [hfp] at ha
    rcases List.mem_cons.mp ha with rfl | ha
    · exact ⟨L.freshF h, L.fresh0 h⟩
    · exact L.fr a ha
theorem Liv.newL (L : Liv A F H tl) {p : Addr} {vs : List V} {xs : List Dat} (h : H p = none) (r : RepL A.G F xs vs) : Liv A F (upd H p (.lst vs)) (.lst p vs xs :: tl) := L.make1 h rfl ⟨upd_same, r⟩
theorem Liv.newT (L : Liv A F H tl) {p : Addr} {vs : List V} {xs : List Dat} (h : H p = none) (r : RepL A.G F xs vs) : Liv A (upd F p (.tup vs)) (upd H p (.tup vs)) (.val (.ref p) (.tup xs) :: tl) :=
  (L.still h).val ⟨p, vs, rfl, .inl (.inl upd_same), r.mono (same_new (L.freshF h))⟩
/-- it stands still from now on -/
theorem Liv.freeze (L : Liv A F H (t :: tl)) : ∃ F', Same F F' ∧ Liv A F' H (.val t.v t.er.dat :: tl) := by
  have base : ∀ {F' : Hp}, Same F F' → Same F' H → (∀ a, F' a ≠ none → F a ≠ none ∨ a ∈ t.fp) → Rep A.G F' t.er.dat t.v → Liv A F' H (.val t.v t.er.dat :: tl) := fun {F'} e1 e2 e3 r => by
    refine Liv.val ?_ r
    refine ⟨e2, L.f0.trans e1, L.keep, fun a ha => ?_, fun u hu => (L.ok u (List.mem_cons_of_mem _ hu)).of e1 fun a _ o e => e, (List.nodup_append.mp L.nd).2.1, fun a ha => ⟨?_, (L.fr a (List.mem_append_right _ ha)).2⟩⟩
    · rcases e3 a ha with q | q
      · exact L.new a q
      · exact .inr (L.fr a (List.mem_append_left _ q)).2
    · cases q : F' a with
      | none => rfl
      | some o =>
        rcases e3 a (by rw [q]; exact fun z => nomatch z) with z | z
        · exact absurd (L.fr a (List.mem_append_right _ ha)).1 z
        · exact absurd rfl ((List.nodup_append.mp L.nd).2.2 a z a ha)
  have one : ∀ {a : Addr} {o : HO}, t.fp = [a] → H a = some o → Rep A.G (upd F a o) t.er.dat t.v → ∃ F', Same F F' ∧ Liv A F' H (.val t.v t.er.dat :: tl) := fun {a o} hf ho r => by
    have hn : F a = none := (L.fr a (List.mem_append_left _ (by rw [hf]; simp))).1
    refine ⟨upd F a o, same_new hn, base (same_new hn) (fun b u e => ?_) (fun b e => ?_) r⟩
    · by_cases hb : b = a
      · subst hb; rw [upd_same] at e; cases e; exact ho
      · rw [upd_ne hb] at e; exact L.fh b u e
    · by_cases hb : b = a
      · subst hb; exact .inr (by rw [hf]; simp)
      · rw [upd_ne hb] at e; exact .inl e
  have ok := L.ok t (List.mem_cons_self)
  cases t with
  | val v d => exact ⟨F, Same.refl _, base (Same.refl _) L.fh (fun a h => .inl h) ok⟩
  | lst a vs xs =>
    have hn : F a = none := (L.fr a (List.mem_append_left _ (by simp [T.fp]))).1
    exact one (o := .lst vs) rfl ok.1 ⟨a, vs, rfl, upd_same, ok.2.mono (same_new hn)⟩
  | dk a ks vs xs =>
    have hn : F a = none := (L.fr a (List.mem_append_left _ (by simp [T.fp]))).1
    exact one (o := .dK (ks.zip vs)) rfl ok.1 ⟨a, vs, rfl, upd_same, ok.2.1, ok.2.2.mono (same_new hn)⟩
  | dt a ks vs xs =>
    have hn : F a = none := (L.fr a (List.mem_append_left _ (by simp [T.fp]))).1
    exact one (o := .dT (ks.zip vs)) rfl ok.1 ⟨a, vs, rfl, upd_same, ok.2.1, ok.2.2.mono (same_new hn)⟩
  | ins a dx c ns vs xs =>
    obtain ⟨h1, h2, h3, h4⟩ := ok
    have hn : F a = none := (L.fr a (List.mem_append_left _ (by simp [T.fp]))).1
    have hn2 : F dx = none := (L.fr dx (List.mem_append_left _ (by simp [T.fp]))).1
    have ne : dx ≠ a := fun z => by rw [z, h1] at h2; cases h2
    have s1 : Same F (upd F dx (.own a)) := same_new hn2
    have hn3 : upd F dx (.own a) a = none := by rw [upd_ne ne.symm]; exact hn
    have s2 : Same F (upd (upd F dx (.own a)) a (.ins (A.G.cl c) dx (ns.zip vs))) := s1.trans (same_new hn3)
    refine ⟨_, s2, base s2 (fun b u e => ?_) (fun b e => ?_) ⟨a, dx, vs, rfl, upd_same, h3, h4.mono s2⟩⟩
    · by_cases hb : b = a
      · subst hb; rw [upd_same] at e; cases e; exact h1
      · rw [upd_ne hb] at e
        by_cases hb2 : b = dx
        · subst hb2; rw [upd_same] at e; cases e; exact h2
        · rw [upd_ne hb2] at e; exact L.fh b u e
    · by_cases hb : b = a
      · subst hb; exact .inr (by simp [T.fp])
      · rw [upd_ne hb] at e
        by_cases hb2 : b = dx
        · subst hb2; exact .inr (by simp [T.fp])
        · rw [upd_ne hb2] at e; exact .inl e
/-- behind a run of its own: the live things of that run, and those that were left out -/
theorem Liv.after {new rest : List T} {pin : List (Nat × V)} (L : Liv A F H (tl ++ rest)) (N : Liv ⟨A.G, H, F, fps tl, pin⟩ F' H' new) : Liv A F' H' (new ++ rest) := by
  have hap : fps (tl ++ rest) = fps tl ++ fps rest := List.flatMap_append ..
  have hnp : fps (new ++ rest) = fps new ++ fps rest := List.flatMap_append ..
  have nd := L.nd
  rw [hap] at nd
  obtain ⟨nd1, nd2, nd3⟩ := List.nodup_append.mp nd
  have someR : ∀ a ∈ fps rest, H a ≠ none := fun a ha => by
    obtain ⟨t, ht, hp⟩ := List.mem_flatMap.mp ha
    exact (L.ok t (List.mem_append_right _ ht)).some_of a hp
  have frT : ∀ a ∈ fps tl, A.H0 a = none ∨ a ∈ A.P0 := fun a ha => (L.fr a (by rw [hap]; exact List.mem_append_left _ ha)).2
  have frR : ∀ a ∈ fps rest, F a = none ∧ (A.H0 a = none ∨ a ∈ A.P0) := fun a ha => L.fr a (by rw [hap]; exact List.mem_append_right _ ha)
  refine ⟨N.fh, L.f0.trans N.f0, fun a o e n => N.keep a o (L.keep a o e n) fun hm => ?_, fun a ha => ?_, fun t ht => ?_, ?_, fun a ha => ?_⟩
  · rcases frT a hm with q | q
    · rw [e] at q; cases q
    · exact n q
  · rcases N.new a ha with q | q | q
    · exact L.new a q
    · exact .inr (L.fresh0 q)
    · exact .inr (frT a q)
  · rcases List.mem_append.mp ht with ht | ht
    · exact N.ok t ht
    · refine (L.ok t (List.mem_append_right _ ht)).of N.f0 fun a ha o e => N.keep a o e fun hm => ?_
      exact nd3 a hm a (List.mem_flatMap.mpr ⟨t, ht, ha⟩) rfl
  · rw [hnp]
    refine List.nodup_append.mpr ⟨N.nd, nd2, fun a ha b hb e => ?_⟩
    subst e
    rcases (N.fr a ha).2 with q | q
    · exact someR a hb q
    · exact nd3 a q a hb rfl
  · rw [hnp] at ha
    rcases List.mem_append.mp ha with ha | ha
    · refine ⟨(N.fr a ha).1, ?_⟩
      rcases (N.fr a ha).2 with q | q
      · exact L.fresh0 q
      · exact frT a q
    · refine ⟨?_, (frR a ha).2⟩
      cases q : F' a with
      | none => rfl
      | some o =>
        rcases N.new a (by rw [q]; exact fun z => nomatch z) with z | z | z
        · exact absurd (frR a ha).1 z
        · exact absurd z (someR a ha)
        · exact absurd rfl (nd3 a z a ha)
/-- a run of its own begins -/
theorem Liv.enter {rest : List T} (pin : List (Nat × V)) (L : Liv A F H (tl ++ rest)) : Liv ⟨A.G, H, F, fps tl, pin⟩ F H tl :=
  ⟨L.fh, Same.refl _, fun _ _ e _ => e, fun _ e => .inl e, fun t h => L.ok t (List.mem_append_left _ h), (List.nodup_append.mp (by have := L.nd; rwa [show fps (tl ++ rest) = fps tl ++ fps rest from List.flatMap_append ..] at this)).1,
    fun a h => ⟨(L.fr a (by rw [show fps (tl ++ rest) = fps tl ++ fps rest from List.flatMap_append ..]; exact List.mem_append_left _ h)).1, .inr h⟩⟩
theorem Liv.rep (L : Liv A F H (.val v d :: tl)) : Rep A.G F d v := L.ok _ List.mem_cons_self
end

/-! ### the slots of a def -/
abbrev Ts := List (Option T)
abbrev DS := List (Option S)
def vsT (ts : Ts) : L2.St := ts.map fun o => o.map T.v
def erT (ts : Ts) : DS := ts.map fun o => o.map T.er
def fm (ts : Ts) : List T := ts.filterMap id
theorem vsT_len (ts : Ts) : (vsT ts).length = ts.length := List.length_map ..
theorem vsT_get {ts : Ts} {i : Nat} {t : T} (h : ts[i]? = some (some t)) : (vsT ts)[i]? = some (some t.v) := by
  unfold vsT; rw [List.getElem?_map, h] <;> rfl
theorem erT_get {ts : Ts} {i : Nat} {t : T} (h : ts[i]? = some (some t)) : (erT ts)[i]? = some (some t.er) := by
  unfold erT; rw [List.getElem?_map, h] <;> rfl
theorem of_erT {ts : Ts} {i : Nat} {s : S} (h : (erT ts)[i]? = some (some s)) : ∃ t, ts[i]? = some (some t) ∧ t.er = s := by
  unfold erT at h
  rw [List.getElem?_map] at h
  cases e : ts[i]? with
  | none => rw [e] at h; cases h
  | some o =>
    rw [e] at h
    cases o with
    | none => cases h
    | some t => exact ⟨t, rfl, by cases h; rfl⟩
theorem vsT_set (ts : Ts) (i : Nat) (t : T) : vsT (ts.set i (some t)) = (vsT ts).set i (some t.v) := by unfold vsT; rw [List.map_set] <;> rfl
theorem erT_set (ts : Ts) (i : Nat) (t : T) : erT (ts.set i (some t)) = (erT ts).set i (some t.er) := by unfold erT; rw [List.map_set] <;> rfl
theorem vsT_set0 (ts : Ts) (i : Nat) : vsT (ts.set i none) = (vsT ts).set i none := by unfold vsT; rw [List.map_set] <;> rfl
theorem erT_set0 (ts : Ts) (i : Nat) : erT (ts.set i none) = (erT ts).set i none := by unfold erT; rw [List.map_set] <;> rfl
theorem vsT_same {ts : Ts} {i : Nat} {t u : T} (h : ts[i]? = some (some t)) (e : u.v = t.v) : vsT (ts.set i (some u)) = vsT ts := by
  rw [vsT_set, e]
  have := vsT_get h
  apply List.ext_getElem?
  intro j
  by_cases hj : i = j
  · subst hj
    rw [List.getElem?_set_self (List.getElem?_eq_some_iff.mp this).1, this]
  · rw [List.getElem?_set_ne hj]
theorem fm_get : ∀ {ts : Ts} {i : Nat} {t : T}, ts[i]? = some (some t) → (fm ts).Perm (t :: fm (ts.set i none))
  | [], _, _, h => by simp at h
  | o :: r, 0, t, h => by simp at h; subst h; exact List.Perm.refl _
  | o :: r, i + 1, t, h => by
    have ih := fm_get (ts := r) (i := i) (t := t) (by simpa using h)
    cases o with
    | none => exact ih
    | some u => exact (ih.cons u).trans (List.Perm.swap _ _ _)
theorem fm_set : ∀ {ts : Ts} {i : Nat} (t : T), i < ts.length → (fm (ts.set i (some t))).Perm (t :: fm (ts.set i none))
  | [], _, _, h => by simp at h
  | o :: r, 0, t, h => List.Perm.refl _
  | o :: r, i + 1, t, h => by
    have ih := fm_set (ts := r) (i := i) t (by simpa using h)
    cases o with
    | none => exact ih
    | some u => exact (ih.cons u).trans (List.Perm.swap _ _ _)
/-- the slot's content is let go -/
theorem fm_drop : ∀ {A : Act} {F H : Hp} {pre : List T} {ts : Ts} {i : Nat}, Liv A F H (pre ++ fm ts) → Liv A F H (pre ++ fm (ts.set i none)) := fun {A F H pre ts i} L => by
  by_cases hi : i < ts.length
  · cases e : ts[i] with
    | none =>
      have : ts.set i none = ts := by
        apply List.ext_getElem?
        intro j
        by_cases hj : i = j
        · subst hj; rw [List.getElem?_set_self hi, List.getElem?_eq_getElem hi, e]
        · rw [List.getElem?_set_ne hj]
      rw [this]; exact L
    | some t =>
      have p := fm_get (ts := ts) (i := i) (t := t) (by rw [List.getElem?_eq_getElem hi, e])
      have p2 : (pre ++ fm ts).Perm (t :: (pre ++ fm (ts.set i none))) := (p.append_left pre).trans List.perm_middle
      exact (L.perm p2).drop1
  · have : ts.set i none = ts := List.set_eq_of_length_le (by omega)
    rw [this]; exact L
/-- the temporary goes to slot i -/
theorem Liv.put {A : Act} {F H : Hp} {t : T} {ts : Ts} {i : Nat} (L : Liv A F H (t :: fm ts)) (hi : i < ts.length) : Liv A F H (fm (ts.set i (some t))) :=
  (fm_drop (pre := [t]) (i := i) L).perm (fm_set t hi).symm
end Dl
/-! D2: what an expression tells, by data; the judgements over HandS's. -/
namespace Dl
open PySem PySem.Spec
open PyProof.Rows L2

/-- an error: its class's number, its fields -/
structure Exn where
  c : Nat
  ns : List Str
  xs : List Dat
inductive Res (α : Type) where
  | ok (a : α) (s : DS) | exc (x : Exn) (s : DS) | stuck
def bnd {α β : Type} (f : DS → Res α) (g : α → DS → Res β) : DS → Res β := fun s => match f s with
  | .ok a s' => g a s' | .exc x s' => .exc x s' | .stuck => .stuck
@[simp] theorem bnd_ok {α β : Type} {f : DS → Res α} {g : α → DS → Res β} {s s' : DS} {a : α} (h : f s = .ok a s') : bnd f g s = g a s' := by unfold bnd; rw [h]
def ExR (G : Gd) (F : Hp) (x : Exn) (cls : Value) (d : Option Addr) : Prop :=
  cls = .ref (G.xc x.c) ∧ ((x.ns = [] ∧ d = none) ∨ ∃ dd vs, d = some dd ∧ F dd = some (.xd (x.ns.zip vs)) ∧ x.ns.length = vs.length ∧ RepL G F x.xs vs)
/-- the slots are as told -/
structure Fit (A : Act) (ts : Ts) (σ : L2.St) : Prop where
  len : ts.length = σ.length
  at' : ∀ (i : Nat) (t : T), ts[i]? = some (some t) → σ[i]? = some (some t.v)
  pin : ∀ p ∈ A.pin, σ[p.1]? = some (some p.2)
def Act.js (A : Act) : List Nat := A.pin.map (·.1)
abbrev RelT (α β : Type) := Act → L2.St → α → Hp → Hp → Ts → β → Prop
abbrev WX := L2.WX
def Post {α β : Type} (A : Act) (W : WX) (R : RelT α β) (σ : L2.St) (F : Hp) (Q : β → Hp → Prop) : Res α → Prop
  | .ok a ds => ∀ F' H' ts b, Same F F' → Fit A ts σ → erT ts = ds → Liv A F' H' (fm ts) → R A σ a F' H' ts b → Q b H'
  | .exc x ds => ∀ F' H' ts cls d, Same F F' → Fit A ts σ → erT ts = ds → Liv A F' H' (fm ts) → ExR A.G F' x cls d → W cls d σ H'
  | .stuck => False
def tX {α β : Type} (A : Act) (W : WX) (R : RelT α β) (f : DS → Res α) : L2.St → Hp → (β → Hp → Prop) → Prop := fun σ H Q => ∃ F ts, Fit A ts σ ∧ Liv A F H (fm ts) ∧ Post A W R σ F Q (f (erT ts))

/-! ### kinds of answers -/
inductive Op where
  | d (d : Dat) | s (i : Nat)
def RS : RelT S V := fun A _ s F H ts v => ∃ t, t.er = s ∧ t.v = v ∧ Liv A F H (t :: fm ts)
def RD : RelT Dat V := fun A _ d F _ _ v => Rep A.G F d v
def ROp (G : Gd) (σ : L2.St) (F : Hp) : Op → V → Prop
  | .d d, v => Rep G F d v
  | .s i, v => σ[i]? = some (some v)
def RO : RelT Op V := fun A σ o F _ _ v => ROp A.G σ F o v
def RB : RelT Bool Bool := fun _ _ a _ _ _ b => b = a
def ROs (G : Gd) (σ : L2.St) (F : Hp) : List Op → List V → Prop
  | [], vs => vs = []
  | o :: os, vs => ∃ v r, vs = v :: r ∧ ROp G σ F o v ∧ ROs G σ F os r
def RA : RelT (List Op) (List V) := fun A σ os F _ _ vs => ROs A.G σ F os vs

section
variable {A : Act} {W : WX} {σ : L2.St} {F F' H : Hp} {ts : Ts} {α β γ δ : Type} {R : RelT α β} {R' : RelT γ δ}
theorem Post.mono {Q Q' : β → Hp → Prop} (e : Same F F') (k : ∀ b H, Q b H → Q' b H) : ∀ {r : Res α}, Post A W R σ F Q r → Post A W R σ F' Q' r
  | .ok a ds, h => fun F1 H1 ts b e1 f1 e2 l r => k _ _ (h F1 H1 ts b (e.trans e1) f1 e2 l r)
  | .exc x ds, h => fun F1 H1 ts c d e1 f1 e2 l r => h F1 H1 ts c d (e.trans e1) f1 e2 l r
  | .stuck, h => h
theorem post_bind {f : DS → Res α} {g : α → DS → Res γ} {Q : δ → Hp → Prop} {Q' : β → Hp → Prop} (ft : Fit A ts σ) (L : Liv A F H (fm ts)) (h : Post A W R' σ F Q (bnd f g (erT ts)))
    (k : ∀ a F1 H1 ts1 x, Same F F1 → Fit A ts1 σ → Liv A F1 H1 (fm ts1) → R A σ a F1 H1 ts1 x → Post A W R' σ F1 Q (g a (erT ts1)) → Q' x H1) : tX A W R f σ H Q' := by
  refine ⟨F, ts, ft, L, ?_⟩
  unfold bnd at h
  cases e : f (erT ts) with
  | ok a ds =>
    rw [e] at h
    intro F1 H1 ts1 b e1 f1 e2 l r
    refine k a F1 H1 ts1 b e1 f1 l r ?_
    rw [e2]
    exact h.mono e1 fun _ _ q => q
  | exc x ds => rw [e] at h; exact h
  | stuck => rw [e] at h; exact h
theorem Fit.same {ts1 ts2 : Ts} (f1 : Fit A ts1 σ) (f2 : Fit A ts2 σ) {i : Nat} {t1 t2 : T} (h1 : ts1[i]? = some (some t1)) (h2 : ts2[i]? = some (some t2)) : t1.v = t2.v := by
  have a := f1.at' i t1 h1
  have b := f2.at' i t2 h2
  rw [a] at b
  exact Option.some.inj (Option.some.inj b)
theorem Fit.set {ts : Ts} (f : Fit A ts σ) {i : Nat} {t u : T} (h : ts[i]? = some (some t)) (e : u.v = t.v) : Fit A (ts.set i (some u)) σ := by
  refine ⟨by rw [List.length_set]; exact f.len, fun j w hw => ?_, f.pin⟩
  by_cases hj : i = j
  · subst hj
    rw [List.getElem?_set_self (List.getElem?_eq_some_iff.mp h).1] at hw
    have : u = w := Option.some.inj (Option.some.inj hw)
    rw [← this, e]; exact f.at' _ _ h
  · rw [List.getElem?_set_ne hj] at hw
    exact f.at' _ _ hw
theorem Fit.set0 {ts : Ts} (f : Fit A ts σ) {i : Nat} : Fit A (ts.set i none) σ := by
  refine ⟨by rw [List.length_set]; exact f.len, fun j w hw => ?_, f.pin⟩
  by_cases hj : i = j
  · subst hj
    by_cases hi : i < ts.length
    · rw [List.getElem?_set_self hi] at hw; cases hw
    · rw [List.set_eq_of_length_le (by omega)] at hw; exact f.at' _ _ hw
  · rw [List.getElem?_set_ne hj] at hw
    exact f.at' _ _ hw
end

/-! ### the judgements -/
def EJ (G : Gd) (js : List Nat) (X : Cx) (W : WX) (e : Expr) (f : DS → Res S) : Prop := ∀ A : Act, A.G = G → A.js = js → PE X e (tX A W RS f)
def OJ (G : Gd) (js : List Nat) (X : Cx) (W : WX) (e : Expr) (f : DS → Res Op) : Prop := ∀ A : Act, A.G = G → A.js = js → PE X e (tX A W RO f)
def TJ (G : Gd) (js : List Nat) (X : Cx) (W : WX) (e : Expr) (f : DS → Res Bool) : Prop := ∀ A : Act, A.G = G → A.js = js → PT X e (tX A W RB f)
def AJ (G : Gd) (js : List Nat) (X : Cx) (W : WX) (es : List Expr) (f : DS → Res (List Op)) : Prop := ∀ A : Act, A.G = G → A.js = js → PA X es (tX A W RA f)

theorem pe_imp {X : Cx} {e : Expr} {t t' : TE} (h : PE X e t) (k : ∀ σ H Q, t' σ H Q → t σ H Q) : PE X e t' := ⟨fun pins s σ H Q I q => h.run pins s σ H Q I (k _ _ _ q)⟩
theorem pt_imp {X : Cx} {e : Expr} {t t' : TT} (h : PT X e t) (k : ∀ σ H Q, t' σ H Q → t σ H Q) : PT X e t' := ⟨fun pins s σ H Q I q => h.run pins s σ H Q I (k _ _ _ q)⟩
theorem pw_imp {X : Cx} {e : Expr} {t t' : TT} (h : PW X e t) (k : ∀ σ H Q, t' σ H Q → t σ H Q) : PW X e t' := ⟨fun wh pins s σ H Q I q => h.run wh pins s σ H Q I (k _ _ _ q)⟩
theorem pa_imp {X : Cx} {e : List Expr} {t t' : TA} (h : PA X e t) (k : ∀ σ H Q, t' σ H Q → t σ H Q) : PA X e t' := ⟨fun pos pins s σ H Q I q => h.run pos pins s σ H Q I (k _ _ _ q)⟩

/-! ### what they compute -/
def eC (d : Dat) : DS → Res S := fun ds => .ok (.val d) ds
def eVar (i : Nat) : DS → Res S := fun ds => match ds[i]? with
  | some (some s) => .ok (.val s.dat) (ds.set i (some (.val s.dat))) | _ => .stuck
def eMove (i : Nat) : DS → Res S := fun ds => match ds[i]? with
  | some (some s) => .ok s (ds.set i none) | _ => .stuck
def oVar (i : Nat) : DS → Res Op := fun ds => match ds[i]? with
  | some (some (.val d)) => .ok (.d d) ds | some (some _) => .ok (.s i) ds | _ => .stuck
def oE (f : DS → Res S) : DS → Res Op := bnd f fun s ds => .ok (.d s.dat) ds
def view (ds : DS) : Op → Option Dat
  | .d d => some d
  | .s i => match ds[i]? with | some (some s) => some s.dat | _ => none
def views (ds : DS) : List Op → Option (List Dat)
  | [] => some []
  | o :: os => match view ds o, views ds os with | some d, some r => some (d :: r) | _, _ => none
def oNil : DS → Res (List Op) := fun ds => .ok [] ds
def oCons (f : DS → Res Op) (g : DS → Res (List Op)) : DS → Res (List Op) := bnd f fun o => bnd g fun os ds => .ok (o :: os) ds
def lift1 (g : Dat → Option S) (x : Op) (ds : DS) : Res S := match view ds x with
  | some a => (match g a with | some s => .ok s ds | none => .stuck) | none => .stuck
def lift2 (g : Dat → Dat → Option S) (x y : Op) (ds : DS) : Res S := match view ds x, view ds y with
  | some a, some b => (match g a b with | some s => .ok s ds | none => .stuck) | _, _ => .stuck
def liftL (g : List Dat → Option S) (xs : List Op) (ds : DS) : Res S := match views ds xs with
  | some l => (match g l with | some s => .ok s ds | none => .stuck) | none => .stuck
def eOp2 (g : Dat → Dat → Option S) (a b : DS → Res Op) : DS → Res S := bnd a fun x => bnd b fun y => lift2 g x y
def eOp1 (g : Dat → Option S) (a : DS → Res Op) : DS → Res S := bnd a fun x => lift1 g x
def eCB (g : List Dat → Option S) (a : DS → Res (List Op)) : DS → Res S := bnd a fun xs => liftL g xs

/-! ### the rules: names, constants -/
section
variable {A : Act} {W : WX} {σ : L2.St} {F F' H : Hp} {ts ts' : Ts}
/-- what stands for d, maybe an own object -/
def RepH (G : Gd) (F H : Hp) (v : V) (d : Dat) : Prop := ∃ t : T, t.ok G F H ∧ t.v = v ∧ t.er.dat = d
theorem RepH.of {G : Gd} {v : V} {d : Dat} (h : Rep G F d v) : RepH G F H v d := ⟨.val v d, h, rfl, rfl⟩
theorem Liv.memT {i : Nat} {t : T} (L : Liv A F H (fm ts)) (h : ts[i]? = some (some t)) : t.ok A.G F H :=
  L.ok t ((fm_get h).mem_iff.mpr List.mem_cons_self)
theorem ROp.repH {o : Op} {v : V} {d : Dat} (ft : Fit A ts σ) (L : Liv A F H (fm ts)) (r : ROp A.G σ F o v) (hv : view (erT ts) o = some d) : RepH A.G F H v d := by
  cases o with
  | d e => cases hv; exact .of r
  | s i =>
    simp only [view] at hv
    cases q : (erT ts)[i]? with
    | none => rw [q] at hv; cases hv
    | some o =>
      rw [q] at hv
      cases o with
      | none => cases hv
      | some s =>
        obtain ⟨t, h1, h2⟩ := of_erT q
        cases hv
        have e := ft.at' i t h1
        rw [show σ[i]? = some (some v) from r] at e
        exact ⟨t, L.memT h1, (Option.some.inj (Option.some.inj e)).symm, by rw [h2]⟩
/-- an operand, later -/
theorem ROp.next {G : Gd} {o : Op} {v : V} (r : ROp G σ F o v) (e : Same F F') : ROp G σ F' o v := by
  cases o with
  | d e2 => exact Rep.mono e r
  | s i => exact r
theorem ROs.next {G : Gd} (e : Same F F') : ∀ {os : List Op} {vs : List V}, ROs G σ F os vs → ROs G σ F' os vs
  | [], _, h => h
  | _ :: _, _, ⟨v, r, h1, h2, h3⟩ => ⟨v, r, h1, h2.next e, ROs.next e h3⟩
def RepHL (G : Gd) (F H : Hp) : List Dat → List V → Prop
  | [], vs => vs = []
  | d :: ds, vs => ∃ v r, vs = v :: r ∧ RepH G F H v d ∧ RepHL G F H ds r
theorem ROs.repH (ft : Fit A ts σ) (L : Liv A F H (fm ts)) : ∀ {os : List Op} {vs : List V} {ds : List Dat}, ROs A.G σ F os vs → views (erT ts) os = some ds → RepHL A.G F H ds vs
  | [], vs, ds, r, hv => by
    cases hv
    exact r
  | o :: os, _, ds, ⟨v, r, h1, h2, h3⟩, hv => by
    simp only [views] at hv
    cases e1 : view (erT ts) o with
    | none => rw [e1] at hv; cases hv
    | some d =>
      cases e2 : views (erT ts) os with
      | none => rw [e1, e2] at hv; cases hv
      | some r2 =>
        rw [e1, e2] at hv
        cases hv
        exact ⟨v, r, h1, h2.repH ft L e1, ROs.repH ft L h3 e2⟩
end
section
variable {G : Gd} {js : List Nat} {X : Cx} {W : WX}
theorem ej_const {e : Expr} {v : V} {d : Dat} (h : PE X e (tC v)) (r : ∀ F, Rep G F d v) : EJ G js X W e (eC d) := fun A hG _ => by
  subst hG
  refine pe_imp h fun σ H Q q => ?_
  obtain ⟨F, ts, ft, L, q⟩ := q
  exact q F H ts v (Same.refl _) ft rfl L ⟨.val v d, rfl, rfl, L.val (r F)⟩
theorem ej_int {i : Int} {k : Nat} {pos : Pos} : EJ G js X W (.Constant (.int i) k pos) (eC (.int i)) := ej_const pe_int fun _ => rfl
theorem ej_bl {b : Bool} {k : Nat} {pos : Pos} : EJ G js X W (.Constant (.bool b) k pos) (eC (.bl b)) := ej_const pe_bl fun _ => rfl
theorem ej_non {k : Nat} {pos : Pos} : EJ G js X W (.Constant .none k pos) (eC .non) := ej_const pe_non fun _ => rfl
theorem ej_str {x : Str} {k : Nat} {pos : Pos} : EJ G js X W (.Constant (.str x) k pos) (eC (.str x)) := ej_const pe_str fun _ => rfl
theorem oj_var {i : Nat} {e : Expr} (h : PE X e (tVar i)) : OJ G js X W e (oVar i) := fun A hG _ => by
  refine pe_imp h fun σ H Q q => ?_
  obtain ⟨F, ts, ft, L, q⟩ := q
  unfold oVar at q
  cases e1 : (erT ts)[i]? with
  | none => rw [e1] at q; exact q.elim
  | some o =>
    rw [e1] at q
    cases o with
    | none => exact q.elim
    | some s =>
      obtain ⟨t, h1, h2⟩ := of_erT e1
      have own : Post A W RO σ F Q (.ok (.s i) (erT ts)) → tVar i σ H Q := fun q => ⟨t.v, ft.at' i t h1, q F H ts t.v (Same.refl _) ft rfl L (ft.at' i t h1)⟩
      cases t with
      | val v d =>
        cases h2
        exact ⟨v, ft.at' i _ h1, q F H ts v (Same.refl _) ft rfl L (L.memT h1)⟩
      | lst a vs xs => cases h2; exact own q
      | dk a ks vs xs => cases h2; exact own q
      | dt a ks vs xs => cases h2; exact own q
      | ins a dx c ns vs xs => cases h2; exact own q
theorem oj_of {e : Expr} {f : DS → Res S} (h : EJ G js X W e f) : OJ G js X W e (oE f) := fun A hG hj => by
  refine pe_imp (h A hG hj) fun σ H Q q => ?_
  obtain ⟨F, ts, ft, L, q⟩ := q
  refine post_bind ft L q fun s F1 H1 ts1 x e1 f1 L1 r q => ?_
  obtain ⟨t, h1, h2, L2⟩ := r
  obtain ⟨F2, e2, L3⟩ := L2.freeze
  subst h1 h2
  exact q F2 H1 ts1 t.v e2 f1 rfl L3.drop1 L3.rep
theorem ej_var {i : Nat} {e : Expr} (h : PE X e (tVar i)) : EJ G js X W e (eVar i) := fun A hG _ => by
  refine pe_imp h fun σ H Q q => ?_
  obtain ⟨F, ts, ft, L, q⟩ := q
  unfold eVar at q
  cases e1 : (erT ts)[i]? with
  | none => rw [e1] at q; exact q.elim
  | some o =>
    rw [e1] at q
    cases o with
    | none => exact q.elim
    | some s =>
      obtain ⟨t, h1, h2⟩ := of_erT e1
      subst h2
      obtain ⟨F2, e2, L2⟩ := (L.perm (fm_get h1)).freeze
      have hi := (List.getElem?_eq_some_iff.mp h1).1
      have L3 : Liv A F2 H (fm (ts.set i (some (.val t.v t.er.dat)))) := L2.perm (fm_set _ hi).symm
      exact ⟨t.v, ft.at' i t h1, q F2 H (ts.set i (some (.val t.v t.er.dat))) t.v e2 (ft.set (u := .val t.v t.er.dat) h1 rfl) (erT_set ts i (.val t.v t.er.dat)) L3 ⟨.val t.v t.er.dat, rfl, rfl, L3.val L2.rep⟩⟩
theorem ej_move {i : Nat} {e : Expr} (h : PE X e (tVar i)) : EJ G js X W e (eMove i) := fun A hG _ => by
  refine pe_imp h fun σ H Q q => ?_
  obtain ⟨F, ts, ft, L, q⟩ := q
  unfold eMove at q
  cases e1 : (erT ts)[i]? with
  | none => rw [e1] at q; exact q.elim
  | some o =>
    rw [e1] at q
    cases o with
    | none => exact q.elim
    | some s =>
      obtain ⟨t, h1, h2⟩ := of_erT e1
      have L2 := L.perm (fm_get h1)
      exact ⟨t.v, ft.at' i t h1, q F H _ t.v (Same.refl _) ft.set0 (erT_set0 ts i) L2.drop1 ⟨t, h2, rfl, L2⟩⟩

/-! ### argument lists -/
theorem aj_nil : AJ G js X W [] oNil := fun A _ _ => by
  refine pa_imp pa_nil fun σ H Q q => ?_
  obtain ⟨F, ts, ft, L, q⟩ := q
  exact q F H ts [] (Same.refl _) ft rfl L rfl
theorem aj_cons {e : Expr} {es : List Expr} {f : DS → Res Op} {g : DS → Res (List Op)} (h1 : OJ G js X W e f) (h2 : AJ G js X W es g) (hs : starEach (e :: es) X.env = (false, eval e X.env) :: starEach es X.env := by rfl) : AJ G js X W (e :: es) (oCons f g) := fun A hG hj => by
  refine pa_imp (pa_cons (h1 A hG hj) (h2 A hG hj) hs) fun σ H Q q => ?_
  obtain ⟨F, ts, ft, L, q⟩ := q
  refine post_bind ft L q fun o F1 H1 ts1 x e1 f1 L1 r q => ?_
  refine post_bind f1 L1 q fun os F2 H2 ts2 xs e2 f2 L2 r2 q => ?_
  exact q F2 H2 ts2 (x :: xs) (Same.refl _) f2 rfl L2 ⟨x, xs, rfl, r.next e2, r2⟩

/-! ### operators by values -/
def VR2 (G : Gd) (r : R2) (g : Dat → Dat → Option S) : Prop := ∀ (A : Act) (F H : Hp) (tl : List T) (x y : V) (a b : Dat) (s : S) (Q : VK), A.G = G → Liv A F H tl → RepH G F H x a → RepH G F H y b → g a b = some s →
  (∀ F' H' t, Same F F' → Liv A F' H' (t :: tl) → t.er = s → Q t.v H') → r x y H Q
def VR1 (G : Gd) (r : V → Hp → VK → Prop) (g : Dat → Option S) : Prop := ∀ (A : Act) (F H : Hp) (tl : List T) (x : V) (a : Dat) (s : S) (Q : VK), A.G = G → Liv A F H tl → RepH G F H x a → g a = some s →
  (∀ F' H' t, Same F F' → Liv A F' H' (t :: tl) → t.er = s → Q t.v H') → r x H Q
def VRL (G : Gd) (r : List V → Hp → VK → Prop) (g : List Dat → Option S) : Prop := ∀ (A : Act) (F H : Hp) (tl : List T) (xs : List V) (as : List Dat) (s : S) (Q : VK), A.G = G → Liv A F H tl → RepHL G F H as xs → g as = some s →
  (∀ F' H' t, Same F F' → Liv A F' H' (t :: tl) → t.er = s → Q t.v H') → r xs H Q
def orS {α : Type} (a b : Option α) : Option α := match a with | some s => some s | none => b
theorem VR2.or {r r' : R2} {g g' : Dat → Dat → Option S} (h : VR2 G r g) (h' : VR2 G r' g') : VR2 G (fun x y H Q => r x y H Q ∨ r' x y H Q) (fun a b => orS (g a b) (g' a b)) := fun A F H tl x y a b s Q hG L rx ry e k => by
  simp only [orS] at e
  cases q : g a b with
  | some u => rw [q] at e; exact .inl (h A F H tl x y a b s Q hG L rx ry (q.trans e) k)
  | none => rw [q] at e; exact .inr (h' A F H tl x y a b s Q hG L rx ry e k)
theorem VR1.or {r r' : V → Hp → VK → Prop} {g g' : Dat → Option S} (h : VR1 G r g) (h' : VR1 G r' g') : VR1 G (fun x H Q => r x H Q ∨ r' x H Q) (fun a => orS (g a) (g' a)) := fun A F H tl x a s Q hG L rx e k => by
  simp only [orS] at e
  cases q : g a with
  | some u => rw [q] at e; exact .inl (h A F H tl x a s Q hG L rx (q.trans e) k)
  | none => rw [q] at e; exact .inr (h' A F H tl x a s Q hG L rx e k)
theorem VRL.or {r r' : List V → Hp → VK → Prop} {g g' : List Dat → Option S} (h : VRL G r g) (h' : VRL G r' g') : VRL G (fun x H Q => r x H Q ∨ r' x H Q) (fun a => orS (g a) (g' a)) := fun A F H tl x a s Q hG L rx e k => by
  simp only [orS] at e
  cases q : g a with
  | some u => rw [q] at e; exact .inl (h A F H tl x a s Q hG L rx (q.trans e) k)
  | none => rw [q] at e; exact .inr (h' A F H tl x a s Q hG L rx e k)
section
variable {A : Act} {σ : L2.St} {F H : Hp} {ts : Ts}
theorem lift1_go {r : V → Hp → VK → Prop} {g : Dat → Option S} {o : Op} {x : V} {Q : VK} (vr : VR1 G r g) (hG : A.G = G) (ft : Fit A ts σ) (L : Liv A F H (fm ts)) (r1 : ROp A.G σ F o x) (q : Post A W RS σ F Q (lift1 g o (erT ts))) : r x H Q := by
  unfold lift1 at q
  cases e1 : view (erT ts) o with
  | none => rw [e1] at q; exact q.elim
  | some a =>
    rw [e1] at q
    cases e2 : g a with
    | none => simp only [e2] at q; exact q.elim
    | some s =>
      simp only [e2] at q
      exact vr A F H (fm ts) x a s Q hG L (hG ▸ r1.repH ft L e1) e2 fun F' H' t e L' et => q F' H' ts t.v e ft rfl L'.drop1 ⟨t, et, rfl, L'⟩
theorem lift2_go {r : R2} {g : Dat → Dat → Option S} {o p : Op} {x y : V} {Q : VK} (vr : VR2 G r g) (hG : A.G = G) (ft : Fit A ts σ) (L : Liv A F H (fm ts)) (r1 : ROp A.G σ F o x) (r2 : ROp A.G σ F p y) (q : Post A W RS σ F Q (lift2 g o p (erT ts))) : r x y H Q := by
  unfold lift2 at q
  cases e1 : view (erT ts) o with
  | none => rw [e1] at q; exact q.elim
  | some a =>
    cases e2 : view (erT ts) p with
    | none => rw [e1, e2] at q; exact q.elim
    | some b =>
      rw [e1, e2] at q
      cases e3 : g a b with
      | none => simp only [e3] at q; exact q.elim
      | some s =>
        simp only [e3] at q
        exact vr A F H (fm ts) x y a b s Q hG L (hG ▸ r1.repH ft L e1) (hG ▸ r2.repH ft L e2) e3 fun F' H' t e L' et => q F' H' ts t.v e ft rfl L'.drop1 ⟨t, et, rfl, L'⟩
theorem liftL_go {r : List V → Hp → VK → Prop} {g : List Dat → Option S} {os : List Op} {xs : List V} {Q : VK} (vr : VRL G r g) (hG : A.G = G) (ft : Fit A ts σ) (L : Liv A F H (fm ts)) (r1 : ROs A.G σ F os xs) (q : Post A W RS σ F Q (liftL g os (erT ts))) : r xs H Q := by
  unfold liftL at q
  cases e1 : views (erT ts) os with
  | none => rw [e1] at q; exact q.elim
  | some a =>
    rw [e1] at q
    cases e2 : g a with
    | none => simp only [e2] at q; exact q.elim
    | some s =>
      simp only [e2] at q
      exact vr A F H (fm ts) xs a s Q hG L (hG ▸ r1.repH ft L e1) e2 fun F' H' t e L' et => q F' H' ts t.v e ft rfl L'.drop1 ⟨t, et, rfl, L'⟩
end
variable {a b : Expr} {fa fb : DS → Res Op} {pos : Pos}
theorem ej_op2 {e : Expr} {r : R2} {g : Dat → Dat → Option S} (hp : ∀ {ta tb : TE}, PE X a ta → PE X b tb → PE X e (tOp r ta tb)) (vr : VR2 G r g) (ha : OJ G js X W a fa) (hb : OJ G js X W b fb) : EJ G js X W e (eOp2 g fa fb) := fun A hG hj => by
  refine pe_imp (hp (ha A hG hj) (hb A hG hj)) fun σ H Q q => ?_
  obtain ⟨F, ts, ft, L, q⟩ := q
  refine post_bind ft L q fun o F1 H1 ts1 x e1 f1 L1 r q => ?_
  refine post_bind f1 L1 q fun p F2 H2 ts2 y e2 f2 L2 r2 q => ?_
  exact lift2_go vr hG f2 L2 (r.next e2) r2 q
theorem ej_bin {op : Operator} {r : R2} {g : Dat → Dat → Option S} (ho : OpR X (binaryOp op) r) (vr : VR2 G r g) (ha : OJ G js X W a fa) (hb : OJ G js X W b fb) : EJ G js X W (.BinOp a op b pos) (eOp2 g fa fb) := ej_op2 (fun h1 h2 => pe_op ho h1 h2) vr ha hb
theorem ej_cmp {op : CmpOp} {r : R2} {g : Dat → Dat → Option S} (ho : OpR X (compareOp op) r) (vr : VR2 G r g) (ha : OJ G js X W a fa) (hb : OJ G js X W b fb) (hm : behindInMarks op b = false) : EJ G js X W (.Compare a [op] [b] pos) (eOp2 g fa fb) := ej_op2 (fun h1 h2 => pe_cmpR ho h1 h2 hm) vr ha hb
theorem ej_ix {r : R2} {g : Dat → Dat → Option S} (ho : IxR X r) (vr : VR2 G r g) (ha : OJ G js X W a fa) (hb : OJ G js X W b fb) (hs : PlainIx b := by exact fun _ _ => rfl) : EJ G js X W (.Subscript a b pos) (eOp2 g fa fb) := ej_op2 (fun h1 h2 => pe_ix ho h1 h2 hs) vr ha hb
theorem ej_un {op : UnaryOp} {r : V → Hp → VK → Prop} {g : Dat → Option S} (ho : UnR X (unaryOp op) r) (vr : VR1 G r g) (ha : OJ G js X W a fa) : EJ G js X W (.UnaryOp op a pos) (eOp1 g fa) := fun A hG hj => by
  refine pe_imp (pe_un ho (ha A hG hj)) fun σ H Q q => ?_
  obtain ⟨F, ts, ft, L, q⟩ := q
  refine post_bind ft L q fun o F1 H1 ts1 x e1 f1 L1 r q => ?_
  exact lift1_go vr hG f1 L1 r q
theorem ej_callB {x : Str} {id : String} {p : Pos} {es : List Expr} {e : Expr} {r : List V → Hp → VK → Prop} {g : List Dat → Option S} {f : DS → Res (List Op)} (hc : CallR X (.builtin id) r) (vr : VRL G r g) (hg : Gl X x) (hm : X.mg x = none) (hv : bootBuiltins x = some (.builtin id)) (ha : AJ G js X W (e :: es) f)
    (hn : x ≠ "__name__" := by decide) (hdb : (x == ("__debug__" : Str)) = false := by decide) (he : starEach (e :: es) X.env = (false, eval e X.env) :: starEach es X.env := by rfl) (hpl : (backTo pos (starEach es X.env)).any (·.1) = false := by rfl) : EJ G js X W (.Call (.Name x p) (e :: es) [] pos) (eCB g f) := fun A hG hj => by
  refine pe_imp (pe_callB hc hg hm hv (ha A hG hj) hn hdb he hpl) fun σ H Q q => ?_
  obtain ⟨F, ts, ft, L, q⟩ := q
  refine post_bind ft L q fun o F1 H1 ts1 x e1 f1 L1 r q => ?_
  exact liftL_go vr hG f1 L1 r q
theorem ej_callTy {x : Str} {id : String} {p : Pos} {es : List Expr} {e : Expr} {r : List V → Hp → VK → Prop} {g : List Dat → Option S} {f : DS → Res (List Op)} (hc : CallR X (.type id) r) (vr : VRL G r g) (hg : Gl X x) (hm : X.mg x = none) (hv : bootBuiltins x = some (.type id)) (ha : AJ G js X W (e :: es) f)
    (hn : x ≠ "__name__" := by decide) (hdb : (x == ("__debug__" : Str)) = false := by decide) (he : starEach (e :: es) X.env = (false, eval e X.env) :: starEach es X.env := by rfl) (hpl : (backTo pos (starEach es X.env)).any (·.1) = false := by rfl) : EJ G js X W (.Call (.Name x p) (e :: es) [] pos) (eCB g f) := fun A hG hj => by
  refine pe_imp (pe_callTy hc hg hm hv (ha A hG hj) hn hdb he hpl) fun σ H Q q => ?_
  obtain ⟨F, ts, ft, L, q⟩ := q
  refine post_bind ft L q fun o F1 H1 ts1 x e1 f1 L1 r q => ?_
  exact liftL_go vr hG f1 L1 r q

/-! ### displays -/
def dats (ds : DS) (xs : List Op) : Option (List Dat) := xs.foldr (fun o r => match o, r with | .d d, some l => some (d :: l) | _, _ => none) (some [])
def eLst (a : DS → Res (List Op)) : DS → Res S := bnd a fun xs ds => match dats ds xs with | some l => if l.length ≤ 100000 then .ok (.lst l) ds else .stuck | none => .stuck
def eTup (a : DS → Res (List Op)) : DS → Res S := bnd a fun xs ds => match dats ds xs with | some l => if l.length ≤ 100000 then .ok (.val (.tup l)) ds else .stuck | none => .stuck
theorem ROs.dats {σ : L2.St} {F : Hp} {ds : DS} : ∀ {os : List Op} {vs : List V} {l : List Dat}, ROs G σ F os vs → dats ds os = some l → RepL G F l vs
  | [], _, _, h, e => by cases e; exact h
  | .s i :: os, _, _, _, e => by simp [Dl.dats] at e
  | .d d :: os, _, l, ⟨v, r, h1, h2, h3⟩, e => by
    have e' : (match (Op.d d), Dl.dats ds os with | .d d, some l => some (d :: l) | _, _ => none) = some l := e
    cases q : Dl.dats ds os with
    | none => rw [q] at e'; cases e'
    | some r2 =>
      rw [q] at e'
      cases e'
      exact ⟨v, r, h1, h2, ROs.dats h3 q⟩
theorem big_ok {n : Nat} (h : n ≤ 100000) : n ≤ sizeLine := Nat.le_trans h (by decide)
theorem ej_lst {es : List Expr} {f : DS → Res (List Op)} (h : AJ G js X W es f) : EJ G js X W (.List es pos) (eLst f) := fun A hG hj => by
  refine pe_imp (pe_lst (h A hG hj)) fun σ H Q q => ?_
  obtain ⟨F, ts, ft, L, q⟩ := q
  refine post_bind ft L q fun os F1 H1 ts1 xs e1 f1 L1 r q => ?_
  cases e2 : dats (erT ts1) os with
  | none => simp only [e2] at q; exact q.elim
  | some l =>
    simp only [e2] at q
    by_cases hl : l.length ≤ 100000
    · rw [if_pos hl] at q
      have rl : RepL A.G F1 l xs := ROs.dats r e2
      refine ⟨big_ok (by rw [← rl.len]; exact hl), fun p hp => ?_⟩
      have L2 := L1.newL hp rl
      exact q F1 _ ts1 (.ref p) (Same.refl _) f1 rfl L2.drop1 ⟨_, rfl, rfl, L2⟩
    · rw [if_neg hl] at q; exact q.elim
theorem ej_tup {es : List Expr} {f : DS → Res (List Op)} {x1 : Nat} (h : AJ G js X W es f) : EJ G js X W (.Tuple es x1 pos) (eTup f) := fun A hG hj => by
  refine pe_imp (pe_tup (h A hG hj)) fun σ H Q q => ?_
  obtain ⟨F, ts, ft, L, q⟩ := q
  refine post_bind ft L q fun os F1 H1 ts1 xs e1 f1 L1 r q => ?_
  cases e2 : dats (erT ts1) os with
  | none => simp only [e2] at q; exact q.elim
  | some l =>
    simp only [e2] at q
    by_cases hl : l.length ≤ 100000
    · rw [if_pos hl] at q
      have rl : RepL A.G F1 l xs := ROs.dats r e2
      refine ⟨big_ok (by rw [← rl.len]; exact hl), fun p hp => ?_⟩
      have L2 := L1.newT hp rl
      exact q _ _ ts1 (.ref p) (same_new (L1.freshF hp)) f1 rfl L2.drop1 ⟨_, rfl, rfl, L2⟩
    · rw [if_neg hl] at q; exact q.elim
end
end Dl
/-! D3: operators on data. -/
namespace Dl
open PySem PySem.Spec
open PyProof.Rows L2

section
variable {G : Gd} {F H : Hp} {v : V}
theorem RepH.int {i : Int} (h : RepH G F H v (.int i)) : v = .int i := by
  obtain ⟨t, h1, rfl, h3⟩ := h
  cases t with
  | val v d => cases (show d = .int i from h3); exact h1
  | _ => cases h3
theorem RepH.bl {b : Bool} (h : RepH G F H v (.bl b)) : v = .bl b := by
  obtain ⟨t, h1, rfl, h3⟩ := h
  cases t with
  | val v d => cases (show d = .bl b from h3); exact h1
  | _ => cases h3
theorem RepH.str {x : Str} (h : RepH G F H v (.str x)) : v = .str x := by
  obtain ⟨t, h1, rfl, h3⟩ := h
  cases t with
  | val v d => cases (show d = .str x from h3); exact h1
  | _ => cases h3
theorem RepH.non (h : RepH G F H v .non) : v = .non := by
  obtain ⟨t, h1, rfl, h3⟩ := h
  cases t with
  | val v d => cases (show d = .non from h3); exact h1
  | _ => cases h3
theorem RepH.lst (e : Same F H) {xs : List Dat} (h : RepH G F H v (.lst xs)) : ∃ a vs, v = .ref a ∧ H a = some (.lst vs) ∧ RepL G F xs vs := by
  obtain ⟨t, h1, rfl, h3⟩ := h
  cases t with
  | val v d =>
    cases (show d = .lst xs from h3)
    obtain ⟨a, vs, q1, q2, q3⟩ := h1
    exact ⟨a, vs, q1, e _ _ q2, q3⟩
  | lst a vs ys =>
    cases h3
    exact ⟨a, vs, rfl, h1.1, h1.2⟩
  | _ => cases h3
theorem RepH.tup (e : Same F H) {xs : List Dat} (h : RepH G F H v (.tup xs)) : ∃ a vs, v = .ref a ∧ SqT G.K F a vs ∧ RepL G F xs vs := by
  obtain ⟨t, h1, rfl, h3⟩ := h
  cases t with
  | val v d =>
    cases (show d = .tup xs from h3)
    exact h1
  | _ => cases h3
theorem RepH.dk (e : Same F H) {ks : List Key} {xs : List Dat} (h : RepH G F H v (.dk ks xs)) : ∃ a vs, v = .ref a ∧ H a = some (.dK (ks.zip vs)) ∧ ks.length = vs.length ∧ RepL G F xs vs := by
  obtain ⟨t, h1, rfl, h3⟩ := h
  cases t with
  | val v d =>
    cases (show d = .dk ks xs from h3)
    obtain ⟨a, vs, q1, q2, q3⟩ := h1
    exact ⟨a, vs, q1, e _ _ q2, q3⟩
  | dk a ks vs ys =>
    cases h3
    exact ⟨a, vs, rfl, h1.1, h1.2⟩
  | _ => cases h3
theorem RepH.scr {ns : List Int} (h : RepH G F H v (.scr ns)) : ∃ a, v = .ref a ∧ SqL G.K F a (ns.map V.int) := by
  obtain ⟨t, h1, rfl, h3⟩ := h
  cases t with
  | val v d =>
    cases (show d = .scr ns from h3)
    exact h1
  | _ => cases h3
end
/-- a value that is told -/
theorem Liv.out {A : Act} {F H : Hp} {tl : List T} {v : V} {d : Dat} {s : S} {Q : VK} (L : Liv A F H tl) (k : ∀ F' H' t, Same F F' → Liv A F' H' (t :: tl) → t.er = s → Q t.v H') (r : Rep A.G F d v) (e : S.val d = s) : Q v H :=
  k F H (.val v d) (Same.refl _) (L.val r) e

/-! ### numbers -/
def gI2 (C : Int → Int → Bool) (f : Int → Int → Dat) : Dat → Dat → Option S
  | .int i, .int j => if C i j = true then some (.val (f i j)) else none
  | _, _ => none
theorem gI2_inv {C : Int → Int → Bool} {f : Int → Int → Dat} {a b : Dat} {s : S} (h : gI2 C f a b = some s) : ∃ i j, a = .int i ∧ b = .int j ∧ C i j = true ∧ S.val (f i j) = s := by
  unfold gI2 at h
  split at h
  · split at h
    · cases h; exact ⟨_, _, rfl, rfl, by assumption, rfl⟩
    · cases h
  · cases h
section
variable {G : Gd}
theorem vr_I {C : Int → Int → Prop} {Cb : Int → Int → Bool} {g : Int → Int → V} {f : Int → Int → Dat} (hC : ∀ i j, Cb i j = true → C i j) (hr : ∀ F i j, Rep G F (f i j) (g i j)) : VR2 G (rI C g) (gI2 Cb f) := fun A F H tl x y a b s Q hG L rx ry e k => by
  obtain ⟨i, j, rfl, rfl, hc, e⟩ := gI2_inv e
  exact ⟨i, j, rx.int, ry.int, hC i j hc, L.out k (hG ▸ hr F i j) e⟩
theorem vr_I0 {g : Int → Int → V} {f : Int → Int → Dat} (hr : ∀ F i j, Rep G F (f i j) (g i j)) : VR2 G (rI0 g) (gI2 (fun _ _ => true) f) := fun A F H tl x y a b s Q hG L rx ry e k => by
  obtain ⟨i, j, rfl, rfl, hc, e⟩ := gI2_inv e
  exact ⟨i, j, rx.int, ry.int, L.out k (hG ▸ hr F i j) e⟩
end
def yes2 : Int → Int → Bool := fun _ _ => true
def gSubI := gI2 (fun _ _ => true) fun i j => .int (i - j)
def cMul (i j : Int) : Bool := decide (i.natAbs < 2 ^ 64) || decide (j.natAbs < 2 ^ 64)
def gMul := gI2 cMul fun i j => .int (i * j)
def cDiv (i j : Int) : Bool := decide (j ≠ 0) && decide (j.natAbs < 1073741824)
def gDiv := gI2 cDiv fun i j => .int (i.fdiv j)
def cMod (i j : Int) : Bool := decide (j ≠ 0)
def gMod := gI2 cMod fun i j => .int (i.fmod j)
def cPow (i j : Int) : Bool := decide (0 ≤ j ∧ j ≤ 1000000 ∧ i.natAbs < 2 ^ 64)
def gPow := gI2 cPow fun i j => .int (i ^ j.toNat)
def gLt := gI2 (fun _ _ => true) fun i j => .bl (decide (i < j))
def gLe := gI2 (fun _ _ => true) fun i j => .bl (decide (i ≤ j))
def gGt := gI2 (fun _ _ => true) fun i j => .bl (decide (j < i))
def gGe := gI2 (fun _ _ => true) fun i j => .bl (decide (j ≤ i))
def gNeg : Dat → Option S
  | .int i => some (.val (.int (-i))) | _ => none
/-- +: numbers, texts, lists, tuples -/
def gAdd : Dat → Dat → Option S
  | .int i, .int j => some (.val (.int (i + j)))
  | .str x, .str y => if x.length + y.length ≤ 100000 then some (.val (.str (x ++ y))) else none
  | .lst xs, .lst ys => if xs.length + ys.length ≤ 100000 then some (.lst (xs ++ ys)) else none
  | .tup xs, .tup ys => if xs ≠ [] ∧ xs.length + ys.length ≤ 100000 then some (.val (.tup (xs ++ ys))) else none
  | _, _ => none

/-! ### equality, membership -/
mutual
def pd : Dat → Option PyData
  | .non => some .none | .bl b => some (.bool b) | .int i => some (.int i) | .str x => some (.str x)
  | .tup xs => match pdL xs with | some l => some (.tuple l) | none => none
  | .lst xs => match pdL xs with | some l => some (.list l) | none => none
  | .dk _ _ => none | .dt _ _ => none | .obj _ _ _ => none | .scr _ => none
def pdL : List Dat → Option (List PyData)
  | [] => some []
  | d :: ds => match pd d, pdL ds with | some x, some l => some (x :: l) | _, _ => none
end
def gEq (a b : Dat) : Option S := match pd a, pd b with
  | some d, some e => if (SeqAt.shaped d && SeqAt.shaped e) = true then some (.val (.bl (PyData.eqv d e))) else none
  | _, _ => none
def gNe (a b : Dat) : Option S := match pd a, pd b with
  | some d, some e => if (SeqAt.shaped d && SeqAt.shaped e) = true then some (.val (.bl (!PyData.eqv d e))) else none
  | _, _ => none
def gInB (neg : Bool) (a b : Dat) : Option S := match b with
  | .lst xs => (match pd a, pdL xs with
    | some d, some l => if (SeqAt.shaped d && SeqAt.shaped (.list l)) = true then some (.val (.bl ((l.any fun z => PyData.eqv z d) != neg))) else none
    | _, _ => none)
  | _ => none
def gIs : Dat → Dat → Option S
  | d, .non => (match d with | .non => some (.val (.bl true)) | .obj _ _ _ => none | _ => some (.val (.bl false)))
  | _, _ => none
section
variable {G : Gd} {F H : Hp}
mutual
theorem Rep.dp (e : Same F H) : ∀ {d : Dat} {v : V} {p : PyData}, Rep G F d v → pd d = some p → Dp G.K H v p
  | .non, _, _, h, hp => by rw [pd] at hp; cases hp; rw [show _ = V.non from h]; exact .non
  | .bl b, _, _, h, hp => by rw [pd] at hp; cases hp; rw [show _ = V.bl b from h]; exact .bl b
  | .int i, _, _, h, hp => by rw [pd] at hp; cases hp; rw [show _ = V.int i from h]; exact .int i
  | .str x, _, _, h, hp => by rw [pd] at hp; cases hp; rw [show _ = V.str x from h]; exact .str x
  | .tup xs, _, p, ⟨a, vs, h1, h2, h3⟩, hp => by
    rw [pd] at hp
    cases q : pdL xs with
    | none => rw [q] at hp; cases hp
    | some l => rw [q] at hp; cases hp; rw [h1]; exact .tup (sqT_mono e h2) (RepL.dp e h3 q)
  | .lst xs, _, p, ⟨a, vs, h1, h2, h3⟩, hp => by
    rw [pd] at hp
    cases q : pdL xs with
    | none => rw [q] at hp; cases hp
    | some l => rw [q] at hp; cases hp; rw [h1]; exact .lst (.inl (.inl (e _ _ h2))) (RepL.dp e h3 q)
  | .dk _ _, _, _, _, hp => by rw [pd] at hp; cases hp
  | .dt _ _, _, _, _, hp => by rw [pd] at hp; cases hp
  | .obj _ _ _, _, _, _, hp => by rw [pd] at hp; cases hp
  | .scr _, _, _, _, hp => by rw [pd] at hp; cases hp
theorem RepL.dp (e : Same F H) : ∀ {ds : List Dat} {vs : List V} {ps : List PyData}, RepL G F ds vs → pdL ds = some ps → DpAll G.K H vs ps
  | [], vs, _, h, hp => by rw [pdL] at hp; cases hp; cases (show vs = [] from h); exact .nil
  | d :: ds, _, ps, ⟨v, r, h1, h2, h3⟩, hp => by
    rw [pdL] at hp
    cases q : pd d with
    | none => rw [q] at hp; cases hp
    | some x =>
      cases q2 : pdL ds with
      | none => rw [q, q2] at hp; cases hp
      | some l => rw [q, q2] at hp; cases hp; rw [h1]; exact .cons (Rep.dp e h2 q) (RepL.dp e h3 q2)
end
theorem RepH.dp (e : Same F H) {d : Dat} {v : V} {p : PyData} (h : RepH G F H v d) (hp : pd d = some p) : Dp G.K H v p := by
  obtain ⟨t, h1, rfl, h3⟩ := h
  cases t with
  | val v d' =>
    cases (show d' = d from h3)
    exact Rep.dp e h1 hp
  | lst a vs xs =>
    cases (show Dat.lst xs = d from h3)
    rw [pd] at hp
    cases q : pdL xs with
    | none => rw [q] at hp; cases hp
    | some l => rw [q] at hp; cases hp; exact .lst (.inl (.inl h1.1)) (RepL.dp e h1.2 q)
  | dk a ks vs xs => cases (show Dat.dk ks xs = d from h3); rw [pd] at hp; cases hp
  | dt a ks vs xs => cases (show Dat.dt ks xs = d from h3); rw [pd] at hp; cases hp
  | ins a dx c ns vs xs => cases (show Dat.obj c ns xs = d from h3); rw [pd] at hp; cases hp
theorem vr_eq : VR2 G (rEqD G.K) gEq := fun A F H tl x y a b s Q hG L rx ry e k => by
  subst hG
  unfold gEq at e
  cases q1 : pd a with
  | none => rw [q1] at e; cases e
  | some d =>
    cases q2 : pd b with
    | none => rw [q1, q2] at e; cases e
    | some p =>
      rw [q1, q2] at e
      dsimp only at e
      split at e
      · rename_i hs
        rw [Bool.and_eq_true] at hs
        exact ⟨d, p, rx.dp L.fh q1, ry.dp L.fh q2, hs.1, hs.2, L.out (d := .bl _) k rfl (Option.some.inj e)⟩
      · cases e
theorem vr_ne : VR2 G (rNeD G.K) gNe := fun A F H tl x y a b s Q hG L rx ry e k => by
  subst hG
  unfold gNe at e
  cases q1 : pd a with
  | none => rw [q1] at e; cases e
  | some d =>
    cases q2 : pd b with
    | none => rw [q1, q2] at e; cases e
    | some p =>
      rw [q1, q2] at e
      dsimp only at e
      split at e
      · rename_i hs
        rw [Bool.and_eq_true] at hs
        exact ⟨d, p, rx.dp L.fh q1, ry.dp L.fh q2, hs.1, hs.2, L.out (d := .bl _) k rfl (Option.some.inj e)⟩
      · cases e
theorem gInB_inv {neg : Bool} {a b : Dat} {s : S} (h : gInB neg a b = some s) : ∃ xs d l, b = .lst xs ∧ pd a = some d ∧ pdL xs = some l ∧ SeqAt.shaped d = true ∧ SeqAt.shaped (.list l) = true ∧ S.val (.bl ((l.any fun z => PyData.eqv z d) != neg)) = s := by
  unfold gInB at h
  split at h
  · rename_i xs
    cases q1 : pd a with
    | none => rw [q1] at h; cases h
    | some d =>
      cases q2 : pdL xs with
      | none => rw [q1, q2] at h; cases h
      | some l =>
        rw [q1, q2] at h
        dsimp only at h
        split at h
        · rename_i hs
          rw [Bool.and_eq_true] at hs
          exact ⟨xs, d, l, rfl, rfl, q2, hs.1, hs.2, Option.some.inj h⟩
        · cases h
  · cases h
theorem vr_in : VR2 G (rInD G.K) (gInB false) := fun A F H tl x y a b s Q hG L rx ry e k => by
  subst hG
  obtain ⟨xs, d, l, rfl, q1, q2, s1, s2, e⟩ := gInB_inv e
  have hp : pd (.lst xs) = some (.list l) := by rw [pd, q2]
  refine ⟨d, l, rx.dp L.fh q1, ry.dp L.fh hp, s1, s2, L.out k ?_ e⟩
  show V.bl _ = V.bl _
  rw [Bool.bne_false]
theorem vr_notIn : VR2 G (rNotInD G.K) (gInB true) := fun A F H tl x y a b s Q hG L rx ry e k => by
  subst hG
  obtain ⟨xs, d, l, rfl, q1, q2, s1, s2, e⟩ := gInB_inv e
  have hp : pd (.lst xs) = some (.list l) := by rw [pd, q2]
  refine ⟨d, l, rx.dp L.fh q1, ry.dp L.fh hp, s1, s2, L.out k ?_ e⟩
  show V.bl _ = V.bl _
  rw [Bool.bne_true]
/-- + -/
def rAdd (K : PySem.W.Frag) : R2 := fun x y H Q => rI0 (fun i j => .int (i + j)) x y H Q ∨ (∃ i j, x = .str i ∧ y = .str j ∧ i.length + j.length ≤ sizeLine ∧ Q (.str (i ++ j)) H) ∨ rCat x y H Q ∨ rCatT K x y H Q
theorem op_addD {X : Cx} : OpR X (binaryOp .Add) (rAdd X.K) := op_add.or (op_add_str.or (op_cat.or op_catT))
theorem gAdd_inv {a b : Dat} {s : S} (h : gAdd a b = some s) : (∃ i j, a = .int i ∧ b = .int j ∧ S.val (.int (i + j)) = s) ∨ (∃ x y, a = .str x ∧ b = .str y ∧ x.length + y.length ≤ 100000 ∧ S.val (.str (x ++ y)) = s) ∨
    (∃ xs ys, a = .lst xs ∧ b = .lst ys ∧ xs.length + ys.length ≤ 100000 ∧ S.lst (xs ++ ys) = s) ∨ (∃ xs ys, a = .tup xs ∧ b = .tup ys ∧ xs ≠ [] ∧ xs.length + ys.length ≤ 100000 ∧ S.val (.tup (xs ++ ys)) = s) := by
  unfold gAdd at h
  split at h
  · exact .inl ⟨_, _, rfl, rfl, Option.some.inj h⟩
  · split at h
    · exact .inr (.inl ⟨_, _, rfl, rfl, by assumption, Option.some.inj h⟩)
    · cases h
  · split at h
    · exact .inr (.inr (.inl ⟨_, _, rfl, rfl, by assumption, Option.some.inj h⟩))
    · cases h
  · split at h
    · rename_i hc
      exact .inr (.inr (.inr ⟨_, _, rfl, rfl, hc.1, hc.2, Option.some.inj h⟩))
    · cases h
  · cases h
theorem vr_add : VR2 G (rAdd G.K) gAdd := fun A F H tl x y a b s Q hG L rx ry e k => by
  subst hG
  rcases gAdd_inv e with ⟨i, j, rfl, rfl, e'⟩ | ⟨i, j, rfl, rfl, hl, e'⟩ | ⟨xs, ys, rfl, rfl, hl, e'⟩ | ⟨xs, ys, rfl, rfl, hne, hl, e'⟩
  · exact .inl ⟨_, _, rx.int, ry.int, L.out (d := .int (i + j)) k rfl e'⟩
  · exact .inr (.inl ⟨_, _, rx.str, ry.str, big_ok hl, L.out (d := .str (i ++ j)) k rfl e'⟩)
  · obtain ⟨a, vs, rfl, h1, h2⟩ := rx.lst L.fh
    obtain ⟨b, ws, rfl, h3, h4⟩ := ry.lst L.fh
    refine .inr (.inr (.inl ⟨a, b, vs, ws, rfl, rfl, h1, h3, big_ok (by rw [← h2.len, ← h4.len]; exact hl), fun p hp => ?_⟩))
    exact k F _ (.lst p (vs ++ ws) (xs ++ ys)) (Same.refl _) (L.newL hp (h2.app h4)) e'
  · obtain ⟨a, vs, rfl, h1, h2⟩ := rx.tup L.fh
    obtain ⟨b, ws, rfl, h3, h4⟩ := ry.tup L.fh
    have nv : vs ≠ [] := fun z => hne (by
      have := h2.len
      rw [z] at this
      exact List.eq_nil_of_length_eq_zero this)
    refine .inr (.inr (.inr ⟨a, b, vs, ws, rfl, rfl, sqT_mono L.fh h1, sqT_mono L.fh h3, nv, big_ok (by rw [← h2.len, ← h4.len]; exact hl), fun z => ?_, fun z p hp => ?_⟩))
    · subst z
      have ey : ys = [] := List.eq_nil_of_length_eq_zero h4.len
      subst ey
      rw [List.append_nil] at e'
      exact L.out (d := .tup xs) k ⟨a, vs, rfl, h1, h2⟩ e'
    · exact k _ _ (.val (.ref p) (.tup (xs ++ ys))) (same_new (L.freshF hp)) (L.newT hp (h2.app h4)) e'
end
end Dl
/-! D4: subscripts, built-ins, tests. -/
namespace Dl
open PySem PySem.Spec
open PyProof.Rows L2

/-! ### one of two ways -/
def orRes {α : Type} (f g : DS → Res α) : DS → Res α := fun ds => match f ds with | .stuck => g ds | r => r
section
variable {G : Gd} {js : List Nat} {X : Cx} {W : WX}
theorem pe_or {e : Expr} {t t' : TE} (h : PE X e t) (h' : PE X e t') : PE X e (fun σ H Q => t σ H Q ∨ t' σ H Q) := ⟨fun pins s σ H Q I q => q.elim (h.run pins s σ H Q I) (h'.run pins s σ H Q I)⟩
theorem ej_or {e : Expr} {f g : DS → Res S} (h : EJ G js X W e f) (h' : EJ G js X W e g) : EJ G js X W e (orRes f g) := fun A hG hj => by
  refine pe_imp (pe_or (h A hG hj) (h' A hG hj)) fun σ H Q q => ?_
  obtain ⟨F, ts, ft, L, q⟩ := q
  unfold orRes at q
  cases e1 : f (erT ts) with
  | ok a ds => rw [e1] at q; exact .inl ⟨F, ts, ft, L, by rw [e1]; exact q⟩
  | exc x ds => rw [e1] at q; exact .inl ⟨F, ts, ft, L, by rw [e1]; exact q⟩
  | stuck => rw [e1] at q; exact .inr ⟨F, ts, ft, L, q⟩

/-! ### subscripts -/
def gIx : Dat → Dat → Option S
  | .lst xs, .int i => (match atI xs i with | some d => some (.val d) | none => none)
  | .tup xs, .int i => (match atI xs i with | some d => some (.val d) | none => none)
  | .str x, .int i => if x.length ≤ 100000 then (match atI x.cps.toList i with | some c => some (.val (.str ⟨#[c]⟩)) | none => none) else none
  | _, _ => none
theorem gIx_inv {a b : Dat} {s : S} (h : gIx a b = some s) : ∃ i, b = .int i ∧ ((∃ xs d, a = .lst xs ∧ atI xs i = some d ∧ S.val d = s) ∨ (∃ xs d, a = .tup xs ∧ atI xs i = some d ∧ S.val d = s) ∨ (∃ x c, a = .str x ∧ x.length ≤ 100000 ∧ atI x.cps.toList i = some c ∧ S.val (.str ⟨#[c]⟩) = s)) := by
  unfold gIx at h
  split at h
  · split at h
    · exact ⟨_, rfl, .inl ⟨_, _, rfl, by assumption, Option.some.inj h⟩⟩
    · cases h
  · split at h
    · exact ⟨_, rfl, .inr (.inl ⟨_, _, rfl, by assumption, Option.some.inj h⟩)⟩
    · cases h
  · split at h
    · split at h
      · exact ⟨_, rfl, .inr (.inr ⟨_, _, rfl, by assumption, by assumption, Option.some.inj h⟩)⟩
      · cases h
    · cases h
  · cases h
theorem RepL.at {F : Hp} {ds : List Dat} {vs : List V} {i : Int} {d : Dat} (h : RepL G F ds vs) (e : atI ds i = some d) : ∃ v, atI vs i = some v ∧ Rep G F d v := by
  unfold atI at e ⊢
  rw [← h.len]
  cases q : ixN ds.length i with
  | none => rw [q] at e; cases e
  | some j =>
    rw [q] at e
    obtain ⟨v, h1, h2⟩ := h.get (i := j) (d := d) (by simpa using e)
    exact ⟨v, by simpa using h1, h2⟩
theorem vr_ix : VR2 G (rIx G.K) gIx := fun A F H tl x y a b s Q hG L rx ry e k => by
  subst hG
  obtain ⟨i, rfl, e'⟩ := gIx_inv e
  have hy := ry.int
  rcases e' with ⟨xs, d, rfl, h1, h2⟩ | ⟨xs, d, rfl, h1, h2⟩ | ⟨z, c, rfl, hz, h1, h2⟩
  · obtain ⟨p, vs, rfl, q1, q2⟩ := rx.lst L.fh
    obtain ⟨v, q3, q4⟩ := q2.at h1
    exact .inl ⟨p, vs, i, v, rfl, hy, .inl (.inl q1), q3, L.out k q4 h2⟩
  · obtain ⟨p, vs, rfl, q1, q2⟩ := rx.tup L.fh
    obtain ⟨v, q3, q4⟩ := q2.at h1
    exact .inr (.inl ⟨p, vs, i, v, rfl, hy, sqT_mono L.fh q1, q3, L.out k q4 h2⟩)
  · exact .inr (.inr ⟨z, i, c, rx.str, hy, big_ok hz, h1, L.out (d := .str ⟨#[c]⟩) k rfl h2⟩)
/-- a slice of a list, of the script -/
def cut {α : Type} (xs : List α) (lo hi : Option Int) : List α := (xs.drop (HT.sIx xs.length 0 lo)).take (HT.sIx xs.length xs.length hi - HT.sIx xs.length 0 lo)
theorem RepL.cut {F : Hp} {ds : List Dat} {vs : List V} {lo hi : Option Int} (h : RepL G F ds vs) : RepL G F (Dl.cut ds lo hi) (cutV vs lo hi) := by
  unfold Dl.cut cutV
  rw [← h.len]
  exact (h.drop _).take _
def oiNone : DS → Res (Option Int) := fun ds => .ok none ds
def oiSome (f : DS → Res S) : DS → Res (Option Int) := bnd f fun s ds => match s with | .val (.int i) => .ok (some i) ds | _ => .stuck
def RI : RelT (Option Int) (Option Int) := fun _ _ a _ _ _ b => b = a
def IJ (G : Gd) (js : List Nat) (X : Cx) (W : WX) (e : Option Expr) (f : DS → Res (Option Int)) : Prop := ∀ A : Act, A.G = G → A.js = js → PO X e (tX A W RI f)
theorem po_imp {e : Option Expr} {t t' : TO} (h : PO X e t) (k : ∀ σ H Q, t' σ H Q → t σ H Q) : PO X e t' := by
  obtain ⟨h1⟩ := h
  exact ⟨fun pins s σ H Q I q => h1 pins s σ H Q I (k _ _ _ q)⟩
theorem ij_none : IJ G js X W none oiNone := fun A _ _ => by
  refine po_imp po_none fun σ H Q q => ?_
  obtain ⟨F, ts, ft, L, q⟩ := q
  exact q F H ts none (Same.refl _) ft rfl L rfl
theorem ij_some {e : Expr} {f : DS → Res S} (h : EJ G js X W e f) : IJ G js X W (some e) (oiSome f) := fun A hG hj => by
  refine po_imp (po_some (h A hG hj)) fun σ H Q q => ?_
  obtain ⟨F, ts, ft, L, q⟩ := q
  refine post_bind ft L q fun s F1 H1 ts1 x e1 f1 L1 r q => ?_
  obtain ⟨t, rfl, rfl, L2⟩ := r
  split at q
  · rename_i i he
    cases t with
    | val v d =>
      cases he
      have hv : v = .int i := L2.rep
      exact ⟨i, hv, q F1 H1 ts1 (some i) (Same.refl _) f1 rfl L1 rfl⟩
    | _ => cases he
  · exact q.elim
def gSl (d : Dat) (lo hi : Option Int) : Option S := match d with
  | .lst xs => some (.lst (Dl.cut xs lo hi))
  | .scr ns => some (.lst ((Dl.cut ns lo hi).map .int))
  | _ => none
def eSl (a : DS → Res Op) (l h : DS → Res (Option Int)) : DS → Res S := bnd a fun x => bnd l fun lo => bnd h fun hi ds => match view ds x with
  | some d => (match gSl d lo hi with | some s => .ok s ds | none => .stuck) | none => .stuck
theorem cut_map {α β : Type} (f : α → β) (xs : List α) (lo hi : Option Int) : (Dl.cut xs lo hi).map f = Dl.cut (xs.map f) lo hi := by
  unfold Dl.cut
  rw [List.length_map, List.map_take, List.map_drop]
theorem ej_sl {e : Expr} {lo hi : Option Expr} {p2 pos : Pos} {fa : DS → Res Op} {fl fh : DS → Res (Option Int)} (ha : OJ G js X W e fa) (hl : IJ G js X W lo fl) (hh : IJ G js X W hi fh) (hK : G.K = X.K) : EJ G js X W (.Subscript e (.Slice lo hi none p2) pos) (eSl fa fl fh) := fun A hG hj => by
  refine pe_imp (pe_slice sl_list (ha A hG hj) (hl A hG hj) (hh A hG hj)) fun σ H Q q => ?_
  obtain ⟨F, ts, ft, L, q⟩ := q
  refine post_bind ft L q fun o F1 H1 ts1 x e1 f1 L1 r q => ?_
  refine post_bind f1 L1 q fun l F2 H2 ts2 y e2 f2 L2 r2 q => ?_
  refine post_bind f2 L2 q fun h F3 H3 ts3 z e3 f3 L3 r3 q => ?_
  cases r2
  cases r3
  have r := (r.next e2).next e3
  cases q1 : view (erT ts3) o with
  | none => simp only [q1] at q; exact q.elim
  | some d =>
    simp only [q1] at q
    have rh := r.repH f3 L3 q1
    cases q2 : gSl d l h with
    | none => simp only [q2] at q; exact q.elim
    | some s =>
      simp only [q2] at q
      cases d with
      | lst xs =>
        cases q2
        obtain ⟨p, vs, rfl, k1, k2⟩ := rh.lst L3.fh
        refine ⟨p, vs, rfl, .inl (.inl k1), fun p' hp => ?_⟩
        have L4 := L3.newL hp (k2.cut (lo := l) (hi := h))
        exact q F3 _ ts3 (.ref p') (Same.refl _) f3 rfl L4.drop1 ⟨_, rfl, rfl, L4⟩
      | scr ns =>
        cases q2
        obtain ⟨p, rfl, k1⟩ := rh.scr
        refine ⟨p, _, rfl, hK ▸ hG ▸ sqL_mono L3.fh k1, fun p' hp => ?_⟩
        have L4 : Liv A F3 (upd H3 p' (.lst (cutV (ns.map V.int) l h))) (.lst p' (cutV (ns.map V.int) l h) ((Dl.cut ns l h).map .int) :: fm ts3) := L3.newL hp (by
          have e : cutV (ns.map V.int) l h = (Dl.cut ns l h).map V.int := (cut_map V.int ns l h).symm
          rw [e]
          exact RepL.of_ints)
        exact q F3 _ ts3 (.ref p') (Same.refl _) f3 rfl L4.drop1 ⟨_, rfl, rfl, L4⟩
      | _ => cases q2

/-! ### built-ins -/
def gAbs : List Dat → Option S
  | [.int i] => some (.val (.int (if i < 0 then -i else i))) | _ => none
def gInt : List Dat → Option S
  | [.int i] => some (.val (.int i)) | [.bl b] => some (.val (.int (if b then 1 else 0))) | _ => none
def gLen : List Dat → Option S
  | [.lst xs] => some (.val (.int xs.length)) | [.tup xs] => some (.val (.int xs.length)) | [.str x] => if x.length ≤ 100000 then some (.val (.int x.length)) else none | _ => none
def gList : List Dat → Option S
  | [.lst xs] => some (.lst xs) | [.tup xs] => some (.lst xs) | _ => none
def gTuple : List Dat → Option S
  | [.lst xs] => some (.val (.tup xs)) | [.tup xs] => some (.val (.tup xs)) | _ => none
def intsOf : List Dat → Option (List Int)
  | [] => some [] | .int i :: r => (match intsOf r with | some l => some (i :: l) | none => none) | _ => none
theorem intsOf_eq : ∀ {xs : List Dat} {ns : List Int}, intsOf xs = some ns → xs = ns.map .int
  | [], _, h => by cases h; rfl
  | d :: r, ns, h => by
    cases d with
    | int i =>
      cases q : intsOf r with
      | none => rw [intsOf, q] at h; cases h
      | some l => rw [intsOf, q] at h; cases h; rw [intsOf_eq q]; rfl
    | _ => cases h
theorem intsOf_map : ∀ ns : List Int, intsOf (ns.map .int) = some ns
  | [] => rfl
  | n :: ns => by rw [List.map_cons, intsOf, intsOf_map ns]
def gSorted : List Dat → Option S
  | [.lst xs] => (match intsOf xs with | some ns => some (.lst ((ns.mergeSort (fun a b => decide (a ≤ b))).map .int)) | none => none) | _ => none
/-- the greatest of two, of a list -/
def gMax : List Dat → Option S
  | [.int i, .int j] => some (.val (.int (if j > i then j else i)))
  | [.lst xs] => (match intsOf xs with | some (n :: ns) => some (.val (.int (ns.foldl max n))) | _ => none)
  | _ => none
def gMin : List Dat → Option S
  | [.int i, .int j] => some (.val (.int (if j < i then j else i)))
  | [.lst xs] => (match intsOf xs with | some (n :: ns) => some (.val (.int (ns.foldl min n))) | _ => none)
  | _ => none
theorem vl_abs : VRL G (fun xs H Q => ∃ i, xs = [.int i] ∧ Q (.int (if i < 0 then -i else i)) H) gAbs := fun A F H tl xs as s Q hG L r e k => by
  unfold gAbs at e
  split at e
  · rename_i i
    obtain ⟨v, _, rfl, h1, rfl⟩ := r
    exact ⟨i, by rw [h1.int], L.out (d := .int _) k rfl (Option.some.inj e)⟩
  · cases e
theorem vl_int : VRL G (fun xs H Q => (∃ i, xs = [.int i] ∧ Q (.int i) H) ∨ ∃ k, xs = [.bl k] ∧ Q (.int (if k then 1 else 0)) H) gInt := fun A F H tl xs as s Q hG L r e k => by
  unfold gInt at e
  split at e
  · rename_i i
    obtain ⟨v, _, rfl, h1, rfl⟩ := r
    exact .inl ⟨i, by rw [h1.int], L.out (d := .int _) k rfl (Option.some.inj e)⟩
  · rename_i b
    obtain ⟨v, _, rfl, h1, rfl⟩ := r
    exact .inr ⟨b, by rw [h1.bl], L.out (d := .int _) k rfl (Option.some.inj e)⟩
  · cases e
def rLen (K : PySem.W.Frag) : List V → Hp → VK → Prop := fun xs H Q => (∃ p ys, xs = [.ref p] ∧ (SqL K H p ys ∨ SqT K H p ys) ∧ Q (.int ys.length) H) ∨ (∃ z, xs = [.str z] ∧ z.length ≤ sizeLine ∧ Q (.int z.length) H)
theorem cr_len : CallR X (.builtin "len") (rLen X.K) := call_len_seq.or call_len_str
theorem vl_len : VRL G (rLen G.K) gLen := fun A F H tl xs as s Q hG L r e k => by
  subst hG
  unfold gLen at e
  split at e
  · obtain ⟨v, _, rfl, h1, rfl⟩ := r
    obtain ⟨p, vs, rfl, q1, q2⟩ := h1.lst L.fh
    exact .inl ⟨p, vs, rfl, .inl (.inl (.inl q1)), L.out (d := .int _) k rfl (by rw [← q2.len]; exact Option.some.inj e)⟩
  · obtain ⟨v, _, rfl, h1, rfl⟩ := r
    obtain ⟨p, vs, rfl, q1, q2⟩ := h1.tup L.fh
    exact .inl ⟨p, vs, rfl, .inr (sqT_mono L.fh q1), L.out (d := .int _) k rfl (by rw [← q2.len]; exact Option.some.inj e)⟩
  · split at e
    · rename_i x hx
      obtain ⟨v, _, rfl, h1, rfl⟩ := r
      exact .inr ⟨x, by rw [h1.str], big_ok hx, L.out (d := .int _) k rfl (Option.some.inj e)⟩
    · cases e
  · cases e
def rListOf (K : PySem.W.Frag) : List V → Hp → VK → Prop := fun xs H Q => ∃ p ys, xs = [.ref p] ∧ (SqL K H p ys ∨ SqT K H p ys) ∧ ∀ l, H l = none → Q (.ref l) (upd H l (.lst ys))
theorem cr_list : CallR X (.type "list") (rListOf X.K) := call_list_of
theorem vl_list : VRL G (rListOf G.K) gList := fun A F H tl xs as s Q hG L r e k => by
  subst hG
  unfold gList at e
  split at e
  · rename_i ys
    obtain ⟨v, _, rfl, h1, rfl⟩ := r
    obtain ⟨p, vs, rfl, q1, q2⟩ := h1.lst L.fh
    exact ⟨p, vs, rfl, .inl (.inl (.inl q1)), fun l hl => k F _ (.lst l vs ys) (Same.refl _) (L.newL hl q2) (Option.some.inj e)⟩
  · rename_i ys
    obtain ⟨v, _, rfl, h1, rfl⟩ := r
    obtain ⟨p, vs, rfl, q1, q2⟩ := h1.tup L.fh
    exact ⟨p, vs, rfl, .inr (sqT_mono L.fh q1), fun l hl => k F _ (.lst l vs ys) (Same.refl _) (L.newL hl q2) (Option.some.inj e)⟩
  · cases e
def rTupleOf (K : PySem.W.Frag) : List V → Hp → VK → Prop := fun xs H Q => ∃ p ys, xs = [.ref p] ∧ ((SqL K H p ys ∧ ∀ l, H l = none → Q (.ref l) (upd H l (.tup ys))) ∨ (SqT K H p ys ∧ Q (.ref p) H))
theorem cr_tuple : CallR X (.type "tuple") (rTupleOf X.K) := call_tuple_of
theorem vl_tuple : VRL G (rTupleOf G.K) gTuple := fun A F H tl xs as s Q hG L r e k => by
  subst hG
  unfold gTuple at e
  split at e
  · rename_i ys
    obtain ⟨v, _, rfl, h1, rfl⟩ := r
    obtain ⟨p, vs, rfl, q1, q2⟩ := h1.lst L.fh
    exact ⟨p, vs, rfl, .inl ⟨.inl (.inl q1), fun l hl => k _ _ (.val (.ref l) (.tup ys)) (same_new (L.freshF hl)) (L.newT hl q2) (Option.some.inj e)⟩⟩
  · rename_i ys
    obtain ⟨v, _, rfl, h1, rfl⟩ := r
    obtain ⟨p, vs, rfl, q1, q2⟩ := h1.tup L.fh
    exact ⟨p, vs, rfl, .inr ⟨sqT_mono L.fh q1, L.out (d := .tup ys) k ⟨p, vs, rfl, q1, q2⟩ (Option.some.inj e)⟩⟩
  · cases e
theorem sort_uniq {l m : List Int} (hp : l.Perm m) (hl : l.Pairwise (· ≤ ·)) (hm : m.Pairwise (· ≤ ·)) : l = m :=
  List.Perm.eq_of_pairwise (le := (· ≤ ·)) (fun a b _ _ h1 h2 => Int.le_antisymm h1 h2) hl hm hp
theorem vl_sorted : VRL G (rSortedI G.K) gSorted := fun A F H tl xs as s Q hG L r e k => by
  subst hG
  unfold gSorted at e
  split at e
  · rename_i ys
    cases q : intsOf ys with
    | none => rw [q] at e; cases e
    | some ns =>
      rw [q] at e
      obtain rfl := intsOf_eq q
      obtain ⟨v, _, rfl, h1, rfl⟩ := r
      obtain ⟨p, vs, rfl, q1, q2⟩ := h1.lst L.fh
      obtain rfl := q2.ints
      refine ⟨p, ns, rfl, .inl (.inl q1), fun ns' l hp hs hl => ?_⟩
      have hm : ns' = ns.mergeSort (fun a b => decide (a ≤ b)) := by
        refine sort_uniq (hp.trans (List.mergeSort_perm ns _).symm) hs ?_
        have := List.pairwise_mergeSort (le := fun a b : Int => decide (a ≤ b)) (fun a b c h1 h2 => by simp at *; omega) (fun a b => by simp; omega) ns
        exact this.imp fun h => of_decide_eq_true h
      subst hm
      exact k F _ (.lst l _ ((ns.mergeSort (fun a b => decide (a ≤ b))).map .int)) (Same.refl _) (L.newL hl RepL.of_ints) (Option.some.inj e)
  · cases e
theorem foldl_max : ∀ (ns : List Int) (n m : Int), m ∈ n :: ns → (∀ y ∈ n :: ns, y ≤ m) → ns.foldl max n = m
  | [], n, m, h, k => by simp at h; exact h.symm
  | a :: r, n, m, h, k => by
    refine foldl_max r (max n a) m ?_ fun y hy => ?_
    · have h1 := k n (by simp)
      have h2 := k a (by simp)
      rcases List.mem_cons.mp h with e | h
      · subst e; rw [Int.max_eq_left h2]; simp
      · rcases List.mem_cons.mp h with e | h
        · subst e; rw [Int.max_eq_right h1]; simp
        · exact List.mem_cons_of_mem _ h
    · rcases List.mem_cons.mp hy with e | hy
      · have h1 := k n (by simp)
        have h2 := k a (by simp)
        rw [e]; omega
      · exact k y (by simp [hy])
theorem foldl_min : ∀ (ns : List Int) (n m : Int), m ∈ n :: ns → (∀ y ∈ n :: ns, m ≤ y) → ns.foldl min n = m
  | [], n, m, h, k => by simp at h; exact h.symm
  | a :: r, n, m, h, k => by
    refine foldl_min r (min n a) m ?_ fun y hy => ?_
    · have h1 := k n (by simp)
      have h2 := k a (by simp)
      rcases List.mem_cons.mp h with e | h
      · subst e; rw [Int.min_eq_left h2]; simp
      · rcases List.mem_cons.mp h with e | h
        · subst e; rw [Int.min_eq_right h1]; simp
        · exact List.mem_cons_of_mem _ h
    · rcases List.mem_cons.mp hy with e | hy
      · have h1 := k n (by simp)
        have h2 := k a (by simp)
        rw [e]; omega
      · exact k y (by simp [hy])
def rMaxD (K : PySem.W.Frag) : List V → Hp → VK → Prop := fun xs H Q => (∃ i j, xs = [.int i, .int j] ∧ Q (.int (if j > i then j else i)) H) ∨ rMax K xs H Q
def rMinD (K : PySem.W.Frag) : List V → Hp → VK → Prop := fun xs H Q => (∃ i j, xs = [.int i, .int j] ∧ Q (.int (if j < i then j else i)) H) ∨ rMin K xs H Q
theorem cr_maxD (hc : X.calm = true) : CallR X (.builtin "max") (rMaxD X.K) := (call_max2 hc).or (L2.cr_max hc)
theorem cr_minD (hc : X.calm = true) : CallR X (.builtin "min") (rMinD X.K) := (call_min2 hc).or (L2.cr_min hc)
theorem vl_max : VRL G (rMaxD G.K) gMax := fun A F H tl xs as s Q hG L r e k => by
  subst hG
  unfold gMax at e
  split at e
  · rename_i i j
    obtain ⟨v, _, rfl, h1, w, _, rfl, h2, rfl⟩ := r
    exact .inl ⟨i, j, by rw [h1.int, h2.int], L.out (d := .int _) k rfl (Option.some.inj e)⟩
  · rename_i ys
    cases q : intsOf ys with
    | none => rw [q] at e; cases e
    | some l =>
      rw [q] at e
      cases l with
      | nil => cases e
      | cons n ns =>
        obtain rfl := intsOf_eq q
        obtain ⟨v, _, rfl, h1, rfl⟩ := r
        obtain ⟨p, vs, rfl, q1, q2⟩ := h1.lst L.fh
        obtain rfl := q2.ints
        refine .inr ⟨p, n :: ns, rfl, .inl (.inl q1), by simp, fun m hm hle => L.out (d := .int m) k rfl ?_⟩
        rw [← foldl_max ns n m hm hle]
        exact Option.some.inj e
  · cases e
theorem vl_min : VRL G (rMinD G.K) gMin := fun A F H tl xs as s Q hG L r e k => by
  subst hG
  unfold gMin at e
  split at e
  · rename_i i j
    obtain ⟨v, _, rfl, h1, w, _, rfl, h2, rfl⟩ := r
    exact .inl ⟨i, j, by rw [h1.int, h2.int], L.out (d := .int _) k rfl (Option.some.inj e)⟩
  · rename_i ys
    cases q : intsOf ys with
    | none => rw [q] at e; cases e
    | some l =>
      rw [q] at e
      cases l with
      | nil => cases e
      | cons n ns =>
        obtain rfl := intsOf_eq q
        obtain ⟨v, _, rfl, h1, rfl⟩ := r
        obtain ⟨p, vs, rfl, q1, q2⟩ := h1.lst L.fh
        obtain rfl := q2.ints
        refine .inr ⟨p, n :: ns, rfl, .inl (.inl q1), by simp, fun m hm hle => L.out (d := .int m) k rfl ?_⟩
        rw [← foldl_min ns n m hm hle]
        exact Option.some.inj e
  · cases e

/-! ### tests -/
def tVal (f : DS → Res S) : DS → Res Bool := bnd f fun s ds => match s with | .val (.bl b) => .ok b ds | _ => .stuck
def truD : Dat → Option Bool
  | .non => some false | .bl b => some b | .int i => some (i != 0) | .str x => if x.length ≤ 100000 then some ((x.length : Int) != 0) else none
  | .lst xs => some (!xs.isEmpty) | .tup xs => some (!xs.isEmpty) | .dk ks _ => some (!ks.isEmpty) | _ => none
def tTru (f : DS → Res Op) : DS → Res Bool := bnd f fun o ds => match view ds o with
  | some d => (match truD d with | some b => .ok b ds | none => .stuck) | none => .stuck
def tNotF (f : DS → Res Bool) : DS → Res Bool := bnd f fun b ds => .ok (!b) ds
def tAndF (f g : DS → Res Bool) : DS → Res Bool := bnd f fun b ds => if b = true then g ds else .ok false ds
def tOrF (f g : DS → Res Bool) : DS → Res Bool := bnd f fun b ds => if b = true then .ok true ds else g ds
theorem rs_bl {A : Act} {σ : L2.St} {F H : Hp} {ts : Ts} {s : S} {v : V} {b : Bool} (r : RS A σ s F H ts v) (e : s = .val (.bl b)) : v = .bl b := by
  obtain ⟨t, rfl, rfl, L⟩ := r
  cases t with
  | val v d =>
    cases (show S.val d = S.val (.bl b) from e)
    exact L.rep
  | _ => cases e
theorem tval_go {A : Act} {σ : L2.St} {F H : Hp} {ts : Ts} {f : DS → Res S} {Q : Bool → Hp → Prop} (ft : Fit A ts σ) (L : Liv A F H (fm ts)) (q : Post A W RB σ F Q (tVal f (erT ts))) : tX A W RS f σ H (fun x H' => ∃ k, x = .bl k ∧ Q k H') := by
  refine post_bind ft L q fun s F1 H1 ts1 x e1 f1 L1 r q => ?_
  split at q
  · exact ⟨_, rs_bl r rfl, q F1 H1 ts1 _ (Same.refl _) f1 rfl L1 rfl⟩
  · exact q.elim
/-- a comparison as a test -/
theorem tj_cmp {op : CmpOp} {a b : Expr} {pos : Pos} {r : R2} {g : Dat → Dat → Option S} {fa fb : DS → Res Op} (ho : OpR X (compareOp op) r) (vr : VR2 G r g) (ha : OJ G js X W a fa) (hb : OJ G js X W b fb) (hm : behindInMarks op b = false) : TJ G js X W (.Compare a [op] [b] pos) (tVal (eOp2 g fa fb)) := fun A hG hj => by
  refine pt_imp (pt_cmpR ho (ha A hG hj) (hb A hG hj) hm) fun σ H Q q => ?_
  obtain ⟨F, ts, ft, L, q⟩ := q
  obtain ⟨F0, ts0, ft0, L0, q⟩ := tval_go ft L q
  refine post_bind ft0 L0 q fun o F1 H1 ts1 x e1 f1 L1 r q => ?_
  refine post_bind f1 L1 q fun p F2 H2 ts2 y e2 f2 L2 r2 q => ?_
  exact lift2_go vr hG f2 L2 (r.next e2) r2 q
theorem tj_truth {e : Expr} {f : DS → Res Op} (h : OJ G js X W e f) (hK : G.K = X.K) (he : ∀ whole, isTrue e X.env whole = (do let v ← whole; standAt e.pos; holding [v] (truthy v)) := by intro _; rfl) : TJ G js X W e (tTru f) := fun A hG hj => by
  refine pt_imp (pt_truth (h A hG hj) he) fun σ H Q q => ?_
  obtain ⟨F, ts, ft, L, q⟩ := q
  refine post_bind ft L q fun o F1 H1 ts1 x e1 f1 L1 r q => ?_
  cases q1 : view (erT ts1) o with
  | none => simp only [q1] at q; exact q.elim
  | some d =>
    simp only [q1] at q
    have rh := r.repH f1 L1 q1
    have go : ∀ b, truD d = some b → TruV X.K x H1 b → ∃ k, TruV X.K x H1 k ∧ Q k H1 := fun b hb ht => by
      simp only [hb] at q
      exact ⟨b, ht, q F1 H1 ts1 b (Same.refl _) f1 rfl L1 rfl⟩
    have hKG : A.G.K = X.K := by rw [hG, hK]
    cases d with
    | non => exact go false rfl (by rw [rh.non]; exact rfl)
    | bl b => exact go b rfl (by rw [rh.bl]; exact rfl)
    | int i => exact go _ rfl (by rw [rh.int]; exact rfl)
    | str z =>
      by_cases hz : z.length ≤ 100000
      · exact go _ (if_pos hz) (by rw [rh.str]; exact ⟨big_ok hz, rfl⟩)
      · rw [show truD (.str z) = none from if_neg hz] at q; exact q.elim
    | lst xs =>
      obtain ⟨p, vs, rfl, k1, k2⟩ := rh.lst L1.fh
      refine go _ rfl (.inl ⟨vs, .inl (.inl k1), ?_⟩)
      have := k2.len
      cases xs <;> cases vs <;> first | rfl | (simp at this)
    | tup xs =>
      obtain ⟨p, vs, rfl, k1, k2⟩ := rh.tup L1.fh
      refine go _ rfl (.inr (.inl ⟨vs, hKG ▸ sqT_mono L1.fh k1, ?_⟩))
      have := k2.len
      cases xs <;> cases vs <;> first | rfl | (simp at this)
    | dk ks xs =>
      obtain ⟨p, vs, rfl, k1, k2, k3⟩ := rh.dk L1.fh
      refine go _ rfl (.inr (.inr ⟨_, k1, ?_⟩))
      cases ks <;> cases vs <;> first | rfl | (simp at k2)
    | _ => exact q.elim
theorem tj_not {e : Expr} {pos : Pos} {f : DS → Res Bool} (h : TJ G js X W e f) : TJ G js X W (.UnaryOp .Not e pos) (tNotF f) := fun A hG hj => by
  refine pt_imp (pt_not (h A hG hj)) fun σ H Q q => ?_
  obtain ⟨F, ts, ft, L, q⟩ := q
  refine post_bind ft L q fun o F1 H1 ts1 x e1 f1 L1 r q => ?_
  cases r
  exact q F1 H1 ts1 _ (Same.refl _) f1 rfl L1 rfl
def WJ (G : Gd) (js : List Nat) (X : Cx) (W : WX) (e : Expr) (f : DS → Res Bool) : Prop := ∀ A : Act, A.G = G → A.js = js → PW X e (tX A W RB f)
theorem WJ.tj {e : Expr} {f : DS → Res Bool} (h : WJ G js X W e f) : TJ G js X W e f := fun A hG hj => (h A hG hj).pt
theorem wj_and1 {e : Expr} {pos : Pos} {f : DS → Res Bool} (h : TJ G js X W e f) : WJ G js X W (.BoolOp .And [e] pos) f := fun A hG hj => pw_and1 (h A hG hj)
theorem wj_or1 {e : Expr} {pos : Pos} {f : DS → Res Bool} (h : TJ G js X W e f) : WJ G js X W (.BoolOp .Or [e] pos) f := fun A hG hj => pw_or1 (h A hG hj)
theorem wj_and {a b : Expr} {rest : List Expr} {pos : Pos} {f g : DS → Res Bool} (h : TJ G js X W a f) (h2 : WJ G js X W (.BoolOp .And (b :: rest) pos) g) : WJ G js X W (.BoolOp .And (a :: b :: rest) pos) (tAndF f g) := fun A hG hj => by
  refine pw_imp (pw_and (h A hG hj) (h2 A hG hj)) fun σ H Q q => ?_
  obtain ⟨F, ts, ft, L, q⟩ := q
  refine post_bind ft L q fun o F1 H1 ts1 x e1 f1 L1 r q => ?_
  cases r
  cases o with
  | true => exact ⟨F1, ts1, f1, L1, q⟩
  | false => exact q F1 H1 ts1 false (Same.refl _) f1 rfl L1 rfl
theorem wj_or {a b : Expr} {rest : List Expr} {pos : Pos} {f g : DS → Res Bool} (h : TJ G js X W a f) (h2 : WJ G js X W (.BoolOp .Or (b :: rest) pos) g) : WJ G js X W (.BoolOp .Or (a :: b :: rest) pos) (tOrF f g) := fun A hG hj => by
  refine pw_imp (pw_or (h A hG hj) (h2 A hG hj)) fun σ H Q q => ?_
  obtain ⟨F, ts, ft, L, q⟩ := q
  refine post_bind ft L q fun o F1 H1 ts1 x e1 f1 L1 r q => ?_
  cases r
  cases o with
  | true => exact q F1 H1 ts1 true (Same.refl _) f1 rfl L1 rfl
  | false => exact ⟨F1, ts1, f1, L1, q⟩
/-! ### and, or, not as values; a if t else b -/
def eBool (f : DS → Res Bool) : DS → Res S := bnd f fun b ds => .ok (.val (.bl b)) ds
def eIf (t : DS → Res Bool) (f g : DS → Res S) : DS → Res S := bnd t fun b ds => if b = true then f ds else g ds
theorem ej_and {a b : Expr} {rest : List Expr} {pos : Pos} {f g : DS → Res S} (h : EJ G js X W a f) (h2 : EJ G js X W (.BoolOp .And (b :: rest) pos) g) : EJ G js X W (.BoolOp .And (a :: b :: rest) pos) (bnd (tVal f) fun c ds => if c = true then g ds else .ok (.val (.bl false)) ds) := fun A hG hj => by
  refine pe_imp (pe_and (h A hG hj) (h2 A hG hj)) fun σ H Q q => ?_
  obtain ⟨F, ts, ft, L, q⟩ := q
  have q2 : tX A W RB (tVal f) σ H (fun c H1 => if c = true then tX A W RS g σ H1 Q else Q (.bl false) H1) := post_bind ft L q fun o F1 H1 ts1 x e1 f1 L1 r q => by
    cases r
    cases o with
    | true => exact ⟨F1, ts1, f1, L1, q⟩
    | false => exact q F1 H1 ts1 (.bl false) (Same.refl _) f1 rfl L1 ⟨.val (.bl false) (.bl false), rfl, rfl, L1.val rfl⟩
  obtain ⟨F3, ts3, ft3, L3, q3⟩ := q2
  exact tval_go ft3 L3 q3
theorem ej_orV {a b : Expr} {rest : List Expr} {pos : Pos} {f g : DS → Res S} (h : EJ G js X W a f) (h2 : EJ G js X W (.BoolOp .Or (b :: rest) pos) g) : EJ G js X W (.BoolOp .Or (a :: b :: rest) pos) (bnd (tVal f) fun c ds => if c = true then .ok (.val (.bl true)) ds else g ds) := fun A hG hj => by
  refine pe_imp (L2.pe_or (h A hG hj) (h2 A hG hj)) fun σ H Q q => ?_
  obtain ⟨F, ts, ft, L, q⟩ := q
  have q2 : tX A W RB (tVal f) σ H (fun c H1 => if c = true then Q (.bl true) H1 else tX A W RS g σ H1 Q) := post_bind ft L q fun o F1 H1 ts1 x e1 f1 L1 r q => by
    cases r
    cases o with
    | false => exact ⟨F1, ts1, f1, L1, q⟩
    | true => exact q F1 H1 ts1 (.bl true) (Same.refl _) f1 rfl L1 ⟨.val (.bl true) (.bl true), rfl, rfl, L1.val rfl⟩
  obtain ⟨F3, ts3, ft3, L3, q3⟩ := q2
  exact tval_go ft3 L3 q3
theorem ej_one {op : BoolOp} {a : Expr} {pos : Pos} {f : DS → Res S} (h : EJ G js X W a f) : EJ G js X W (.BoolOp op [a] pos) f := fun A hG hj => pe_one (h A hG hj)
theorem ej_notV {a : Expr} {pos : Pos} {f : DS → Res S} (h : EJ G js X W a f) : EJ G js X W (.UnaryOp .Not a pos) (bnd (tVal f) fun c ds => .ok (.val (.bl (!c))) ds) := fun A hG hj => by
  refine pe_imp (pe_not (h A hG hj)) fun σ H Q q => ?_
  obtain ⟨F, ts, ft, L, q⟩ := q
  have q2 : tX A W RB (tVal f) σ H (fun c H1 => Q (.bl (!c)) H1) := post_bind ft L q fun o F1 H1 ts1 x e1 f1 L1 r q => by
    cases r
    exact q F1 H1 ts1 _ (Same.refl _) f1 rfl L1 ⟨.val (.bl (!o)) (.bl (!o)), rfl, rfl, L1.val rfl⟩
  obtain ⟨F3, ts3, ft3, L3, q3⟩ := q2
  exact tval_go ft3 L3 q3
theorem ej_ifExp {c a b : Expr} {pos : Pos} {t : DS → Res Bool} {f g : DS → Res S} (hc : TJ G js X W c t) (ha : EJ G js X W a f) (hb : EJ G js X W b g) : EJ G js X W (.IfExp c a b pos) (eIf t f g) := fun A hG hj => by
  refine pe_imp (pe_ifExp (hc A hG hj) (ha A hG hj) (hb A hG hj)) fun σ H Q q => ?_
  obtain ⟨F, ts, ft, L, q⟩ := q
  refine post_bind ft L q fun o F1 H1 ts1 x e1 f1 L1 r q => ?_
  cases r
  cases o with
  | true => exact ⟨F1, ts1, f1, L1, q⟩
  | false => exact ⟨F1, ts1, f1, L1, q⟩
end
end Dl
/-! D5: calls of the program's own defs, statements, loops, the rule for a def. -/
namespace Dl
open PySem PySem.Spec
open PyProof.Rows L2

/-- what a def tells: its value, what became of the arguments -/
inductive CR where
  | ret (s : S) (as : List S) | exc (x : Exn) (as : List S) | stuck
abbrev FS := List S → CR
/-- the promise of a def -/
def spD (G : Gd) (m : FS) : Sp := fun vs H Q E => ∃ F tl, Liv ⟨G, H, F, fps tl, []⟩ F H tl ∧ tl.map T.v = vs ∧ match m (tl.map T.er) with
  | .ret s as => ∀ F' H' t tl', Liv ⟨G, H, F, fps tl, []⟩ F' H' (t :: tl') → t.er = s → tl'.map T.er = as → tl'.map T.v = vs → Q t.v H'
  | .exc x as => ∀ F' H' tl' cls d, Liv ⟨G, H, F, fps tl, []⟩ F' H' tl' → tl'.map T.er = as → tl'.map T.v = vs → ExR G F' x cls d → E cls d H'
  | .stuck => False
theorem Liv.repin {G : Gd} {H0 F0 : Hp} {P0 : List Addr} {p p' : List (Nat × V)} {F H : Hp} {tl : List T} (L : Liv ⟨G, H0, F0, P0, p⟩ F H tl) : Liv ⟨G, H0, F0, P0, p'⟩ F H tl := ⟨L.fh, L.f0, L.keep, L.new, L.ok, L.nd, L.fr⟩

/-! ### the arguments of a call -/
def takeA : List Op → DS → Option (List S × DS)
  | [], ds => some ([], ds)
  | .d d :: os, ds => match takeA os ds with | some (as, ds') => some (.val d :: as, ds') | none => none
  | .s i :: os, ds => match ds[i]? with
    | some (some s) => (match takeA os (ds.set i none) with | some (as, ds') => some (s :: as, ds') | none => none)
    | _ => none
def backA : List Op → List S → DS → DS
  | .s i :: os, s :: as, ds => (backA os as ds).set i (some s)
  | .d _ :: os, _ :: as, ds => backA os as ds
  | _, _, ds => ds
def eCall (m : FS) (fa : DS → Res (List Op)) : DS → Res S := bnd fa fun os ds => match takeA os ds with
  | some (as, ds') => (match m as with | .ret s as' => .ok s (backA os as' ds') | .exc x as' => .exc x (backA os as' ds') | .stuck => .stuck)
  | none => .stuck
section
variable {A : Act} {σ : L2.St} {F H F' H' : Hp}
theorem takeA_ok : ∀ {os : List Op} {vs : List V} {ts : Ts} {as : List S} {ds' : DS} {pre : List T}, Fit A ts σ → Liv A F H (pre ++ fm ts) → ROs A.G σ F os vs → takeA os (erT ts) = some (as, ds') →
    ∃ tl ts', tl.map T.v = vs ∧ tl.map T.er = as ∧ erT ts' = ds' ∧ Fit A ts' σ ∧ Liv A F H (pre ++ tl ++ fm ts')
  | [], vs, ts, as, ds', pre, ft, L, r, e => by
    cases e
    cases (show vs = [] from r)
    exact ⟨[], ts, rfl, rfl, rfl, ft, by rw [List.append_nil]; exact L⟩
  | .d d :: os, _, ts, as, ds', pre, ft, L, ⟨v, r, h1, h2, h3⟩, e => by
    rw [takeA] at e
    cases q : takeA os (erT ts) with
    | none => rw [q] at e; cases e
    | some p =>
      obtain ⟨as1, ds1⟩ := p
      rw [q] at e
      cases e
      have L2 : Liv A F H ((pre ++ [.val v d]) ++ fm ts) := (L.val h2).perm (by
        rw [List.append_assoc]
        exact (List.perm_middle).symm)
      obtain ⟨tl, ts', e1, e2, e3, f2, L3⟩ := takeA_ok ft L2 h3 q
      exact ⟨.val v d :: tl, ts', by rw [h1, List.map_cons, e1] <;> rfl, by rw [List.map_cons, e2] <;> rfl, e3, f2, by simpa using L3⟩
  | .s i :: os, _, ts, as, ds', pre, ft, L, ⟨v, r, h1, h2, h3⟩, e => by
    rw [takeA] at e
    cases q0 : (erT ts)[i]? with
    | none => rw [q0] at e; cases e
    | some o =>
      cases o with
      | none => rw [q0] at e; cases e
      | some s =>
        obtain ⟨t, ht, hs⟩ := of_erT q0
        rw [q0] at e
        dsimp only at e
        rw [← erT_set0] at e
        cases q : takeA os (erT (ts.set i none)) with
        | none => rw [q] at e; cases e
        | some p =>
          obtain ⟨as1, ds1⟩ := p
          rw [q] at e
          cases e
          have L2 : Liv A F H ((pre ++ [t]) ++ fm (ts.set i none)) := L.perm (by
            rw [List.append_assoc]
            exact (fm_get ht).append_left pre)
          obtain ⟨tl, ts', e1, e2, e3, f2, L3⟩ := takeA_ok ft.set0 L2 h3 q
          have hv : t.v = v := by
            have a := ft.at' i t ht
            rw [show σ[i]? = some (some v) from h2] at a
            exact (Option.some.inj (Option.some.inj a)).symm
          exact ⟨t :: tl, ts', by rw [h1, List.map_cons, e1, hv] <;> rfl, by rw [List.map_cons, e2, hs] <;> rfl, e3, f2, by simpa using L3⟩
theorem backA_ok : ∀ {os : List Op} {vs : List V} {tl : List T} {ts : Ts} {pre : List T}, Fit A ts σ → Liv A F' H' (pre ++ tl ++ fm ts) → ROs A.G σ F os vs → tl.map T.v = vs →
    ∃ ts', erT ts' = backA os (tl.map T.er) (erT ts) ∧ Fit A ts' σ ∧ Liv A F' H' (pre ++ fm ts')
  | [], vs, tl, ts, pre, ft, L, r, e => by
    cases (show vs = [] from r)
    obtain rfl : tl = [] := List.map_eq_nil_iff.mp e
    exact ⟨ts, rfl, ft, by simpa using L⟩
  | .d d :: os, _, tl, ts, pre, ft, L, ⟨v, r, h1, h2, h3⟩, e => by
    cases tl with
    | nil => rw [h1] at e; cases e
    | cons t tl =>
      rw [h1, List.map_cons] at e
      have e2 : tl.map T.v = r := (List.cons.inj e).2
      have L2 : Liv A F' H' (pre ++ tl ++ fm ts) := (L.perm (show (pre ++ t :: tl ++ fm ts).Perm (t :: (pre ++ tl ++ fm ts)) by
        rw [List.append_assoc, List.append_assoc]
        exact List.perm_middle)).drop1
      obtain ⟨ts', q1, q2, q3⟩ := backA_ok ft L2 h3 e2
      exact ⟨ts', q1, q2, q3⟩
  | .s i :: os, _, tl, ts, pre, ft, L, ⟨v, r, h1, h2, h3⟩, e => by
    cases tl with
    | nil => rw [h1] at e; cases e
    | cons t tl =>
      rw [h1, List.map_cons] at e
      have e1 : t.v = v := (List.cons.inj e).1
      have e2 : tl.map T.v = r := (List.cons.inj e).2
      have L2 : Liv A F' H' ((pre ++ [t]) ++ tl ++ fm ts) := by simpa using L
      obtain ⟨ts', q1, q2, q3⟩ := backA_ok ft L2 h3 e2
      have hi : i < ts'.length := by rw [q2.len]; exact (List.getElem?_eq_some_iff.mp (show σ[i]? = some (some v) from h2)).1
      refine ⟨ts'.set i (some t), ?_, ⟨by rw [List.length_set]; exact q2.len, fun j w hw => ?_, q2.pin⟩, ?_⟩
      · rw [erT_set, q1] <;> rfl
      · by_cases hj : i = j
        · subst hj
          rw [List.getElem?_set_self hi] at hw
          cases hw
          rw [e1]; exact h2
        · rw [List.getElem?_set_ne hj] at hw
          exact q2.at' j w hw
      · have L3 : Liv A F' H' ((pre ++ [t]) ++ fm (ts'.set i none)) := fm_drop q3
        exact L3.perm (by
          rw [List.append_assoc]
          exact (fm_set t hi).symm.append_left pre)
end
section
variable {G : Gd} {js : List Nat} {X : Cx} {W : WX}
/-- f(e, ..), f a def of the program -/
theorem ej_call {k : Nat} {f : Addr} {fd : FuncData} {ps : List Str} {m : FS} {x : Str} {p pos : Pos} {e : Expr} {es : List Expr} {fa : DS → Res (List Op)} (F : FnOk X.prog X.w X.K X.mg X.base (L2.CX X.prog X.w) k f fd ps (spD G m)) (hr : Room k X.A) (hg : Gl X x) (hm : X.mg x = some (.ref f)) (hk : PySem.W.keepIn X.K (.ref f) = true)
    (hb : Binds X.K fd ps []) (tk : Takes X W) (ha : AJ G js X W (e :: es) fa) (hdb : (x == ("__debug__" : Str)) = false := by decide) (he : starEach (e :: es) X.env = (false, eval e X.env) :: starEach es X.env := by rfl) (hpl : (backTo pos (starEach es X.env)).any (·.1) = false := by rfl) :
    EJ G js X W (.Call (.Name x p) (e :: es) [] pos) (eCall m fa) := fun A hG hj => by
  refine pe_imp (pe_callSD (E := WE W) F hr hg hm hk hb .nil (passAt tk) (ha A hG hj) hdb he hpl) fun σ H Q q => ?_
  obtain ⟨F, ts, ft, L, q⟩ := q
  refine post_bind ft L q fun os F1 H1 ts1 vs e1 f1 L1 r q => ?_
  subst hG
  cases q0 : takeA os (erT ts1) with
  | none => simp only [q0] at q; exact q.elim
  | some pr =>
    obtain ⟨as, ds'⟩ := pr
    simp only [q0] at q
    obtain ⟨tl, ts2, e2, e3, e4, f2, L2⟩ := takeA_ok (pre := []) f1 L1 r q0
    have L2 : Liv A F1 H1 (tl ++ fm ts2) := L2
    refine ⟨F1, tl, L2.enter [], by rw [List.append_nil]; exact e2, ?_⟩
    rw [e3]
    subst e4
    have fin : ∀ {F' H' : Hp} {new tl' : List T}, Liv ⟨A.G, H1, F1, fps tl, []⟩ F' H' (new ++ tl') → tl'.map T.v = vs → ∃ ts', erT ts' = backA os (tl'.map T.er) (erT ts2) ∧ Fit A ts' σ ∧ Liv A F' H' (new ++ fm ts') := fun {F' H' new tl'} L3 e5 =>
      backA_ok f2 (L2.after L3) r e5
    cases q1 : m as with
    | ret s as' =>
      simp only [q1] at q
      intro F' H' t tl' L3 h1 h2 h3
      rw [List.append_nil] at h3
      obtain ⟨ts', k1, k2, k3⟩ := fin (new := [t]) L3 h3
      have k3 : Liv A F' H' (t :: fm ts') := k3
      exact q F' H' ts' t.v L3.f0 k2 (by rw [k1, h2]) k3.drop1 ⟨t, h1, rfl, k3⟩
    | exc x as' =>
      simp only [q1] at q
      intro F' H' tl' cls d L3 h2 h3 hx
      rw [List.append_nil] at h3
      obtain ⟨ts', k1, k2, k3⟩ := fin (new := []) L3 h3
      exact q F' H' ts' cls d L3.f0 k2 (by rw [k1, h2]) k3 hx
    | stuck => simp only [q1] at q; exact q
end

/-! ### statements -/
inductive RSt where
  | nx (s : DS) | rt (a : S) (s : DS) | bk (s : DS) | ct (s : DS) | exc (x : Exn) (s : DS) | stuck
def PostS (A : Act) (W : WX) (F : Hp) (D : Ends) : RSt → Prop
  | .nx ds => ∀ F' H' ts σ', Same F F' → Fit A ts σ' → erT ts = ds → Liv A F' H' (fm ts) → D.nx σ' H'
  | .rt s ds => ∀ F' H' ts t σ', Same F F' → Fit A ts σ' → erT ts = ds → Liv A F' H' (t :: fm ts) → t.er = s → D.rt t.v H'
  | .bk ds => ∀ F' H' ts σ', Same F F' → Fit A ts σ' → erT ts = ds → Liv A F' H' (fm ts) → D.bk σ' H'
  | .ct ds => ∀ F' H' ts σ', Same F F' → Fit A ts σ' → erT ts = ds → Liv A F' H' (fm ts) → D.ct σ' H'
  | .exc x ds => ∀ F' H' ts σ' cls d, Same F F' → Fit A ts σ' → erT ts = ds → Liv A F' H' (fm ts) → ExR A.G F' x cls d → W cls d σ' H'
  | .stuck => False
def tS (A : Act) (W : WX) (f : DS → RSt) : TS := fun D σ H => ∃ F ts, Fit A ts σ ∧ Liv A F H (fm ts) ∧ PostS A W F D (f (erT ts))
def SJ (G : Gd) (js : List Nat) (X : Cx) (W : WX) (st : Stmt) (f : DS → RSt) : Prop := ∀ A : Act, A.G = G → A.js = js → PS X st (tS A W f)
def BJ (G : Gd) (js : List Nat) (X : Cx) (W : WX) (st : List Stmt) (f : DS → RSt) : Prop := ∀ A : Act, A.G = G → A.js = js → PSs X st (tS A W f)
theorem ps_imp {X : Cx} {st : Stmt} {t t' : TS} (h : PS X st t) (k : ∀ D σ H, t' D σ H → t D σ H) : PS X st t' := ⟨fun pins s σ H D I q => h.run pins s σ H D I (k _ _ _ q)⟩
theorem pss_imp {X : Cx} {st : List Stmt} {t t' : TS} (h : PSs X st t) (k : ∀ D σ H, t' D σ H → t D σ H) : PSs X st t' := ⟨fun pins s σ H D I q => h.run pins s σ H D I (k _ _ _ q)⟩
/-- what stands behind an expression -/
def thenS {α : Type} (f : DS → Res α) (k : α → DS → RSt) : DS → RSt := fun ds => match f ds with | .ok a ds' => k a ds' | .exc x ds' => .exc x ds' | .stuck => .stuck
section
variable {A : Act} {W : WX} {σ : L2.St} {F F' H : Hp} {ts : Ts} {α β : Type} {R : RelT α β} {D D' : Ends}
theorem PostS.mono (e : Same F F') : ∀ {r : RSt}, PostS A W F D r → PostS A W F' D r
  | .nx _, h => fun F1 H1 ts s e1 => h F1 H1 ts s (e.trans e1)
  | .rt _ _, h => fun F1 H1 ts t s e1 => h F1 H1 ts t s (e.trans e1)
  | .bk _, h => fun F1 H1 ts s e1 => h F1 H1 ts s (e.trans e1)
  | .ct _, h => fun F1 H1 ts s e1 => h F1 H1 ts s (e.trans e1)
  | .exc _ _, h => fun F1 H1 ts s c d e1 => h F1 H1 ts s c d (e.trans e1)
  | .stuck, h => h
theorem thenS_bind {f : DS → Res α} {k : α → DS → RSt} {Q' : β → Hp → Prop} (ft : Fit A ts σ) (L : Liv A F H (fm ts)) (h : PostS A W F D (thenS f k (erT ts)))
    (g : ∀ a F1 H1 ts1 x, Same F F1 → Fit A ts1 σ → Liv A F1 H1 (fm ts1) → R A σ a F1 H1 ts1 x → PostS A W F1 D (k a (erT ts1)) → Q' x H1) : tX A W R f σ H Q' := by
  refine ⟨F, ts, ft, L, ?_⟩
  unfold thenS at h
  cases e : f (erT ts) with
  | ok a ds =>
    rw [e] at h
    intro F1 H1 ts1 b e1 f1 e2 l r
    refine g a F1 H1 ts1 b e1 f1 l r ?_
    rw [e2]
    exact h.mono e1
  | exc x ds =>
    rw [e] at h
    exact fun F1 H1 ts1 c d e1 f1 e2 l r => h F1 H1 ts1 σ c d e1 f1 e2 l r
  | stuck => rw [e] at h; exact h
end
def sNext : DS → RSt := .nx
def sSeq (f g : DS → RSt) : DS → RSt := fun ds => match f ds with | .nx ds' => g ds' | r => r
def sSet (i : Nat) (f : DS → Res S) : DS → RSt := thenS f fun s ds => .nx (ds.set i (some s))
def sDrop (f : DS → Res S) : DS → RSt := thenS f fun _ ds => .nx ds
def sRet (f : DS → Res S) : DS → RSt := thenS f fun s ds => .rt s ds
def sIf (t : DS → Res Bool) (f g : DS → RSt) : DS → RSt := thenS t fun b ds => if b = true then f ds else g ds
def sBrk : DS → RSt := .bk
def sCont : DS → RSt := .ct
section
variable {G : Gd} {js : List Nat} {X : Cx} {W : WX}
theorem bj_nil : BJ G js X W [] sNext := fun A _ _ => pss_imp pss_nil fun D σ H ⟨F, ts, ft, L, q⟩ => q F H ts σ (Same.refl _) ft rfl L
theorem bj_cons {st : Stmt} {rest : List Stmt} {f g : DS → RSt} (h : SJ G js X W st f) (h2 : BJ G js X W rest g) : BJ G js X W (st :: rest) (sSeq f g) := fun A hG hj => by
  refine pss_imp (pss_cons (h A hG hj) (h2 A hG hj)) fun D σ H q => ?_
  obtain ⟨F, ts, ft, L, q⟩ := q
  refine ⟨F, ts, ft, L, ?_⟩
  unfold sSeq at q
  cases e : f (erT ts) with
  | nx ds =>
    rw [e] at q
    intro F1 H1 ts1 s1 e1 f1 e2 L1
    subst e2
    exact ⟨F1, ts1, f1, L1, q.mono e1⟩
  | rt a ds => rw [e] at q; exact q
  | bk ds => rw [e] at q; exact q
  | ct ds => rw [e] at q; exact q
  | exc x ds => rw [e] at q; exact q
  | stuck => rw [e] at q; exact q
theorem bj_one {st : Stmt} {f : DS → RSt} (h : SJ G js X W st f) : BJ G js X W [st] f := fun A hG hj => pss_one (h A hG hj)
theorem sj_pass {pos : Pos} : SJ G js X W (.Pass pos) sNext := fun A _ _ => ps_imp ps_pass fun D σ H ⟨F, ts, ft, L, q⟩ => q F H ts σ (Same.refl _) ft rfl L
theorem sj_brk {pos : Pos} : SJ G js X W (.Break pos) sBrk := fun A _ _ => ps_imp ps_break fun D σ H ⟨F, ts, ft, L, q⟩ => q F H ts σ (Same.refl _) ft rfl L
theorem sj_cont {pos : Pos} : SJ G js X W (.Continue pos) sCont := fun A _ _ => ps_imp ps_continue fun D σ H ⟨F, ts, ft, L, q⟩ => q F H ts σ (Same.refl _) ft rfl L
theorem sj_drop {e : Expr} {pos : Pos} {f : DS → Res S} (h : EJ G js X W e f) (hs : swapsWith e none pos.line X.env = pure false := by rfl) : SJ G js X W (.Expr e pos) (sDrop f) := fun A hG hj => by
  refine ps_imp (ps_expr (h A hG hj) hs) fun D σ H q => ?_
  obtain ⟨F, ts, ft, L, q⟩ := q
  exact thenS_bind ft L q fun s F1 H1 ts1 x e1 f1 L1 r q => q F1 H1 ts1 σ (Same.refl _) f1 rfl L1
theorem sj_ret {e : Expr} {pos : Pos} {f : DS → Res S} (h : EJ G js X W e f) : SJ G js X W (.Return (some e) pos) (sRet f) := fun A hG hj => by
  refine ps_imp (ps_ret (h A hG hj)) fun D σ H q => ?_
  obtain ⟨F, ts, ft, L, q⟩ := q
  refine thenS_bind ft L q fun s F1 H1 ts1 x e1 f1 L1 r q => ?_
  obtain ⟨t, h1, rfl, L2⟩ := r
  exact q F1 H1 ts1 t σ (Same.refl _) f1 rfl L2 h1
theorem sj_retN {pos : Pos} : SJ G js X W (.Return none pos) (sRet (eC .non)) := fun A _ _ => ps_imp ps_retN fun D σ H ⟨F, ts, ft, L, q⟩ => q F H ts (.val .non .non) σ (Same.refl _) ft rfl (L.val rfl) rfl
theorem sj_if {c : Expr} {a b : List Stmt} {pos : Pos} {t : DS → Res Bool} {f g : DS → RSt} (hc : TJ G js X W c t) (ha : BJ G js X W a f) (hb : BJ G js X W b g) : SJ G js X W (.If c a b pos) (sIf t f g) := fun A hG hj => by
  refine ps_imp (ps_if (hc A hG hj) (ha A hG hj) (hb A hG hj)) fun D σ H q => ?_
  obtain ⟨F, ts, ft, L, q⟩ := q
  refine thenS_bind ft L q fun b F1 H1 ts1 x e1 f1 L1 r q => ?_
  cases r
  cases b with
  | true => exact ⟨F1, ts1, f1, L1, q⟩
  | false => exact ⟨F1, ts1, f1, L1, q⟩
/-- the slot i is filled -/
theorem Fit.store {A : Act} {ts : Ts} {σ : L2.St} {i : Nat} {t : T} (f : Fit A ts σ) (hi : i ∉ A.js) : Fit A (ts.set i (some t)) (σ.set i (some t.v)) := by
  refine ⟨by rw [List.length_set, List.length_set]; exact f.len, fun j w hw => ?_, fun p hp => ?_⟩
  · by_cases hj : i = j
    · subst hj
      by_cases h : i < ts.length
      · rw [List.getElem?_set_self h] at hw
        cases hw
        rw [List.getElem?_set_self (by rw [← f.len]; exact h)]
      · rw [List.set_eq_of_length_le (by omega)] at hw
        exact absurd (List.getElem?_eq_some_iff.mp hw).1 h
    · rw [List.getElem?_set_ne hj] at hw ⊢
      exact f.at' j w hw
  · have ne : i ≠ p.1 := fun z => hi (z ▸ List.mem_map.mpr ⟨p, hp, rfl⟩)
    rw [List.getElem?_set_ne ne]
    exact f.pin p hp
theorem Liv.store {A : Act} {F H : Hp} {ts : Ts} {i : Nat} {t : T} (L : Liv A F H (t :: fm ts)) : Liv A F H (fm (ts.set i (some t))) := by
  by_cases h : i < ts.length
  · exact L.put h
  · rw [List.set_eq_of_length_le (by omega)]; exact L.drop1
theorem set_go {A : Act} {f : DS → Res S} {i : Nat} {D : Ends} {σ : L2.St} {H : Hp} (hi : i ∉ A.js) (q : tS A W (sSet i f) D σ H) : tAsg (tX A W RS f) (gName i) D σ H := by
  obtain ⟨F, ts, ft, L, q⟩ := q
  refine thenS_bind ft L q fun s F1 H1 ts1 x e1 f1 L1 r q => ?_
  obtain ⟨t, h1, rfl, L2⟩ := r
  refine q F1 H1 (ts1.set i (some t)) _ (Same.refl _) (f1.store hi) ?_ L2.store
  rw [erT_set, h1]
theorem sj_set {i : Nat} {x : Str} {e : Expr} {pos pos' : Pos} {f : DS → Res S} (hN : X.N.Nodup) (hi : X.N[i]? = some x) (hx : Loc X.env.scope x) (hni : i ∉ js) (he : EJ G js X W e f) (hs : swapsWith e (some (.Name x pos')) pos.line X.env = pure false := by rfl)
    (hf : X.fn x = true ∨ X.env.scope.names.lookup x = some .local := by first | exact .inl rfl | exact .inr rfl | assumption) : SJ G js X W (.Assign [.Name x pos'] e pos) (sSet i f) := fun A hG hj =>
  ps_imp (ps_set hN hi hx (he A hG hj) hs hf) fun D σ H q => set_go (by rw [hj]; exact hni) q

/-! ### what is walked -/
/-- J walks the data xs -/
def Walks (G : Gd) (F0 : Hp) (xs : List Dat) (J : It) : Prop :=
  (∀ i H, Same F0 H → i < xs.length → J.go i H) ∧ (∀ i H, Same F0 H → xs.length ≤ i → J.stop i H) ∧
  (∀ (A : Act) F H tl x H' d i, A.G = G → Same F0 F → Liv A F H tl → J.yld i H x H' → xs[i]? = some d → ∃ F', Same F F' ∧ Liv A F' H' tl ∧ Rep G F' d x)
def RW : RelT (List Dat) It := fun A _ xs F _ _ J => Walks A.G F xs J
def PJ (G : Gd) (js : List Nat) (X : Cx) (W : WX) (tg iter : Expr) (f : DS → Res (List Dat)) : Prop := ∀ A : Act, A.G = G → A.js = js → PI X tg iter (tX A W RW f)
theorem pi_imp {tg iter : Expr} {t t' : TI} (h : PI X tg iter t) (k : ∀ σ H Q, t' σ H Q → t σ H Q) : PI X tg iter t' := ⟨fun pins s σ H Q I q => h.run pins s σ H Q I (k _ _ _ q)⟩
theorem pi_or {tg iter : Expr} {t t' : TI} (h : PI X tg iter t) (h' : PI X tg iter t') : PI X tg iter (fun σ H Q => t σ H Q ∨ t' σ H Q) := ⟨fun pins s σ H Q I q => q.elim (h.run pins s σ H Q I) (h'.run pins s σ H Q I)⟩
theorem walks_list {F : Hp} {a : Addr} {xs : List Dat} {vs : List V} (h : F a = some (.lst vs)) (r : RepL G F xs vs) : Walks G F xs (Itl G.K a) := by
  have sq : ∀ {H : Hp}, Same F H → SqL G.K H a vs := fun e => .inl (.inl (e _ _ h))
  refine ⟨fun i H e hi => ?_, fun i H e hi => ⟨vs, sq e, by rw [← r.len]; exact hi⟩, fun A F1 H tl x H' d i hG e L y hd => ?_⟩
  · obtain ⟨v, hv, _⟩ := r.get (List.getElem?_eq_getElem hi)
    exact ⟨vs, v, sq e, hv⟩
  · obtain ⟨rfl, y⟩ := y
    obtain ⟨v, hv, hr⟩ := r.get hd
    have := y vs (sq (e.trans L.fh))
    rw [hv] at this
    cases this
    exact ⟨F1, Same.refl _, L, hr.mono e⟩
theorem walks_tup {F : Hp} {a : Addr} {xs : List Dat} {vs : List V} (h : SqT G.K F a vs) (r : RepL G F xs vs) : Walks G F xs (Itt G.K a) := by
  have sq : ∀ {H : Hp}, Same F H → SqT G.K H a vs := fun e => sqT_mono e h
  refine ⟨fun i H e hi => ?_, fun i H e hi => ⟨vs, sq e, by rw [← r.len]; exact hi⟩, fun A F1 H tl x H' d i hG e L y hd => ?_⟩
  · obtain ⟨v, hv, _⟩ := r.get (List.getElem?_eq_getElem hi)
    exact ⟨vs, v, sq e, hv⟩
  · obtain ⟨rfl, y⟩ := y
    obtain ⟨v, hv, hr⟩ := r.get hd
    have := y vs (sq (e.trans L.fh))
    rw [hv] at this
    cases this
    exact ⟨F1, Same.refl _, L, hr.mono e⟩
def rng (lo : Int) (n : Nat) : List Dat := (List.range n).map fun (k : Nat) => .int (lo + (k : Int))
theorem walks_rng {F : Hp} {lo : Int} {n : Nat} : Walks G F (rng lo n) (Itr lo n) := by
  have hl : (rng lo n).length = n := by simp [rng]
  refine ⟨fun i H e hi => by rw [hl] at hi; exact hi, fun i H e hi => by rw [hl] at hi; exact hi, fun A F1 H tl x H' d i hG e L y hd => ?_⟩
  obtain ⟨rfl, rfl⟩ := y
  refine ⟨F1, Same.refl _, L, ?_⟩
  unfold rng at hd
  rw [List.getElem?_map] at hd
  have hi : i < n := by rw [← hl]; exact (List.getElem?_eq_some_iff.mp (show (rng lo n)[i]? = some d by unfold rng; rw [List.getElem?_map]; exact hd)).1
  rw [List.getElem?_range hi] at hd
  cases hd
  exact rfl
def wSeq (f : DS → Res S) : DS → Res (List Dat) := bnd f fun s ds => match s.dat with | .lst xs => .ok xs ds | .tup xs => .ok xs ds | _ => .stuck
def bdd (i : Int) : Bool := decide (-(2 ^ 62) ≤ i) && decide (i < 2 ^ 62)
theorem bdd_iff {i : Int} (h : bdd i = true) : -(2 ^ 62) ≤ i ∧ i < 2 ^ 62 := by
  unfold bdd at h
  rw [Bool.and_eq_true] at h
  exact ⟨of_decide_eq_true h.1, of_decide_eq_true h.2⟩
def wRng1 (f : DS → Res (List Op)) : DS → Res (List Dat) := bnd f fun os ds => match views ds os with
  | some [.int j] => if bdd j = true then .ok (rng 0 j.toNat) ds else .stuck
  | _ => .stuck
def wRng2 (f : DS → Res (List Op)) : DS → Res (List Dat) := bnd f fun os ds => match views ds os with
  | some [.int i, .int j] => if (bdd i && bdd j) = true then .ok (rng i (j - i).toNat) ds else .stuck
  | _ => .stuck
theorem rs_freeze {A : Act} {σ : L2.St} {F H : Hp} {ts : Ts} {s : S} {v : V} (r : RS A σ s F H ts v) : ∃ F', Same F F' ∧ Liv A F' H (fm ts) ∧ Rep A.G F' s.dat v := by
  obtain ⟨t, rfl, rfl, L⟩ := r
  obtain ⟨F2, e2, L3⟩ := L.freeze
  exact ⟨F2, e2, L3.drop1, L3.rep⟩
theorem pj_seq {tg e : Expr} {f : DS → Res S} (h : EJ G js X W e f) (hK : G.K = X.K) : PJ G js X W tg e (wSeq f) := fun A hG hj => by
  refine pi_imp (pi_or (pi_list (h A hG hj)) (pi_tup (h A hG hj))) fun σ H Q q => ?_
  obtain ⟨F, ts, ft, L, q⟩ := q
  have hKG : A.G.K = X.K := by rw [hG, hK]
  cases e0 : f (erT ts) with
  | stuck => unfold wSeq bnd at q; rw [e0] at q; exact q.elim
  | exc x ds =>
    refine .inl ⟨F, ts, ft, L, ?_⟩
    unfold wSeq bnd at q
    rw [e0] at q ⊢
    exact q
  | ok s ds =>
    unfold wSeq bnd at q
    rw [e0] at q
    dsimp only at q
    cases hd : s.dat with
    | lst xs =>
      rw [hd] at q
      refine .inl ⟨F, ts, ft, L, ?_⟩
      rw [e0]
      intro F1 H1 ts1 v e1 f1 e2 L1 r
      obtain ⟨F2, e3, L2, rp⟩ := rs_freeze r
      rw [hd] at rp
      obtain ⟨a, vs, rfl, h1, h2⟩ := rp
      refine ⟨a, rfl, ⟨vs, .inl (.inl (L2.fh _ _ h1))⟩, q F2 H1 ts1 _ (e1.trans e3) f1 e2 L2 ?_⟩
      rw [← hKG]
      exact walks_list h1 h2
    | tup xs =>
      rw [hd] at q
      refine .inr ⟨F, ts, ft, L, ?_⟩
      rw [e0]
      intro F1 H1 ts1 v e1 f1 e2 L1 r
      obtain ⟨F2, e3, L2, rp⟩ := rs_freeze r
      rw [hd] at rp
      obtain ⟨a, vs, rfl, h1, h2⟩ := rp
      refine ⟨a, rfl, ⟨vs, hKG ▸ sqT_mono L2.fh h1⟩, q F2 H1 ts1 _ (e1.trans e3) f1 e2 L2 ?_⟩
      rw [← hKG]
      exact walks_tup h1 h2
    | non => rw [hd] at q; exact q.elim
    | bl b => rw [hd] at q; exact q.elim
    | int b => rw [hd] at q; exact q.elim
    | str b => rw [hd] at q; exact q.elim
    | dk a b => rw [hd] at q; exact q.elim
    | dt a b => rw [hd] at q; exact q.elim
    | obj a b c => rw [hd] at q; exact q.elim
    | scr a => rw [hd] at q; exact q.elim
theorem pj_range1 {tg a : Expr} {p pos : Pos} {f : DS → Res (List Op)} (hg : Gl X "range") (hm : X.mg "range" = none) (ha : AJ G js X W [a] f) (hs : starEach [a] X.env = [(false, eval a X.env)] := by rfl) : PJ G js X W tg (.Call (.Name "range" p) [a] [] pos) (wRng1 f) := fun A hG hj => by
  refine pi_imp (pi_range1 hg hm (ha A hG hj) hs) fun σ H Q q => ?_
  obtain ⟨F, ts, ft, L, q⟩ := q
  refine post_bind ft L q fun os F1 H1 ts1 vs e1 f1 L1 r q => ?_
  cases e2 : views (erT ts1) os with
  | none => simp only [e2] at q; exact q.elim
  | some l =>
    have rh := ROs.repH f1 L1 r e2
    simp only [e2] at q
    split at q
    · rename_i j hj'
      cases hj'
      split at q
      · rename_i hb
        obtain ⟨v, _, rfl, h1, rfl⟩ := rh
        exact ⟨j, by rw [h1.int], (bdd_iff hb).1, (bdd_iff hb).2, q F1 H1 ts1 _ (Same.refl _) f1 rfl L1 walks_rng⟩
      · exact q.elim
    · exact q.elim
theorem pj_range2 {tg a b : Expr} {p pos : Pos} {f : DS → Res (List Op)} (hg : Gl X "range") (hm : X.mg "range" = none) (ha : AJ G js X W [a, b] f) (hs : starEach [a, b] X.env = [(false, eval a X.env), (false, eval b X.env)] := by rfl) (hs2 : starEach [b] X.env = [(false, eval b X.env)] := by rfl) : PJ G js X W tg (.Call (.Name "range" p) [a, b] [] pos) (wRng2 f) := fun A hG hj => by
  refine pi_imp (pi_range2 hg hm (ha A hG hj) hs hs2) fun σ H Q q => ?_
  obtain ⟨F, ts, ft, L, q⟩ := q
  refine post_bind ft L q fun os F1 H1 ts1 vs e1 f1 L1 r q => ?_
  cases e2 : views (erT ts1) os with
  | none => simp only [e2] at q; exact q.elim
  | some l =>
    have rh := ROs.repH f1 L1 r e2
    simp only [e2] at q
    split at q
    · rename_i i j hj'
      cases hj'
      split at q
      · rename_i hb
        rw [Bool.and_eq_true] at hb
        obtain ⟨v, _, rfl, h1, w, _, rfl, h2, rfl⟩ := rh
        have b1 := bdd_iff hb.1
        have b2 := bdd_iff hb.2
        exact ⟨i, j, by rw [h1.int, h2.int], ⟨b1.1, b1.2, b2.1, b2.2⟩, q F1 H1 ts1 _ (Same.refl _) f1 rfl L1 walks_rng⟩
      · exact q.elim
    · exact q.elim
end
end Dl
/-! D6: targets, for, while, comprehensions, the rule for a def. -/
namespace Dl
open PySem PySem.Spec
open PyProof.Rows L2

/-! ### targets -/
/-- what a datum does to the slots when it is assigned -/
abbrev Asg := Dat → DS → Option DS
def tG (A : Act) (sl : List Nat) (asg : Asg) : TG := fun v σ H Q => ∃ F ts d, Fit A ts σ ∧ Liv A F H (fm ts) ∧ Rep A.G F d v ∧ match asg d (erT ts) with
  | some ds => ∀ ts' σ', Fit A ts' σ' → erT ts' = ds → Liv A F H (fm ts') → (∀ own : List Nat, (∀ i ∈ sl, i ∈ own) → L2.wipe σ' own = L2.wipe σ own) → Q σ' H
  | none => False
theorem wipe_len (σ : L2.St) : ∀ vs : List Nat, (L2.wipe σ vs).length = σ.length := L2.wipe_length σ
theorem wipe_at (σ : L2.St) (j : Nat) : ∀ vs : List Nat, (L2.wipe σ vs)[j]? = if j ∈ vs ∧ j < σ.length then some none else σ[j]?
  | [] => by simp [L2.wipe]
  | v :: vs => by
    show ((L2.wipe σ vs).set v none)[j]? = _
    by_cases hv : v = j
    · subst hv
      by_cases hl : v < σ.length
      · rw [List.getElem?_set_self (by rw [wipe_len]; exact hl), if_pos ⟨List.mem_cons_self, hl⟩]
      · rw [List.set_eq_of_length_le (by rw [wipe_len]; omega), wipe_at σ v vs, if_neg (fun z => hl z.2), if_neg (fun z => hl z.2)]
    · rw [List.getElem?_set_ne hv, wipe_at σ j vs]
      by_cases hm : j ∈ vs ∧ j < σ.length
      · rw [if_pos hm, if_pos ⟨List.mem_cons_of_mem _ hm.1, hm.2⟩]
      · rw [if_neg hm, if_neg (fun z => hm ⟨(List.mem_cons.mp z.1).resolve_left (Ne.symm hv), z.2⟩)]
theorem wipe_set {σ : L2.St} {i : Nat} {x : Option V} {vs : List Nat} (h : i ∈ vs) : L2.wipe (σ.set i x) vs = L2.wipe σ vs := by
  apply List.ext_getElem?
  intro j
  rw [wipe_at, wipe_at, List.length_set]
  by_cases hm : j ∈ vs ∧ j < σ.length
  · rw [if_pos hm, if_pos hm]
  · rw [if_neg hm, if_neg hm]
    by_cases e : i = j
    · subst e
      have hl : σ.length ≤ i := Nat.le_of_not_lt fun z => hm ⟨h, z⟩
      rw [List.set_eq_of_length_le hl]
    · rw [List.getElem?_set_ne e]
def gjName (i : Nat) : Asg := fun d ds => some (ds.set i (some (.val d)))
def gjSeq : List Asg → List Dat → DS → Option DS
  | [], [], ds => some ds
  | g :: gs, d :: r, ds => (match g d ds with | some ds' => gjSeq gs r ds' | none => none)
  | _, _, _ => none
def gjTup (gs : List Asg) : Asg := fun d ds => match d with | .tup xs => gjSeq gs xs ds | _ => none
def GJ (G : Gd) (js : List Nat) (X : Cx) (tg : Expr) (sl : List Nat) (asg : Asg) : Prop := ∀ A : Act, A.G = G → A.js = js → PG X tg (tG A sl asg)
def GsJ (G : Gd) (js : List Nat) (X : Cx) (tg : List Expr) (sl : List Nat) (gs : List Asg) : Prop := ∀ A : Act, A.G = G → A.js = js → PGs X tg (fun vs σ H Q => ∃ F ts xs, Fit A ts σ ∧ Liv A F H (fm ts) ∧ RepL A.G F xs vs ∧ match gjSeq gs xs (erT ts) with
  | some ds => ∀ ts' σ', Fit A ts' σ' → erT ts' = ds → Liv A F H (fm ts') → (∀ own : List Nat, (∀ i ∈ sl, i ∈ own) → L2.wipe σ' own = L2.wipe σ own) → Q σ' H
  | none => False)
section
variable {G : Gd} {js : List Nat} {X : Cx} {W : WX}
theorem pg_imp {tg : Expr} {t t' : TG} (h : PG X tg t) (k : ∀ v σ H Q, t' v σ H Q → t v σ H Q) : PG X tg t' := ⟨fun pins s σ H v u Q I r q => h.run pins s σ H v u Q I r (k _ _ _ _ q)⟩
theorem pgs_imp {tg : List Expr} {t t' : TGs} (h : PGs X tg t) (k : ∀ v σ H Q, t' v σ H Q → t v σ H Q) : PGs X tg t' := ⟨fun pins s σ H v u Q I r q => h.run pins s σ H v u Q I r (k _ _ _ _ q)⟩
theorem gj_name {i : Nat} {x : Str} {pos : Pos} (hN : X.N.Nodup) (hi : X.N[i]? = some x) (hx : Loc X.env.scope x) (hni : i ∉ js) (hf : X.fn x = true ∨ X.env.scope.names.lookup x = some .local := by first | exact .inl rfl | exact .inr rfl | assumption) : GJ G js X (.Name x pos) [i] (gjName i) := fun A hG hj => by
  refine pg_imp (pg_name hN hi hx hf) fun v σ H Q q => ?_
  obtain ⟨F, ts, d, ft, L, r, q⟩ := q
  exact q (ts.set i (some (.val v d))) _ (ft.store (t := .val v d) (by rw [hj]; exact hni)) (erT_set ts i _) (L.val r).store (fun own h => wipe_set (h i List.mem_cons_self))
theorem gjs_nil : GsJ G js X [] [] [] := fun A hG hj => by
  refine pgs_imp pgs_nil fun vs σ H Q q => ?_
  obtain ⟨F, ts, xs, ft, L, r, q⟩ := q
  cases xs with
  | nil => exact ⟨r, q ts σ ft rfl L fun _ _ => rfl⟩
  | cons d r2 => exact q.elim
theorem gjs_cons {e : Expr} {es : List Expr} {g : Asg} {gs : List Asg} {s1 s2 : List Nat} (h1 : GJ G js X e s1 g) (h2 : GsJ G js X es s2 gs)
    (hs : ∀ {t : TG} {u : TGs}, PG X e t → PGs X es u → PGs X (e :: es) (gCons t u) := by exact fun a b => pgs_cons a b) : GsJ G js X (e :: es) (s1 ++ s2) (g :: gs) := fun A hG hj => by
  refine pgs_imp (hs (h1 A hG hj) (h2 A hG hj)) fun vs σ H Q q => ?_
  obtain ⟨F, ts, xs, ft, L, r, q⟩ := q
  cases xs with
  | nil => exact q.elim
  | cons d r2 =>
    obtain ⟨v, vr, rfl, h3, h4⟩ := r
    simp only [gjSeq] at q
    refine ⟨v, vr, rfl, F, ts, d, ft, L, h3, ?_⟩
    cases e1 : g d (erT ts) with
    | none => rw [e1] at q; exact q.elim
    | some ds =>
      rw [e1] at q
      dsimp only at q ⊢
      intro ts' σ' ft' e2 L' hw
      refine ⟨F, ts', r2, ft', L', h4, ?_⟩
      rw [e2]
      cases e3 : gjSeq gs r2 ds with
      | none => rw [e3] at q; exact q.elim
      | some ds2 =>
        rw [e3] at q
        exact fun ts2 σ2 f2 e4 L2 hw2 => q ts2 σ2 f2 e4 L2 fun own ho => (hw2 own fun i hi => ho i (List.mem_append_right _ hi)).trans (hw own fun i hi => ho i (List.mem_append_left _ hi))
theorem gj_tup {es : List Expr} {k : Nat} {pos : Pos} {gs : List Asg} (hc : X.calm = true) (hK : G.K = X.K) {sl : List Nat} (h : GsJ G js X es sl gs) (hl : gs.length = es.length)
    (hp : ∀ t : TGs, PGs X es t → PG X (.Tuple es k pos) (gTup X.K es.length t)) : GJ G js X (.Tuple es k pos) sl (gjTup gs) := fun A hG hj => by
  refine pg_imp (hp _ (h A hG hj)) fun v σ H Q q => ?_
  obtain ⟨F, ts, d, ft, L, r, q⟩ := q
  cases d with
  | tup xs =>
    obtain ⟨a, vs, rfl, h1, h2⟩ := r
    simp only [gjTup] at q
    cases e1 : gjSeq gs xs (erT ts) with
    | none => rw [e1] at q; exact q.elim
    | some ds =>
      rw [e1] at q
      refine ⟨a, vs, rfl, ?_, ?_, F, ts, xs, ft, L, h2, ?_⟩
      · rw [← hK, ← hG]; exact sqT_mono L.fh h1
      · have len : ∀ (gs : List Asg) (xs : List Dat) (ds ds' : DS), gjSeq gs xs ds = some ds' → gs.length = xs.length := by
          intro gs
          induction gs with
          | nil => intro xs ds ds' e; cases xs with | nil => rfl | cons _ _ => cases e
          | cons g gs ih =>
            intro xs ds ds' e
            cases xs with
            | nil => cases e
            | cons x xs =>
              simp only [gjSeq] at e
              cases e3 : g x ds with
              | none => rw [e3] at e; cases e
              | some ds2 => rw [e3] at e; rw [List.length_cons, List.length_cons, ih xs ds2 ds' e]
        rw [← h2.len, ← len _ _ _ _ e1, hl]
      · rw [e1]
        exact fun ts' σ' f' e' L' hw => q ts' σ' f' e' L' hw
  | _ => exact q.elim

/-! ### for -/
def forD (asg : Asg) (body : DS → RSt) : List Dat → DS → RSt
  | [], ds => .nx ds
  | d :: r, ds => match asg d ds with
    | some ds1 => (match body ds1 with | .nx ds2 => forD asg body r ds2 | .ct ds2 => forD asg body r ds2 | .bk ds2 => .nx ds2 | .rt a ds2 => .rt a ds2 | .exc x ds2 => .exc x ds2 | .stuck => .stuck)
    | none => .stuck
def sFor (src : DS → Res (List Dat)) (asg : Asg) (body : DS → RSt) : DS → RSt := thenS src fun xs => forD asg body xs
theorem sj_for {iter tg : Expr} {body : List Stmt} {pos : Pos} {src : DS → Res (List Dat)} {asg : Asg} {fb : DS → RSt} (hp : PassesOwn (model X.prog X.w) X.A X.env X.xe) (hc : X.calm = true) (hi : PJ G js X W tg iter src) {sl : List Nat} (hg : GJ G js X tg sl asg) (hb : BJ G js X W body fb)
    (hs : ∀ x, foldedSetIterable iter X.env x = pure x := by intro _; rfl) : SJ G js X W (.For tg iter body [] pos) (sFor src asg fb) := fun A hG hj => by
  refine ps_imp (ps_for hp hc (hi A hG hj) (hg A hG hj) (hb A hG hj) hs) fun D σ H q => ?_
  obtain ⟨F, ts, ft, L, q⟩ := q
  refine thenS_bind ft L q fun xs F1 H1 ts1 J e1 f1 L1 wk q => ?_
  obtain ⟨w1, w2, w3⟩ := wk
  refine ⟨fun i m σ H => m = xs.length - i ∧ ∃ F ts, Fit A ts σ ∧ Liv A F H (fm ts) ∧ Same F1 F ∧ PostS A W F D (forD asg fb (xs.drop i) (erT ts)), ⟨xs.length, by simp, F1, ts1, f1, L1, Same.refl _, q⟩, ?_⟩
  rintro i m σ2 H2 ⟨rfl, F2, ts2, f2, L2, e2, q2⟩
  by_cases hlt : i < xs.length
  · refine .inr ⟨w1 i H2 (e2.trans L2.fh) hlt, fun σ' H' => ∃ F ts, Fit A ts σ' ∧ Liv A F H' (fm ts) ∧ Same F1 F ∧ PostS A W F D (forD asg fb (xs.drop (i + 1)) (erT ts)), fun σ' H' h => ⟨xs.length - (i + 1), by omega, rfl, h⟩, fun x H' y => ?_⟩
    obtain ⟨F3, e3, L3, rx⟩ := w3 A F2 H2 (fm ts2) x H' xs[i] i rfl e2 L2 y (List.getElem?_eq_getElem hlt)
    refine ⟨F3, ts2, xs[i], f2, L3, rx, ?_⟩
    rw [List.drop_eq_getElem_cons hlt] at q2
    simp only [forD] at q2
    cases e4 : asg xs[i] (erT ts2) with
    | none => rw [e4] at q2; exact q2.elim
    | some ds =>
      rw [e4] at q2
      dsimp only at q2 ⊢
      intro ts' σ' f' e5 L' _
      refine ⟨F3, ts', f', L', ?_⟩
      rw [e5]
      cases e6 : fb ds with
      | nx ds2 => rw [e6] at q2; exact fun F4 H4 ts4 σ4 e7 f4 e8 L4 => ⟨F4, ts4, f4, L4, (e2.trans e3).trans e7, by rw [e8]; exact (q2.mono e3).mono e7⟩
      | ct ds2 => rw [e6] at q2; exact fun F4 H4 ts4 σ4 e7 f4 e8 L4 => ⟨F4, ts4, f4, L4, (e2.trans e3).trans e7, by rw [e8]; exact (q2.mono e3).mono e7⟩
      | bk ds2 => rw [e6] at q2; exact fun F4 H4 ts4 σ4 e7 => q2 F4 H4 ts4 σ4 (e3.trans e7)
      | rt a ds2 => rw [e6] at q2; exact fun F4 H4 ts4 t4 σ4 e7 => q2 F4 H4 ts4 t4 σ4 (e3.trans e7)
      | exc x ds2 => rw [e6] at q2; exact fun F4 H4 ts4 σ4 c d e7 => q2 F4 H4 ts4 σ4 c d (e3.trans e7)
      | stuck => rw [e6] at q2; exact q2
  · refine .inl ⟨w2 i H2 (e2.trans L2.fh) (by omega), ?_⟩
    rw [List.drop_of_length_le (by omega)] at q2
    exact q2 F2 H2 ts2 σ2 (Same.refl _) f2 rfl L2

/-! ### while -/
def whileD (t : DS → Res Bool) (body : DS → RSt) : Nat → DS → RSt
  | 0, _ => .stuck
  | n + 1, ds => match t ds with
    | .ok true ds1 => (match body ds1 with | .nx ds2 => whileD t body n ds2 | .ct ds2 => whileD t body n ds2 | .bk ds2 => .nx ds2 | .rt a ds2 => .rt a ds2 | .exc x ds2 => .exc x ds2 | .stuck => .stuck)
    | .ok false ds1 => .nx ds1
    | .exc x ds1 => .exc x ds1
    | .stuck => .stuck
theorem sj_while {c : Expr} {body : List Stmt} {pos : Pos} {t : DS → Res Bool} {fb : DS → RSt} (n : Nat) (hp : PassesOwn (model X.prog X.w) X.A X.env X.xe) (hc : TJ G js X W c t) (hb : BJ G js X W body fb) : SJ G js X W (.While c body [] pos) (whileD t fb n) := fun A hG hj => by
  refine ps_imp (ps_while hp (hc A hG hj) (hb A hG hj)) fun D σ H q => ?_
  obtain ⟨F, ts, ft, L, q⟩ := q
  refine ⟨fun m σ H => ∃ F ts, Fit A ts σ ∧ Liv A F H (fm ts) ∧ PostS A W F D (whileD t fb m (erT ts)), ⟨n, F, ts, ft, L, q⟩, ?_⟩
  rintro m σ H ⟨F1, ts1, f1, L1, q⟩
  cases m with
  | zero => exact q.elim
  | succ m =>
    refine ⟨F1, ts1, f1, L1, ?_⟩
    simp only [whileD] at q
    cases e : t (erT ts1) with
    | stuck => rw [e] at q; exact q.elim
    | exc x ds => rw [e] at q; exact fun F2 H2 ts2 c d e1 f2 e2 L2 r => q F2 H2 ts2 σ c d e1 f2 e2 L2 r
    | ok b ds =>
      rw [e] at q
      intro F2 H2 ts2 b' e1 f2 e2 L2 r
      cases r
      subst e2
      cases b with
      | false => exact q F2 H2 ts2 σ e1 f2 rfl L2
      | true =>
        dsimp only at q
        refine ⟨fun σ' H' => ∃ F ts, Fit A ts σ' ∧ Liv A F H' (fm ts) ∧ PostS A W F D (whileD t fb m (erT ts)), fun σ' H' h => ⟨m, Nat.lt_succ_self m, h⟩, F2, ts2, f2, L2, ?_⟩
        cases e6 : fb (erT ts2) with
        | nx ds2 => rw [e6] at q; exact fun F4 H4 ts4 σ4 e7 f4 e8 L4 => ⟨F4, ts4, f4, L4, by rw [e8]; exact (q.mono e1).mono e7⟩
        | ct ds2 => rw [e6] at q; exact fun F4 H4 ts4 σ4 e7 f4 e8 L4 => ⟨F4, ts4, f4, L4, by rw [e8]; exact (q.mono e1).mono e7⟩
        | bk ds2 => rw [e6] at q; exact fun F4 H4 ts4 σ4 e7 => q F4 H4 ts4 σ4 (e1.trans e7)
        | rt a ds2 => rw [e6] at q; exact fun F4 H4 ts4 t4 σ4 e7 => q F4 H4 ts4 t4 σ4 (e1.trans e7)
        | exc x ds2 => rw [e6] at q; exact fun F4 H4 ts4 σ4 c d e7 => q F4 H4 ts4 σ4 c d (e1.trans e7)
        | stuck => rw [e6] at q; exact q

/-! ### the rule for a def -/
def outOne (js : List Nat) (ds : DS) (k : Nat) (s : S) : Option S :=
  if js.contains k = true then (match ds[k]? with | some (some s') => some s' | _ => none) else (match s with | .val d => some (.val d) | _ => none)
def outA (js : List Nat) (ds : DS) : Nat → List S → Option (List S)
  | _, [] => some []
  | k, s :: r => match outOne js ds k s, outA js ds (k + 1) r with
    | some s', some r' => some (s' :: r')
    | _, _ => none
def runB (n np : Nat) (js : List Nat) (body : DS → RSt) : FS := fun as =>
  if as.length = np then (match body (as.map some ++ List.replicate (n - np) none) with
    | .nx ds => (match outA js ds 0 as with | some as' => .ret (.val .non) as' | none => .stuck)
    | .rt s ds => (match outA js ds 0 as with | some as' => .ret s as' | none => .stuck)
    | .exc x ds => (match outA js ds 0 as with | some as' => .exc x as' | none => .stuck)
    | _ => .stuck) else .stuck
theorem outA_set {js : List Nat} {ds : DS} {o : Option S} : ∀ {r : List S} {k j : Nat}, j < k → outA js (ds.set j o) k r = outA js ds k r
  | [], _, _, _ => rfl
  | s :: r, k, j, h => by
    simp only [outA, outOne]
    rw [outA_set (r := r) (k := k + 1) (j := j) (by omega), List.getElem?_set_ne (by omega)]
theorem outA_ok {A : Act} {F F0 H : Hp} {js : List Nat} : ∀ {tl : List T} {k : Nat} {ts : Ts} {as : List S} {pre : List T}, Same F0 F → Liv A F H (pre ++ fm ts) → (∀ t ∈ tl, ∀ v d, t = .val v d → Rep A.G F0 d v) →
    (∀ i t, tl[i]? = some t → js.contains (k + i) = true → ∀ u, ts[k + i]? = some (some u) → u.v = t.v) → outA js (erT ts) k (tl.map T.er) = some as → ∃ tl', tl'.map T.er = as ∧ tl'.map T.v = tl.map T.v ∧ Liv A F H (pre ++ tl')
  | [], k, ts, as, pre, e0, L, hv, hp, e => by
    cases e
    refine ⟨[], rfl, rfl, ?_⟩
    have : Liv A F H (fm ts ++ pre) := L.perm List.perm_append_comm
    have drop : ∀ l : List T, Liv A F H (l ++ pre) → Liv A F H pre := fun l => by
      induction l with
      | nil => exact id
      | cons a l ih => exact fun h => ih h.drop1
    rw [List.append_nil]
    exact drop _ this
  | t :: tl, k, ts, as, pre, e0, L, hv, hp, e => by
    rw [List.map_cons] at e
    simp only [outA] at e
    cases q2 : outA js (erT ts) (k + 1) (tl.map T.er) with
    | none =>
      rw [q2] at e
      cases q3 : outOne js (erT ts) k t.er with
      | none => rw [q3] at e; cases e
      | some z => rw [q3] at e; cases e
    | some as2 =>
      rw [q2] at e
      unfold outOne at e
      by_cases hc : js.contains k = true
      · rw [if_pos hc] at e
        cases q : (erT ts)[k]? with
        | none => rw [q] at e; cases e
        | some o =>
          cases o with
          | none => rw [q] at e; cases e
          | some s =>
            rw [q] at e
            cases e
            obtain ⟨u, hu, hs⟩ := of_erT q
            have L2 : Liv A F H ((pre ++ [u]) ++ fm (ts.set k none)) := L.perm (by
              rw [List.append_assoc]
              exact (fm_get hu).append_left pre)
            have q3 : outA js (erT (ts.set k none)) (k + 1) (tl.map T.er) = some as2 := by rw [erT_set0, outA_set (by omega), q2]
            obtain ⟨tl', h1, h2, h3⟩ := outA_ok (tl := tl) e0 L2 (fun t ht => hv t (List.mem_cons_of_mem _ ht)) (fun i t' ht hc' w hw => by
              rw [List.getElem?_set_ne (by omega)] at hw
              exact hp (i + 1) t' (by simpa using ht) (by rw [show k + (i + 1) = k + 1 + i by omega]; exact hc') w (by rw [show k + (i + 1) = k + 1 + i by omega]; exact hw)) q3
            refine ⟨u :: tl', by rw [List.map_cons, h1, hs], ?_, by simpa using h3⟩
            rw [List.map_cons, List.map_cons, h2, hp 0 t (by simp) (by simpa using hc) u (by simpa using hu)]
      · rw [if_neg hc] at e
        cases t with
        | val v d =>
          cases e
          have r : Rep A.G F d v := (hv _ List.mem_cons_self v d rfl).mono e0
          have L2 : Liv A F H ((pre ++ [.val v d]) ++ fm ts) := (L.val r).perm (by
            rw [List.append_assoc]
            exact List.perm_middle.symm)
          obtain ⟨tl', h1, h2, h3⟩ := outA_ok (tl := tl) e0 L2 (fun t ht => hv t (List.mem_cons_of_mem _ ht)) (fun i t' ht hc' w hw =>
              hp (i + 1) t' (by simpa using ht) (by rw [show k + (i + 1) = k + 1 + i by omega]; exact hc') w (by rw [show k + (i + 1) = k + 1 + i by omega]; exact hw)) q2
          exact ⟨.val v d :: tl', by rw [List.map_cons, h1] <;> rfl, by rw [List.map_cons, List.map_cons, h2], by simpa using h3⟩
        | lst a vs xs => cases e
        | dk a ks vs xs => cases e
        | dt a ks vs xs => cases e
        | ins a dx c ns vs xs => cases e
end
section
variable {P : Program} {w : World} {K : PySem.W.Frag} {mg : Str → Option Value} {base : Heap} {G : Gd}
/-- no exception of the walked code leaves but as E says -/
abbrev wE (E : XK) : WX := fun cls d _ H => E cls d H
/-- the context of a def's body -/
structure BodyCx (X : Cx) (P : Program) (w : World) (K : PySem.W.Frag) (mg : Str → Option Value) (base : Heap) (N : List Str) (sc : Scope) (k : Nat) (W : WX) : Prop where
  prog : X.prog = P
  w : X.w = w
  K : X.K = K
  mg : X.mg = mg
  base : X.base = base
  N : X.N = N
  sc : X.env.scope = sc
  room : Room k X.A
  tk : Takes X W
  po : PassesOwn (model X.prog X.w) X.A X.env X.xe
  calm : X.calm = true
  fn : X.fn = fun _ => true
theorem ok_def {x qual : Str} {st : Stmt} {f : Addr} {fd : FuncData} {N ps : List Str} {k : Nat} {js : List Nat} {body : DS → RSt} (Fn : Fun K x qual st f fd) (S : FnScope N ps (defScope st)) (hjs : js.all (fun j => decide (j < ps.length)) = true)
    (hb : ∀ (cdv : Value) (A : Around) (outer : List Env) (s : Shared) (H : Hp) (E : XK), Room k (A.deeper (envOfC qual (defScope st) s.heap.objs.size f cdv)) →
      BJ G js (cxOf (L2.CX P w) P w K mg base N qual (defScope st) f cdv A outer s H E) (wE E) (defBody st) body) :
    FnOk P w K mg base (L2.CX P w) (k + 1) f fd ps (spD G (runB N.length ps.length js body)) := by
  refine Fn.okX S (fun vs H Q E h => ?_) (fun cdv A outer s H vs Q E hr h => ?_)
  · obtain ⟨F, tl, L, rfl, q⟩ := h
    unfold runB at q
    split at q
    · rename_i hq
      split at hq
      · rename_i hl; simpa using hl
      · cases hq
    · rename_i hq
      split at hq
      · rename_i hl; simpa using hl
      · cases hq
    · exact q.elim
  · obtain ⟨F, tl, L, rfl, q⟩ := h
    have hl : tl.length = ps.length := by
      unfold runB at q
      by_cases hc : (tl.map T.er).length = ps.length
      · simpa using hc
      · rw [if_neg hc] at q; exact q.elim
    unfold runB at q
    rw [if_pos (by rw [List.length_map]; exact hl)] at q
    let A1 : Act := ⟨G, H, F, fps tl, js.map fun j => (j, (tl.map T.v).getD j .non)⟩
    have hjsA : A1.js = js := by
      show (js.map fun j => (j, (tl.map T.v).getD j V.non)).map (·.1) = js
      rw [List.map_map]
      exact List.map_id'' (fun _ => rfl) js
    refine ⟨_, hb cdv A outer s H E hr A1 rfl hjsA, ?_⟩
    let ts0 : Ts := tl.map some ++ List.replicate (N.length - ps.length) none
    have hst : L2.start N (tl.map T.v) = vsT ts0 := by
      show (tl.map T.v).map some ++ List.replicate (N.length - (tl.map T.v).length) none = (tl.map some ++ List.replicate (N.length - ps.length) none).map fun (o : Option T) => o.map T.v
      rw [List.map_append, List.map_map, List.map_map, List.length_map, hl, List.map_replicate] <;> rfl
    have her : erT ts0 = (tl.map T.er).map some ++ List.replicate (N.length - ps.length) none := by
      show (tl.map some ++ List.replicate (N.length - ps.length) none).map (fun (o : Option T) => o.map T.er) = _
      rw [List.map_append, List.map_map, List.map_map, List.map_replicate] <;> rfl
    have hfm : fm ts0 = tl := by
      show (tl.map some ++ List.replicate (N.length - ps.length) none).filterMap id = tl
      rw [List.filterMap_append, List.filterMap_map]
      have e1 : tl.filterMap (id ∘ some) = tl := by
        rw [show (id ∘ some : T → Option T) = some from rfl, List.filterMap_some]
      have e2 : (List.replicate (N.length - ps.length) (none : Option T)).filterMap id = [] := by
        apply List.filterMap_eq_nil_iff.mpr
        intro a ha
        rw [List.eq_of_mem_replicate ha] <;> rfl
      rw [e1, e2, List.append_nil]
    have hpin : ∀ p ∈ A1.pin, p.1 < tl.length ∧ (tl.map T.v)[p.1]? = some p.2 := fun p hp => by
      obtain ⟨j, hj, rfl⟩ := List.mem_map.mp (show p ∈ js.map fun j => (j, (tl.map T.v).getD j V.non) from hp)
      have h1 := of_decide_eq_true (List.all_eq_true.mp hjs j hj)
      have h2 : j < (tl.map T.v).length := by rw [List.length_map, hl]; exact h1
      refine ⟨by rw [hl]; exact h1, ?_⟩
      show (tl.map T.v)[j]? = some ((tl.map T.v).getD j V.non)
      rw [List.getD_eq_getElem?_getD, List.getElem?_eq_getElem h2] <;> rfl
    have ft0 : Fit A1 ts0 (L2.start N (tl.map T.v)) := by
      rw [hst]
      refine ⟨(vsT_len ts0).symm, fun i t h => vsT_get h, fun p hp => ?_⟩
      obtain ⟨h1, h2⟩ := hpin p hp
      have h3 : (vsT ts0)[p.1]? = ((tl.map T.v).map some ++ List.replicate (N.length - ps.length) none)[p.1]? := by
        rw [← hst]
        show ((tl.map T.v).map some ++ List.replicate (N.length - (tl.map T.v).length) none)[p.1]? = _
        rw [List.length_map, hl]
      rw [h3, List.getElem?_append_left (by rw [List.length_map, List.length_map]; exact h1), List.getElem?_map, h2] <;> rfl
    refine ⟨F, ts0, ft0, by rw [hfm]; exact L.repin, ?_⟩
    rw [her]
    -- what is left behind
    have fin : ∀ {F' H' : Hp} {ts : Ts} {σ' : L2.St} {pre : List T} {ds : DS} {as : List Dl.S}, Same F F' → Fit A1 ts σ' → erT ts = ds → Liv A1 F' H' (pre ++ fm ts) → outA js ds 0 (tl.map T.er) = some as →
        ∃ tl', tl'.map T.er = as ∧ tl'.map T.v = tl.map T.v ∧ Liv ⟨G, H, F, fps tl, []⟩ F' H' (pre ++ tl') := fun {F' H' ts σ' pre ds as} e1 f1 e2 L1 e3 => by
      subst e2
      obtain ⟨tl', h1, h2, h3⟩ := outA_ok (F0 := F) (tl := tl) e1 L1 (fun t ht v d e => by
        have := L.ok t ht
        rw [e] at this; exact this) (fun i t hi hc u hu => by
          rw [Nat.zero_add] at hc hu
          have hm : (i, (tl.map T.v).getD i V.non) ∈ A1.pin := List.mem_map.mpr ⟨i, by simpa using hc, rfl⟩
          have a := f1.pin _ hm
          have b := f1.at' i u hu
          rw [b] at a
          have c : u.v = (tl.map T.v).getD i V.non := Option.some.inj (Option.some.inj a)
          have hi2 : (tl.map T.v)[i]? = some t.v := by rw [List.getElem?_map, hi] <;> rfl
          rw [c, List.getD_eq_getElem?_getD, hi2] <;> rfl) e3
      exact ⟨tl', h1, h2, h3.repin⟩
    cases eb : body ((tl.map T.er).map some ++ List.replicate (N.length - ps.length) none) with
    | nx ds =>
      rw [eb] at q
      dsimp only at q
      cases eo : outA js ds 0 (tl.map T.er) with
      | none => rw [eo] at q; exact q.elim
      | some as =>
        rw [eo] at q
        intro F' H' ts σ' e1 f1 e2 L1
        obtain ⟨tl', h1, h2, h3⟩ := fin (pre := []) e1 f1 e2 L1 eo
        exact q F' H' (.val .non .non) tl' (Liv.val h3 rfl) rfl h1 h2
    | rt a ds =>
      rw [eb] at q
      dsimp only at q
      cases eo : outA js ds 0 (tl.map T.er) with
      | none => rw [eo] at q; exact q.elim
      | some as =>
        rw [eo] at q
        intro F' H' ts t σ' e1 f1 e2 L1 e3
        obtain ⟨tl', h1, h2, h3⟩ := fin (pre := [t]) e1 f1 e2 L1 eo
        exact q F' H' t tl' h3 e3 h1 h2
    | exc x ds =>
      rw [eb] at q
      dsimp only at q
      cases eo : outA js ds 0 (tl.map T.er) with
      | none => rw [eo] at q; exact q.elim
      | some as =>
        rw [eo] at q
        intro F' H' ts σ' cls d e1 f1 e2 L1 hx
        obtain ⟨tl', h1, h2, h3⟩ := fin (pre := []) e1 f1 e2 L1 eo
        exact q F' H' tl' cls d h3 h1 h2 hx
    | bk ds => rw [eb] at q; exact q.elim
    | ct ds => rw [eb] at q; exact q.elim
    | stuck => rw [eb] at q; exact q.elim
end
end Dl
/-! D7: comprehensions, lists changed in place, dicts. -/
namespace Dl
open PySem PySem.Spec
open PyProof.Rows L2

/-! ### a run of its own within a def: what is left out stands -/
def Act.sub (A : Act) (F H : Hp) (ts : Ts) : Act := ⟨A.G, H, F, fps (fm ts), A.pin⟩
section
variable {A : Act} {W : WX} {σ : L2.St} {F F' H H' : Hp} {ts ts' : Ts} {tmp : List T} {α β γ δ : Type} {R : RelT α β} {R' : RelT γ δ}
theorem Fit.sub (f : Fit A ts' σ) : Fit (A.sub F H ts) ts' σ := ⟨f.len, f.at', f.pin⟩
theorem Fit.unsub (f : Fit (A.sub F H ts) ts' σ) : Fit A ts' σ := ⟨f.len, f.at', f.pin⟩
theorem Liv.sub (L : Liv A F H (fm ts ++ tmp)) : Liv (A.sub F H ts) F H (fm ts) := L.enter A.pin
theorem Liv.unsub {new : List T} (L : Liv A F H (fm ts ++ tmp)) (N : Liv (A.sub F H ts) F' H' new) : Liv A F' H' (new ++ tmp) := L.after N
end

/-! ### comprehensions -/
def wipeD (ds : DS) : List Nat → DS
  | [] => ds
  | v :: vs => (wipeD ds vs).set v none
def wipeT (ts : Ts) : List Nat → Ts
  | [] => ts
  | v :: vs => (wipeT ts vs).set v none
theorem erT_wipe (ts : Ts) : ∀ vs : List Nat, erT (wipeT ts vs) = wipeD (erT ts) vs
  | [] => rfl
  | v :: vs => by rw [wipeT, wipeD, erT_set0, erT_wipe ts vs]
theorem Liv.wipe {A : Act} {F H : Hp} {pre : List T} {ts : Ts} : ∀ vs : List Nat, Liv A F H (pre ++ fm ts) → Liv A F H (pre ++ fm (wipeT ts vs))
  | [], L => L
  | v :: vs, L => fm_drop (Liv.wipe vs L)
theorem wipeT_len (ts : Ts) : ∀ vs : List Nat, (wipeT ts vs).length = ts.length
  | [] => rfl
  | v :: vs => by rw [wipeT, List.length_set, wipeT_len ts vs]
theorem Fit.wipe {A : Act} {ts : Ts} {σ : L2.St} (f : Fit A ts σ) : ∀ vs : List Nat, (∀ i ∈ vs, i ∉ A.js) → Fit A (wipeT ts vs) (L2.wipe σ vs)
  | [], _ => f
  | v :: vs, hn => by
    have ih := Fit.wipe f vs fun i hi => hn i (List.mem_cons_of_mem _ hi)
    show Fit A ((wipeT ts vs).set v none) ((L2.wipe σ vs).set v none)
    refine ⟨by rw [List.length_set, List.length_set]; exact ih.len, fun j w hw => ?_, fun p hp => ?_⟩
    · by_cases hj : v = j
      · subst hj
        by_cases h : v < (wipeT ts vs).length
        · rw [List.getElem?_set_self h] at hw; cases hw
        · rw [List.set_eq_of_length_le (by omega)] at hw
          exact absurd (List.getElem?_eq_some_iff.mp hw).1 h
      · rw [List.getElem?_set_ne hj] at hw ⊢
        exact ih.at' j w hw
    · have ne : v ≠ p.1 := fun z => hn v List.mem_cons_self (z ▸ List.mem_map.mpr ⟨p, hp, rfl⟩)
      rw [List.getElem?_set_ne ne]
      exact ih.pin p hp
theorem wipe_get {σ : L2.St} {i : Nat} {v : V} : ∀ {vs : List Nat}, (L2.wipe σ vs)[i]? = some (some v) → σ[i]? = some (some v)
  | [], h => h
  | a :: vs, h => by
    have h : ((L2.wipe σ vs).set a none)[i]? = some (some v) := h
    by_cases e : a = i
    · subst e
      by_cases hl : a < (L2.wipe σ vs).length
      · rw [List.getElem?_set_self hl] at h; cases h
      · rw [List.set_eq_of_length_le (by omega)] at h; exact wipe_get h
    · rw [List.getElem?_set_ne e] at h
      exact wipe_get h
theorem Fit.unwipe {A : Act} {ts : Ts} {σ : L2.St} {vs : List Nat} (f0 : Fit A ts' σ) (f : Fit A ts (L2.wipe σ vs)) : Fit A ts σ :=
  ⟨by rw [f.len, wipe_length], fun i t h => wipe_get (f.at' i t h), f0.pin⟩
/-- the turns of a comprehension: the elements so far -/
def compD (own : List Nat) (asg : Asg) (tst : DS → Res Bool) (elt : DS → Res S) : List Dat → List Dat → DS → Res (List Dat)
  | [], acc, ds => .ok acc ds
  | d :: r, acc, ds => match asg d ds with
    | some ds1 => (match tst ds1 with
      | .ok true ds2 => (match elt ds2 with | .ok s ds3 => if acc.length < 100000 then compD own asg tst elt r (acc ++ [s.dat]) (wipeD ds3 own) else .stuck | _ => .stuck)
      | .ok false ds2 => compD own asg tst elt r acc (wipeD ds2 own)
      | _ => .stuck)
    | none => .stuck
def wrapL : Res (List Dat) → Res S
  | .ok l ds => .ok (.lst l) ds | .exc x ds => .exc x ds | .stuck => .stuck
def eLc (own : List Nat) (src : DS → Res (List Dat)) (asg : Asg) (tst : DS → Res Bool) (elt : DS → Res S) : DS → Res S := bnd src fun xs ds => wrapL (compD own asg tst elt xs [] (wipeD ds own))
theorem wipe_idem (σ : L2.St) (own : List Nat) : L2.wipe (L2.wipe σ own) own = L2.wipe σ own := by
  apply List.ext_getElem?
  intro j
  rw [wipe_at (L2.wipe σ own) j own, wipe_len, wipe_at σ j own]
  by_cases hm : j ∈ own ∧ j < σ.length
  · simp only [if_pos hm]
  · simp only [if_neg hm]
def tYesF : DS → Res Bool := fun ds => .ok true ds
abbrev W0 : WX := fun _ _ _ _ => False
def TsJ (G : Gd) (js : List Nat) (X : Cx) (W : WX) (ifs : List Expr) (f : DS → Res Bool) : Prop := ∀ A : Act, A.G = G → A.js = js → PTs X ifs (tX A W RB f)
section
variable {G : Gd} {js : List Nat} {X : Cx} {W : WX}
theorem pts_imp {e : List Expr} {t t' : TT} (h : PTs X e t) (k : ∀ σ H Q, t' σ H Q → t σ H Q) : PTs X e t' := ⟨fun pins s σ H Q I q => h.run pins s σ H Q I (k _ _ _ q)⟩
theorem tsj_nil : TsJ G js X W [] tYesF := fun A _ _ => pts_imp pts_nil fun σ H Q ⟨F, ts, ft, L, q⟩ => q F H ts true (Same.refl _) ft rfl L rfl
theorem tsj_one {c : Expr} {f : DS → Res Bool} (h : TJ G js X W c f) : TsJ G js X W [c] f := fun A hG hj => pts_one (h A hG hj)
theorem bndC_ok {α β : Type} {a : α} {ds : DS} {k : α → DS → Res β} : (match (Res.ok a ds : Res α) with | .ok a s' => k a s' | .exc x s' => .exc x s' | .stuck => .stuck) = k a ds := rfl
/-- the reading of a comprehension -/
theorem lc_go {A : Act} {own sl : List Nat} {src : DS → Res (List Dat)} {asg : Asg} {tst : DS → Res Bool} {elt : DS → Res S} (hown : ∀ i ∈ own, i ∉ A.js) (hsl : ∀ i ∈ sl, i ∈ own)
    {wi : TI} {g : TG} {tt : TT} {te : TE} (hwi : ∀ σ H R, tX A W RW src σ H R → wi σ H R) (hg : ∀ A' : Act, A'.G = A.G → A'.js = A.js → ∀ v σ H Q, tG A' sl asg v σ H Q → g v σ H Q) (htt : ∀ A' : Act, A'.G = A.G → A'.js = A.js → ∀ σ H Q, tX A' W0 RB tst σ H Q → tt σ H Q)
    (hte : ∀ A' : Act, A'.G = A.G → A'.js = A.js → ∀ σ H Q, tX A' W0 RS elt σ H Q → te σ H Q) {σ : L2.St} {H : Hp} {Q : VK} (q : tX A W RS (eLc own src asg tst elt) σ H Q) : tLc wi g tt te own σ H Q := by
  obtain ⟨F, ts, ft, L, q⟩ := q
  refine hwi σ H _ ?_
  refine post_bind ft L q fun xs F1 H1 ts1 J e1 f1 L1 wk q => ?_
  obtain ⟨w1, w2, w3⟩ := wk
  intro D hD
  -- the list so far, from turn i on
  let Iv : Nat → Hp → Prop := fun i H => ∃ F ts accV accD, Fit A ts (L2.wipe σ own) ∧ Liv A F H (fm ts ++ [T.lst D accV accD]) ∧ Same F1 F ∧ Post A W RS σ F Q (wrapL (compD own asg tst elt (xs.drop i) accD (erT ts)))
  refine ⟨fun i m H => m = xs.length - i ∧ Iv i H, ⟨xs.length, by simp, ?_⟩, ?_⟩
  · have L2 : Liv A F1 (upd H1 D (.lst [])) (T.lst D [] [] :: fm ts1) := L1.newL hD rfl
    have L3 : Liv A F1 (upd H1 D (.lst [])) ([T.lst D [] []] ++ fm (wipeT ts1 own)) := Liv.wipe own L2
    refine ⟨F1, wipeT ts1 own, [], [], f1.wipe own hown, L3.perm List.perm_append_comm, Same.refl _, ?_⟩
    rw [erT_wipe, List.drop_zero]
    exact q
  · rintro i m H2 ⟨rfl, F2, ts2, accV, accD, f2, L2, e2, q2⟩
    by_cases hlt : i < xs.length
    · refine .inr ⟨w1 i H2 (e2.trans L2.fh) hlt, Iv (i + 1), fun H' h => ⟨xs.length - (i + 1), by omega, rfl, h⟩, fun x H' y => ?_⟩
      obtain ⟨F3, e3, L3, rx⟩ := w3 A F2 H2 _ x H' xs[i] i rfl e2 L2 y (List.getElem?_eq_getElem hlt)
      rw [List.drop_eq_getElem_cons hlt] at q2
      simp only [compD] at q2
      refine hg (A.sub F3 H' ts2) rfl rfl x _ H' _ ⟨F3, ts2, xs[i], f2.sub, L3.sub, rx, ?_⟩
      cases e4 : asg xs[i] (erT ts2) with
      | none => rw [e4] at q2; exact q2.elim
      | some ds1 =>
        rw [e4] at q2
        dsimp only at q2 ⊢
        intro ts4 σ4 f4 e5 L4 hw
        have hw := hw own hsl
        have hw2 : _root_.L2.wipe σ4 own = _root_.L2.wipe σ own := by rw [hw, wipe_idem]
        refine ⟨hw2, ?_⟩
        -- the turn's end: the state for the next one
        have next : ∀ {F5 H5 ts5 accV5 accD5}, Same F2 F5 → Fit (A.sub F3 H' ts2) ts5 σ4 → Liv A F5 H5 (fm ts5 ++ [T.lst D accV5 accD5]) →
            Post A W RS σ F2 Q (wrapL (compD own asg tst elt (xs.drop (i + 1)) accD5 (wipeD (erT ts5) own))) → Iv (i + 1) H5 := fun {F5 H5 ts5 accV5 accD5} e6 f5 L5 q5 => by
          have L6 : Liv A F5 H5 ([T.lst D accV5 accD5] ++ fm (wipeT ts5 own)) := Liv.wipe own (L5.perm List.perm_append_comm)
          refine ⟨F5, wipeT ts5 own, accV5, accD5, by rw [← hw2]; exact f5.unsub.wipe own hown, L6.perm List.perm_append_comm, e2.trans e6, ?_⟩
          rw [erT_wipe]
          exact q5.mono e6 fun _ _ z => z
        refine htt (A.sub F3 H' ts2) rfl rfl σ4 H' _ ⟨F3, ts4, f4, L4, ?_⟩
        rw [e5]
        cases e6 : tst ds1 with
        | stuck => rw [e6] at q2; exact q2.elim
        | exc x ds => rw [e6] at q2; exact q2.elim
        | ok b ds2 =>
          rw [e6] at q2
          intro F5 H5 ts5 b' e7 f5 e8 L5 r
          cases r
          subst e8
          cases b with
          | false =>
            dsimp only at q2
            exact next (e3.trans e7) f5 (L3.unsub L5) q2
          | true =>
            dsimp only at q2
            rw [if_pos rfl]
            refine hte (A.sub F3 H' ts2) rfl rfl σ4 H5 _ ⟨F5, ts5, f5, L5, ?_⟩
            cases e9 : elt (erT ts5) with
            | stuck => rw [e9] at q2; exact q2.elim
            | exc x ds => rw [e9] at q2; exact q2.elim
            | ok s ds3 =>
              rw [e9] at q2
              dsimp only at q2
              intro F6 H6 ts6 yv e10 f6 e11 L6 r6
              subst e11
              obtain ⟨t, rfl, rfl, L7⟩ := r6
              have L8 : Liv A F6 H6 ((t :: fm ts6) ++ [T.lst D accV accD]) := L3.unsub L7
              obtain ⟨F7, e12, L9⟩ := Liv.freeze (show Liv A F6 H6 (t :: (fm ts6 ++ [T.lst D accV accD])) from L8)
              have hD : H6 D = some (.lst accV) ∧ RepL A.G F7 accD accV := L9.ok (T.lst D accV accD) (by simp)
              by_cases hl : accD.length < 100000
              · rw [if_pos hl] at q2
                refine ⟨accV, hD.1, Nat.lt_of_lt_of_le (by rw [← hD.2.len]; exact hl) (by decide), ?_⟩
                have L10 : Liv A F7 H6 (T.lst D accV accD :: fm ts6) := L9.drop1.perm List.perm_append_comm
                have L11 : Liv A F7 (upd H6 D (.lst (accV ++ [t.v]))) (T.lst D (accV ++ [t.v]) (accD ++ [t.er.dat]) :: fm ts6) := L10.write rfl (fun a o hn e => by
                  rw [upd_ne (fun z => hn (by rw [z]; exact List.mem_singleton.mpr rfl))]; exact e) ⟨upd_same, hD.2.app (RepL.one L9.rep)⟩
                exact next (((e3.trans e7).trans e10).trans e12) f6 (L11.perm (by
                  have p : (T.lst D (accV ++ [t.v]) (accD ++ [t.er.dat]) :: fm ts6).Perm (fm ts6 ++ [T.lst D (accV ++ [t.v]) (accD ++ [t.er.dat])]) := List.perm_append_comm (l₁ := [_])
                  exact p)) q2
              · rw [if_neg hl] at q2; exact q2.elim
    · refine .inl ⟨w2 i H2 (e2.trans L2.fh) (by omega), ?_⟩
      rw [List.drop_of_length_le (by omega)] at q2
      have q3 : Post A W RS σ F2 Q (.ok (.lst accD) (erT ts2)) := q2
      have L3 : Liv A F2 H2 (T.lst D accV accD :: fm ts2) := L2.perm (List.perm_append_comm (l₂ := [_]))
      exact q3 F2 H2 ts2 (.ref D) (Same.refl _) (Fit.unwipe (vs := own) f1 f2) rfl L3.drop1 ⟨_, rfl, rfl, L3⟩
end
section
variable {G : Gd} {js : List Nat} {X : Cx} {W : WX}
/-- [elt for tg in iter if ..] -/
theorem ej_lc {elt tg iter : Expr} {ifs : List Expr} {scope : Scope} {own : List (Str × Nat)} {vs : List Nat} {pos : Pos} {src : DS → Res (List Dat)} {sl : List Nat} {asg : Asg} {tst : DS → Res Bool} {fe : DS → Res S} (hc : X.calm = true) (hN : X.N.Nodup) (ok : BlkOk X.N X.env.scope scope own)
    (hvs : own.map (·.2) = vs) (hown : ∀ i ∈ vs, i ∉ js) (hsl : ∀ i ∈ sl, i ∈ vs) (hi : PJ G js X W tg iter src)
    (hg : ∀ (s : Shared) (H : Hp) (C : Addr) (cl : List (Str × Addr)) (fp : List Addr), GJ G js (X.blk s H scope (compEnvC scope cl C X.env) fp) tg sl asg)
    (ht : ∀ (s : Shared) (H : Hp) (C : Addr) (cl : List (Str × Addr)) (fp : List Addr), TsJ G js (X.blk s H scope (compEnvC scope cl C X.env) fp) W0 ifs tst)
    (he : ∀ (s : Shared) (H : Hp) (C : Addr) (cl : List (Str × Addr)) (fp : List Addr), EJ G js (X.blk s H scope (compEnvC scope cl C X.env) fp) W0 elt fe) (hs : ∀ x, foldedSetIterable iter X.env x = pure x := by intro _; rfl) :
    EJ G js X W (.ListComp elt [⟨tg, iter, ifs, 0⟩] scope pos) (eLc vs src asg tst fe) := fun A hG hj => by
  subst hvs
  refine pe_imp (pe_lc (wi := tX A W RW src) (g := fun v σ H Q => ∃ A' : Act, A'.G = G ∧ A'.js = js ∧ tG A' sl asg v σ H Q) (tt := fun σ H Q => ∃ A' : Act, A'.G = G ∧ A'.js = js ∧ tX A' W0 RB tst σ H Q) (te := fun σ H Q => ∃ A' : Act, A'.G = G ∧ A'.js = js ∧ tX A' W0 RS fe σ H Q) hc hN (hi A hG hj) ok
    (fun s H C cl fp => ⟨fun pins s' σ H' v u Q I r q => by
      obtain ⟨A', h1, h2, q⟩ := q
      exact (hg s H C cl fp A' h1 h2).run pins s' σ H' v u Q I r q⟩)
    (fun s H C cl fp => ⟨fun pins s' σ H' Q I q => by
      obtain ⟨A', h1, h2, q⟩ := q
      exact (ht s H C cl fp A' h1 h2).run pins s' σ H' Q I q⟩)
    (fun s H C cl fp => ⟨fun pins s' σ H' Q I q => by
      obtain ⟨A', h1, h2, q⟩ := q
      exact (he s H C cl fp A' h1 h2).run pins s' σ H' Q I q⟩) hs) fun σ H Q q => ?_
  refine lc_go (hown := by rw [hj]; exact hown) hsl (fun _ _ _ z => z) (fun A' h1 h2 v σ H Q z => ⟨A', h1.trans hG, h2.trans hj, z⟩) (fun A' h1 h2 σ H Q z => ⟨A', h1.trans hG, h2.trans hj, z⟩) (fun A' h1 h2 σ H Q z => ⟨A', h1.trans hG, h2.trans hj, z⟩) q
/-- y = [elt for tg in iter if ..] -/
theorem sj_setLc {i : Nat} {y : Str} {py spos : Pos} {elt tg iter : Expr} {ifs : List Expr} {scope : Scope} {own : List (Str × Nat)} {vs : List Nat} {pos : Pos} {src : DS → Res (List Dat)} {sl : List Nat} {asg : Asg} {tst : DS → Res Bool} {fe : DS → Res S} (hc : X.calm = true) (hN : X.N.Nodup) (hy : X.N[i]? = some y) (hyl : X.env.scope.names.lookup y = some .local) (hni : i ∉ js)
    (hsw : swapsWith (.ListComp elt [⟨tg, iter, ifs, 0⟩] scope pos) (some (.Name y py)) spos.line X.env = pure true) (ok : BlkOk X.N X.env.scope scope own)
    (hvs : own.map (·.2) = vs) (hown : ∀ i ∈ vs, i ∉ js) (hsl : ∀ i ∈ sl, i ∈ vs) (hi : PJ G js X W tg iter src)
    (hg : ∀ (s : Shared) (H : Hp) (C : Addr) (cl : List (Str × Addr)) (fp : List Addr), GJ G js (X.blk s H scope (compEnvC scope cl C X.env) fp) tg sl asg)
    (ht : ∀ (s : Shared) (H : Hp) (C : Addr) (cl : List (Str × Addr)) (fp : List Addr), TsJ G js (X.blk s H scope (compEnvC scope cl C X.env) fp) W0 ifs tst)
    (he : ∀ (s : Shared) (H : Hp) (C : Addr) (cl : List (Str × Addr)) (fp : List Addr), EJ G js (X.blk s H scope (compEnvC scope cl C X.env) fp) W0 elt fe) (hs : ∀ x, foldedSetIterable iter X.env x = pure x := by intro _; rfl) :
    SJ G js X W (.Assign [.Name y py] (.ListComp elt [⟨tg, iter, ifs, 0⟩] scope pos) spos) (sSet i (eLc vs src asg tst fe)) := fun A hG hj => by
  subst hvs
  refine ps_imp (ps_setLc (wi := tX A W RW src) (g := fun v σ H Q => ∃ A' : Act, A'.G = G ∧ A'.js = js ∧ tG A' sl asg v σ H Q) (tt := fun σ H Q => ∃ A' : Act, A'.G = G ∧ A'.js = js ∧ tX A' W0 RB tst σ H Q) (te := fun σ H Q => ∃ A' : Act, A'.G = G ∧ A'.js = js ∧ tX A' W0 RS fe σ H Q) hc hN hy hyl hsw (hi A hG hj) ok
    (fun s H C cl fp => ⟨fun pins s' σ H' v u Q I r q => by
      obtain ⟨A', h1, h2, q⟩ := q
      exact (hg s H C cl fp A' h1 h2).run pins s' σ H' v u Q I r q⟩)
    (fun s H C cl fp => ⟨fun pins s' σ H' Q I q => by
      obtain ⟨A', h1, h2, q⟩ := q
      exact (ht s H C cl fp A' h1 h2).run pins s' σ H' Q I q⟩)
    (fun s H C cl fp => ⟨fun pins s' σ H' Q I q => by
      obtain ⟨A', h1, h2, q⟩ := q
      exact (he s H C cl fp A' h1 h2).run pins s' σ H' Q I q⟩) hs) fun D σ H q => ?_
  have q2 := set_go (W := W) (by rw [hj]; exact hni) q
  exact lc_go (hown := by rw [hj]; exact hown) hsl (fun _ _ _ z => z) (fun A' h1 h2 v σ H Q z => ⟨A', h1.trans hG, h2.trans hj, z⟩) (fun A' h1 h2 σ H Q z => ⟨A', h1.trans hG, h2.trans hj, z⟩) (fun A' h1 h2 σ H Q z => ⟨A', h1.trans hG, h2.trans hj, z⟩) q2
end
end Dl
/-! D8: lists and dicts changed in place; dicts read; isinstance; list(range(..)). -/
namespace Dl
open PySem PySem.Spec
open PyProof.Rows L2

section
variable {G : Gd} {js : List Nat} {X : Cx} {W : WX}
/-- a statement over an expression whose reading is a longer one -/
theorem rs_dat {A : Act} {σ : L2.St} {F H : Hp} {ts : Ts} {s : S} {v : V} (r : RS A σ s F H ts v) : ∃ F', Same F F' ∧ Liv A F' H (fm ts) ∧ Rep A.G F' s.dat v := rs_freeze r

/-! ### x.append(e), x a local list of its own -/
def sAppend (i : Nat) (f : DS → Res S) : DS → RSt := fun ds => match ds[i]? with
  | some (some (.lst _)) => thenS f (fun s ds' => match ds'[i]? with
    | some (some (.lst xs)) => if xs.length < 100000 then .nx (ds'.set i (some (.lst (xs ++ [s.dat])))) else .stuck
    | _ => .stuck) ds
  | _ => .stuck
/-- the own list in slot i is changed -/
theorem lst_slot {A : Act} {σ : L2.St} {F H : Hp} {ts : Ts} {i : Nat} {xs : List Dat} (ft : Fit A ts σ) (L : Liv A F H (fm ts)) (h : (erT ts)[i]? = some (some (.lst xs))) :
    ∃ a vs, σ[i]? = some (some (.ref a)) ∧ H a = some (.lst vs) ∧ RepL A.G F xs vs ∧ ∀ (vs' : List V) (xs' : List Dat), RepL A.G F xs' vs' → Fit A (ts.set i (some (.lst a vs' xs'))) σ ∧ Liv A F (upd H a (.lst vs')) (fm (ts.set i (some (.lst a vs' xs')))) := by
  obtain ⟨t, ht, he⟩ := of_erT h
  cases t with
  | lst a vs ys =>
    cases he
    have L2 := L.perm (fm_get ht)
    obtain ⟨h1, h2⟩ := L2.ok _ List.mem_cons_self
    refine ⟨a, vs, ft.at' i _ ht, h1, h2, fun vs' xs' r => ⟨ft.set (u := .lst a vs' xs') ht rfl, ?_⟩⟩
    have L3 : Liv A F (upd H a (.lst vs')) (.lst a vs' xs' :: fm (ts.set i none)) := L2.write rfl (fun b o hn e => by
      rw [upd_ne (fun z => hn (by rw [z]; exact List.mem_singleton.mpr rfl))]; exact e) ⟨upd_same, r⟩
    exact L3.perm (fm_set _ (List.getElem?_eq_some_iff.mp ht).1).symm
  | _ => cases he
theorem sj_append {i : Nat} {o e : Expr} {apos cpos pos : Pos} {f : DS → Res S} (ho : PE X o (tVar i)) (he : EJ G js X W e f)
    (hp : ∀ {t : TA}, PA X [e] t → PE X (.Call (.Attribute o "append" apos) [e] [] cpos) (tBM X.K "list" rAppend (tVar i) t)) (hn : starEach [e] X.env = (false, eval e X.env) :: starEach [] X.env := by rfl) (hs : swapsWith (.Call (.Attribute o "append" apos) [e] [] cpos) none pos.line X.env = pure false := by rfl) :
    SJ G js X W (.Expr (.Call (.Attribute o "append" apos) [e] [] cpos) pos) (sAppend i f) := fun A hG hj => by
  refine ps_imp (ps_expr (hp (pa_cons (he A hG hj) pa_nil hn)) hs) fun D σ H q => ?_
  obtain ⟨F, ts, ft, L, q⟩ := q
  unfold sAppend at q
  split at q
  · rename_i xs0 h0
    obtain ⟨a, vs, e1, e2, e3, _⟩ := lst_slot ft L h0
    refine ⟨.ref a, e1, .inl ⟨rfl, _, .inl (.inl e2)⟩, ?_⟩
    refine thenS_bind ft L q fun s F1 H1 ts1 x e4 f1 L1 r q => ?_
    obtain ⟨F2, e5, L2, rx⟩ := rs_dat r
    split at q
    · rename_i xs h1
      obtain ⟨a', vs', e6, e7, e8, e9⟩ := lst_slot f1 L2 h1
      have ea : a' = a := by
        rw [e1] at e6
        injection Option.some.inj (Option.some.inj e6) with z
        exact z.symm
      subst ea
      split at q
      · rename_i hl
        refine ⟨a', vs', x, rfl, rfl, e7, Nat.lt_of_lt_of_le (by rw [← e8.len]; exact hl) (by decide), ?_⟩
        obtain ⟨f3, L3⟩ := e9 (vs' ++ [x]) (xs ++ [s.dat]) (e8.app (RepL.one rx))
        exact q F2 _ _ σ e5 f3 (by rw [erT_set] <;> rfl) L3
      · exact q.elim
    · exact q.elim
  · exact q.elim

/-! ### one of two ways -/
def orSt (f g : DS → RSt) : DS → RSt := fun ds => match f ds with | .stuck => g ds | r => r
theorem ps_or {st : Stmt} {t t' : TS} (h : PS X st t) (h' : PS X st t') : PS X st (fun D σ H => t D σ H ∨ t' D σ H) := ⟨fun pins s σ H D I q => q.elim (h.run pins s σ H D I) (h'.run pins s σ H D I)⟩
theorem sj_or {st : Stmt} {f g : DS → RSt} (h : SJ G js X W st f) (h' : SJ G js X W st g) : SJ G js X W st (orSt f g) := fun A hG hj => by
  refine ps_imp (ps_or (h A hG hj) (h' A hG hj)) fun D σ H q => ?_
  obtain ⟨F, ts, ft, L, q⟩ := q
  unfold orSt at q
  cases e1 : f (erT ts) with
  | stuck => rw [e1] at q; exact .inr ⟨F, ts, ft, L, q⟩
  | nx ds => rw [e1] at q; exact .inl ⟨F, ts, ft, L, by rw [e1]; exact q⟩
  | rt a ds => rw [e1] at q; exact .inl ⟨F, ts, ft, L, by rw [e1]; exact q⟩
  | bk ds => rw [e1] at q; exact .inl ⟨F, ts, ft, L, by rw [e1]; exact q⟩
  | ct ds => rw [e1] at q; exact .inl ⟨F, ts, ft, L, by rw [e1]; exact q⟩
  | exc x ds => rw [e1] at q; exact .inl ⟨F, ts, ft, L, by rw [e1]; exact q⟩

/-! ### x[i] = e, x a local list of its own -/
def sSetIx (i : Nat) (fi fv : DS → Res S) : DS → RSt := thenS fv fun s ds => match ds[i]? with
  | some (some (.lst _)) => thenS fi (fun k ds => match k, ds[i]? with
    | .val (.int z), some (some (.lst xs)) => (match ixN xs.length z with | some j => .nx (ds.set i (some (.lst (xs.set j s.dat)))) | none => .stuck)
    | _, _ => .stuck) ds
  | _ => .stuck
theorem rs_int {A : Act} {σ : L2.St} {F H : Hp} {ts : Ts} {s : S} {v : V} {b : Int} (r : RS A σ s F H ts v) (e : s = .val (.int b)) : v = .int b := by
  obtain ⟨t, rfl, rfl, L⟩ := r
  cases t with
  | val v d =>
    cases (show S.val d = S.val (.int b) from e)
    exact L.rep
  | _ => cases e
theorem ref_same {σ : L2.St} {i : Nat} {a a' : Addr} (h : σ[i]? = some (some (.ref a))) (h' : σ[i]? = some (some (.ref a'))) : a' = a := by
  rw [h] at h'
  injection Option.some.inj (Option.some.inj h') with z
  exact z.symm
theorem sj_setIx {i : Nat} {o ie e : Expr} {tpos pos : Pos} {fi fv : DS → Res S} (ho : PE X o (tVar i)) (hi : EJ G js X W ie fi) (he : EJ G js X W e fv)
    (hp : ∀ {te ti : TE}, PE X e te → PE X ie ti → PS X (.Assign [.Subscript o ie tpos] e pos) (tAsg te (gSub (tVar i) ti rSetL))) : SJ G js X W (.Assign [.Subscript o ie tpos] e pos) (sSetIx i fi fv) := fun A hG hj => by
  refine ps_imp (hp (he A hG hj) (hi A hG hj)) fun D σ H q => ?_
  obtain ⟨F, ts, ft, L, q⟩ := q
  refine thenS_bind ft L q fun s F1 H1 ts1 v e1 f1 L1 r q => ?_
  obtain ⟨F2, e2, L2, rv⟩ := rs_dat r
  have q := q.mono e2
  split at q
  · rename_i xs0 h0
    obtain ⟨a, vs, k1, k2, k3, _⟩ := lst_slot f1 L2 h0
    refine ⟨.ref a, k1, ?_⟩
    refine thenS_bind f1 L2 q fun k F3 H3 ts3 x e3 f3 L3 r3 q => ?_
    split at q
    · rename_i z xs h3
      have hx := rs_int r3 rfl
      obtain ⟨a', vs', k4, k5, k6, k7⟩ := lst_slot f3 L3 h3
      obtain rfl := ref_same k1 k4
      split at q
      · rename_i j hj'
        refine ⟨a', vs', z, j, rfl, hx, k5, by rw [← k6.len]; exact hj', ?_⟩
        obtain ⟨f4, L4⟩ := k7 (vs'.set j v) (xs.set j s.dat) (k6.set j (rv.mono e3))
        exact q F3 _ _ σ (Same.refl _) f4 (by rw [erT_set] <;> rfl) L4
      · exact q.elim
    · exact q.elim
  · exact q.elim

/-! ### dicts: keys that are numbers or texts -/
def keyD : Dat → Option Key
  | .int i => some (.inl i) | .str x => some (.inr x) | _ => none
def valD : List Key → List Dat → Key → Option Dat
  | k :: ks, d :: ds, j => if k = j then some d else valD ks ds j
  | _, _, _ => none
def repl {α : Type} {κ : Type} [DecidableEq κ] : List κ → List α → κ → α → List α
  | k :: ks, d :: ds, j, x => (if k = j then x else d) :: repl ks ds j x
  | _, ds, _, _ => ds
def putD (ks : List Key) (ds : List Dat) (j : Key) (x : Dat) : List Key × List Dat :=
  if ks.any (fun k => decide (k = j)) = true then (ks, repl ks ds j x) else (ks ++ [j], ds ++ [x])
theorem keyD_v {F : Hp} {d : Dat} {k : Key} {v : V} (h : keyD d = some k) (r : Rep G F d v) : v = kV k := by
  cases d with
  | int i => cases h; exact r
  | str x => cases h; exact r
  | _ => cases h
theorem keyD_h {F H : Hp} {d : Dat} {k : Key} {v : V} (h : keyD d = some k) (r : RepH G F H v d) : v = kV k := by
  cases d with
  | int i => cases h; exact r.int
  | str x => cases h; exact r.str
  | _ => cases h
theorem valD_ok {F : Hp} {k : Key} : ∀ {ks : List Key} {vs : List V} {ds : List Dat}, ks.length = vs.length → RepL G F ds vs → match valD ks ds k with
    | some d => ∃ v, valV (ks.zip vs) k = some v ∧ Rep G F d v
    | none => valV (ks.zip vs) k = none
  | [], [], ds, _, r => by cases ds <;> first | exact rfl | (obtain ⟨v, r, h, _⟩ := r; cases h)
  | [], _ :: _, _, h, _ => by cases h
  | _ :: _, [], _, h, _ => by cases h
  | j :: ks, v :: vs, [], _, r => by cases (show v :: vs = [] from r)
  | j :: ks, v :: vs, d :: ds, h, ⟨v', r', e, r1, r2⟩ => by
    cases e
    simp only [valD]
    by_cases hj : j = k
    · rw [if_pos hj]
      exact ⟨v, valV_pos hj, r1⟩
    · rw [if_neg hj]
      have ih := valD_ok (k := k) (ks := ks) (vs := vs) (ds := ds) (by simpa using h) r2
      have e2 : valV (List.zip (j :: ks) (v :: vs)) k = valV (ks.zip vs) k := valV_neg hj
      rw [e2]
      exact ih
def gDGet : Dat → Dat → Option S
  | .dk ks xs, k => (match keyD k with | some j => (match valD ks xs j with | some d => some (.val d) | none => none) | none => none)
  | _, _ => none
theorem ej_dget {o ie : Expr} {pos : Pos} {fo fi : DS → Res Op} (hu : X.A.units + 1 < cLine) (ho : OJ G js X W o fo) (hi : OJ G js X W ie fi) (hs : NoSl ie) : EJ G js X W (.Subscript o ie pos) (eOp2 gDGet fo fi) := by
  refine ej_op2 (r := fun x y H Q => ∃ a v, x = .ref a ∧ DGet H a y (some v) ∧ Q v H) (fun h1 h2 => pe_dget hu h1 h2 hs) (fun A F H tl x y a b s Q hG L rx ry e k => ?_) ho hi
  unfold gDGet at e
  split at e
  · rename_i ks xs
    split at e
    · rename_i j hj
      split at e
      · rename_i d hd
        obtain ⟨p, vs, rfl, h1, h2, h3⟩ := rx.dk L.fh
        have hv := valD_ok (k := j) h2 h3
        rw [hd] at hv
        obtain ⟨v, h4, h5⟩ := hv
        refine ⟨p, v, rfl, ?_, L.out k (hG ▸ h5) (Option.some.inj e)⟩
        rw [keyD_h hj ry, ← h4]
        exact DGet.k h1
      · cases e
    · cases e
  · cases e
/-- k in d, k not in d -/
def gDIn (neg : Bool) : Dat → Dat → Option S
  | k, .dk ks xs => (match keyD k with | some j => some (.val (.bl ((valD ks xs j).isSome != neg))) | none => none)
  | _, _ => none
theorem vr_dIn (neg : Bool) : VR2 G (fun y x H Q => ∃ a o, x = .ref a ∧ DGet H a y o ∧ Q (.bl (o.isSome != neg)) H) (gDIn neg) := fun A F H tl y x b a s Q hG L ry rx e k => by
  unfold gDIn at e
  split at e
  · rename_i ks xs
    split at e
    · rename_i j hj
      obtain ⟨p, vs, rfl, h1, h2, h3⟩ := rx.dk L.fh
      have hv := valD_ok (k := j) h2 h3
      refine ⟨p, valV (ks.zip vs) j, rfl, by rw [keyD_h hj ry]; exact DGet.k h1, L.out (d := .bl _) k rfl ?_⟩
      rw [← Option.some.inj e]
      cases hd : valD ks xs j with
      | none => rw [hd] at hv; rw [show valV (ks.zip vs) j = none from hv] <;> rfl
      | some d =>
        rw [hd] at hv
        obtain ⟨v, h4, _⟩ := hv
        rw [h4] <;> rfl
    · cases e
  · cases e
theorem pe_din2 {i o : Expr} {pos : Pos} (hu : X.A.units + 1 < cLine) {ti td : TE} (hi : PE X i ti) (ho : PE X o td) (h1 : behindInMarks .In o = false) : PE X (.Compare i [.In] [o] pos) (tOp (fun y x H Q => ∃ a o, x = .ref a ∧ DGet H a y o ∧ Q (.bl (o.isSome != false)) H) ti td) :=
  pe_imp (pe_cmp (pc_din hu hi ho) h1) fun σ H Q q => by
    simpa only [tOp, tDIn, Bool.bne_false] using q
theorem pe_dnotin2 {i o : Expr} {pos : Pos} (hu : X.A.units + 1 < cLine) {ti td : TE} (hi : PE X i ti) (ho : PE X o td) (h1 : behindInMarks .NotIn o = false) : PE X (.Compare i [.NotIn] [o] pos) (tOp (fun y x H Q => ∃ a o, x = .ref a ∧ DGet H a y o ∧ Q (.bl (o.isSome != true)) H) ti td) :=
  pe_imp (pe_cmp (pc_dnotin hu hi ho) h1) fun σ H Q q => by
    simpa only [tOp, tDNotIn, Bool.bne_true] using q
theorem ej_din {i o : Expr} {pos : Pos} {fo fi : DS → Res Op} (hu : X.A.units + 1 < cLine) (hi : OJ G js X W i fi) (ho : OJ G js X W o fo) (h1 : behindInMarks .In o = false) : EJ G js X W (.Compare i [.In] [o] pos) (eOp2 (gDIn false) fi fo) := ej_op2 (fun a b => pe_din2 hu a b h1) (vr_dIn false) hi ho
theorem ej_dnotin {i o : Expr} {pos : Pos} {fo fi : DS → Res Op} (hu : X.A.units + 1 < cLine) (hi : OJ G js X W i fi) (ho : OJ G js X W o fo) (h1 : behindInMarks .NotIn o = false) : EJ G js X W (.Compare i [.NotIn] [o] pos) (eOp2 (gDIn true) fi fo) := ej_op2 (fun a b => pe_dnotin2 hu a b h1) (vr_dIn true) hi ho
/-- {} whose keys will be numbers or texts -/
def eDk0 : DS → Res S := fun ds => .ok (.dk [] []) ds
theorem ej_dk0 {pos : Pos} : EJ G js X W (.Dict [] [] pos) eDk0 := fun A hG hj => by
  refine pe_imp pe_dnewK fun σ H Q q => ?_
  obtain ⟨F, ts, ft, L, q⟩ := q
  intro p hp
  have L2 : Liv A F (upd H p (.dK [])) (.dk p [] [] [] :: fm ts) := L.make1 hp rfl ⟨upd_same, rfl, rfl⟩
  exact q F _ ts (.ref p) (Same.refl _) ft rfl L2.drop1 ⟨_, rfl, rfl, L2⟩
theorem repl_zip {κ : Type} [DecidableEq κ] {k : κ} {y : V} : ∀ {ks : List κ} {vs : List V}, ks.length = vs.length → (ks.zip vs).map (fun kv => if kv.1 = k then (kv.1, y) else kv) = ks.zip (repl ks vs k y) ∧ (repl ks vs k y).length = vs.length
  | [], [], _ => ⟨rfl, rfl⟩
  | [], _ :: _, h => by cases h
  | _ :: _, [], h => by cases h
  | j :: ks, v :: vs, h => by
    obtain ⟨h1, h2⟩ := repl_zip (k := k) (y := y) (ks := ks) (vs := vs) (by simpa using h)
    refine ⟨?_, by rw [repl, List.length_cons, List.length_cons, h2]⟩
    rw [List.zip_cons_cons, List.map_cons, h1, repl, List.zip_cons_cons]
    by_cases e : j = k
    · rw [if_pos e, if_pos e]
    · rw [if_neg e, if_neg e]
theorem repl_rep {F : Hp} {κ : Type} [DecidableEq κ] {k : κ} {x : Dat} {y : V} (rx : Rep G F x y) : ∀ {ks : List κ} {ds : List Dat} {vs : List V}, RepL G F ds vs → RepL G F (repl ks ds k x) (repl ks vs k y)
  | [], _, _, r => by
    unfold repl
    exact r
  | j :: ks, [], vs, r => by
    cases (show vs = [] from r)
    exact rfl
  | j :: ks, d :: ds, _, ⟨v, r, h1, h2, h3⟩ => by
    subst h1
    rw [repl, repl]
    refine ⟨_, _, rfl, ?_, repl_rep rx h3⟩
    by_cases e : j = k
    · rw [if_pos e, if_pos e]; exact rx
    · rw [if_neg e, if_neg e]; exact h2
theorem any_zip {κ : Type} [DecidableEq κ] {k : κ} : ∀ {ks : List κ} {vs : List V}, ks.length = vs.length → (ks.zip vs).any (fun kv => decide (kv.1 = k)) = ks.any (fun j => decide (j = k))
  | [], [], _ => rfl
  | [], _ :: _, h => by cases h
  | _ :: _, [], h => by cases h
  | j :: ks, v :: vs, h => by rw [List.zip_cons_cons, List.any_cons, List.any_cons, any_zip (ks := ks) (vs := vs) (by simpa using h)]
theorem putD_ok {F : Hp} {k : Key} {x : Dat} {y : V} {ks : List Key} {vs : List V} {ds : List Dat} (rx : Rep G F x y) (h : ks.length = vs.length) (r : RepL G F ds vs) :
    ∃ vs', putK (ks.zip vs) k y = (putD ks ds k x).1.zip vs' ∧ (putD ks ds k x).1.length = vs'.length ∧ RepL G F (putD ks ds k x).2 vs' := by
  unfold putK putD
  rw [any_zip h]
  by_cases hc : ks.any (fun j => decide (j = k)) = true
  · rw [if_pos hc, if_pos hc]
    obtain ⟨h1, h2⟩ := repl_zip (k := k) (y := y) h
    exact ⟨_, h1, by rw [h2]; exact h, repl_rep rx r⟩
  · rw [if_neg hc, if_neg hc]
    refine ⟨vs ++ [y], ?_, by simp [h], r.app (RepL.one rx)⟩
    rw [List.zip_append h] <;> rfl
/-- the own dict in slot i is changed -/
theorem dk_slot {A : Act} {σ : L2.St} {F H : Hp} {ts : Ts} {i : Nat} {ks : List Key} {xs : List Dat} (ft : Fit A ts σ) (L : Liv A F H (fm ts)) (h : (erT ts)[i]? = some (some (.dk ks xs))) :
    ∃ a vs, σ[i]? = some (some (.ref a)) ∧ H a = some (.dK (ks.zip vs)) ∧ ks.length = vs.length ∧ RepL A.G F xs vs ∧ ∀ (ks' : List Key) (vs' : List V) (xs' : List Dat), ks'.length = vs'.length → RepL A.G F xs' vs' → Fit A (ts.set i (some (.dk a ks' vs' xs'))) σ ∧ Liv A F (upd H a (.dK (ks'.zip vs'))) (fm (ts.set i (some (.dk a ks' vs' xs')))) := by
  obtain ⟨t, ht, he⟩ := of_erT h
  cases t with
  | dk a ks vs ys =>
    cases he
    have L2 := L.perm (fm_get ht)
    obtain ⟨h1, h2, h3⟩ := L2.ok _ List.mem_cons_self
    refine ⟨a, vs, ft.at' i _ ht, h1, h2, h3, fun ks' vs' xs' hl r => ⟨ft.set (u := .dk a ks' vs' xs') ht rfl, ?_⟩⟩
    have L3 : Liv A F (upd H a (.dK (ks'.zip vs'))) (.dk a ks' vs' xs' :: fm (ts.set i none)) := L2.write rfl (fun b o hn e => by
      rw [upd_ne (fun z => hn (by rw [z]; exact List.mem_singleton.mpr rfl))]; exact e) ⟨upd_same, hl, r⟩
    exact L3.perm (fm_set _ (List.getElem?_eq_some_iff.mp ht).1).symm
  | _ => cases he
/-- d[k] = e, d a local dict of its own -/
def sPutK (i : Nat) (fi fv : DS → Res S) : DS → RSt := thenS fv fun s ds => match ds[i]? with
  | some (some (.dk _ _)) => thenS fi (fun k ds => match ds[i]? with
    | some (some (.dk ks xs)) => (match keyD k.dat with
      | some j => if ks.length < 100000 then .nx (ds.set i (some (.dk (putD ks xs j s.dat).1 (putD ks xs j s.dat).2))) else .stuck
      | none => .stuck)
    | _ => .stuck) ds
  | _ => .stuck
theorem sj_putK {i : Nat} {o ie e : Expr} {tpos pos : Pos} {fi fv : DS → Res S} (hu : X.A.units + 1 < cLine) (ho : PE X o (tVar i)) (hi : EJ G js X W ie fi) (he : EJ G js X W e fv) (hs : swapsWith e (some (.Subscript o ie tpos)) pos.line X.env = pure false := by rfl) :
    SJ G js X W (.Assign [.Subscript o ie tpos] e pos) (sPutK i fi fv) := fun A hG hj => by
  refine ps_imp (ps_dput hu ho (hi A hG hj) (he A hG hj) hs) fun D σ H q => ?_
  obtain ⟨F, ts, ft, L, q⟩ := q
  refine thenS_bind ft L q fun s F1 H1 ts1 v e1 f1 L1 r q => ?_
  obtain ⟨F2, e2, L2, rv⟩ := rs_dat r
  have q := q.mono e2
  split at q
  · rename_i ks0 xs0 h0
    obtain ⟨a, vs, k1, _⟩ := dk_slot f1 L2 h0
    refine ⟨.ref a, k1, ?_⟩
    refine thenS_bind f1 L2 q fun k F3 H3 ts3 x e3 f3 L3 r3 q => ?_
    obtain ⟨F4, e4, L4, rk⟩ := rs_dat r3
    have q := q.mono e4
    split at q
    · rename_i ks xs h3
      obtain ⟨a', vs', k4, k5, k6, k7, k8⟩ := dk_slot f3 L4 h3
      obtain rfl := ref_same k1 k4
      split at q
      · rename_i j hj'
        split at q
        · rename_i hl
          obtain ⟨vs2, m1, m2, m3⟩ := putD_ok (k := j) ((rv.mono e3).mono e4) k6 k7
          obtain ⟨f4, L5⟩ := k8 _ vs2 _ m2 m3
          refine ⟨a', upd H3 a' (.dK (putK (ks.zip vs') j v)), rfl, ?_, ?_⟩
          · rw [keyD_v hj' rk]
            exact DPut.k k5 (by
              rw [List.length_zip, ← k6, Nat.min_self]
              exact Nat.lt_of_lt_of_le hl (by decide))
          · rw [m1]
            exact q F4 _ _ σ (Same.refl _) f4 (by rw [erT_set] <;> rfl) L5
        · exact q.elim
      · exact q.elim
    · exact q.elim
  · exact q.elim

/-! ### isinstance, of what is told -/
def tyD : Dat → Option String
  | .non => some "NoneType" | .bl _ => some "bool" | .int _ => some "int" | .str _ => some "str" | .tup _ => some "tuple" | .lst _ => some "list" | .dk _ _ => some "dict" | .dt _ _ => some "dict"
  | .obj _ _ _ => none | .scr _ => none
def gIsi (T : String) (d : Dat) : Option S := match tyD d with
  | some t => (match kitB t T with | some b => some (.val (.bl b)) | none => none)
  | none => none
theorem sqT_ty {K : PySem.W.Frag} {H : Hp} {a : Addr} {vs : List V} (h : SqT K H a vs) : TyX K H (.ref a) (.type "tuple") := by
  rcases h with (h | ⟨o, h⟩) | ⟨o, its, n, h, c, _⟩
  · exact .base (.tup h)
  · exact .fTuple h
  · exact .kTuple h c
theorem RepH.ty {F H : Hp} {d : Dat} {v : V} {t : String} (e : Same F H) (h : RepH G F H v d) (ht : tyD d = some t) : TyX G.K H v (.type t) := by
  cases d with
  | non => cases ht; rw [h.non]; exact .base .non
  | bl b => cases ht; rw [h.bl]; exact .base (.bl b)
  | int b => cases ht; rw [h.int]; exact .base (.int b)
  | str b => cases ht; rw [h.str]; exact .base (.str b)
  | tup xs =>
    cases ht
    obtain ⟨a, vs, rfl, h1, _⟩ := h.tup e
    exact sqT_ty (sqT_mono e h1)
  | lst xs =>
    cases ht
    obtain ⟨a, vs, rfl, h1, _⟩ := h.lst e
    exact .base (.lst h1)
  | dk ks xs =>
    cases ht
    obtain ⟨a, vs, rfl, h1, _⟩ := h.dk e
    exact .base (.dK h1)
  | dt ks xs =>
    cases ht
    obtain ⟨t, h1, rfl, h3⟩ := h
    cases t with
    | val v d =>
      cases (show d = Dat.dt ks xs from h3)
      obtain ⟨a, vs, q1, q2, _⟩ := h1
      rw [show (T.val v (.dt ks xs)).v = v from rfl, q1]
      exact .base (.dT (e _ _ q2))
    | dt a ks vs ys => exact .base (.dT h1.1)
    | _ => cases h3
  | obj c ns xs => cases ht
  | scr ns => cases ht
/-- isinstance(e, T), T a built-in class by its name -/
theorem ej_isi {T x : Str} {p p2 pos : Pos} {e : Expr} {n : String} {fo : DS → Res Op} (hg : Gl X "isinstance") (hm : X.mg "isinstance" = none) (hv : bootBuiltins "isinstance" = some (.builtin "isinstance")) (hg2 : Gl X T) (hm2 : X.mg T = none) (hv2 : bootBuiltins T = some (.type n)) (hK : G.K = X.K) (he : OJ G js X W e fo)
    (hp : ∀ {t : TA}, PA X [e, .Name T p2] t → PE X (.Call (.Name "isinstance" p) [e, .Name T p2] [] pos) (tCB (rIsi X.K) t)) (hs : starEach [e, .Name T p2] X.env = (false, eval e X.env) :: starEach [.Name T p2] X.env := by rfl) (hs2 : starEach [.Name T p2] X.env = (false, eval (.Name T p2) X.env) :: starEach [] X.env := by rfl)
    (hn : T ≠ "__name__" := by decide) (hd : (T == ("__debug__" : Str)) = false := by decide) :
    EJ G js X W (.Call (.Name "isinstance" p) [e, .Name T p2] [] pos) (eOp1 (gIsi n) fo) := fun A hG hj => by
  refine pe_imp (hp (pa_cons (he A hG hj) (pa_cons (pe_bltn hg2 hm2 hv2 (show RelV (.ty n) (.type n) from rfl) hn hd) pa_nil hs2) hs)) fun σ H Q q => ?_
  obtain ⟨F, ts, ft, L, q⟩ := q
  refine post_bind ft L q fun o F1 H1 ts1 x e1 f1 L1 r q => ?_
  have vr : VR1 G (fun x H Q => tCB (rIsi X.K) (fun σ H Q => Q [x, .ty n] H) σ H Q) (gIsi n) := fun A F H tl x a s Q hG L rx e k => by
    unfold gIsi at e
    split at e
    · rename_i t ht
      split at e
      · rename_i b hb
        refine ⟨x, .ty n, .type t, .type n, b, rfl, .ty n, ?_, kit_ty hb, L.out (d := .bl b) k rfl (Option.some.inj e)⟩
        rw [← hK]
        exact rx.ty L.fh ht
      · cases e
    · cases e
  exact lift1_go vr hG f1 L1 r q

/-! ### list(range(..)) -/
def intS (s : S) (k : Int → DS → Res S) : DS → Res S := match s with | .val (.int a) => k a | _ => fun _ => .stuck
theorem intS_go {A : Act} {R : RelT S V} {σ : L2.St} {F : Hp} {Q : VK} {s : S} {k : Int → DS → Res S} {ds : DS} (h : Post A W R σ F Q (intS s k ds)) : ∃ a, s = .val (.int a) ∧ Post A W R σ F Q (k a ds) := by
  cases s with
  | val d =>
    cases d with
    | int a => exact ⟨a, rfl, h⟩
    | _ => exact h.elim
  | _ => exact h.elim
def eListR1 (f : DS → Res S) : DS → Res S := bnd f fun s => intS s fun n ds => if 0 ≤ n ∧ n ≤ 100000 then .ok (.lst (rng 0 n.toNat)) ds else .stuck
def eListR2 (f g : DS → Res S) : DS → Res S := bnd f fun s => intS s fun a => bnd g fun s2 => intS s2 fun b ds => if 0 ≤ a ∧ a ≤ 100000 ∧ 0 ≤ b ∧ b ≤ 100000 then .ok (.lst (rng a (b - a).toNat)) ds else .stuck
theorem rep_rng {F : Hp} (a b : Int) : RepL G F (rng a (b - a).toNat) (rgV a b) := by
  have h : rng a (b - a).toNat = ((List.range (b - a).toNat).map fun (k : Nat) => a + (k : Int)).map Dat.int := by
    unfold rng
    rw [List.map_map]
    rfl
  have h2 : rgV a b = ((List.range (b - a).toNat).map fun (k : Nat) => a + (k : Int)).map V.int := by
    unfold rgV
    rw [List.map_map]
    rfl
  rw [h, h2]
  exact RepL.of_ints
theorem ej_listR1 {a : Expr} {p p2 pos pos2 : Pos} {f : DS → Res S} (hc : X.calm = true) (hg : Gl X "list") (hm : X.mg "list" = none) (hg2 : Gl X "range") (hm2 : X.mg "range" = none) (ha : EJ G js X W a f)
    (na : starEach [a] X.env = (false, eval a X.env) :: starEach [] X.env := by rfl) (nb : starEach [.Call (.Name "range" p2) [a] [] pos2] X.env = (false, eval (.Call (.Name "range" p2) [a] [] pos2) X.env) :: starEach [] X.env := by rfl) :
    EJ G js X W (.Call (.Name "list" p) [.Call (.Name "range" p2) [a] [] pos2] [] pos) (eListR1 f) := fun A hG hj => by
  refine pe_imp (pe_listRg hc hg hm (prg_1 hg2 hm2 (ha A hG hj) na) nb) fun σ H Q q => ?_
  obtain ⟨F, ts, ft, L, q⟩ := q
  refine post_bind ft L q fun s F1 H1 ts1 x e1 f1 L1 r q => ?_
  obtain ⟨n, rfl, q'⟩ := intS_go q
  clear q
  have q := q'
  clear q'
  split at q
  · rename_i hb
    refine ⟨n, rs_int r rfl, RgOk.of_le (by decide) (by omega) (by decide) hb.1, fun l hl => ?_⟩
    have L2 : Liv A F1 (upd H1 l (.lst (rgV 0 n))) (.lst l (rgV 0 n) (rng 0 (n - 0).toNat) :: fm ts1) := L1.newL hl (rep_rng 0 n)
    have e : n - 0 = n := by omega
    rw [e] at L2
    exact q F1 _ ts1 (.ref l) (Same.refl _) f1 rfl L2.drop1 ⟨_, rfl, rfl, L2⟩
  · exact q.elim
theorem ej_listR2 {a b : Expr} {p p2 pos pos2 : Pos} {f g : DS → Res S} (hc : X.calm = true) (hg : Gl X "list") (hm : X.mg "list" = none) (hg2 : Gl X "range") (hm2 : X.mg "range" = none) (ha : EJ G js X W a f) (hb : EJ G js X W b g)
    (na : starEach [a, b] X.env = (false, eval a X.env) :: starEach [b] X.env := by rfl) (na2 : starEach [b] X.env = (false, eval b X.env) :: starEach [] X.env := by rfl) (nb : starEach [.Call (.Name "range" p2) [a, b] [] pos2] X.env = (false, eval (.Call (.Name "range" p2) [a, b] [] pos2) X.env) :: starEach [] X.env := by rfl) (hpl : (backTo pos2 (starEach [b] X.env)).any (·.1) = false := by rfl) :
    EJ G js X W (.Call (.Name "list" p) [.Call (.Name "range" p2) [a, b] [] pos2] [] pos) (eListR2 f g) := fun A hG hj => by
  refine pe_imp (pe_listRg hc hg hm (prg_2 hg2 hm2 (ha A hG hj) (hb A hG hj) na na2 hpl) nb) fun σ H Q q => ?_
  obtain ⟨F, ts, ft, L, q⟩ := q
  refine post_bind ft L q fun s F1 H1 ts1 x e1 f1 L1 r q => ?_
  obtain ⟨n, rfl, q'⟩ := intS_go q
  clear q
  have q := q'
  clear q'
  refine post_bind f1 L1 q fun s2 F2 H2 ts2 y e2 f2 L2 r2 q => ?_
  obtain ⟨m, rfl, q'⟩ := intS_go q
  clear q
  have q := q'
  clear q'
  split at q
  · rename_i hb
    refine ⟨n, m, rs_int r rfl, rs_int r2 rfl, RgOk.of_le hb.1 (by omega) (by omega) hb.2.2.1, fun l hl => ?_⟩
    have L3 : Liv A F2 (upd H2 l (.lst (rgV n m))) (.lst l (rgV n m) (rng n (m - n).toNat) :: fm ts2) := L2.newL hl (rep_rng n m)
    exact q F2 _ ts2 (.ref l) (Same.refl _) f2 rfl L3.drop1 ⟨_, rfl, rfl, L3⟩
  · exact q.elim
end
end Dl
/-! D9: the operators by name, more statements, the defs of a program. -/
namespace Dl
open PySem PySem.Spec
open PyProof.Rows L2
section
variable {G : Gd} {js : List Nat} {X : Cx} {W : WX}
theorem vr_sub : VR2 G (rI0 fun i j => .int (i - j)) gSubI := vr_I0 fun _ _ _ => rfl
theorem vr_lt : VR2 G (rI0 fun i j => .bl (decide (i < j))) gLt := vr_I0 fun _ _ _ => rfl
theorem vr_le : VR2 G (rI0 fun i j => .bl (decide (i ≤ j))) gLe := vr_I0 fun _ _ _ => rfl
theorem vr_gt : VR2 G (rI0 fun i j => .bl (decide (j < i))) gGt := vr_I0 fun _ _ _ => rfl
theorem vr_ge : VR2 G (rI0 fun i j => .bl (decide (j ≤ i))) gGe := vr_I0 fun _ _ _ => rfl
theorem vr_mul : VR2 G (rI CMul fun i j => .int (i * j)) gMul := vr_I (fun i j h => by
  unfold cMul at h
  rw [Bool.or_eq_true, decide_eq_true_eq, decide_eq_true_eq] at h
  unfold CMul
  omega) fun _ _ _ => rfl
theorem vr_div : VR2 G (rI CDivN fun i j => .int (i.fdiv j)) gDiv := vr_I (fun i j h => by
  unfold cDiv at h
  rw [Bool.and_eq_true, decide_eq_true_eq, decide_eq_true_eq] at h
  exact h) fun _ _ _ => rfl
theorem vr_mod : VR2 G (rI (fun _ j => j ≠ 0) fun i j => .int (i.fmod j)) gMod := vr_I (fun i j h => of_decide_eq_true h) fun _ _ _ => rfl
theorem vr_pow : VR2 G (rI CPow fun i j => .int (i ^ j.toNat)) gPow := vr_I (fun i j h => by
  have h : decide (0 ≤ j ∧ j ≤ 1000000 ∧ i.natAbs < 2 ^ 64) = true := h
  have h2 : 0 ≤ j ∧ j ≤ 1000000 ∧ i.natAbs < 2 ^ 64 := of_decide_eq_true h
  exact h2) fun _ _ _ => rfl
theorem vu_neg : VR1 G (rU fun i => .int (-i)) gNeg := fun A F H tl x a s Q hG L rx e k => by
  cases a with
  | int i => exact ⟨i, rx.int, L.out (d := .int (-i)) k rfl (Option.some.inj e)⟩
  | _ => cases e
/-- is None -/
def isNon : Dat → Bool
  | .non => true | _ => false
def gIsN (neg : Bool) (a b : Dat) : Option S := match b with | .non => some (.val (.bl (isNon a != neg))) | _ => none
theorem RepH.isNon {F H : Hp} {v : V} {d : Dat} (h : RepH G F H v d) : decide (v = .non) = Dl.isNon d := by
  obtain ⟨t, h1, rfl, rfl⟩ := h
  have ref : ∀ {a : Addr}, decide (V.ref a = V.non) = false := decide_eq_false (fun z => nomatch z)
  cases t with
  | val v d =>
    show decide (v = V.non) = Dl.isNon d
    cases d with
    | non => rw [show v = V.non from h1] <;> rfl
    | bl b => rw [show v = V.bl b from h1] <;> rfl
    | int b => rw [show v = V.int b from h1] <;> rfl
    | str b => rw [show v = V.str b from h1] <;> rfl
    | tup xs => obtain ⟨a, vs, rfl, _⟩ := h1; exact ref
    | lst xs => obtain ⟨a, vs, rfl, _⟩ := h1; exact ref
    | dk ks xs => obtain ⟨a, vs, rfl, _⟩ := h1; exact ref
    | dt ks xs => obtain ⟨a, vs, rfl, _⟩ := h1; exact ref
    | obj c ns xs => obtain ⟨a, dx, vs, rfl, _⟩ := h1; exact ref
    | scr ns => obtain ⟨a, rfl, _⟩ := h1; exact ref
  | lst a vs xs => exact ref
  | dk a ks vs xs => exact ref
  | dt a ks vs xs => exact ref
  | ins a dx c ns vs xs => exact ref
theorem vr_isN : VR2 G (fun x y H Q => y = .non ∧ Q (.bl (decide (x = .non))) H) (gIsN false) := fun A F H tl x y a b s Q hG L rx ry e k => by
  cases b with
  | non => exact ⟨ry.non, L.out (d := .bl _) k rfl (by rw [rx.isNon, ← Option.some.inj e, Bool.bne_false])⟩
  | _ => cases e
theorem vr_notN : VR2 G (fun x y H Q => y = .non ∧ Q (.bl (!decide (x = .non))) H) (gIsN true) := fun A F H tl x y a b s Q hG L rx ry e k => by
  cases b with
  | non => exact ⟨ry.non, L.out (d := .bl _) k rfl (by rw [rx.isNon, ← Option.some.inj e, Bool.bne_true])⟩
  | _ => cases e
theorem room64 {k : Nat} {A : Around} (r : Room k A) : A.units + 64 < cLine := r.units
theorem room65 {k : Nat} {A : Around} (r : Room k A) : A.units + 65 < cLine := by have := r.un; omega
/-- a value as a test, by a comparison in two ways -/
theorem tj_or {e : Expr} {f g : DS → Res Bool} (h : TJ G js X W e f) (h' : TJ G js X W e g) : TJ G js X W e (orRes f g) := fun A hG hj => by
  refine ⟨fun pins s σ H Q I q => ?_⟩
  obtain ⟨F, ts, ft, L, q⟩ := q
  unfold orRes at q
  cases e1 : f (erT ts) with
  | ok a ds => rw [e1] at q; exact (h A hG hj).run pins s σ H Q I ⟨F, ts, ft, L, by rw [e1]; exact q⟩
  | exc x ds => rw [e1] at q; exact (h A hG hj).run pins s σ H Q I ⟨F, ts, ft, L, by rw [e1]; exact q⟩
  | stuck => rw [e1] at q; exact (h' A hG hj).run pins s σ H Q I ⟨F, ts, ft, L, q⟩
/-- a comparison whose rule is a PE's -/
theorem tj_cmpP {op : CmpOp} {a b : Expr} {pos : Pos} {f : DS → Res S} (h : EJ G js X W (.Compare a [op] [b] pos) f)
    (hp : ∀ {t : TE}, PE X (.Compare a [op] [b] pos) t → PT X (.Compare a [op] [b] pos) (tB t)) : TJ G js X W (.Compare a [op] [b] pos) (tVal f) := fun A hG hj => by
  refine pt_imp (hp (h A hG hj)) fun σ H Q q => ?_
  obtain ⟨F, ts, ft, L, q⟩ := q
  exact tval_go ft L q
/-- a target that is given a value -/
def sAsgG (asg : Asg) (f : DS → Res S) : DS → RSt := thenS f fun s ds => match asg s.dat ds with | some ds' => .nx ds' | none => .stuck
theorem sj_asgG {tg e : Expr} {pos : Pos} {sl : List Nat} {asg : Asg} {f : DS → Res S} (hg : GJ G js X tg sl asg) (he : EJ G js X W e f)
    (hp : ∀ {te : TE} {g : TG}, PE X e te → PG X tg g → PS X (.Assign [tg] e pos) (tAsg te g)) : SJ G js X W (.Assign [tg] e pos) (sAsgG asg f) := fun A hG hj => by
  refine ps_imp (hp (he A hG hj) (hg A hG hj)) fun D σ H q => ?_
  obtain ⟨F, ts, ft, L, q⟩ := q
  refine thenS_bind ft L q fun s F1 H1 ts1 v e1 f1 L1 r q => ?_
  obtain ⟨F2, e2, L2, rv⟩ := rs_dat r
  refine ⟨F2, ts1, s.dat, f1, L2, rv, ?_⟩
  cases e3 : asg s.dat (erT ts1) with
  | none => simp only [e3] at q; exact q.elim
  | some ds => simp only [e3] at q; exact fun ts' σ' f' e4 L' _ => q F2 H1 ts' σ' e2 f' e4 L'
/-- x op= e, numbers -/
def sAugI (i : Nat) (g : Dat → Dat → Option S) (f : DS → Res S) : DS → RSt := fun ds => match ds[i]? with
  | some (some (.val a)) => thenS f (fun s ds' => match g a s.dat with | some z => .nx (ds'.set i (some z)) | none => .stuck) ds
  | _ => .stuck
theorem sj_augI {i : Nat} {x : Str} {e : Expr} {op : Operator} {pos pos' : Pos} {f : DS → Res S} {h : Int → Int → Int} (hN : X.N.Nodup) (hi : X.N[i]? = some x) (hx : Loc X.env.scope x) (hni : i ∉ js) (he : EJ G js X W e f) (ho : PIp X op (ipI h))
    (hf : X.fn x = true ∨ X.env.scope.names.lookup x = some .local := by first | exact .inl rfl | exact .inr rfl | assumption) : SJ G js X W (.AugAssign (.Name x pos') op e pos) (sAugI i (gI2 (fun _ _ => true) fun a b => .int (h a b)) f) := fun A hG hj => by
  refine ps_imp (ps_aug hN hi hx (he A hG hj) ho hf) fun D σ H q => ?_
  obtain ⟨F, ts, ft, L, q⟩ := q
  unfold sAugI at q
  split at q
  · rename_i a ha
    obtain ⟨t, ht, hs⟩ := of_erT ha
    cases t with
    | val v d =>
      cases hs
      refine ⟨v, ft.at' i _ ht, ?_⟩
      have rv : Rep A.G F a v := L.memT ht
      refine thenS_bind ft L q fun s F1 H1 ts1 y e1 f1 L1 r q => ?_
      obtain ⟨F2, e2, L2, ry⟩ := rs_dat r
      cases e3 : gI2 (fun _ _ => true) (fun a b => Dat.int (h a b)) a s.dat with
      | none => simp only [e3] at q; exact q.elim
      | some z =>
        simp only [e3] at q
        obtain ⟨m, n, rfl, hd, _, rfl⟩ := gI2_inv e3
        rw [hd] at ry
        refine ⟨m, n, rv, ry, ?_⟩
        have L3 : Liv A F2 H1 (.val (.int (h m n)) (.int (h m n)) :: fm ts1) := L2.val (v := .int (h m n)) (d := .int (h m n)) rfl
        exact q F2 H1 (ts1.set i (some (.val (.int (h m n)) (.int (h m n))))) _ e2 (f1.store (t := .val (.int (h m n)) (.int (h m n))) (by rw [hj]; exact hni)) (erT_set _ _ _) L3.store
    | _ => cases hs
  · exact q.elim
end

/-! ### the defs of a program -/
section
variable {P : Program} {w : World} {K : PySem.W.Frag} {mg : Str → Option Value} {base : Heap} {G : Gd}
/-- a def stands under its name and keeps its promise -/
structure DefOk (P : Program) (w : World) (K : PySem.W.Frag) (mg : Str → Option Value) (base : Heap) (G : Gd) (x : Str) (ps : List Str) (k : Nat) (m : FS) : Prop where
  ex : ∃ f fd, FnOk P w K mg base (L2.CX P w) k f fd ps (spD G m) ∧ mg x = some (.ref f) ∧ PySem.W.keepIn K (.ref f) = true ∧ Binds K fd ps []
/-- what the top has left of a def -/
structure TopF (K : PySem.W.Frag) (mg : Str → Option Value) (x qual : Str) (st : Stmt) : Prop where
  ex : ∃ f fd, mg x = some (.ref f) ∧ Fun K x qual st f fd
theorem DefOk.mono {x : Str} {ps : List Str} {j k : Nat} {m : FS} (d : DefOk P w K mg base G x ps j m) (h : j ≤ k) : DefOk P w K mg base G x ps k m := by
  obtain ⟨f, fd, h1, h2⟩ := d.ex
  exact ⟨f, fd, h1.mono h, h2⟩
theorem ej_callD {js : List Nat} {X : Cx} {W : WX} {k j : Nat} {ps : List Str} {m : FS} {x : Str} {p pos : Pos} {e : Expr} {es : List Expr} {fa : DS → Res (List Op)} (d : DefOk X.prog X.w X.K X.mg X.base G x ps j m) (hr : Room k X.A) (hjk : j ≤ k) (hg : Gl X x) (tk : Takes X W) (ha : AJ G js X W (e :: es) fa)
    (hdb : (x == ("__debug__" : Str)) = false := by decide) (he : starEach (e :: es) X.env = (false, eval e X.env) :: starEach es X.env := by rfl) (hpl : (backTo pos (starEach es X.env)).any (·.1) = false := by rfl) : EJ G js X W (.Call (.Name x p) (e :: es) [] pos) (eCall m fa) := by
  obtain ⟨f, fd, h1, h2, h3, h4⟩ := d.ex
  exact ej_call h1 (hr.mono hjk) hg h2 h3 h4 tk ha hdb he hpl
/-- the rule for a def, with what its body may lean on -/
theorem defOk {x qual : Str} {st : Stmt} {N ps : List Str} {k : Nat} {js : List Nat} {body : DS → RSt} (t : TopF K mg x qual st) (S : FnScope N ps (defScope st)) (hjs : js.all (fun j => decide (j < ps.length)) = true)
    (hb : ∀ (f : Addr) (cdv : Value) (A : Around) (outer : List Env) (s : Shared) (H : Hp) (E : XK), Room k (A.deeper (envOfC qual (defScope st) s.heap.objs.size f cdv)) →
      Takes (cxOf (L2.CX P w) P w K mg base N qual (defScope st) f cdv A outer s H E) (wE E) →
      PassesOwn (model P w) (A.deeper (envOfC qual (defScope st) s.heap.objs.size f cdv)) (envOfC qual (defScope st) s.heap.objs.size f cdv) (cxOf (L2.CX P w) P w K mg base N qual (defScope st) f cdv A outer s H E).xe →
      BJ G js (cxOf (L2.CX P w) P w K mg base N qual (defScope st) f cdv A outer s H E) (wE E) (defBody st) body)
    (hbind : ∀ (kV doc pm : Value) (an : Option Addr) (cdv ct : Value) (us : List Value), us.length = ps.length → bindArgs (PySem.W.fnOf x qual (defArgs st) (defBody st) (defScope st) .none kV doc pm an cdv ct) ⟨us, []⟩ = pure (ps.zip us)) :
    DefOk P w K mg base G x ps (k + 1) (runB N.length ps.length js body) := by
  obtain ⟨f, fd, h1, h2⟩ := t.ex
  exact ⟨f, fd, ok_def h2 S hjs fun cdv A outer s H E hr => hb f cdv A outer s H E hr (takes_of rfl rfl rfl rfl) (passes_of rfl), h1, h2.kp, h2.binds hbind⟩
end
end Dl
/-! D10: dict displays, sorted(set(..)), k in d as a test. -/
namespace Dl
open PySem PySem.Spec
open PyProof.Rows L2
section
variable {G : Gd} {js : List Nat} {X : Cx} {W : WX}
theorem tj_din {i o : Expr} {pos : Pos} {fo fi : DS → Res Op} (hu : X.A.units + 1 < cLine) (hi : OJ G js X W i fi) (ho : OJ G js X W o fo) (h1 : behindInMarks .In o = false) : TJ G js X W (.Compare i [.In] [o] pos) (tVal (eOp2 (gDIn false) fi fo)) := fun A hG hj => by
  refine pt_imp (pt_cmp (pc_din hu (hi A hG hj) (ho A hG hj)) h1) fun σ H Q q => ?_
  obtain ⟨F, ts, ft, L, q⟩ := q
  obtain ⟨F0, ts0, ft0, L0, q⟩ := tval_go ft L q
  refine post_bind ft0 L0 q fun o F1 H1 ts1 x e1 f1 L1 r q => ?_
  refine post_bind f1 L1 q fun p F2 H2 ts2 y e2 f2 L2 r2 q => ?_
  have := lift2_go (vr_dIn (G := G) false) hG f2 L2 (r.next e2) r2 q
  simpa only [Bool.bne_false] using this
theorem tj_dnotin {i o : Expr} {pos : Pos} {fo fi : DS → Res Op} (hu : X.A.units + 1 < cLine) (hi : OJ G js X W i fi) (ho : OJ G js X W o fo) (h1 : behindInMarks .NotIn o = false) : TJ G js X W (.Compare i [.NotIn] [o] pos) (tVal (eOp2 (gDIn true) fi fo)) := fun A hG hj => by
  refine pt_imp (pt_cmp (pc_dnotin hu (hi A hG hj) (ho A hG hj)) h1) fun σ H Q q => ?_
  obtain ⟨F, ts, ft, L, q⟩ := q
  obtain ⟨F0, ts0, ft0, L0, q⟩ := tval_go ft L q
  refine post_bind ft0 L0 q fun o F1 H1 ts1 x e1 f1 L1 r q => ?_
  refine post_bind f1 L1 q fun p F2 H2 ts2 y e2 f2 L2 r2 q => ?_
  have := lift2_go (vr_dIn (G := G) true) hG f2 L2 (r.next e2) r2 q
  simpa only [Bool.bne_true] using this

/-! ### dict displays with written texts as keys -/
def eVals : List (DS → Res S) → DS → Res (List Dat)
  | [] => fun ds => .ok [] ds
  | f :: fs => bnd f fun s => bnd (eVals fs) fun l ds => .ok (s.dat :: l) ds
def eDisp (ks : List Str) (fs : List (DS → Res S)) : DS → Res S := bnd (eVals fs) fun l ds => .ok (.dk (ks.map .inr) l) ds
def RDs : RelT (List Dat) (List V) := fun A _ l F _ _ vs => RepL A.G F l vs
/-- an expression that is read in any run -/
def tAny (G : Gd) (js : List Nat) (W : WX) (f : DS → Res S) : TE := fun σ H Q => ∃ A, A.G = G ∧ A.js = js ∧ tX A W RS f σ H Q
theorem EJ.any {e : Expr} {f : DS → Res S} (h : EJ G js X W e f) : PE X e (tAny G js W f) := ⟨fun pins s σ H Q I q => by
  obtain ⟨A, h1, h2, q⟩ := q
  exact (h A h1 h2).run pins s σ H Q I q⟩
inductive DispJ (G : Gd) (js : List Nat) (X : Cx) (W : WX) : List (Option Expr) → List Expr → List Str → List (DS → Res S) → Prop
  | nil : DispJ G js X W [] [] [] []
  | cons {x : Str} {k : Nat} {pos : Pos} {ks : List (Option Expr)} {v : Expr} {vs : List Expr} {xs : List Str} {f : DS → Res S} {fs : List (DS → Res S)} (h : EJ G js X W v f) (r : DispJ G js X W ks vs xs fs) : DispJ G js X W (some (.Constant (.str x) k pos) :: ks) (v :: vs) (x :: xs) (f :: fs)
def trsOf (G : Gd) (js : List Nat) (W : WX) : List Str → List (DS → Res S) → List (TE × TE)
  | x :: xs, f :: fs => (tC (.str x), tAny G js W f) :: trsOf G js W xs fs
  | _, _ => []
theorem DispJ.pps {pos : Pos} {ks : List (Option Expr)} {vs : List Expr} {xs : List Str} {fs : List (DS → Res S)} (h : DispJ G js X W ks vs xs fs) : PPs X pos ks vs (trsOf G js W xs fs) := by
  induction h with
  | nil => exact pps_nil
  | cons h r ih => exact pps_cons pe_str h.any ih
theorem DispJ.len {ks : List (Option Expr)} {vs : List Expr} {xs : List Str} {fs : List (DS → Res S)} (h : DispJ G js X W ks vs xs fs) : xs.length = fs.length ∧ ks.length = vs.length ∧ ks.length = xs.length ∧ ks.all (·.isSome) = true := by
  induction h with
  | nil => exact ⟨rfl, rfl, rfl, rfl⟩
  | cons h r ih =>
    refine ⟨by simp [ih.1], by simp [ih.2.1], by simp [ih.2.2.1], ?_⟩
    rw [List.all_cons, ih.2.2.2] <;> rfl
/-- the values of a display, while the objects tmp are left out -/
theorem disp_go {A : Act} {tmp : List T} (hG : A.G = G) (hj : A.js = js) : ∀ {xs : List Str} {fs : List (DS → Res S)} {σ : L2.St} {F H : Hp} {ts : Ts} {Q : List (V × V) → Hp → Prop} {γ δ : Type} {R : RelT γ δ} {Q0 : δ → Hp → Prop} {g : List Dat → DS → Res γ}, xs.length = fs.length → Fit A ts σ → Liv A F H (fm ts ++ tmp) →
    Post A W R σ F Q0 (bnd (eVals fs) g (erT ts)) → (∀ l vs F1 H1 ts1, Same F F1 → Fit A ts1 σ → Liv A F1 H1 (fm ts1 ++ tmp) → RepL A.G F1 l vs → l.length = xs.length → Post A W R σ F1 Q0 (g l (erT ts1)) → Q ((xs.map V.str).zip vs) H1) →
    tPairs (trsOf G js W xs fs) σ H Q
  | [], [], σ, F, H, ts, Q, γ, δ, R, Q0, g, _, ft, L, q, k => k [] [] F H ts (Same.refl _) ft L rfl rfl q
  | x :: xs, f :: fs, σ, F, H, ts, Q, γ, δ, R, Q0, g, hl, ft, L, q, k => by
    show tC (.str x) σ H fun x' H1 => tAny G js W f σ H1 fun y H2 => tPairs (trsOf G js W xs fs) σ H2 fun ps H3 => Q ((x', y) :: ps) H3
    refine ⟨A.sub F H ts, hG, hj, F, ts, ft.sub, L.sub, ?_⟩
    have q : Post A W R σ F Q0 (bnd f (fun s => bnd (bnd (eVals fs) fun l ds => .ok (s.dat :: l) ds) g) (erT ts)) := by
      have e : bnd (eVals (f :: fs)) g (erT ts) = bnd f (fun s => bnd (bnd (eVals fs) fun l ds => .ok (s.dat :: l) ds) g) (erT ts) := by
        simp only [eVals, bnd]
        cases f (erT ts) <;> rfl
      rw [← e]; exact q
    unfold bnd at q
    cases e0 : f (erT ts) with
    | stuck => rw [e0] at q; exact q.elim
    | exc z ds =>
      rw [e0] at q
      exact fun F1 H1 ts1 c d e1 f1 e2 L1 r => q F1 H1 ts1 c d e1 f1.unsub e2 (by
        have L3 := L.unsub L1
        have drop : ∀ l : List T, Liv A F1 H1 (l ++ fm ts1) → Liv A F1 H1 (fm ts1) := fun l => by
          induction l with
          | nil => exact id
          | cons a l ih => exact fun h => ih h.drop1
        exact drop tmp (L3.perm List.perm_append_comm)) r
    | ok s ds =>
      rw [e0] at q
      intro F1 H1 ts1 v e1 f1 e2 L1 r
      subst e2
      obtain ⟨t, rfl, rfl, L2⟩ := r
      have L3 : Liv A F1 H1 ((t :: fm ts1) ++ tmp) := L.unsub L2
      obtain ⟨F2, e3, L4⟩ := Liv.freeze (show Liv A F1 H1 (t :: (fm ts1 ++ tmp)) from L3)
      have q2 : Post A W R σ F Q0 (bnd (eVals fs) (fun l ds => g (t.er.dat :: l) ds) (erT ts1)) := by
        have e : bnd (bnd (eVals fs) fun l ds => .ok (t.er.dat :: l) ds) g (erT ts1) = bnd (eVals fs) (fun l ds => g (t.er.dat :: l) ds) (erT ts1) := by
          simp only [bnd]
          cases eVals fs (erT ts1) <;> rfl
        rw [← e]; exact q
      refine disp_go (tmp := tmp) hG hj (by simpa using hl) f1.unsub L4.drop1 ((q2.mono e1 fun _ _ z => z).mono e3 fun _ _ z => z) fun l vs F5 H5 ts5 e5 f5 L5 r5 hl5 q5 => ?_
      exact k (t.er.dat :: l) (t.v :: vs) F5 H5 ts5 ((e1.trans e3).trans e5) f5 L5 ⟨_, _, rfl, L4.rep.mono e5, r5⟩ (by simp [hl5]) q5
theorem mergeK_nodup : ∀ {more : List (Key × V)} {kvs : List (Key × V)}, ((kvs ++ more).map (·.1)).Nodup → mergeK kvs more = kvs ++ more
  | [], kvs, _ => by simp [mergeK]
  | m :: more, kvs, h => by
    have hk : valV kvs m.1 = none := by
      cases q : valV kvs m.1 with
      | none => rfl
      | some v =>
        exfalso
        unfold valV at q
        cases q2 : kvs.find? (fun kv => decide (kv.1 = m.1)) with
        | none => rw [q2] at q; cases q
        | some z =>
          have h1 := List.mem_of_find?_eq_some q2
          have h2 : z.1 = m.1 := by simpa using List.find?_some q2
          rw [List.map_append, List.nodup_append] at h
          exact h.2.2 z.1 (List.mem_map.mpr ⟨z, h1, rfl⟩) m.1 (by simp) h2
    show mergeK (putK kvs m.1 m.2) more = kvs ++ m :: more
    rw [putK_new m.2 hk, mergeK_nodup (by simpa using h)]
    simp
theorem zipK : ∀ (xs : List Str) (vs : List V), (xs.map V.str).zip vs = ((xs.map (Sum.inr : Str → Key)).zip vs).map (fun kv => (kV kv.1, kv.2))
  | [], _ => rfl
  | _ :: _, [] => rfl
  | x :: xs, v :: vs => by
    simp only [List.map_cons, List.zip_cons_cons, zipK xs vs]
    rfl
theorem inr_nodup {xs : List Str} (h : xs.Nodup) : (xs.map (Sum.inr : Str → Key)).Nodup := by
  refine List.Pairwise.map _ ?_ h
  intro a b hab hc
  exact hab (Sum.inr.inj hc)
theorem ej_disp {pos : Pos} {keys : List (Option Expr)} {values : List Expr} {xs : List Str} {fs : List (DS → Res S)} (h : DispJ G js X W keys values xs fs) (h0 : keys ≠ []) (h15 : keys.length ≤ 15) (hnd : xs.Nodup) : EJ G js X W (.Dict keys values pos) (eDisp xs fs) := fun A hG hj => by
  obtain ⟨l1, l2, l3, l4⟩ := h.len
  refine pe_imp (pe_disp h.pps l4 l2 h0 h15) fun σ H Q q => ?_
  obtain ⟨F, ts, ft, L, q⟩ := q
  intro p hp
  have L2 : Liv A F (upd H p (.dK [])) (.dk p [] [] [] :: fm ts) := L.make1 hp rfl ⟨upd_same, rfl, rfl⟩
  refine disp_go (tmp := [.dk p [] [] []]) hG hj l1 ft (L2.perm (List.perm_append_comm (l₁ := [_]))) q fun l vs F1 H1 ts1 e1 f1 L1 r hl q => ?_
  have L3 : Liv A F1 H1 (.dk p [] [] [] :: fm ts1) := L1.perm (List.perm_append_comm (l₂ := [_]))
  obtain ⟨h1, _, _⟩ := L3.ok _ List.mem_cons_self
  have hv : vs.length = xs.length := r.len ▸ hl
  refine ⟨h1, (xs.map Sum.inr).zip vs, zipK xs vs, ?_, ?_⟩
  · rw [List.length_zip, List.length_map, hv]
    omega
  · have hm : mergeK [] ((xs.map (Sum.inr : Str → Key)).zip vs) = (xs.map Sum.inr).zip vs := by
      refine mergeK_nodup ?_
      rw [List.nil_append, List.map_fst_zip (by rw [List.length_map, hv]; exact Nat.le_refl _)]
      exact inr_nodup hnd
    rw [hm]
    have L4 : Liv A F1 (upd H1 p (.dK ((xs.map Sum.inr).zip vs))) (.dk p (xs.map Sum.inr) vs l :: fm ts1) := L3.write rfl (fun b o hn e => by
      rw [upd_ne (fun e2 => hn (by simp [T.fp, e2]))]
      exact e) ⟨upd_same, by rw [List.length_map, hv], r⟩
    exact q F1 _ ts1 (.ref p) (Same.refl _) f1 rfl L4.drop1 ⟨_, rfl, rfl, L4⟩
end
end Dl
/-! sorted(set(..)) of a list of ints -/
namespace Dl
open PySem PySem.Spec
open PyProof.Rows L2
section
variable {prg : Program} {wd : World} {ar : Around} {Er : Value → Shared → Prop} {st : Shared}
/-- an empty set, new -/
abbrev eob (wd : World) : Obj := { cls := .type "set", dict := none, data := .set #[] 0 (.fresh 0 0 (!wd.params.followText "set-order")) }
set_option maxHeartbeats 3200000 in
theorem set_of_list {l : Addr} {its : Array Value} (ns : List Int) {Q : Value → Shared → Prop} (hh : ar.handled = none) (hl : st.heap.IsList l its) (hi : IntsAre its.toList ns) (hb : ns.length + 1 < scanBound)
    (k : ∀ (h' : Heap) (tk c : Nat), SetR wd h' st.heap.objs.size (fun j => decide (j ∈ ns)) c → c ≤ ns.length → (∀ b o, st.heap.get? b = some o → h'.get? b = some o) → Q (.ref st.heap.objs.size) { st with heap := h', toks := tk }) :
    wpAny (model prg wd) ar (call (.type "set") [.ref l]) Q Er st := by
  have hsz : its.size = ns.length := by
    have := IntsAre.length hi
    simpa using this
  have h1 := F.called_set.notType
  have h2 := F.called_set.canCreate
  have h3 := F.typeCall_set_1 (.ref l)
  have h4 := F.called_set.made
  have h5 := F.called_set.sub
  obtain ⟨_, _, h6⟩ := F.called_set.mro
  refine wpAny_call (codeAny_of_tree ?_)
  refine wpAny_pure (a := _) ⟨Code.quiet_builtin _ (by decide +kernel), ?_⟩
  refine codeAny_builtin F.entry_type_call ?_
  rw [Around.under_plain (weight_type_call_type _ [.ref l] []) rfl]
  repeat (any_goals (first | assumption | wp_step))
  refine codeAny_mono (code_set_led1 (w := wd) (.ref l) (E := Er) (Q₁ := fun x s1 => x = .ref st.heap.objs.size ∧ s1 = { st with heap := st.heap.push (eob wd) }) ⟨rfl, rfl⟩) ?_
  intro r s1 hr
  match r, hr with
  | .error _, hr => exact hr
  | .ok (.ret x), hr =>
    obtain ⟨rfl, rfl⟩ := hr
    have g0 : (st.heap.push (eob wd)).get? st.heap.objs.size = some (eob wd) := Heap.get?_push_size _ rfl
    have g1 : Shared.TypeIs { st with heap := st.heap.push (eob wd) } (.ref st.heap.objs.size) "set" := ⟨_, g0, rfl⟩
    have g2 := F.called_set.init.lookup
    have g3 := F.called_set.init.bind (.ref st.heap.objs.size)
    repeat (any_goals (first | assumption | wp_step))
    refine codeAny_mono (codeAny_call_builtin (R := wants (fun y s2 => y = .none ∧ ∃ h' tk c, s2 = { st with heap := h', toks := tk } ∧ SetR wd h' st.heap.objs.size (fun j => decide (j ∈ ns)) c ∧ c ≤ ns.length ∧
      (∀ b o, st.heap.get? b = some o → h'.get? b = some o)) Er) F.called_set.init.plain F.entry_set_init (check_set_init_1 g1 ?_)) ?_
    · obtain ⟨⟨oc, od, odt, osl⟩, ho, hc, n, hd⟩ := hl
      simp only at hc hd
      subst hc
      subst hd
      have f1 := F.sub_list_set
      have f2 := F.sub_list_frozenset
      have f3 : (Value.type "list" == Value.type "dict") = false := by decide
      have f0 : (st.heap.push (eob wd)).get? l = some { cls := .type "list", dict := od, data := .seq its n, slots := osl } := Heap.get?_push_of_some _ ho
      have f4 : (st.heap.push (eob wd)).IsList l its := ⟨_, f0, rfl, n, rfl⟩
      unfold Builtin.«set.__init__» noKeywords Builtin.Frozenset.updateFrom
      generalize e : pyIter = ip
      wp_walk
      subst e
      refine wpAny_pyIter_list f4 ?_
      refine wpAny_bind (wpAny_runValue ?_)
      have lt : l < st.heap.objs.size := Heap.lt_size ho
      have z1 : (st.heap.push (eob wd)).objs.size = st.heap.objs.size + 1 := Heap.size_push ..
      have hq : ar.in1.in1.in1.handled = none := by simp [hh]
      have n1 : l ≠ (st.heap.push (eob wd)).objs.size := by rw [z1]; exact Nat.ne_of_lt (Nat.lt_succ_of_lt lt)
      refine set_update_ints ((Walks.list hq _ l n1 its).toS) st.heap.objs.size (by simp only [z1, List.mem_cons, List.not_mem_nil, or_false, not_or]; exact ⟨Nat.ne_of_lt (Nat.lt_succ_self _), Nat.ne_of_gt lt⟩) ns hsz hb ?_ its.size 0 _ (Nat.sub_zero _) (Nat.zero_le _) ⟨⟨_, Heap.get?_push_size _ rfl, rfl, rfl⟩, f4.push _⟩ ⟨0, Nat.le_refl 0, setR_new_at (Heap.get?_push_of_some _ g0)⟩ ?_
      · intro i v hv
        have lt : i < ns.length := by rw [← hsz]; exact (Array.getElem?_eq_some_iff.mp hv).1
        obtain ⟨t, e⟩ := PyProof.Rows.IntsAre.int_at hi i v (by simpa using hv)
        refine ⟨ns[i], t, List.getElem?_eq_getElem lt, ?_⟩
        rw [e, List.getD_eq_getElem?_getD, List.getElem?_eq_getElem lt] <;> rfl
      · rintro ⟨h', gs, dr, tk, os⟩ c hm hc hS
        obtain rfl : gs = st.gens := hm.gens
        obtain rfl : dr = st.drawn := hm.drawn
        obtain rfl : os = st.os := hm.os
        show wpAny _ _ _ _ _ _
        refine wpAny_pure ?_
        show wpAny _ _ (ret Value.none) _ _ _
        refine wpAny_pure ⟨rfl, h', tk, c, rfl, hS, hsz ▸ hc, fun b o e => ?_⟩
        have lb := Heap.lt_size e
        refine hm.heap b o ?_ (Heap.get?_push_of_some _ (Heap.get?_push_of_some _ e))
        simp only [z1, List.mem_cons, List.not_mem_nil, or_false, not_or]
        exact ⟨Nat.ne_of_lt lb, Nat.ne_of_lt (Nat.lt_succ_of_lt lb)⟩
    · intro r2 s2 hr2
      match r2, hr2 with
      | .error _, hr2 => exact hr2
      | .ok (.ret _), hr2 =>
        obtain ⟨rfl, h', tk, c, rfl, hS, hc, hk⟩ := hr2
        repeat (any_goals (first | assumption | wp_step))
        exact k _ _ _ hS hc hk
end
end Dl
/-! sorted(set(..)): the rule -/
namespace Dl
open PySem PySem.Spec
open PyProof.Rows L2
/-- into a rising list -/
def ins1 (x : Int) : List Int → List Int
  | [] => [x]
  | y :: l => if x < y then x :: y :: l else if x = y then y :: l else y :: ins1 x l
/-- the members, rising -/
def sset (ns : List Int) : List Int := ns.foldr ins1 []
theorem mem_ins1 {x z : Int} : ∀ {l : List Int}, z ∈ ins1 x l ↔ z = x ∨ z ∈ l
  | [] => by simp [ins1]
  | y :: l => by
    unfold ins1
    split
    · simp
    · split
      · rename_i h; subst h; simp
      · rw [List.mem_cons, mem_ins1 (l := l), List.mem_cons]
        constructor
        · rintro (h | h | h) <;> simp [h]
        · rintro (h | h | h) <;> simp [h]
theorem ins1_up {x : Int} : ∀ {l : List Int}, l.Pairwise (· < ·) → (ins1 x l).Pairwise (· < ·)
  | [], _ => by simp [ins1]
  | y :: l, h => by
    obtain ⟨h1, h2⟩ := List.pairwise_cons.mp h
    unfold ins1
    split
    · rename_i q
      exact List.pairwise_cons.mpr ⟨fun z hz => (List.mem_cons.mp hz).elim (fun e => e ▸ q) fun hz => Int.lt_trans q (h1 z hz), h⟩
    · split
      · exact h
      · refine List.pairwise_cons.mpr ⟨fun z hz => ?_, ins1_up h2⟩
        rcases mem_ins1.mp hz with e | e
        · omega
        · exact h1 z e
theorem mem_sset {z : Int} : ∀ {l : List Int}, z ∈ sset l ↔ z ∈ l
  | [] => by simp [sset]
  | x :: l => by
    show z ∈ ins1 x (sset l) ↔ _
    rw [mem_ins1, mem_sset (l := l), List.mem_cons]
theorem sset_up : ∀ {l : List Int}, (sset l).Pairwise (· < ·)
  | [] => List.Pairwise.nil
  | x :: l => ins1_up (sset_up (l := l))
theorem up_uniq : ∀ {l m : List Int}, l.Pairwise (· < ·) → m.Pairwise (· < ·) → (∀ z, z ∈ l ↔ z ∈ m) → l = m
  | [], [], _, _, _ => rfl
  | [], y :: m, _, _, h => absurd ((h y).mpr List.mem_cons_self) (by simp)
  | x :: l, [], _, _, h => absurd ((h x).mp List.mem_cons_self) (by simp)
  | x :: l, y :: m, hl, hm, h => by
    obtain ⟨a1, a2⟩ := List.pairwise_cons.mp hl
    obtain ⟨b1, b2⟩ := List.pairwise_cons.mp hm
    have e : x = y := by
      rcases List.mem_cons.mp ((h x).mp List.mem_cons_self) with e | e
      · exact e
      · rcases List.mem_cons.mp ((h y).mpr List.mem_cons_self) with e2 | e2
        · exact e2.symm
        · have := b1 x e; have := a1 y e2; omega
    subst e
    rw [up_uniq a2 b2 fun z => ⟨fun hz => ?_, fun hz => ?_⟩]
    · rcases List.mem_cons.mp ((h z).mp (List.mem_cons_of_mem _ hz)) with e | e
      · have := a1 z hz; omega
      · exact e
    · rcases List.mem_cons.mp ((h z).mpr (List.mem_cons_of_mem _ hz)) with e | e
      · have := b1 z hz; omega
      · exact e
def gSortSet : Dat → Option S
  | .lst xs => (match intsOf xs with | some ns => if ns.length < 4000 ∧ (sset ns).length < 64 then some (.lst ((sset ns).map .int)) else none | none => none)
  | _ => none
def rSetL (K : PySem.W.Frag) (w : World) : List V → Hp → VK → Prop := fun vs H Q => ∃ (l : Addr) (ns : List Int), vs = [V.ref l] ∧ SqL K H l (ns.map V.int) ∧ ns.length < 4000 ∧
  ∀ a c, H a = none → c = (sset ns).length → Q (.ref a) (upd H a (SetO w a (fun j => decide (j ∈ ns)) c))
theorem setR_count {w : World} {h : Heap} {a : Addr} {ns : List Int} {c : Nat} (R : SetR w h a (fun j => decide (j ∈ ns)) c) : c = (sset ns).length := by
  obtain ⟨o, es, ep, t, _, _, _, _, nd, hm, _, _, hn, _⟩ := R
  have nd2 : (sset ns).Nodup := (sset_up (l := ns)).imp fun {x y} q => Int.ne_of_lt q
  have p := (List.perm_ext_iff_of_nodup nd nd2).mpr fun k => by rw [← hm k, mem_sset]; simp
  rw [← p.length_eq, List.length_map, Array.length_toList, hn]
theorem cr_setL {X : Cx} (hc : X.calm = true) : CallR X (.type "set") (rSetL X.K X.w) := by
  intro pins s σ H vs us Q I r h
  obtain ⟨l, ns, rfl, hs, h64, q⟩ := h
  rw [Vals.ref1 r]
  obtain ⟨its, rv, pl, hz⟩ := I.list hs
  refine set_of_list ns (I.ok.hd hc) pl.isList (by simpa using rv.ints) (Nat.lt_of_lt_of_le (Nat.succ_lt_succ h64) (by decide)) fun h' tk c R hc' k => ?_
  exact ⟨.ref s.heap.objs.size, _, I.laid (t' := tk) k (Nat.le_refl _) (setO_new R), rfl, q _ _ (I.hok.fresh (Nat.le_refl _)) (setR_count R)⟩
section
variable {G : Gd} {js : List Nat} {X : Cx} {W : WX}
theorem vr_sortSet {K : PySem.W.Frag} {w : World} : VR1 G (fun x H Q => rSetL K w [x] H fun v H2 => rSortedSet w [v] H2 Q) gSortSet := fun A F H tl x a s Q hG L r e k => by
  unfold gSortSet at e
  split at e
  · rename_i xs
    split at e
    · rename_i ns hn
      split at e
      · rename_i h64
        cases e
        obtain rfl := intsOf_eq hn
        obtain ⟨p, vs, rfl, q1, q2⟩ := r.lst L.fh
        obtain rfl := q2.ints
        refine ⟨p, ns, rfl, .inl (.inl q1), h64.1, fun b c hb hc => ⟨b, _, c, rfl, upd_same, hc ▸ h64.2, fun ns' l h1 h2 h3 hl => ?_⟩⟩
        have L2 := L.heap (H' := upd H b (SetO w b (fun j => decide (j ∈ ns)) c)) (fun a u e => by rw [upd_ne (ne_of_none e hb)]; exact e)
        have e : ns' = sset ns := up_uniq h1 sset_up fun z => by rw [h2, mem_sset]; simp
        subst e
        exact k F _ (.lst l _ ((sset ns).map Dat.int)) (Same.refl _) (L2.newL hl RepL.of_ints) rfl
      · cases e
    · cases e
  · cases e
theorem ej_sortSet {p p2 pos pos2 : Pos} {e : Expr} {f : DS → Res Op} (hc : X.calm = true) (hg : Gl X "sorted") (hm : X.mg "sorted" = none) (hg2 : Gl X "set") (hm2 : X.mg "set" = none) (h : OJ G js X W e f) (na : starEach [e] X.env = (false, eval e X.env) :: starEach [] X.env := by rfl)
    (nb : starEach [.Call (.Name "set" p2) [e] [] pos2] X.env = (false, eval (.Call (.Name "set" p2) [e] [] pos2) X.env) :: starEach [] X.env := by rfl) :
    EJ G js X W (.Call (.Name "sorted" p) [.Call (.Name "set" p2) [e] [] pos2] [] pos) (eOp1 gSortSet f) := fun A hG hj => by
  refine pe_imp (pe_callB (cr_sortedSet hc) hg hm rfl (pa_cons (pe_callTy (cr_setL hc) hg2 hm2 rfl (pa_cons (h A hG hj) pa_nil na) (he := na)) pa_nil nb) (he := nb)) fun σ H Q q => ?_
  obtain ⟨F, ts, ft, L, q⟩ := q
  refine post_bind ft L q fun o F1 H1 ts1 x e1 f1 L1 r q => ?_
  exact lift1_go vr_sortSet hG f1 L1 r q
end
end Dl
/-! D11: what stands still from now on; objects that are kept apart. -/
namespace Dl
open PySem PySem.Spec
open PyProof.Rows L2

/-! ### what stands still from now on -/
def frzD (i : Nat) (ds : DS) : DS := match ds[i]? with | some (some s) => ds.set i (some (.val s.dat)) | _ => ds
def sFrz (i : Nat) (f : DS → RSt) : DS → RSt := fun ds => match f ds with | .nx ds' => .nx (frzD i ds') | r => r
section
variable {A : Act} {W : WX} {σ : L2.St} {F F' H H' : Hp} {ts ts' : Ts}
theorem frz_go (i : Nat) (ft : Fit A ts σ) (L : Liv A F H (fm ts)) : ∃ F' ts', Same F F' ∧ Fit A ts' σ ∧ Liv A F' H (fm ts') ∧ erT ts' = frzD i (erT ts) := by
  unfold frzD
  split
  · rename_i s hs
    obtain ⟨t, ht, rfl⟩ := of_erT hs
    obtain ⟨F2, e2, L2⟩ := (L.perm (fm_get ht)).freeze
    refine ⟨F2, ts.set i (some (.val t.v t.er.dat)), e2, ft.set ht rfl, L2.perm (fm_set _ (List.getElem?_eq_some_iff.mp ht).1).symm, erT_set _ _ _⟩
  · exact ⟨F, ts, Same.refl _, ft, L, rfl⟩
end
theorem sj_frz {G : Gd} {js : List Nat} {X : Cx} {W : WX} {st : Stmt} {f : DS → RSt} {i : Nat} (h : SJ G js X W st f) : SJ G js X W st (sFrz i f) := fun A hG hj => by
  refine ps_imp (h A hG hj) fun D σ H q => ?_
  obtain ⟨F, ts, ft, L, q⟩ := q
  refine ⟨F, ts, ft, L, ?_⟩
  unfold sFrz at q
  cases e : f (erT ts) with
  | nx ds =>
    rw [e] at q
    intro F1 H1 ts1 σ1 e1 f1 e2 L1
    obtain ⟨F2, ts2, e3, f2, L2, e4⟩ := frz_go i f1 L1
    exact q F2 H1 ts2 σ1 (e1.trans e3) f2 (by rw [e4, e2]) L2
  | rt a ds => rw [e] at q; exact q
  | bk ds => rw [e] at q; exact q
  | ct ds => rw [e] at q; exact q
  | exc x ds => rw [e] at q; exact q
  | stuck => rw [e] at q; exact q

/-! ### objects kept apart: no live thing knows them -/
def Gho (A : Act) (F H : Hp) (own : List T) (D : List (Addr × HO)) : Prop := ∀ p ∈ D, H p.1 = some p.2 ∧ F p.1 = none ∧ p.1 ∉ fps own ∧ A.H0 p.1 = none
section
variable {A : Act} {W : WX} {σ : L2.St} {F F' H H' : Hp} {ts ts' : Ts} {ow ow' : List T} {D D' : List (Addr × HO)}
theorem Gho.mem (g : Gho A F H ow D) (h : ∀ p ∈ D', p ∈ D) : Gho A F H ow D' := fun p hp => g p (h p hp)
theorem Gho.less (g : Gho A F H ow D) (h : ∀ a ∈ fps ow', a ∈ fps ow) : Gho A F H ow' D := fun p hp => by
  obtain ⟨h1, h2, h3, h4⟩ := g p hp
  exact ⟨h1, h2, fun z => h3 (h _ z), h4⟩
/-- a run of its own leaves them alone -/
theorem Gho.run {new : List T} (g : Gho A F H (fm ts) D) (N : Liv (A.sub F H ts) F' H' new) : Gho A F' H' new D := fun p hp => by
  obtain ⟨h1, h2, h3, h4⟩ := g p hp
  refine ⟨N.keep _ _ h1 h3, ?_, fun hm => ?_, h4⟩
  · cases q : F' p.1 with
    | none => rfl
    | some o =>
      rcases N.new p.1 (by rw [q]; exact fun z => nomatch z) with z | z | z
      · exact absurd h2 z
      · exact absurd h1 (by rw [show H p.1 = none from z]; exact fun z => nomatch z)
      · exact absurd z h3
  · rcases (N.fr _ hm).2 with z | z
    · exact absurd h1 (by rw [show H p.1 = none from z]; exact fun z => nomatch z)
    · exact absurd z h3
/-- a new object, kept apart -/
theorem Liv.apart {p : Addr} {o : HO} (L : Liv A F H (fm ts)) (hP : A.P0 = []) (g : Gho A F H (fm ts) D) (hp : H p = none) : Liv A F (upd H p o) (fm ts) ∧ Gho A F (upd H p o) (fm ts) ((p, o) :: D) := by
  have k : ∀ a u, H a = some u → upd H p o a = some u := fun a u e => by rw [upd_ne (ne_of_none e hp)]; exact e
  refine ⟨L.heap k, fun q hq => ?_⟩
  rcases List.mem_cons.mp hq with rfl | hq
  · refine ⟨upd_same, L.freshF hp, L.fpne hp, ?_⟩
    rcases L.fresh0 hp with z | z
    · exact z
    · rw [hP] at z; cases z
  · obtain ⟨h1, h2, h3, h4⟩ := g q hq
    exact ⟨k _ _ h1, h2, h3, h4⟩
/-- an own list is put apart -/
theorem Liv.setApart {a : Addr} {vs : List V} {xs : List Dat} (L : Liv A F H (.lst a vs xs :: fm ts)) (hP : A.P0 = []) (g : Gho A F H (.lst a vs xs :: fm ts) D) : Liv A F H (fm ts) ∧ Gho A F H (fm ts) ((a, .lst vs) :: D) := by
  refine ⟨L.drop1, fun q hq => ?_⟩
  rcases List.mem_cons.mp hq with rfl | hq
  · obtain ⟨h1, _⟩ := L.ok _ List.mem_cons_self
    obtain ⟨h2, h3⟩ := L.fr a (by simp [fps, T.fp])
    refine ⟨h1, h2, fun hm => ?_, ?_⟩
    · have nd := L.nd
      rw [show fps (T.lst a vs xs :: fm ts) = a :: fps (fm ts) from rfl, List.nodup_cons] at nd
      exact nd.1 hm
    · rcases h3 with z | z
      · exact z
      · rw [hP] at z; cases z
  · exact (g.less fun b hb => by rw [show fps (T.lst a vs xs :: fm ts) = a :: fps (fm ts) from rfl]; exact List.mem_cons_of_mem _ hb) q hq
end
/-- lists of numbers, each its own object -/
def eOwns : List (DS → Res S) → DS → Option (List (List Int) × DS)
  | [], ds => some ([], ds)
  | f :: fs, ds => match f ds with
    | .ok (.lst xs) ds' => (match intsOf xs with
      | some ns => (match eOwns fs ds' with | some (l, ds2) => some (ns :: l, ds2) | none => none)
      | none => none)
    | _ => none
inductive OwnJ (G : Gd) (js : List Nat) (X : Cx) (W : WX) : List Expr → List (DS → Res S) → Prop
  | nil : OwnJ G js X W [] []
  | cons {e : Expr} {es : List Expr} {f : DS → Res S} {fs : List (DS → Res S)} (h : EJ G js X W e f) (hs : starEach (e :: es) X.env = (false, eval e X.env) :: starEach es X.env) (r : OwnJ G js X W es fs) : OwnJ G js X W (e :: es) (f :: fs)
def tOwns (G : Gd) (js : List Nat) (W : WX) : List (DS → Res S) → TA
  | [] => tNil
  | f :: fs => tCons (tAny G js W f) (tOwns G js W fs)
theorem OwnJ.pa {G : Gd} {js : List Nat} {X : Cx} {W : WX} {es : List Expr} {fs : List (DS → Res S)} (h : OwnJ G js X W es fs) : PA X es (tOwns G js W fs) := by
  induction h with
  | nil => exact pa_nil
  | cons h hs r ih => exact pa_cons h.any ih hs
theorem owns_go {G : Gd} {js : List Nat} {W : WX} {A : Act} {σ : L2.St} (hG : A.G = G) (hj : A.js = js) (hP : A.P0 = []) : ∀ {fs : List (DS → Res S)} {F H : Hp} {ts : Ts} {D : List (Addr × HO)} {l : List (List Int)} {ds2 : DS} {Q : List V → Hp → Prop}, Fit A ts σ → Liv A F H (fm ts) → Gho A F H (fm ts) D → eOwns fs (erT ts) = some (l, ds2) →
    (∀ (as : List Addr) F' H' ts', Same F F' → Fit A ts' σ → erT ts' = ds2 → Liv A F' H' (fm ts') → Gho A F' H' (fm ts') (as.zip (l.map fun ns => HO.lst (ns.map V.int)) ++ D) → as.length = l.length → Q (as.map V.ref) H') → tOwns G js W fs σ H Q
  | [], F, H, ts, D, l, ds2, Q, ft, L, g, e, k => by
    cases e
    exact k [] F H ts (Same.refl _) ft rfl L g rfl
  | f :: fs, F, H, ts, D, l, ds2, Q, ft, L, g, e, k => by
    show tAny G js W f σ H fun x H1 => tOwns G js W fs σ H1 fun xs H2 => Q (x :: xs) H2
    refine ⟨A.sub F H ts, hG, hj, F, ts, ft.sub, (Liv.sub (tmp := []) (by rw [List.append_nil]; exact L)), ?_⟩
    unfold eOwns at e
    cases e0 : f (erT ts) with
    | stuck => rw [e0] at e; cases e
    | exc z ds => rw [e0] at e; cases e
    | ok s ds =>
      rw [e0] at e
      cases s with
      | lst xs =>
        simp only at e
        cases q1 : intsOf xs with
        | none => rw [q1] at e; cases e
        | some ns =>
          rw [q1] at e
          simp only at e
          cases q2 : eOwns fs ds with
          | none => rw [q2] at e; cases e
          | some p =>
            obtain ⟨l2, ds3⟩ := p
            rw [q2] at e
            cases e
            intro F1 H1 ts1 v e1 f1 e2 L1 r
            obtain ⟨t, h1, rfl, L2⟩ := r
            obtain ⟨a, vs, ys, rfl⟩ : ∃ a vs ys, t = T.lst a vs ys := by
              cases t <;> first | exact ⟨_, _, _, rfl⟩ | cases h1
            cases h1
            have hx := intsOf_eq q1
            have L3 : Liv A F1 H1 (.lst a vs xs :: fm ts1) := by
              have := Liv.unsub (tmp := []) (by rw [List.append_nil]; exact L) L2
              rwa [List.append_nil] at this
            have hv : vs = ns.map V.int := by
              obtain ⟨_, h5⟩ := L3.ok _ List.mem_cons_self
              rw [hx] at h5
              exact RepL.ints h5
            obtain ⟨L4, g4⟩ := L3.setApart hP (g.run L2)
            subst e2
            refine owns_go hG hj hP f1.unsub L4 g4 q2 fun as F5 H5 ts5 e5 f5 e6 L5 g5 hl => ?_
            refine k (a :: as) F5 H5 ts5 (e1.trans e5) f5 e6 L5 (g5.mem fun p hp => ?_) (by simp [hl])
            subst hv
            simp only [List.map_cons, List.zip_cons_cons, List.cons_append, List.mem_cons, List.mem_append] at hp ⊢
            rcases hp with h | h | h
            · exact .inr (.inl h)
            · exact .inl h
            · exact .inr (.inr h)
      | _ => cases e
end Dl
/-! D12: running the meaning, step by step. -/
namespace Dl
open PySem PySem.Spec
open PyProof.Rows L2
section
variable {ds ds1 ds2 ds3 ds4 : DS} {x y : Op} {a b : Dat} {s s1 s2 : S}
theorem eC_q {d : Dat} : eC d ds = .ok (.val d) ds := rfl
theorem oVar_q {i : Nat} {d : Dat} (h : ds[i]? = some (some (.val d))) : oVar i ds = .ok (.d d) ds := by unfold oVar; rw [h]
theorem oVar_l {i : Nat} {xs : List Dat} (h : ds[i]? = some (some (.lst xs))) : oVar i ds = .ok (.s i) ds := by unfold oVar; rw [h]
theorem oVar_k {i : Nat} {ks : List Key} {xs : List Dat} (h : ds[i]? = some (some (.dk ks xs))) : oVar i ds = .ok (.s i) ds := by unfold oVar; rw [h]
theorem oVar_t {i : Nat} {ks : List (List Key)} {xs : List Dat} (h : ds[i]? = some (some (.dt ks xs))) : oVar i ds = .ok (.s i) ds := by unfold oVar; rw [h]
theorem oVar_i {i c : Nat} {ns : List Str} {xs : List Dat} (h : ds[i]? = some (some (.ins c ns xs))) : oVar i ds = .ok (.s i) ds := by unfold oVar; rw [h]
theorem eVar_q {i : Nat} (h : ds[i]? = some (some s)) (h2 : ds.set i (some (.val s.dat)) = ds1) : eVar i ds = .ok (.val s.dat) ds1 := by unfold eVar; rw [h]; subst h2; rfl
theorem eMove_q {i : Nat} (h : ds[i]? = some (some s)) (h2 : ds.set i none = ds1) : eMove i ds = .ok s ds1 := by unfold eMove; rw [h]; subst h2; rfl
theorem oE_q {f : DS → Res S} (h : f ds = .ok s ds1) : oE f ds = .ok (.d s.dat) ds1 := by unfold oE; rw [bnd_ok h]
theorem eOp2_q {g : Dat → Dat → Option S} {fa fb : DS → Res Op} (h1 : fa ds = .ok x ds1) (h2 : fb ds1 = .ok y ds2) (h3 : view ds2 x = some a) (h4 : view ds2 y = some b) (h5 : g a b = some s) : eOp2 g fa fb ds = .ok s ds2 := by
  unfold eOp2; rw [bnd_ok h1, bnd_ok h2]; unfold lift2; rw [h3, h4]; dsimp only; rw [h5]
theorem eOp1_q {g : Dat → Option S} {fa : DS → Res Op} (h1 : fa ds = .ok x ds1) (h3 : view ds1 x = some a) (h5 : g a = some s) : eOp1 g fa ds = .ok s ds1 := by
  unfold eOp1; rw [bnd_ok h1]; unfold lift1; rw [h3]; dsimp only; rw [h5]
theorem oNil_q : oNil ds = .ok [] ds := rfl
theorem oCons_q {f : DS → Res Op} {g : DS → Res (List Op)} {l : List Op} (h1 : f ds = .ok x ds1) (h2 : g ds1 = .ok l ds2) : oCons f g ds = .ok (x :: l) ds2 := by unfold oCons; rw [bnd_ok h1, bnd_ok h2]
theorem eCB_q {g : List Dat → Option S} {fa : DS → Res (List Op)} {l : List Op} {as : List Dat} (h1 : fa ds = .ok l ds1) (h3 : views ds1 l = some as) (h5 : g as = some s) : eCB g fa ds = .ok s ds1 := by
  unfold eCB; rw [bnd_ok h1]; unfold liftL; rw [h3]; dsimp only; rw [h5]
theorem eLst_q {fa : DS → Res (List Op)} {l : List Op} {as : List Dat} (h1 : fa ds = .ok l ds1) (h3 : dats ds1 l = some as) (h5 : as.length ≤ 100000) : eLst fa ds = .ok (.lst as) ds1 := by
  unfold eLst; rw [bnd_ok h1, h3]; dsimp only; rw [if_pos h5]
theorem eTup_q {fa : DS → Res (List Op)} {l : List Op} {as : List Dat} (h1 : fa ds = .ok l ds1) (h3 : dats ds1 l = some as) (h5 : as.length ≤ 100000) : eTup fa ds = .ok (.val (.tup as)) ds1 := by
  unfold eTup; rw [bnd_ok h1, h3]; dsimp only; rw [if_pos h5]
theorem eCall_q {m : FS} {fa : DS → Res (List Op)} {l : List Op} {as as' : List S} (h1 : fa ds = .ok l ds1) (h2 : takeA l ds1 = some (as, ds2)) (h3 : m as = .ret s as') (h4 : backA l as' ds2 = ds3) : eCall m fa ds = .ok s ds3 := by
  unfold eCall; rw [bnd_ok h1, h2]; dsimp only; rw [h3]; subst h4; rfl
theorem eCall_x {m : FS} {fa : DS → Res (List Op)} {l : List Op} {as as' : List S} {z : Exn} (h1 : fa ds = .ok l ds1) (h2 : takeA l ds1 = some (as, ds2)) (h3 : m as = .exc z as') (h4 : backA l as' ds2 = ds3) : eCall m fa ds = .exc z ds3 := by
  unfold eCall; rw [bnd_ok h1, h2]; dsimp only; rw [h3]; subst h4; rfl
theorem bnd_q {α β : Type} {f : DS → Res α} {g : α → DS → Res β} {r : Res β} {z : α} (h1 : f ds = .ok z ds1) (h2 : g z ds1 = r) : bnd f g ds = r := by rw [bnd_ok h1, h2]
theorem eIf_q {t : DS → Res Bool} {f g : DS → Res S} {c : Bool} {r : Res S} (h1 : t ds = .ok c ds1) (h2 : (if c = true then f ds1 else g ds1) = r) : eIf t f g ds = r := by unfold eIf; rw [bnd_ok h1, h2]
-- tests
theorem tVal_q {f : DS → Res S} {c : Bool} (h : f ds = .ok (.val (.bl c)) ds1) : tVal f ds = .ok c ds1 := by unfold tVal; rw [bnd_ok h]
theorem tTru_q {f : DS → Res Op} {c : Bool} (h : f ds = .ok x ds1) (h2 : (view ds1 x).bind truD = some c) : tTru f ds = .ok c ds1 := by
  unfold tTru; rw [bnd_ok h]
  obtain ⟨d, e1, e2⟩ := Option.bind_eq_some_iff.mp h2
  simp only [e1, e2]
theorem tNotF_q {f : DS → Res Bool} {c : Bool} (h : f ds = .ok c ds1) : tNotF f ds = .ok (!c) ds1 := by unfold tNotF; rw [bnd_ok h]
theorem tAndF_q {f g : DS → Res Bool} {c : Bool} {r : Res Bool} (h : f ds = .ok c ds1) (h2 : (if c = true then g ds1 else .ok false ds1) = r) : tAndF f g ds = r := by unfold tAndF; rw [bnd_ok h]; subst h2; cases c <;> rfl
theorem tOrF_q {f g : DS → Res Bool} {c : Bool} {r : Res Bool} (h : f ds = .ok c ds1) (h2 : (if c = true then .ok true ds1 else g ds1) = r) : tOrF f g ds = r := by unfold tOrF; rw [bnd_ok h]; subst h2; cases c <;> rfl
/-- both told, no matter what the first tells -/
theorem tAndF_b {f g : DS → Res Bool} {c e : Bool} (h : f ds = .ok c ds) (h2 : g ds = .ok e ds) : tAndF f g ds = .ok (c && e) ds := tAndF_q h (by cases c <;> simp [h2])
theorem tOrF_b {f g : DS → Res Bool} {c e : Bool} (h : f ds = .ok c ds) (h2 : g ds = .ok e ds) : tOrF f g ds = .ok (c || e) ds := tOrF_q h (by cases c <;> simp [h2])
-- statements
variable {r : RSt}
theorem sNext_q : sNext ds = .nx ds := rfl
theorem sSeq_q {f g : DS → RSt} (h1 : f ds = .nx ds1) (h2 : g ds1 = r) : sSeq f g ds = r := by unfold sSeq; rw [h1]; exact h2
theorem sSeq_rt {f g : DS → RSt} (h1 : f ds = .rt s ds1) : sSeq f g ds = .rt s ds1 := by unfold sSeq; rw [h1]
theorem sSeq_x {f g : DS → RSt} {z : Exn} (h1 : f ds = .exc z ds1) : sSeq f g ds = .exc z ds1 := by unfold sSeq; rw [h1]
theorem sSeq_ct {f g : DS → RSt} (h1 : f ds = .ct ds1) : sSeq f g ds = .ct ds1 := by unfold sSeq; rw [h1]
theorem sSeq_bk {f g : DS → RSt} (h1 : f ds = .bk ds1) : sSeq f g ds = .bk ds1 := by unfold sSeq; rw [h1]
theorem sSet_q {i : Nat} {f : DS → Res S} (h : f ds = .ok s ds1) (h2 : ds1.set i (some s) = ds2) : sSet i f ds = .nx ds2 := by unfold sSet thenS; rw [h]; subst h2; rfl
theorem sRet_q {f : DS → Res S} (h : f ds = .ok s ds1) : sRet f ds = .rt s ds1 := by unfold sRet thenS; rw [h]
theorem sDrop_q {f : DS → Res S} (h : f ds = .ok s ds1) : sDrop f ds = .nx ds1 := by unfold sDrop thenS; rw [h]
theorem sIf_q {t : DS → Res Bool} {f g : DS → RSt} {c : Bool} (h : t ds = .ok c ds1) (h2 : (if c = true then f ds1 else g ds1) = r) : sIf t f g ds = r := by unfold sIf thenS; rw [h]; exact h2
theorem sIf_t {t : DS → Res Bool} {f g : DS → RSt} {c : Bool} (h : t ds = .ok c ds1) (hc : c = true) (h2 : f ds1 = r) : sIf t f g ds = r := sIf_q h (by rw [if_pos hc]; exact h2)
theorem sIf_f {t : DS → Res Bool} {f g : DS → RSt} {c : Bool} (h : t ds = .ok c ds1) (hc : c = false) (h2 : g ds1 = r) : sIf t f g ds = r := sIf_q h (by rw [hc, if_neg Bool.false_ne_true]; exact h2)
theorem sFrz_q {i : Nat} {f : DS → RSt} (h : f ds = .nx ds1) (h2 : frzD i ds1 = ds2) : sFrz i f ds = .nx ds2 := by unfold sFrz; rw [h]; subst h2; rfl
theorem sAppend_q {i : Nat} {f : DS → Res S} {ys xs : List Dat} (h0 : ds[i]? = some (some (.lst ys))) (h : f ds = .ok s ds1) (h1 : ds1[i]? = some (some (.lst xs))) (hl : xs.length < 100000) (h2 : ds1.set i (some (.lst (xs ++ [s.dat]))) = ds2) : sAppend i f ds = .nx ds2 := by
  unfold sAppend; rw [h0]; dsimp only; unfold thenS; rw [h]; dsimp only; rw [h1]; dsimp only; rw [if_pos hl, h2]
/-! ### loops -/
theorem sFor_q {src : DS → Res (List Dat)} {asg : Asg} {body : DS → RSt} {xs : List Dat} (h : src ds = .ok xs ds1) (h2 : forD asg body xs ds1 = r) : sFor src asg body ds = r := by unfold sFor thenS; rw [h]; exact h2
theorem wSeq_l {f : DS → Res S} {xs : List Dat} (h : f ds = .ok s ds1) (h2 : s.dat = .lst xs) : wSeq f ds = .ok xs ds1 := by unfold wSeq; rw [bnd_ok h, h2]
theorem wSeq_t {f : DS → Res S} {xs : List Dat} (h : f ds = .ok s ds1) (h2 : s.dat = .tup xs) : wSeq f ds = .ok xs ds1 := by unfold wSeq; rw [bnd_ok h, h2]
theorem wRng1_q {f : DS → Res (List Op)} {l : List Op} {j : Int} (h : f ds = .ok l ds1) (h2 : views ds1 l = some [.int j]) (h3 : -(2 ^ 62) ≤ j ∧ j < 2 ^ 62) : wRng1 f ds = .ok (rng 0 j.toNat) ds1 := by
  unfold wRng1; rw [bnd_ok h, h2]; dsimp only
  rw [if_pos]
  unfold bdd
  rw [decide_eq_true h3.1, decide_eq_true h3.2] <;> rfl
theorem wRng2_q {f : DS → Res (List Op)} {l : List Op} {i j : Int} (h : f ds = .ok l ds1) (h2 : views ds1 l = some [.int i, .int j]) (h0 : -(2 ^ 62) ≤ i ∧ i < 2 ^ 62) (h3 : -(2 ^ 62) ≤ j ∧ j < 2 ^ 62) : wRng2 f ds = .ok (rng i (j - i).toNat) ds1 := by
  unfold wRng2; rw [bnd_ok h, h2]; dsimp only
  rw [if_pos]
  unfold bdd
  rw [decide_eq_true h3.1, decide_eq_true h3.2, decide_eq_true h0.1, decide_eq_true h0.2] <;> rfl
theorem forD_nil {asg : Asg} {body : DS → RSt} : forD asg body [] ds = .nx ds := rfl
theorem forD_nx {asg : Asg} {body : DS → RSt} {d : Dat} {l : List Dat} (h : asg d ds = some ds1) (h2 : body ds1 = .nx ds2 ∨ body ds1 = .ct ds2) (h3 : forD asg body l ds2 = r) : forD asg body (d :: l) ds = r := by
  unfold forD; rw [h]; dsimp only
  rcases h2 with h2 | h2 <;> rw [h2] <;> exact h3
theorem forD_rt {asg : Asg} {body : DS → RSt} {d : Dat} {l : List Dat} (h : asg d ds = some ds1) (h2 : body ds1 = .rt s ds2) : forD asg body (d :: l) ds = .rt s ds2 := by
  unfold forD; rw [h]; dsimp only; rw [h2]
theorem forD_bk {asg : Asg} {body : DS → RSt} {d : Dat} {l : List Dat} (h : asg d ds = some ds1) (h2 : body ds1 = .bk ds2) : forD asg body (d :: l) ds = .nx ds2 := by
  unfold forD; rw [h]; dsimp only; rw [h2]
/-- a loop, by an invariant over what is walked: I at the front part -/
theorem forD_inv {asg : Asg} {body : DS → RSt} (I : List Dat → DS → Prop) : ∀ {xs pre : List Dat} {ds : DS}, I pre ds → (∀ (p : List Dat) (d : Dat) (ds : DS), I p ds → (∃ q, pre ++ xs = p ++ d :: q) → ∃ ds1 ds2, asg d ds = some ds1 ∧ (body ds1 = .nx ds2 ∨ body ds1 = .ct ds2) ∧ I (p ++ [d]) ds2) →
    ∃ ds', forD asg body xs ds = .nx ds' ∧ I (pre ++ xs) ds'
  | [], pre, ds, h, _ => ⟨ds, rfl, by rw [List.append_nil]; exact h⟩
  | d :: xs, pre, ds, h, k => by
    obtain ⟨ds1, ds2, h1, h2, h3⟩ := k pre d ds h ⟨xs, rfl⟩
    obtain ⟨ds', h4, h5⟩ := forD_inv I (xs := xs) (pre := pre ++ [d]) (ds := ds2) h3 fun p d' ds hp hq => k p d' ds hp (by simpa using hq)
    exact ⟨ds', forD_nx h1 h2 h4, by simpa using h5⟩
/-- a comprehension over slots that stand, one own name -/
theorem compD_q {i : Nat} {tst : DS → Res Bool} {elt : DS → Res S} {p : Dat → Bool} {g : Dat → Dat} (hi : ds.set i none = ds) : ∀ {xs acc : List Dat},
    (∀ d ∈ xs, ∃ e1, tst (ds.set i (some (.val d))) = .ok (p d) e1 ∧ (p d = true → ∃ z e2, elt e1 = .ok z e2 ∧ z.dat = g d ∧ e2.set i none = ds) ∧ (p d = false → e1.set i none = ds)) → acc.length + xs.length ≤ 100000 →
    compD [i] (gjName i) tst elt xs acc ds = .ok (acc ++ (xs.filter p).map g) ds
  | [], acc, _, _ => by simp [compD]
  | d :: xs, acc, h, hl => by
    obtain ⟨e1, h1, h2, h3⟩ := h d List.mem_cons_self
    have hx := fun d' hd => h d' (List.mem_cons_of_mem _ hd)
    rw [List.length_cons] at hl
    unfold compD
    simp only [gjName]
    rw [h1]
    cases hp : p d with
    | true =>
      obtain ⟨z, e2, h4, h5, h6⟩ := h2 hp
      simp only [h4]
      rw [if_pos (by omega)]
      have hw : wipeD e2 [i] = ds := h6
      rw [hw, compD_q hi hx (by rw [List.length_append]; simp; omega), h5, List.filter_cons_of_pos hp]
      simp
    | false =>
      simp only
      have hw : wipeD e1 [i] = ds := h3 hp
      rw [hw, compD_q hi hx (by omega), List.filter_cons_of_neg (by rw [hp]; simp)]
/-- a comprehension by an invariant: what was walked, what was told, the slots -/
theorem compD_inv {own : List Nat} {asg : Asg} {tst : DS → Res Bool} {elt : DS → Res S} (I : List Dat → List Dat → DS → Prop) : ∀ {xs pre acc : List Dat} {ds : DS}, I pre acc ds → acc.length + xs.length ≤ 100000 →
    (∀ (p : List Dat) (d : Dat) (acc : List Dat) (ds : DS), I p acc ds → (∃ q, pre ++ xs = p ++ d :: q) → ∃ ds1 c e1, asg d ds = some ds1 ∧ tst ds1 = .ok c e1 ∧ (c = true → ∃ z e2, elt e1 = .ok z e2 ∧ I (p ++ [d]) (acc ++ [z.dat]) (wipeD e2 own)) ∧ (c = false → I (p ++ [d]) acc (wipeD e1 own))) →
    ∃ acc' ds', compD own asg tst elt xs acc ds = .ok acc' ds' ∧ I (pre ++ xs) acc' ds'
  | [], pre, acc, ds, h, _, _ => ⟨acc, ds, by simp [compD], by rw [List.append_nil]; exact h⟩
  | d :: xs, pre, acc, ds, h, hl, k => by
    rw [List.length_cons] at hl
    obtain ⟨ds1, c, e1, h1, h2, h3, h4⟩ := k pre d acc ds h ⟨xs, rfl⟩
    have k' : ∀ (p : List Dat) (d' : Dat) (acc : List Dat) (ds : DS), I p acc ds → (∃ q, (pre ++ [d]) ++ xs = p ++ d' :: q) → ∃ ds1 c e1, asg d' ds = some ds1 ∧ tst ds1 = .ok c e1 ∧ (c = true → ∃ z e2, elt e1 = .ok z e2 ∧ I (p ++ [d']) (acc ++ [z.dat]) (wipeD e2 own)) ∧ (c = false → I (p ++ [d']) acc (wipeD e1 own)) := fun p d' acc ds hI hq => k p d' acc ds hI (by simpa using hq)
    unfold compD
    rw [h1]
    dsimp only
    rw [h2]
    cases c with
    | true =>
      obtain ⟨z, e2, h5, h6⟩ := h3 rfl
      dsimp only
      rw [h5]
      dsimp only
      rw [if_pos (by omega)]
      obtain ⟨acc', ds', h7, h8⟩ := compD_inv I (xs := xs) (pre := pre ++ [d]) h6 (by rw [List.length_append]; simp; omega) k'
      exact ⟨acc', ds', h7, by simpa using h8⟩
    | false =>
      dsimp only
      obtain ⟨acc', ds', h7, h8⟩ := compD_inv I (xs := xs) (pre := pre ++ [d]) (h4 rfl) (by omega) k'
      exact ⟨acc', ds', h7, by simpa using h8⟩
theorem eLc_inv {own : List Nat} {src : DS → Res (List Dat)} {asg : Asg} {tst : DS → Res Bool} {elt : DS → Res S} {xs : List Dat} (I : List Dat → List Dat → DS → Prop) (h : src ds = .ok xs ds1) (h0 : I [] [] (wipeD ds1 own)) (hl : xs.length ≤ 100000)
    (k : ∀ (p : List Dat) (d : Dat) (acc : List Dat) (ds : DS), I p acc ds → (∃ q, xs = p ++ d :: q) → ∃ ds1 c e1, asg d ds = some ds1 ∧ tst ds1 = .ok c e1 ∧ (c = true → ∃ z e2, elt e1 = .ok z e2 ∧ I (p ++ [d]) (acc ++ [z.dat]) (wipeD e2 own)) ∧ (c = false → I (p ++ [d]) acc (wipeD e1 own))) :
    ∃ acc ds', eLc own src asg tst elt ds = .ok (.lst acc) ds' ∧ I xs acc ds' := by
  obtain ⟨acc, ds', h1, h2⟩ := compD_inv I (xs := xs) (pre := []) (acc := []) h0 (by simpa using hl) k
  refine ⟨acc, ds', ?_, h2⟩
  unfold eLc
  rw [bnd_ok h, h1]
  rfl
theorem eLc_q {i : Nat} {src : DS → Res (List Dat)} {tst : DS → Res Bool} {elt : DS → Res S} {xs : List Dat} (p : Dat → Bool) (g : Dat → Dat) (h : src ds = .ok xs ds1) (h0 : ds1.set i none = ds2) (hl : xs.length ≤ 100000)
    (hx : ∀ d ∈ xs, ∃ e1, tst (ds2.set i (some (.val d))) = .ok (p d) e1 ∧ (p d = true → ∃ z e2, elt e1 = .ok z e2 ∧ z.dat = g d ∧ e2.set i none = ds2) ∧ (p d = false → e1.set i none = ds2)) :
    eLc [i] src (gjName i) tst elt ds = .ok (.lst ((xs.filter p).map g)) ds2 := by
  unfold eLc
  rw [bnd_ok h]
  have hw : wipeD ds1 [i] = ds2 := h0
  have hi : ds2.set i none = ds2 := by rw [← h0, List.set_set]
  rw [hw, compD_q (p := p) (g := g) hi hx (by simpa using hl)]
  rfl
end
theorem runB_nx {n np : Nat} {js : List Nat} {body : DS → RSt} {as as' : List S} {ds : DS} (hl : as.length = np) (h : body (as.map some ++ List.replicate (n - np) none) = .nx ds) (h2 : outA js ds 0 as = some as') : runB n np js body as = .ret (.val .non) as' := by
  unfold runB; rw [if_pos hl, h]; dsimp only; rw [h2]
theorem runB_rt {n np : Nat} {js : List Nat} {body : DS → RSt} {as as' : List S} {ds : DS} {s : S} (hl : as.length = np) (h : body (as.map some ++ List.replicate (n - np) none) = .rt s ds) (h2 : outA js ds 0 as = some as') : runB n np js body as = .ret s as' := by
  unfold runB; rw [if_pos hl, h]; dsimp only; rw [h2]
theorem runB_x {n np : Nat} {js : List Nat} {body : DS → RSt} {as as' : List S} {ds : DS} {z : Exn} (hl : as.length = np) (h : body (as.map some ++ List.replicate (n - np) none) = .exc z ds) (h2 : outA js ds 0 as = some as') : runB n np js body as = .exc z as' := by
  unfold runB; rw [if_pos hl, h]; dsimp only; rw [h2]
theorem sPutK_q {ds ds1 ds2 ds3 : DS} {i : Nat} {fi fv : DS → Res S} {s k : S} {ks ks2 : List Key} {xs xs2 : List Dat} {j : Key} (h : fv ds = .ok s ds1) (h1 : ds1[i]? = some (some (.dk ks2 xs2))) (h2 : fi ds1 = .ok k ds2) (h3 : ds2[i]? = some (some (.dk ks xs))) (h4 : keyD k.dat = some j) (h5 : ks.length < 100000) (h6 : ds2.set i (some (.dk (putD ks xs j s.dat).1 (putD ks xs j s.dat).2)) = ds3) : sPutK i fi fv ds = .nx ds3 := by
  unfold sPutK thenS; rw [h]; dsimp only; rw [h1]; dsimp only; rw [h2]; dsimp only; rw [h3]; dsimp only; rw [h4]; dsimp only; rw [if_pos h5, h6]
/-! ### operators -/
theorem gMul_r {i j : Int} (h : j.natAbs < 2 ^ 64) : gMul (.int i) (.int j) = some (.val (.int (i * j))) := by
  show (if cMul i j = true then some (Dl.S.val (.int (i * j))) else none) = _
  rw [if_pos]
  unfold cMul
  rw [decide_eq_true h, Bool.or_true]
theorem gMul_l {i j : Int} (h : i.natAbs < 2 ^ 64) : gMul (.int i) (.int j) = some (.val (.int (i * j))) := by
  show (if cMul i j = true then some (Dl.S.val (.int (i * j))) else none) = _
  rw [if_pos]
  unfold cMul
  rw [decide_eq_true h, Bool.true_or]
theorem gDiv_q {i j : Int} (h : j ≠ 0) (h2 : j.natAbs < 1073741824) : gDiv (.int i) (.int j) = some (.val (.int (i.fdiv j))) := by
  show (if cDiv i j = true then some (Dl.S.val (.int (i.fdiv j))) else none) = _
  rw [if_pos]
  unfold cDiv
  rw [decide_eq_true h, decide_eq_true h2] <;> rfl
theorem gMod_q {i j : Int} (h : j ≠ 0) : gMod (.int i) (.int j) = some (.val (.int (i.fmod j))) := by
  show (if cMod i j = true then some (Dl.S.val (.int (i.fmod j))) else none) = _
  rw [if_pos]
  unfold cMod
  rw [decide_eq_true h]
theorem gEq_i {i j : Int} : gEq (.int i) (.int j) = some (.val (.bl (decide (i = j)))) := by
  have h : PyData.eqv (.int i) (.int j) = decide (i = j) := by
    by_cases e : i = j
    · subst e; simp [PyData.eqv]
    · simp [PyData.eqv, e]
  show (if (SeqAt.shaped (.int i) && SeqAt.shaped (.int j)) = true then some (Dl.S.val (.bl (PyData.eqv (.int i) (.int j)))) else none) = _
  rw [if_pos (by rfl), h]
theorem pdL_ints : ∀ {l : List Int}, pdL (l.map .int) = some (l.map .int)
  | [] => rfl
  | i :: l => by rw [List.map_cons, pdL, pdL_ints (l := l)] <;> rfl
theorem shaped_ints (l : List Int) : SeqAt.shaped (.list (l.map PyData.int)) = true := by
  have h1 : PyData.canLayAll0 (l.map PyData.int) = true := by
    induction l with
    | nil => rfl
    | cons i l ih => simp [PyData.canLayAll0, PyData.canLay0, ih]
  have h2 : PyData.depthAll (l.map PyData.int) = 0 := by
    clear h1
    induction l with
    | nil => rfl
    | cons i l ih => simp [PyData.depthAll, PyData.depth, ih]
  unfold SeqAt.shaped
  simp [PyData.canLay0, PyData.depth, h1, h2]
theorem gInB_i {neg : Bool} {i : Int} {l : List Int} : gInB neg (.int i) (.lst (l.map .int)) = some (.val (.bl (decide (i ∈ l) != neg))) := by
  unfold gInB
  dsimp only
  rw [show pd (.int i) = some (.int i) from rfl, pdL_ints]
  dsimp only
  rw [if_pos]
  · congr 4
    rw [List.any_map]
    induction l with
    | nil => rfl
    | cons j l ih =>
      rw [List.any_cons, ih]
      by_cases e : i = j
      · subst e; simp [PyData.eqv]
      · have : ¬ j = i := fun z => e z.symm
        simp [PyData.eqv, e, this]
  · rw [shaped_ints] <;> rfl
theorem gAdd_l {xs ys : List Dat} (h : xs.length + ys.length ≤ 100000) : gAdd (.lst xs) (.lst ys) = some (.lst (xs ++ ys)) := by
  show (if xs.length + ys.length ≤ 100000 then some (Dl.S.lst (xs ++ ys)) else none) = _
  rw [if_pos h]
theorem eSl_q {ds ds1 ds2 ds3 : DS} {x : Op} {d : Dat} {s : S} {fa : DS → Res Op} {fl fh : DS → Res (Option Int)} {lo hi : Option Int} (h1 : fa ds = .ok x ds1) (h2 : fl ds1 = .ok lo ds2) (h3 : fh ds2 = .ok hi ds3) (h4 : view ds3 x = some d) (h5 : gSl d lo hi = some s) : eSl fa fl fh ds = .ok s ds3 := by
  unfold eSl; rw [bnd_ok h1, bnd_ok h2, bnd_ok h3]; rw [h4]; dsimp only; rw [h5]
theorem eListR1_q {ds ds1 : DS} {f : DS → Res S} {n : Int} (h : f ds = .ok (.val (.int n)) ds1) (h1 : 0 ≤ n ∧ n ≤ 100000) : eListR1 f ds = .ok (.lst (rng 0 n.toNat)) ds1 := by
  unfold eListR1; rw [bnd_ok h]; unfold intS; dsimp only; rw [if_pos h1]
theorem eDisp_nil {ds : DS} : eVals [] ds = .ok [] ds := rfl
theorem eVals_cons {ds ds1 ds2 : DS} {f : DS → Res S} {fs : List (DS → Res S)} {s : S} {l : List Dat} (h1 : f ds = .ok s ds1) (h2 : eVals fs ds1 = .ok l ds2) : eVals (f :: fs) ds = .ok (s.dat :: l) ds2 := by
  unfold eVals; rw [bnd_ok h1, bnd_ok h2]
theorem eDisp_q {ds ds1 : DS} {ks : List Str} {fs : List (DS → Res S)} {l : List Dat} (h : eVals fs ds = .ok l ds1) : eDisp ks fs ds = .ok (.dk (ks.map .inr) l) ds1 := by
  unfold eDisp; rw [bnd_ok h]
end Dl
namespace La
open PySem PySem.Spec
open PyProof.Rows L2 Dl
def topS (i : Nat) : Stmt := PySem.Challenge.pw_steadyroom_k68_width_forms.main.body.getD i (.Pass ⟨0, 0, 0, 0⟩)
structure Bz (mg : Str → Option Value) : Prop where
  len : mg "len" = none
  range : mg "range" = none
  sorted : mg "sorted" = none
  list : mg "list" = none
  set_ : mg "set" = none
  min : mg "min" = none
  int : mg "int" = none
  abs : mg "abs" = none
  max : mg "max" = none
  isinstance : mg "isinstance" = none
  str : mg "str" = none
  bool : mg "bool" = none
  tuple : mg "tuple" = none
section
variable {P : Program} {w : World} {K : PySem.W.Frag} {mg : Str → Option Value} {base : Heap} {cl xc : Nat → Addr}
/-! ### row_widths -/
abbrev s_row_widths : Stmt := topS 1
theorem sc_row_widths : FnScope ["width", "first", "second", "found", "at", "end", "more"] ["width", "first", "second"] (defScope s_row_widths) := ⟨rfl, rfl, rfl, by decide +kernel, rfl, by decide +kernel, by decide +kernel⟩
def b_row_widths : DS → RSt :=
    sSeq (sSet 3 (eLst (oNil))) <|
    sSeq (sFor (wRng1 (oCons (oE (eCB gLen (oCons (oVar 1) (oNil)))) (oNil))) (gjName 4) (
      sSeq (sSet 5 (eOp2 gAdd (oVar 0) (oE (eC (.int 1))))) <|
      sSeq (sIf (tVal (eOp2 (gLt) (oE (eOp2 gAdd (oVar 4) (oE (eC (.int 1))))) (oE (eCB gLen (oCons (oVar 1) (oNil)))))) (
        sSet 5 (eOp2 gIx (oVar 1) (oE (eOp2 gAdd (oVar 4) (oE (eC (.int 1))))))) (
        sNext)) <|
      sFor (wSeq (eVar 2)) (gjName 6) (
        sIf (tVal (eOp2 (gLt) (oE (eOp2 gAdd (oE (eOp2 gIx (oVar 1) (oVar 4))) (oVar 6))) (oVar 5))) (
          sAppend 3 (eOp2 gAdd (oE (eOp2 gIx (oVar 1) (oVar 4))) (oVar 6))) (
          sNext)))) <|
    sRet (eMove 3)
def m_row_widths : FS := runB 7 3 [0, 1, 2] (b_row_widths )
theorem D_row_widths (t : TopF K mg "row_widths" "row_widths" s_row_widths) (Z : Bz mg) : DefOk P w K mg base ⟨K, cl, xc⟩ "row_widths" ["width", "first", "second"] 1 (m_row_widths) :=
  defOk (N := ["width", "first", "second", "found", "at", "end", "more"]) t sc_row_widths (by decide) (fun f cdv A outer s H E hr tk po =>
    bj_cons (sj_set sc_row_widths.nd rfl (by first | exact .inl rfl | exact .inr rfl) (by decide) (ej_lst (aj_nil))) <|
    bj_cons (sj_for po rfl (pj_range1 rfl Z.range (aj_cons (oj_of (ej_callB cr_len vl_len rfl Z.len (by decide +kernel) (aj_cons (oj_var (pv 1)) (aj_nil)))) (aj_nil))) (gj_name sc_row_widths.nd rfl (by first | exact .inl rfl | exact .inr rfl) (by decide)) (
      bj_cons (sj_set sc_row_widths.nd rfl (by first | exact .inl rfl | exact .inr rfl) (by decide) (ej_bin op_addD vr_add (oj_var (pv 0)) (oj_of (ej_int)))) <|
      bj_cons (sj_if (tj_cmp op_lt vr_lt (oj_of (ej_bin op_addD vr_add (oj_var (pv 4)) (oj_of (ej_int)))) (oj_of (ej_callB cr_len vl_len rfl Z.len (by decide +kernel) (aj_cons (oj_var (pv 1)) (aj_nil)))) (nomark _)) (
        bj_one (sj_set sc_row_widths.nd rfl (by first | exact .inl rfl | exact .inr rfl) (by decide) (ej_ix ix_seq vr_ix (oj_var (pv 1)) (oj_of (ej_bin op_addD vr_add (oj_var (pv 4)) (oj_of (ej_int))))))) (
        bj_nil)) <|
      bj_one (sj_for po rfl (pj_seq (ej_var (pv 2)) rfl) (gj_name sc_row_widths.nd rfl (by first | exact .inl rfl | exact .inr rfl) (by decide)) (
        bj_one (sj_if (tj_cmp op_lt vr_lt (oj_of (ej_bin op_addD vr_add (oj_of (ej_ix ix_seq vr_ix (oj_var (pv 1)) (oj_var (pv 4)))) (oj_var (pv 6)))) (oj_var (pv 5)) (nomark _)) (
          bj_one (sj_append (pv 3) (ej_bin op_addD vr_add (oj_of (ej_ix ix_seq vr_ix (oj_var (pv 1)) (oj_var (pv 4)))) (oj_var (pv 6))) (fun h => pe_bm PySem.F.plainAttrs_list PySem.F.slot_list_append PySem.F.type_list_append mt_append (pv 3) h))) (
          bj_nil)))))) <|
    bj_one (sj_ret (ej_move (pv 3)))) (fun _ _ _ _ _ _ us hl => match us, hl with | [_, _, _], _ => rfl)
/-! ### union_widths -/
abbrev s_union_widths : Stmt := topS 2
theorem sc_union_widths : FnScope ["first", "second"] ["first", "second"] (defScope s_union_widths) := ⟨rfl, rfl, rfl, by decide +kernel, rfl, by decide +kernel, by decide +kernel⟩
def b_union_widths : DS → RSt :=
    sRet (eOp1 gSortSet (oE (eOp2 gAdd (oE (eCB gList (oCons (oVar 0) (oNil)))) (oE (eCB gList (oCons (oVar 1) (oNil)))))))
def m_union_widths : FS := runB 2 2 [0, 1] (b_union_widths )
theorem D_union_widths (t : TopF K mg "union_widths" "union_widths" s_union_widths) (Z : Bz mg) : DefOk P w K mg base ⟨K, cl, xc⟩ "union_widths" ["first", "second"] 1 (m_union_widths) :=
  defOk (N := ["first", "second"]) t sc_union_widths (by decide) (fun f cdv A outer s H E hr tk po =>
    bj_one (sj_ret (ej_sortSet rfl rfl Z.sorted rfl Z.set_ (oj_of (ej_bin op_addD vr_add (oj_of (ej_callTy cr_list vl_list rfl Z.list (by decide +kernel) (aj_cons (oj_var (pv 0)) (aj_nil)))) (oj_of (ej_callTy cr_list vl_list rfl Z.list (by decide +kernel) (aj_cons (oj_var (pv 1)) (aj_nil))))))))) (fun _ _ _ _ _ _ us hl => match us, hl with | [_, _], _ => rfl)
/-! ### frame_widths -/
abbrev s_frame_widths : Stmt := topS 3
theorem sc_frame_widths : FnScope ["width", "widths", "least", "one"] ["width", "widths", "least"] (defScope s_frame_widths) := ⟨rfl, rfl, rfl, by decide +kernel, rfl, by decide +kernel, by decide +kernel⟩
def b_frame_widths : DS → RSt :=
    sRet (eLc [3] (wRng1 (oCons (oE (eOp2 gAdd (oVar 0) (oE (eC (.int 1))))) (oNil))) (gjName 3) (tOrF (tVal (eOp2 (gLe) (oVar 3) (oVar 2))) (tVal (eOp2 (gInB false) (oVar 3) (oVar 1)))) (eVar 3))
def m_frame_widths : FS := runB 4 3 [0, 1, 2] (b_frame_widths )
theorem D_frame_widths (t : TopF K mg "frame_widths" "frame_widths" s_frame_widths) (Z : Bz mg) : DefOk P w K mg base ⟨K, cl, xc⟩ "frame_widths" ["width", "widths", "least"] 1 (m_frame_widths) :=
  defOk (N := ["width", "widths", "least", "one"]) t sc_frame_widths (by decide) (fun f cdv A outer s H E hr tk po =>
    bj_one (sj_ret (ej_lc rfl sc_frame_widths.nd (blkOk_by (own := [("one", 3)]) (N := ["width", "widths", "least", "one"]) (sc := defScope s_frame_widths) (by decide +kernel)) rfl (by decide) (by decide) (pj_range1 rfl Z.range (aj_cons (oj_of (ej_bin op_addD vr_add (oj_var (pv 0)) (oj_of (ej_int)))) (aj_nil))) (fun _ _ _ _ _ => gj_name sc_frame_widths.nd rfl (by first | exact .inl rfl | exact .inr rfl) (by decide)) (fun _ _ _ _ _ => tsj_one (WJ.tj (wj_or (tj_cmp op_le vr_le (oj_var (pv 3)) (oj_var (pv 2)) (nomark _)) (wj_or1 (tj_cmp (op_inD (room65 hr)) vr_in (oj_var (pv 3)) (oj_var (pv 1)) (by rfl)))))) (fun _ _ _ _ _ => ej_var (pv 3))))) (fun _ _ _ _ _ _ us hl => match us, hl with | [_, _, _], _ => rfl)
/-! ### cap_widths -/
abbrev s_cap_widths : Stmt := topS 4
theorem sc_cap_widths : FnScope ["widths", "most", "one"] ["widths", "most"] (defScope s_cap_widths) := ⟨rfl, rfl, rfl, by decide +kernel, rfl, by decide +kernel, by decide +kernel⟩
def b_cap_widths : DS → RSt :=
    sRet (eLc [2] (wSeq (eVar 0)) (gjName 2) (tVal (eOp2 (gLe) (oVar 2) (oVar 1))) (eVar 2))
def m_cap_widths : FS := runB 3 2 [0, 1] (b_cap_widths )
theorem D_cap_widths (t : TopF K mg "cap_widths" "cap_widths" s_cap_widths) : DefOk P w K mg base ⟨K, cl, xc⟩ "cap_widths" ["widths", "most"] 1 (m_cap_widths) :=
  defOk (N := ["widths", "most", "one"]) t sc_cap_widths (by decide) (fun f cdv A outer s H E hr tk po =>
    bj_one (sj_ret (ej_lc rfl sc_cap_widths.nd (blkOk_by (own := [("one", 2)]) (N := ["widths", "most", "one"]) (sc := defScope s_cap_widths) (by decide +kernel)) rfl (by decide) (by decide) (pj_seq (ej_var (pv 0)) rfl) (fun _ _ _ _ _ => gj_name sc_cap_widths.nd rfl (by first | exact .inl rfl | exact .inr rfl) (by decide)) (fun _ _ _ _ _ => tsj_one (tj_cmp op_le vr_le (oj_var (pv 2)) (oj_var (pv 1)) (nomark _))) (fun _ _ _ _ _ => ej_var (pv 2))))) (fun _ _ _ _ _ _ us hl => match us, hl with | [_, _], _ => rfl)
/-! ### pad_widths -/
abbrev s_pad_widths : Stmt := topS 5
theorem sc_pad_widths : FnScope ["width", "widths", "border", "narrow", "one"] ["width", "widths", "border"] (defScope s_pad_widths) := ⟨rfl, rfl, rfl, by decide +kernel, rfl, by decide +kernel, by decide +kernel⟩
def b_pad_widths : DS → RSt :=
    sSeq (sSet 3 (eListR1 (eCB gMin (oCons (oE (eOp2 gMul (oE (eC (.int 2))) (oVar 2))) (oCons (oE (eOp2 gAdd (oVar 0) (oE (eC (.int 1))))) (oNil)))))) <|
    sRet (eOp2 gAdd (oVar 3) (oE (eLc [4] (wSeq (eVar 1)) (gjName 4) (tVal (eOp2 (gLe) (oE (eOp2 gAdd (oVar 4) (oE (eOp2 gMul (oE (eC (.int 2))) (oVar 2))))) (oVar 0))) (eOp2 gAdd (oVar 4) (oE (eOp2 gMul (oE (eC (.int 2))) (oVar 2)))))))
def m_pad_widths : FS := runB 5 3 [0, 1, 2] (b_pad_widths )
theorem D_pad_widths (t : TopF K mg "pad_widths" "pad_widths" s_pad_widths) (Z : Bz mg) : DefOk P w K mg base ⟨K, cl, xc⟩ "pad_widths" ["width", "widths", "border"] 1 (m_pad_widths) :=
  defOk (N := ["width", "widths", "border", "narrow", "one"]) t sc_pad_widths (by decide) (fun f cdv A outer s H E hr tk po =>
    bj_cons (sj_set sc_pad_widths.nd rfl (by first | exact .inl rfl | exact .inr rfl) (by decide) (ej_listR1 rfl rfl Z.list rfl Z.range (ej_callB (cr_minD rfl) vl_min rfl Z.min (by decide +kernel) (aj_cons (oj_of (ej_bin op_mul vr_mul (oj_of (ej_int)) (oj_var (pv 2)))) (aj_cons (oj_of (ej_bin op_addD vr_add (oj_var (pv 0)) (oj_of (ej_int)))) (aj_nil)))))) <|
    bj_one (sj_ret (ej_bin op_addD vr_add (oj_var (pv 3)) (oj_of (ej_lc rfl sc_pad_widths.nd (blkOk_by (own := [("one", 4)]) (N := ["width", "widths", "border", "narrow", "one"]) (sc := defScope s_pad_widths) (by decide +kernel)) rfl (by decide) (by decide) (pj_seq (ej_var (pv 1)) rfl) (fun _ _ _ _ _ => gj_name sc_pad_widths.nd rfl (by first | exact .inl rfl | exact .inr rfl) (by decide)) (fun _ _ _ _ _ => tsj_one (tj_cmp op_le vr_le (oj_of (ej_bin op_addD vr_add (oj_var (pv 4)) (oj_of (ej_bin op_mul vr_mul (oj_of (ej_int)) (oj_var (pv 2)))))) (oj_var (pv 0)) (nomark _))) (fun _ _ _ _ _ => ej_bin op_addD vr_add (oj_var (pv 4)) (oj_of (ej_bin op_mul vr_mul (oj_of (ej_int)) (oj_var (pv 2)))))))))) (fun _ _ _ _ _ _ us hl => match us, hl with | [_, _, _], _ => rfl)
/-! ### first_fit_widths -/
abbrev s_first_fit_widths : Stmt := topS 6
theorem sc_first_fit_widths : FnScope ["width", "several", "kept", "least", "widths", "one"] ["width", "several"] (defScope s_first_fit_widths) := ⟨rfl, rfl, rfl, by decide +kernel, rfl, by decide +kernel, by decide +kernel⟩
def b_first_fit_widths : DS → RSt :=
    sSeq (sSet 2 (eDk0)) <|
    sSeq (sSet 3 (eOp2 gIx (oE (eOp2 gIx (oVar 1) (oE (eC (.int 0))))) (oE (eOp1 gNeg (oE (eC (.int 1))))))) <|
    sSeq (sFor (wSeq (eVar 1)) (gjName 4) (
      sIf (tVal (eOp2 (gLe) (oE (eOp2 gIx (oVar 4) (oE (eOp1 gNeg (oE (eC (.int 1))))))) (oVar 3))) (
        sSeq (sSet 3 (eOp2 gIx (oVar 4) (oE (eOp1 gNeg (oE (eC (.int 1))))))) <|
        sPutK 2 (eVar 3) (eC (.bl true))) (
        sNext))) <|
    sRet (eLc [5] (wRng1 (oCons (oE (eOp2 gAdd (oVar 0) (oE (eC (.int 1))))) (oNil))) (gjName 5) (tOrF (tVal (eOp2 (gLt) (oVar 5) (oVar 3))) (tVal (eOp2 (gDIn false) (oVar 5) (oVar 2)))) (eVar 5))
def m_first_fit_widths : FS := runB 6 2 [0, 1] (b_first_fit_widths )
theorem D_first_fit_widths (t : TopF K mg "first_fit_widths" "first_fit_widths" s_first_fit_widths) (Z : Bz mg) : DefOk P w K mg base ⟨K, cl, xc⟩ "first_fit_widths" ["width", "several"] 1 (m_first_fit_widths) :=
  defOk (N := ["width", "several", "kept", "least", "widths", "one"]) t sc_first_fit_widths (by decide) (fun f cdv A outer s H E hr tk po =>
    bj_cons (sj_set sc_first_fit_widths.nd rfl (by first | exact .inl rfl | exact .inr rfl) (by decide) (ej_dk0)) <|
    bj_cons (sj_set sc_first_fit_widths.nd rfl (by first | exact .inl rfl | exact .inr rfl) (by decide) (ej_ix ix_seq vr_ix (oj_of (ej_ix ix_seq vr_ix (oj_var (pv 1)) (oj_of (ej_int)))) (oj_of (ej_un un_neg vu_neg (oj_of (ej_int)))))) <|
    bj_cons (sj_for po rfl (pj_seq (ej_var (pv 1)) rfl) (gj_name sc_first_fit_widths.nd rfl (by first | exact .inl rfl | exact .inr rfl) (by decide)) (
      bj_one (sj_if (tj_cmp op_le vr_le (oj_of (ej_ix ix_seq vr_ix (oj_var (pv 4)) (oj_of (ej_un un_neg vu_neg (oj_of (ej_int)))))) (oj_var (pv 3)) (nomark _)) (
        bj_cons (sj_set sc_first_fit_widths.nd rfl (by first | exact .inl rfl | exact .inr rfl) (by decide) (ej_ix ix_seq vr_ix (oj_var (pv 4)) (oj_of (ej_un un_neg vu_neg (oj_of (ej_int)))))) <|
        bj_one (sj_putK (hu_of hr) (pv 2) (ej_var (pv 3)) (ej_bl))) (
        bj_nil)))) <|
    bj_one (sj_ret (ej_lc rfl sc_first_fit_widths.nd (blkOk_by (own := [("one", 5)]) (N := ["width", "several", "kept", "least", "widths", "one"]) (sc := defScope s_first_fit_widths) (by decide +kernel)) rfl (by decide) (by decide) (pj_range1 rfl Z.range (aj_cons (oj_of (ej_bin op_addD vr_add (oj_var (pv 0)) (oj_of (ej_int)))) (aj_nil))) (fun _ _ _ _ _ => gj_name sc_first_fit_widths.nd rfl (by first | exact .inl rfl | exact .inr rfl) (by decide)) (fun _ _ _ _ _ => tsj_one (WJ.tj (wj_or (tj_cmp op_lt vr_lt (oj_var (pv 5)) (oj_var (pv 3)) (nomark _)) (wj_or1 (tj_din (hu_of hr) (oj_var (pv 5)) (oj_var (pv 2)) (by rfl)))))) (fun _ _ _ _ _ => ej_var (pv 5))))) (fun _ _ _ _ _ _ us hl => match us, hl with | [_, _], _ => rfl)
/-! ### _law_mix -/
abbrev s__law_mix : Stmt := topS 8
theorem sc__law_mix : FnScope ["first", "second", "number"] ["first", "second"] (defScope s__law_mix) := ⟨rfl, rfl, rfl, by decide +kernel, rfl, by decide +kernel, by decide +kernel⟩
def b__law_mix : DS → RSt :=
    sSeq (sSet 2 (eOp2 gMod (oE (eCB gInt (oCons (oE (eOp2 gAdd (oE (eOp2 gAdd (oE (eOp2 gMul (oVar 0) (oE (eC (.int 1103515245))))) (oE (eOp2 gMul (oVar 1) (oE (eC (.int 69621))))))) (oE (eC (.int 12345))))) (oNil)))) (oE (eC (.int 2147483647))))) <|
    sSeq (sSet 2 (eOp2 gMod (oE (eCB gInt (oCons (oE (eOp2 gAdd (oE (eOp2 gAdd (oE (eOp2 gAdd (oE (eOp2 gMul (oVar 2) (oVar 2))) (oE (eOp2 gMul (oE (eC (.int 48271))) (oVar 2))))) (oVar 1))) (oE (eC (.int 1))))) (oNil)))) (oE (eC (.int 2147483629))))) <|
    sRet (eOp2 gMod (oE (eCB gInt (oCons (oE (eOp2 gAdd (oE (eOp2 gMul (oE (eOp2 gAdd (oE (eOp2 gDiv (oVar 2) (oE (eC (.int 4096))))) (oE (eOp2 gMul (oE (eC (.int 524287))) (oVar 2))))) (oE (eC (.int 16807))))) (oE (eC (.int 7))))) (oNil)))) (oE (eC (.int 2147483647))))
def m__law_mix : FS := runB 3 2 [0, 1] (b__law_mix )
theorem D__law_mix (t : TopF K mg "_law_mix" "_law_mix" s__law_mix) (Z : Bz mg) : DefOk P w K mg base ⟨K, cl, xc⟩ "_law_mix" ["first", "second"] 1 (m__law_mix) :=
  defOk (N := ["first", "second", "number"]) t sc__law_mix (by decide) (fun f cdv A outer s H E hr tk po =>
    bj_cons (sj_set sc__law_mix.nd rfl (by first | exact .inl rfl | exact .inr rfl) (by decide) (ej_bin op_modN vr_mod (oj_of (ej_callTy call_int1 vl_int rfl Z.int (by decide +kernel) (aj_cons (oj_of (ej_bin op_addD vr_add (oj_of (ej_bin op_addD vr_add (oj_of (ej_bin op_mul vr_mul (oj_var (pv 0)) (oj_of (ej_int)))) (oj_of (ej_bin op_mul vr_mul (oj_var (pv 1)) (oj_of (ej_int)))))) (oj_of (ej_int)))) (aj_nil)))) (oj_of (ej_int)))) <|
    bj_cons (sj_set sc__law_mix.nd rfl (by first | exact .inl rfl | exact .inr rfl) (by decide) (ej_bin op_modN vr_mod (oj_of (ej_callTy call_int1 vl_int rfl Z.int (by decide +kernel) (aj_cons (oj_of (ej_bin op_addD vr_add (oj_of (ej_bin op_addD vr_add (oj_of (ej_bin op_addD vr_add (oj_of (ej_bin op_mul vr_mul (oj_var (pv 2)) (oj_var (pv 2)))) (oj_of (ej_bin op_mul vr_mul (oj_of (ej_int)) (oj_var (pv 2)))))) (oj_var (pv 1)))) (oj_of (ej_int)))) (aj_nil)))) (oj_of (ej_int)))) <|
    bj_one (sj_ret (ej_bin op_modN vr_mod (oj_of (ej_callTy call_int1 vl_int rfl Z.int (by decide +kernel) (aj_cons (oj_of (ej_bin op_addD vr_add (oj_of (ej_bin op_mul vr_mul (oj_of (ej_bin op_addD vr_add (oj_of (ej_bin op_fdivN vr_div (oj_var (pv 2)) (oj_of (ej_int)))) (oj_of (ej_bin op_mul vr_mul (oj_of (ej_int)) (oj_var (pv 2)))))) (oj_of (ej_int)))) (oj_of (ej_int)))) (aj_nil)))) (oj_of (ej_int))))) (fun _ _ _ _ _ _ us hl => match us, hl with | [_, _], _ => rfl)
/-! ### _law_store -/
abbrev s__law_store : Stmt := topS 9
theorem sc__law_store : FnScope ["script", "salt", "cell", "cells", "seed"] ["script", "salt"] (defScope s__law_store) := ⟨rfl, rfl, rfl, by decide +kernel, rfl, by decide +kernel, by decide +kernel⟩
def b__law_store : DS → RSt :=
    sSeq (sSet 3 (eLc [2] (wSeq (eSl (oVar 0) (oiNone) (oiSome (eC (.int 63))))) (gjName 2) (tYesF) (eCB gInt (oCons (oVar 2) (oNil))))) <|
    sSeq (sSet 4 (eOp2 gAdd (oE (eOp2 gMul (oE (eC (.int 7919))) (oE (eCB gInt (oCons (oVar 1) (oNil)))))) (oE (eCB gLen (oCons (oVar 3) (oNil)))))) <|
    sSeq (sFor (wSeq (eVar 3)) (gjName 2) (
      sSet 4 (eCall m__law_mix (oCons (oVar 4) (oCons (oE (eOp2 gMod (oE (eCB gInt (oCons (oVar 2) (oNil)))) (oE (eC (.int 2305843009213693951))))) (oNil)))))) <|
    sRet (eDisp ["cells", "at", "left", "turn", "salt", "seed"] [eVar 3, eC (.int 0), eC (.int 0), eC (.int 0), eOp2 gMul (oE (eC (.int 7919))) (oE (eCB gInt (oCons (oVar 1) (oNil)))), eVar 4])
def m__law_store : FS := runB 5 2 [0, 1] (b__law_store )
theorem D__law_store (t : TopF K mg "_law_store" "_law_store" s__law_store) (Z : Bz mg) (d__law_mix : DefOk P w K mg base ⟨K, cl, xc⟩ "_law_mix" ["first", "second"] 1 m__law_mix) : DefOk P w K mg base ⟨K, cl, xc⟩ "_law_store" ["script", "salt"] 2 (m__law_store) :=
  defOk (N := ["script", "salt", "cell", "cells", "seed"]) t sc__law_store (by decide) (fun f cdv A outer s H E hr tk po =>
    bj_cons (sj_setLc rfl sc__law_store.nd rfl rfl (by decide) (sw_true rfl rfl rfl (by decide +kernel)) (blkOk_by (own := [("cell", 2)]) (N := ["script", "salt", "cell", "cells", "seed"]) (sc := defScope s__law_store) (by decide +kernel)) rfl (by decide) (by decide) (pj_seq (ej_sl (oj_var (pv 0)) (ij_none) (ij_some (ej_int)) rfl) rfl) (fun _ _ _ _ _ => gj_name sc__law_store.nd rfl (by first | exact .inl rfl | exact .inr rfl) (by decide)) (fun _ _ _ _ _ => tsj_nil) (fun _ _ _ _ _ => ej_callTy call_int1 vl_int rfl Z.int (by decide +kernel) (aj_cons (oj_var (pv 2)) (aj_nil)))) <|
    bj_cons (sj_set sc__law_store.nd rfl (by first | exact .inl rfl | exact .inr rfl) (by decide) (ej_bin op_addD vr_add (oj_of (ej_bin op_mul vr_mul (oj_of (ej_int)) (oj_of (ej_callTy call_int1 vl_int rfl Z.int (by decide +kernel) (aj_cons (oj_var (pv 1)) (aj_nil)))))) (oj_of (ej_callB cr_len vl_len rfl Z.len (by decide +kernel) (aj_cons (oj_var (pv 3)) (aj_nil)))))) <|
    bj_cons (sj_for po rfl (pj_seq (ej_var (pv 3)) rfl) (gj_name sc__law_store.nd rfl (by first | exact .inl rfl | exact .inr rfl) (by decide)) (
      bj_one (sj_set sc__law_store.nd rfl (by first | exact .inl rfl | exact .inr rfl) (by decide) (ej_callD d__law_mix hr (by decide) rfl tk (aj_cons (oj_var (pv 4)) (aj_cons (oj_of (ej_bin op_modN vr_mod (oj_of (ej_callTy call_int1 vl_int rfl Z.int (by decide +kernel) (aj_cons (oj_var (pv 2)) (aj_nil)))) (oj_of (ej_int)))) (aj_nil))))))) <|
    bj_one (sj_ret (ej_disp (.cons (ej_var (pv 3)) (.cons (ej_int) (.cons (ej_int) (.cons (ej_int) (.cons (ej_bin op_mul vr_mul (oj_of (ej_int)) (oj_of (ej_callTy call_int1 vl_int rfl Z.int (by decide +kernel) (aj_cons (oj_var (pv 1)) (aj_nil))))) (.cons (ej_var (pv 4)) (.nil))))))) (by simp) (by decide) (by decide +kernel)))) (fun _ _ _ _ _ _ us hl => match us, hl with | [_, _], _ => rfl)
/-! ### _law_take -/
abbrev s__law_take : Stmt := topS 10
theorem sc__law_take : FnScope ["store", "many", "number", "cell", "low"] ["store", "many"] (defScope s__law_take) := ⟨rfl, rfl, rfl, by decide +kernel, rfl, by decide +kernel, by decide +kernel⟩
def b__law_take : DS → RSt :=
    sSeq (sPutK 0 (eC (.str "turn")) (eOp2 gAdd (oE (eOp2 gDGet (oVar 0) (oE (eC (.str "turn"))))) (oE (eC (.int 1))))) <|
    sSeq (sIf (tVal (eOp2 (gLt) (oVar 1) (oE (eC (.int 2))))) (
      sRet (eC (.int 0))) (
      sNext)) <|
    sSeq (sSet 2 (eOp2 gDGet (oVar 0) (oE (eC (.str "left"))))) <|
    sSeq (sIf (tAndF (tVal (eOp2 (gEq) (oVar 2) (oE (eC (.int 0))))) (tVal (eOp2 (gLt) (oE (eOp2 gDGet (oVar 0) (oE (eC (.str "at"))))) (oE (eCB gLen (oCons (oE (eOp2 gDGet (oVar 0) (oE (eC (.str "cells"))))) (oNil))))))) (
      sSeq (sSet 3 (eOp2 gIx (oE (eOp2 gDGet (oVar 0) (oE (eC (.str "cells"))))) (oE (eOp2 gDGet (oVar 0) (oE (eC (.str "at"))))))) <|
      sSeq (sPutK 0 (eC (.str "at")) (eOp2 gAdd (oE (eOp2 gDGet (oVar 0) (oE (eC (.str "at"))))) (oE (eC (.int 1))))) <|
      sSeq (sIf (tVal (eOp2 (gLt) (oE (eCB gAbs (oCons (oVar 3) (oNil)))) (oE (eOp2 gPow (oE (eC (.int 10))) (oE (eC (.int 18))))))) (
        sSeq (sSet 4 (eCall m__law_mix (oCons (oE (eOp2 gAdd (oVar 3) (oE (eOp2 gDGet (oVar 0) (oE (eC (.str "salt"))))))) (oCons (oE (eOp2 gDGet (oVar 0) (oE (eC (.str "turn"))))) (oNil))))) <|
        sRet (eOp2 gMod (oE (eCB gInt (oCons (oE (eOp2 gAdd (oE (eOp2 gMul (oE (eCall m__law_mix (oCons (oVar 4) (oCons (oE (eOp2 gAdd (oE (eOp2 gDGet (oVar 0) (oE (eC (.str "turn"))))) (oE (eC (.int 17))))) (oNil))))) (oE (eC (.int 2147483647))))) (oVar 4))) (oNil)))) (oVar 1))) (
        sNext)) <|
      sSet 2 (eCB gAbs (oCons (oVar 3) (oNil)))) (
      sNext)) <|
    sSeq (sIf (tVal (eOp2 (gEq) (oVar 2) (oE (eC (.int 0))))) (
      sSeq (sSet 4 (eCall m__law_mix (oCons (oE (eOp2 gDGet (oVar 0) (oE (eC (.str "seed"))))) (oCons (oE (eOp2 gDGet (oVar 0) (oE (eC (.str "turn"))))) (oNil))))) <|
      sRet (eOp2 gMod (oE (eCB gInt (oCons (oE (eOp2 gAdd (oE (eOp2 gMul (oE (eCall m__law_mix (oCons (oVar 4) (oCons (oE (eOp2 gAdd (oE (eOp2 gDGet (oVar 0) (oE (eC (.str "seed"))))) (oE (eC (.int 5))))) (oNil))))) (oE (eC (.int 2147483647))))) (oVar 4))) (oNil)))) (oVar 1))) (
      sNext)) <|
    sSeq (sPutK 0 (eC (.str "left")) (eOp2 gDiv (oVar 2) (oVar 1))) <|
    sRet (eOp2 gMod (oE (eCB gInt (oCons (oVar 2) (oNil)))) (oVar 1))
def m__law_take : FS := runB 5 2 [0, 1] (b__law_take )
theorem D__law_take (t : TopF K mg "_law_take" "_law_take" s__law_take) (Z : Bz mg) (d__law_mix : DefOk P w K mg base ⟨K, cl, xc⟩ "_law_mix" ["first", "second"] 1 m__law_mix) : DefOk P w K mg base ⟨K, cl, xc⟩ "_law_take" ["store", "many"] 2 (m__law_take) :=
  defOk (N := ["store", "many", "number", "cell", "low"]) t sc__law_take (by decide) (fun f cdv A outer s H E hr tk po =>
    bj_cons (sj_putK (hu_of hr) (pv 0) (ej_str) (ej_bin op_addD vr_add (oj_of (ej_dget (hu_of hr) (oj_var (pv 0)) (oj_of (ej_str)) (fun _ _ => rfl))) (oj_of (ej_int)))) <|
    bj_cons (sj_if (tj_cmp op_lt vr_lt (oj_var (pv 1)) (oj_of (ej_int)) (nomark _)) (
      bj_one (sj_ret (ej_int))) (
      bj_nil)) <|
    bj_cons (sj_set sc__law_take.nd rfl (by first | exact .inl rfl | exact .inr rfl) (by decide) (ej_dget (hu_of hr) (oj_var (pv 0)) (oj_of (ej_str)) (fun _ _ => rfl))) <|
    bj_cons (sj_if (WJ.tj (wj_and (tj_cmp (op_eqD (room64 hr)) vr_eq (oj_var (pv 2)) (oj_of (ej_int)) (nomark _)) (wj_and1 (tj_cmp op_lt vr_lt (oj_of (ej_dget (hu_of hr) (oj_var (pv 0)) (oj_of (ej_str)) (fun _ _ => rfl))) (oj_of (ej_callB cr_len vl_len rfl Z.len (by decide +kernel) (aj_cons (oj_of (ej_dget (hu_of hr) (oj_var (pv 0)) (oj_of (ej_str)) (fun _ _ => rfl))) (aj_nil)))) (nomark _))))) (
      bj_cons (sj_set sc__law_take.nd rfl (by first | exact .inl rfl | exact .inr rfl) (by decide) (ej_ix ix_seq vr_ix (oj_of (ej_dget (hu_of hr) (oj_var (pv 0)) (oj_of (ej_str)) (fun _ _ => rfl))) (oj_of (ej_dget (hu_of hr) (oj_var (pv 0)) (oj_of (ej_str)) (fun _ _ => rfl))))) <|
      bj_cons (sj_putK (hu_of hr) (pv 0) (ej_str) (ej_bin op_addD vr_add (oj_of (ej_dget (hu_of hr) (oj_var (pv 0)) (oj_of (ej_str)) (fun _ _ => rfl))) (oj_of (ej_int)))) <|
      bj_cons (sj_if (tj_cmp op_lt vr_lt (oj_of (ej_callB call_abs vl_abs rfl Z.abs (by decide +kernel) (aj_cons (oj_var (pv 3)) (aj_nil)))) (oj_of (ej_bin op_pow vr_pow (oj_of (ej_int)) (oj_of (ej_int)))) (nomark _)) (
        bj_cons (sj_set sc__law_take.nd rfl (by first | exact .inl rfl | exact .inr rfl) (by decide) (ej_callD d__law_mix hr (by decide) rfl tk (aj_cons (oj_of (ej_bin op_addD vr_add (oj_var (pv 3)) (oj_of (ej_dget (hu_of hr) (oj_var (pv 0)) (oj_of (ej_str)) (fun _ _ => rfl))))) (aj_cons (oj_of (ej_dget (hu_of hr) (oj_var (pv 0)) (oj_of (ej_str)) (fun _ _ => rfl))) (aj_nil))))) <|
        bj_one (sj_ret (ej_bin op_modN vr_mod (oj_of (ej_callTy call_int1 vl_int rfl Z.int (by decide +kernel) (aj_cons (oj_of (ej_bin op_addD vr_add (oj_of (ej_bin op_mul vr_mul (oj_of (ej_callD d__law_mix hr (by decide) rfl tk (aj_cons (oj_var (pv 4)) (aj_cons (oj_of (ej_bin op_addD vr_add (oj_of (ej_dget (hu_of hr) (oj_var (pv 0)) (oj_of (ej_str)) (fun _ _ => rfl))) (oj_of (ej_int)))) (aj_nil))))) (oj_of (ej_int)))) (oj_var (pv 4)))) (aj_nil)))) (oj_var (pv 1))))) (
        bj_nil)) <|
      bj_one (sj_set sc__law_take.nd rfl (by first | exact .inl rfl | exact .inr rfl) (by decide) (ej_callB call_abs vl_abs rfl Z.abs (by decide +kernel) (aj_cons (oj_var (pv 3)) (aj_nil))))) (
      bj_nil)) <|
    bj_cons (sj_if (tj_cmp (op_eqD (room64 hr)) vr_eq (oj_var (pv 2)) (oj_of (ej_int)) (nomark _)) (
      bj_cons (sj_set sc__law_take.nd rfl (by first | exact .inl rfl | exact .inr rfl) (by decide) (ej_callD d__law_mix hr (by decide) rfl tk (aj_cons (oj_of (ej_dget (hu_of hr) (oj_var (pv 0)) (oj_of (ej_str)) (fun _ _ => rfl))) (aj_cons (oj_of (ej_dget (hu_of hr) (oj_var (pv 0)) (oj_of (ej_str)) (fun _ _ => rfl))) (aj_nil))))) <|
      bj_one (sj_ret (ej_bin op_modN vr_mod (oj_of (ej_callTy call_int1 vl_int rfl Z.int (by decide +kernel) (aj_cons (oj_of (ej_bin op_addD vr_add (oj_of (ej_bin op_mul vr_mul (oj_of (ej_callD d__law_mix hr (by decide) rfl tk (aj_cons (oj_var (pv 4)) (aj_cons (oj_of (ej_bin op_addD vr_add (oj_of (ej_dget (hu_of hr) (oj_var (pv 0)) (oj_of (ej_str)) (fun _ _ => rfl))) (oj_of (ej_int)))) (aj_nil))))) (oj_of (ej_int)))) (oj_var (pv 4)))) (aj_nil)))) (oj_var (pv 1))))) (
      bj_nil)) <|
    bj_cons (sj_putK (hu_of hr) (pv 0) (ej_str) (ej_bin op_fdivN vr_div (oj_var (pv 2)) (oj_var (pv 1)))) <|
    bj_one (sj_ret (ej_bin op_modN vr_mod (oj_of (ej_callTy call_int1 vl_int rfl Z.int (by decide +kernel) (aj_cons (oj_var (pv 2)) (aj_nil)))) (oj_var (pv 1))))) (fun _ _ _ _ _ _ us hl => match us, hl with | [_, _], _ => rfl)
/-! ### _law_chance -/
abbrev s__law_chance : Stmt := topS 11
theorem sc__law_chance : FnScope ["store", "many"] ["store", "many"] (defScope s__law_chance) := ⟨rfl, rfl, rfl, by decide +kernel, rfl, by decide +kernel, by decide +kernel⟩
def b__law_chance : DS → RSt :=
    sRet (eOp2 (gEq) (oE (eCall m__law_take (oCons (oVar 0) (oCons (oVar 1) (oNil))))) (oE (eC (.int 0))))
def m__law_chance : FS := runB 2 2 [0, 1] (b__law_chance )
theorem D__law_chance (t : TopF K mg "_law_chance" "_law_chance" s__law_chance) (d__law_take : DefOk P w K mg base ⟨K, cl, xc⟩ "_law_take" ["store", "many"] 2 m__law_take) : DefOk P w K mg base ⟨K, cl, xc⟩ "_law_chance" ["store", "many"] 3 (m__law_chance) :=
  defOk (N := ["store", "many"]) t sc__law_chance (by decide) (fun f cdv A outer s H E hr tk po =>
    bj_one (sj_ret (ej_cmp (op_eqD (room64 hr)) vr_eq (oj_of (ej_callD d__law_take hr (by decide) rfl tk (aj_cons (oj_var (pv 0)) (aj_cons (oj_var (pv 1)) (aj_nil))))) (oj_of (ej_int)) (nomark _)))) (fun _ _ _ _ _ _ us hl => match us, hl with | [_, _], _ => rfl)
/-! ### _law_pick -/
abbrev s__law_pick : Stmt := topS 12
theorem sc__law_pick : FnScope ["store", "items"] ["store", "items"] (defScope s__law_pick) := ⟨rfl, rfl, rfl, by decide +kernel, rfl, by decide +kernel, by decide +kernel⟩
def b__law_pick : DS → RSt :=
    sRet (eOp2 gIx (oVar 1) (oE (eCall m__law_take (oCons (oVar 0) (oCons (oE (eCB gLen (oCons (oVar 1) (oNil)))) (oNil))))))
def m__law_pick : FS := runB 2 2 [0, 1] (b__law_pick )
theorem D__law_pick (t : TopF K mg "_law_pick" "_law_pick" s__law_pick) (Z : Bz mg) (d__law_take : DefOk P w K mg base ⟨K, cl, xc⟩ "_law_take" ["store", "many"] 2 m__law_take) : DefOk P w K mg base ⟨K, cl, xc⟩ "_law_pick" ["store", "items"] 3 (m__law_pick) :=
  defOk (N := ["store", "items"]) t sc__law_pick (by decide) (fun f cdv A outer s H E hr tk po =>
    bj_one (sj_ret (ej_ix ix_seq vr_ix (oj_var (pv 1)) (oj_of (ej_callD d__law_take hr (by decide) rfl tk (aj_cons (oj_var (pv 0)) (aj_cons (oj_of (ej_callB cr_len vl_len rfl Z.len (by decide +kernel) (aj_cons (oj_var (pv 1)) (aj_nil)))) (aj_nil)))))))) (fun _ _ _ _ _ _ us hl => match us, hl with | [_, _], _ => rfl)
/-! ### _law_range -/
abbrev s__law_range : Stmt := topS 13
theorem sc__law_range : FnScope ["store", "low", "high", "way"] ["store", "low", "high"] (defScope s__law_range) := ⟨rfl, rfl, rfl, by decide +kernel, rfl, by decide +kernel, by decide +kernel⟩
def b__law_range : DS → RSt :=
    sSeq (sSet 2 (eCB gMax (oCons (oVar 1) (oCons (oVar 2) (oNil))))) <|
    sSeq (sSet 3 (eCall m__law_take (oCons (oVar 0) (oCons (oE (eC (.int 9))) (oNil))))) <|
    sSeq (sIf (tVal (eOp2 (gEq) (oVar 3) (oE (eC (.int 0))))) (
      sRet (eVar 1)) (
      sNext)) <|
    sSeq (sIf (tVal (eOp2 (gEq) (oVar 3) (oE (eC (.int 1))))) (
      sRet (eVar 2)) (
      sNext)) <|
    sSeq (sIf (tVal (eOp2 (gEq) (oVar 3) (oE (eC (.int 2))))) (
      sRet (eOp2 gAdd (oVar 1) (oE (eCB gMin (oCons (oE (eC (.int 1))) (oCons (oE (eOp2 gSubI (oVar 2) (oVar 1))) (oNil))))))) (
      sNext)) <|
    sRet (eOp2 gAdd (oVar 1) (oE (eCall m__law_take (oCons (oVar 0) (oCons (oE (eOp2 gAdd (oE (eOp2 gSubI (oVar 2) (oVar 1))) (oE (eC (.int 1))))) (oNil))))))
def m__law_range : FS := runB 4 3 [0, 1] (b__law_range )
theorem D__law_range (t : TopF K mg "_law_range" "_law_range" s__law_range) (Z : Bz mg) (d__law_take : DefOk P w K mg base ⟨K, cl, xc⟩ "_law_take" ["store", "many"] 2 m__law_take) : DefOk P w K mg base ⟨K, cl, xc⟩ "_law_range" ["store", "low", "high"] 3 (m__law_range) :=
  defOk (N := ["store", "low", "high", "way"]) t sc__law_range (by decide) (fun f cdv A outer s H E hr tk po =>
    bj_cons (sj_set sc__law_range.nd rfl (by first | exact .inl rfl | exact .inr rfl) (by decide) (ej_callB (cr_maxD rfl) vl_max rfl Z.max (by decide +kernel) (aj_cons (oj_var (pv 1)) (aj_cons (oj_var (pv 2)) (aj_nil))))) <|
    bj_cons (sj_set sc__law_range.nd rfl (by first | exact .inl rfl | exact .inr rfl) (by decide) (ej_callD d__law_take hr (by decide) rfl tk (aj_cons (oj_var (pv 0)) (aj_cons (oj_of (ej_int)) (aj_nil))))) <|
    bj_cons (sj_if (tj_cmp (op_eqD (room64 hr)) vr_eq (oj_var (pv 3)) (oj_of (ej_int)) (nomark _)) (
      bj_one (sj_ret (ej_var (pv 1)))) (
      bj_nil)) <|
    bj_cons (sj_if (tj_cmp (op_eqD (room64 hr)) vr_eq (oj_var (pv 3)) (oj_of (ej_int)) (nomark _)) (
      bj_one (sj_ret (ej_var (pv 2)))) (
      bj_nil)) <|
    bj_cons (sj_if (tj_cmp (op_eqD (room64 hr)) vr_eq (oj_var (pv 3)) (oj_of (ej_int)) (nomark _)) (
      bj_one (sj_ret (ej_bin op_addD vr_add (oj_var (pv 1)) (oj_of (ej_callB (cr_minD rfl) vl_min rfl Z.min (by decide +kernel) (aj_cons (oj_of (ej_int)) (aj_cons (oj_of (ej_bin op_sub vr_sub (oj_var (pv 2)) (oj_var (pv 1)))) (aj_nil)))))))) (
      bj_nil)) <|
    bj_one (sj_ret (ej_bin op_addD vr_add (oj_var (pv 1)) (oj_of (ej_callD d__law_take hr (by decide) rfl tk (aj_cons (oj_var (pv 0)) (aj_cons (oj_of (ej_bin op_addD vr_add (oj_of (ej_bin op_sub vr_sub (oj_var (pv 2)) (oj_var (pv 1)))) (oj_of (ej_int)))) (aj_nil)))))))) (fun _ _ _ _ _ _ us hl => match us, hl with | [_, _, _], _ => rfl)
/-! ### _law_widths -/
abbrev s__law_widths : Stmt := topS 14
theorem sc__law_widths : FnScope ["store", "width", "out", "k", "number"] ["store", "width"] (defScope s__law_widths) := ⟨rfl, rfl, rfl, by decide +kernel, rfl, by decide +kernel, by decide +kernel⟩
def b__law_widths : DS → RSt :=
    sSeq (sSet 2 (eLst (oCons (oE (eC (.int 0))) (oNil)))) <|
    sSeq (sFor (wRng1 (oCons (oE (eCall m__law_range (oCons (oVar 0) (oCons (oE (eC (.int 0))) (oCons (oE (eC (.int 6))) (oNil)))))) (oNil))) (gjName 3) (
      sSeq (sSet 4 (eCall m__law_take (oCons (oVar 0) (oCons (oE (eOp2 gAdd (oVar 1) (oE (eC (.int 1))))) (oNil))))) <|
      sIf (tVal (eOp2 (gInB true) (oVar 4) (oVar 2))) (
        sAppend 2 (eVar 4)) (
        sNext))) <|
    sRet (eCB gSorted (oCons (oVar 2) (oNil)))
def m__law_widths : FS := runB 5 2 [0, 1] (b__law_widths )
theorem D__law_widths (t : TopF K mg "_law_widths" "_law_widths" s__law_widths) (Z : Bz mg) (d__law_range : DefOk P w K mg base ⟨K, cl, xc⟩ "_law_range" ["store", "low", "high"] 3 m__law_range) (d__law_take : DefOk P w K mg base ⟨K, cl, xc⟩ "_law_take" ["store", "many"] 2 m__law_take) : DefOk P w K mg base ⟨K, cl, xc⟩ "_law_widths" ["store", "width"] 4 (m__law_widths) :=
  defOk (N := ["store", "width", "out", "k", "number"]) t sc__law_widths (by decide) (fun f cdv A outer s H E hr tk po =>
    bj_cons (sj_set sc__law_widths.nd rfl (by first | exact .inl rfl | exact .inr rfl) (by decide) (ej_lst (aj_cons (oj_of (ej_int)) (aj_nil)))) <|
    bj_cons (sj_for po rfl (pj_range1 rfl Z.range (aj_cons (oj_of (ej_callD d__law_range hr (by decide) rfl tk (aj_cons (oj_var (pv 0)) (aj_cons (oj_of (ej_int)) (aj_cons (oj_of (ej_int)) (aj_nil)))))) (aj_nil))) (gj_name sc__law_widths.nd rfl (by first | exact .inl rfl | exact .inr rfl) (by decide)) (
      bj_cons (sj_set sc__law_widths.nd rfl (by first | exact .inl rfl | exact .inr rfl) (by decide) (ej_callD d__law_take hr (by decide) rfl tk (aj_cons (oj_var (pv 0)) (aj_cons (oj_of (ej_bin op_addD vr_add (oj_var (pv 1)) (oj_of (ej_int)))) (aj_nil))))) <|
      bj_one (sj_if (tj_cmp (op_notInD (room65 hr)) vr_notIn (oj_var (pv 4)) (oj_var (pv 2)) (by rfl)) (
        bj_one (sj_append (pv 2) (ej_var (pv 4)) (fun h => pe_bm PySem.F.plainAttrs_list PySem.F.slot_list_append PySem.F.type_list_append mt_append (pv 2) h))) (
        bj_nil)))) <|
    bj_one (sj_ret (ej_callB cr_sortedI vl_sorted rfl Z.sorted (by decide +kernel) (aj_cons (oj_var (pv 2)) (aj_nil))))) (fun _ _ _ _ _ _ us hl => match us, hl with | [_, _], _ => rfl)
/-! ### _law_equal -/
abbrev s__law_equal : Stmt := topS 15
theorem sc__law_equal : FnScope ["actual", "due", "k"] ["actual", "due"] (defScope s__law_equal) := ⟨rfl, rfl, rfl, by decide +kernel, rfl, by decide +kernel, by decide +kernel⟩
def b__law_equal (rec : FS) : DS → RSt :=
    sSeq (sIf (tVal (eOp2 (gIsN false) (oVar 1) (oE (eC .non)))) (
      sRet (eOp2 (gIsN false) (oVar 0) (oE (eC .non)))) (
      sNext)) <|
    sSeq (sIf (tTru (oE (eOp1 (gIsi "str") (oVar 1)))) (
      sRet ((bnd (tVal (eOp1 (gIsi "str") (oVar 0))) fun c ds => if c = true then (eOp2 (gEq) (oVar 0) (oVar 1)) ds else .ok (.val (.bl false)) ds))) (
      sNext)) <|
    sSeq (sIf (tTru (oE (eOp1 (gIsi "int") (oVar 1)))) (
      sRet ((bnd (tVal (eOp1 (gIsi "int") (oVar 0))) fun c ds => if c = true then ((bnd (tVal (eOp2 (gEq) (oE (eOp1 (gIsi "bool") (oVar 0))) (oE (eOp1 (gIsi "bool") (oVar 1))))) fun c ds => if c = true then (eOp2 (gEq) (oVar 0) (oVar 1)) ds else .ok (.val (.bl false)) ds)) ds else .ok (.val (.bl false)) ds))) (
      sNext)) <|
    sSeq (sIf (tOrF (tVal (eOp2 (gNe) (oE (eOp1 (gIsi "tuple") (oVar 0))) (oE (eOp1 (gIsi "tuple") (oVar 1))))) (tVal (eOp2 (gNe) (oE (eOp1 (gIsi "list") (oVar 0))) (oE (eOp1 (gIsi "list") (oVar 1)))))) (
      sRet (eC (.bl false))) (
      sNext)) <|
    sRet ((bnd (tVal (eOp2 (gEq) (oE (eCB gLen (oCons (oVar 0) (oNil)))) (oE (eCB gLen (oCons (oVar 1) (oNil)))))) fun c ds => if c = true then (eOp2 (gInB true) (oE (eC (.bl false))) (oE (eLc [2] (wRng1 (oCons (oE (eCB gLen (oCons (oVar 1) (oNil)))) (oNil))) (gjName 2) (tYesF) (eCall rec (oCons (oE (eOp2 gIx (oVar 0) (oVar 2))) (oCons (oE (eOp2 gIx (oVar 1) (oVar 2))) (oNil))))))) ds else .ok (.val (.bl false)) ds))
def m__law_equal : Nat → FS
  | 0 => fun _ => .stuck
  | n + 1 => runB 3 2 [0, 1] (b__law_equal (m__law_equal n))
theorem D__law_equal (t : TopF K mg "_law_equal" "_law_equal" s__law_equal) (Z : Bz mg) {k : Nat} {rec : FS} (hk : 0 ≤ k) (d_rec : DefOk P w K mg base ⟨K, cl, xc⟩ "_law_equal" ["actual", "due"] k rec) : DefOk P w K mg base ⟨K, cl, xc⟩ "_law_equal" ["actual", "due"] (k + 1) (runB 3 2 [0, 1] (b__law_equal rec)) :=
  defOk (N := ["actual", "due", "k"]) t sc__law_equal (by decide) (fun f cdv A outer s H E hr tk po =>
    bj_cons (sj_if (tj_cmp op_isN vr_isN (oj_var (pv 1)) (oj_of (ej_non)) (nomark _)) (
      bj_one (sj_ret (ej_cmp op_isN vr_isN (oj_var (pv 0)) (oj_of (ej_non)) (nomark _)))) (
      bj_nil)) <|
    bj_cons (sj_if (tj_truth (oj_of (ej_isi (x := "str") rfl Z.isinstance (by decide +kernel) rfl Z.str (by decide +kernel) rfl (oj_var (pv 1)) (fun h => pe_callB call_isi rfl Z.isinstance (by decide +kernel) h))) rfl) (
      bj_one (sj_ret (ej_and (ej_isi (x := "str") rfl Z.isinstance (by decide +kernel) rfl Z.str (by decide +kernel) rfl (oj_var (pv 0)) (fun h => pe_callB call_isi rfl Z.isinstance (by decide +kernel) h)) (ej_one (ej_cmp (op_eqD (room64 hr)) vr_eq (oj_var (pv 0)) (oj_var (pv 1)) (nomark _)))))) (
      bj_nil)) <|
    bj_cons (sj_if (tj_truth (oj_of (ej_isi (x := "int") rfl Z.isinstance (by decide +kernel) rfl Z.int (by decide +kernel) rfl (oj_var (pv 1)) (fun h => pe_callB call_isi rfl Z.isinstance (by decide +kernel) h))) rfl) (
      bj_one (sj_ret (ej_and (ej_isi (x := "int") rfl Z.isinstance (by decide +kernel) rfl Z.int (by decide +kernel) rfl (oj_var (pv 0)) (fun h => pe_callB call_isi rfl Z.isinstance (by decide +kernel) h)) (ej_and (ej_cmp (op_eqD (room64 hr)) vr_eq (oj_of (ej_isi (x := "bool") rfl Z.isinstance (by decide +kernel) rfl Z.bool (by decide +kernel) rfl (oj_var (pv 0)) (fun h => pe_callB call_isi rfl Z.isinstance (by decide +kernel) h))) (oj_of (ej_isi (x := "bool") rfl Z.isinstance (by decide +kernel) rfl Z.bool (by decide +kernel) rfl (oj_var (pv 1)) (fun h => pe_callB call_isi rfl Z.isinstance (by decide +kernel) h))) (nomark _)) (ej_one (ej_cmp (op_eqD (room64 hr)) vr_eq (oj_var (pv 0)) (oj_var (pv 1)) (nomark _))))))) (
      bj_nil)) <|
    bj_cons (sj_if (WJ.tj (wj_or (tj_cmp (op_neD (room64 hr)) vr_ne (oj_of (ej_isi (x := "tuple") rfl Z.isinstance (by decide +kernel) rfl Z.tuple (by decide +kernel) rfl (oj_var (pv 0)) (fun h => pe_callB call_isi rfl Z.isinstance (by decide +kernel) h))) (oj_of (ej_isi (x := "tuple") rfl Z.isinstance (by decide +kernel) rfl Z.tuple (by decide +kernel) rfl (oj_var (pv 1)) (fun h => pe_callB call_isi rfl Z.isinstance (by decide +kernel) h))) (nomark _)) (wj_or1 (tj_cmp (op_neD (room64 hr)) vr_ne (oj_of (ej_isi (x := "list") rfl Z.isinstance (by decide +kernel) rfl Z.list (by decide +kernel) rfl (oj_var (pv 0)) (fun h => pe_callB call_isi rfl Z.isinstance (by decide +kernel) h))) (oj_of (ej_isi (x := "list") rfl Z.isinstance (by decide +kernel) rfl Z.list (by decide +kernel) rfl (oj_var (pv 1)) (fun h => pe_callB call_isi rfl Z.isinstance (by decide +kernel) h))) (nomark _))))) (
      bj_one (sj_ret (ej_bl))) (
      bj_nil)) <|
    bj_one (sj_ret (ej_and (ej_cmp (op_eqD (room64 hr)) vr_eq (oj_of (ej_callB cr_len vl_len rfl Z.len (by decide +kernel) (aj_cons (oj_var (pv 0)) (aj_nil)))) (oj_of (ej_callB cr_len vl_len rfl Z.len (by decide +kernel) (aj_cons (oj_var (pv 1)) (aj_nil)))) (nomark _)) (ej_one (ej_cmp (op_notInD (room65 hr)) vr_notIn (oj_of (ej_bl)) (oj_of (ej_lc rfl sc__law_equal.nd (blkOk_by (own := [("k", 2)]) (N := ["actual", "due", "k"]) (sc := defScope s__law_equal) (by decide +kernel)) rfl (by decide) (by decide) (pj_range1 rfl Z.range (aj_cons (oj_of (ej_callB cr_len vl_len rfl Z.len (by decide +kernel) (aj_cons (oj_var (pv 1)) (aj_nil)))) (aj_nil))) (fun _ _ _ _ _ => gj_name sc__law_equal.nd rfl (by first | exact .inl rfl | exact .inr rfl) (by decide)) (fun _ _ _ _ _ => tsj_nil) (fun _ _ _ _ _ => ej_callD d_rec hr (Nat.le_refl _) rfl takes0 (aj_cons (oj_of (ej_ix ix_seq vr_ix (oj_var (pv 0)) (oj_var (pv 2)))) (aj_cons (oj_of (ej_ix ix_seq vr_ix (oj_var (pv 1)) (oj_var (pv 2)))) (aj_nil)))))) (by rfl)))))) (fun _ _ _ _ _ _ us hl => match us, hl with | [_, _], _ => rfl)
/-! ### _law_down -/
abbrev s__law_down : Stmt := topS 16
theorem sc__law_down : FnScope ["widths", "most", "width"] ["widths", "most"] (defScope s__law_down) := ⟨rfl, rfl, rfl, by decide +kernel, rfl, by decide +kernel, by decide +kernel⟩
def b__law_down : DS → RSt :=
    sRet (eCB gMax (oCons (oE (eLc [2] (wSeq (eVar 0)) (gjName 2) (tVal (eOp2 (gLe) (oVar 2) (oVar 1))) (eVar 2))) (oNil)))
def m__law_down : FS := runB 3 2 [0, 1] (b__law_down )
theorem D__law_down (t : TopF K mg "_law_down" "_law_down" s__law_down) (Z : Bz mg) : DefOk P w K mg base ⟨K, cl, xc⟩ "_law_down" ["widths", "most"] 1 (m__law_down) :=
  defOk (N := ["widths", "most", "width"]) t sc__law_down (by decide) (fun f cdv A outer s H E hr tk po =>
    bj_one (sj_ret (ej_callB (cr_maxD rfl) vl_max rfl Z.max (by decide +kernel) (aj_cons (oj_of (ej_lc rfl sc__law_down.nd (blkOk_by (own := [("width", 2)]) (N := ["widths", "most", "width"]) (sc := defScope s__law_down) (by decide +kernel)) rfl (by decide) (by decide) (pj_seq (ej_var (pv 0)) rfl) (fun _ _ _ _ _ => gj_name sc__law_down.nd rfl (by first | exact .inl rfl | exact .inr rfl) (by decide)) (fun _ _ _ _ _ => tsj_one (tj_cmp op_le vr_le (oj_var (pv 2)) (oj_var (pv 1)) (nomark _))) (fun _ _ _ _ _ => ej_var (pv 2)))) (aj_nil))))) (fun _ _ _ _ _ _ us hl => match us, hl with | [_, _], _ => rfl)
/-! ### _law_row -/
abbrev s__law_row : Stmt := topS 17
theorem sc__law_row : FnScope ["width", "first", "second", "out", "offer", "used"] ["width", "first", "second"] (defScope s__law_row) := ⟨rfl, rfl, rfl, by decide +kernel, rfl, by decide +kernel, by decide +kernel⟩
def b__law_row : DS → RSt :=
    sSeq (sSet 3 (eLst (oNil))) <|
    sSeq (sFor (wRng1 (oCons (oE (eOp2 gAdd (oVar 0) (oE (eC (.int 1))))) (oNil))) (gjName 4) (
      sSeq (sSet 5 (eCall m__law_down (oCons (oVar 1) (oCons (oVar 4) (oNil))))) <|
      sIf (tVal (eOp2 (gEq) (oE (eOp2 gAdd (oVar 5) (oE (eCall m__law_down (oCons (oVar 2) (oCons (oE (eOp2 gSubI (oVar 4) (oVar 5))) (oNil))))))) (oVar 4))) (
        sAppend 3 (eVar 4)) (
        sNext))) <|
    sRet (eMove 3)
def m__law_row : FS := runB 6 3 [0, 1, 2] (b__law_row )
theorem D__law_row (t : TopF K mg "_law_row" "_law_row" s__law_row) (Z : Bz mg) (d__law_down : DefOk P w K mg base ⟨K, cl, xc⟩ "_law_down" ["widths", "most"] 1 m__law_down) : DefOk P w K mg base ⟨K, cl, xc⟩ "_law_row" ["width", "first", "second"] 2 (m__law_row) :=
  defOk (N := ["width", "first", "second", "out", "offer", "used"]) t sc__law_row (by decide) (fun f cdv A outer s H E hr tk po =>
    bj_cons (sj_set sc__law_row.nd rfl (by first | exact .inl rfl | exact .inr rfl) (by decide) (ej_lst (aj_nil))) <|
    bj_cons (sj_for po rfl (pj_range1 rfl Z.range (aj_cons (oj_of (ej_bin op_addD vr_add (oj_var (pv 0)) (oj_of (ej_int)))) (aj_nil))) (gj_name sc__law_row.nd rfl (by first | exact .inl rfl | exact .inr rfl) (by decide)) (
      bj_cons (sj_set sc__law_row.nd rfl (by first | exact .inl rfl | exact .inr rfl) (by decide) (ej_callD d__law_down hr (by decide) rfl tk (aj_cons (oj_var (pv 1)) (aj_cons (oj_var (pv 4)) (aj_nil))))) <|
      bj_one (sj_if (tj_cmp (op_eqD (room64 hr)) vr_eq (oj_of (ej_bin op_addD vr_add (oj_var (pv 5)) (oj_of (ej_callD d__law_down hr (by decide) rfl tk (aj_cons (oj_var (pv 2)) (aj_cons (oj_of (ej_bin op_sub vr_sub (oj_var (pv 4)) (oj_var (pv 5)))) (aj_nil))))))) (oj_var (pv 4)) (nomark _)) (
        bj_one (sj_append (pv 3) (ej_var (pv 4)) (fun h => pe_bm PySem.F.plainAttrs_list PySem.F.slot_list_append PySem.F.type_list_append mt_append (pv 3) h))) (
        bj_nil)))) <|
    bj_one (sj_ret (ej_move (pv 3)))) (fun _ _ _ _ _ _ us hl => match us, hl with | [_, _, _], _ => rfl)
/-! ### _law_pad -/
abbrev s__law_pad : Stmt := topS 18
theorem sc__law_pad : FnScope ["width", "widths", "border", "out", "offer"] ["width", "widths", "border"] (defScope s__law_pad) := ⟨rfl, rfl, rfl, by decide +kernel, rfl, by decide +kernel, by decide +kernel⟩
def b__law_pad : DS → RSt :=
    sSeq (sSet 3 (eLst (oNil))) <|
    sSeq (sFor (wRng1 (oCons (oE (eOp2 gAdd (oVar 0) (oE (eC (.int 1))))) (oNil))) (gjName 4) (
      sIf (tOrF (tVal (eOp2 (gLt) (oVar 4) (oE (eOp2 gMul (oE (eC (.int 2))) (oVar 2))))) (tVal (eOp2 (gEq) (oE (eOp2 gAdd (oE (eCall m__law_down (oCons (oVar 1) (oCons (oE (eOp2 gSubI (oVar 4) (oE (eOp2 gMul (oE (eC (.int 2))) (oVar 2))))) (oNil))))) (oE (eOp2 gMul (oE (eC (.int 2))) (oVar 2))))) (oVar 4)))) (
        sAppend 3 (eVar 4)) (
        sNext))) <|
    sRet (eMove 3)
def m__law_pad : FS := runB 5 3 [0, 1, 2] (b__law_pad )
theorem D__law_pad (t : TopF K mg "_law_pad" "_law_pad" s__law_pad) (Z : Bz mg) (d__law_down : DefOk P w K mg base ⟨K, cl, xc⟩ "_law_down" ["widths", "most"] 1 m__law_down) : DefOk P w K mg base ⟨K, cl, xc⟩ "_law_pad" ["width", "widths", "border"] 2 (m__law_pad) :=
  defOk (N := ["width", "widths", "border", "out", "offer"]) t sc__law_pad (by decide) (fun f cdv A outer s H E hr tk po =>
    bj_cons (sj_set sc__law_pad.nd rfl (by first | exact .inl rfl | exact .inr rfl) (by decide) (ej_lst (aj_nil))) <|
    bj_cons (sj_for po rfl (pj_range1 rfl Z.range (aj_cons (oj_of (ej_bin op_addD vr_add (oj_var (pv 0)) (oj_of (ej_int)))) (aj_nil))) (gj_name sc__law_pad.nd rfl (by first | exact .inl rfl | exact .inr rfl) (by decide)) (
      bj_one (sj_if (WJ.tj (wj_or (tj_cmp op_lt vr_lt (oj_var (pv 4)) (oj_of (ej_bin op_mul vr_mul (oj_of (ej_int)) (oj_var (pv 2)))) (nomark _)) (wj_or1 (tj_cmp (op_eqD (room64 hr)) vr_eq (oj_of (ej_bin op_addD vr_add (oj_of (ej_callD d__law_down hr (by decide) rfl tk (aj_cons (oj_var (pv 1)) (aj_cons (oj_of (ej_bin op_sub vr_sub (oj_var (pv 4)) (oj_of (ej_bin op_mul vr_mul (oj_of (ej_int)) (oj_var (pv 2)))))) (aj_nil))))) (oj_of (ej_bin op_mul vr_mul (oj_of (ej_int)) (oj_var (pv 2)))))) (oj_var (pv 4)) (nomark _))))) (
        bj_one (sj_append (pv 3) (ej_var (pv 4)) (fun h => pe_bm PySem.F.plainAttrs_list PySem.F.slot_list_append PySem.F.type_list_append mt_append (pv 3) h))) (
        bj_nil)))) <|
    bj_one (sj_ret (ej_move (pv 3)))) (fun _ _ _ _ _ _ us hl => match us, hl with | [_, _, _], _ => rfl)
/-! ### _law_fits -/
abbrev s__law_fits : Stmt := topS 19
theorem sc__law_fits : FnScope ["width", "several", "greatest", "out", "offer", "shown", "widths", "use"] ["width", "several"] (defScope s__law_fits) := ⟨rfl, rfl, rfl, by decide +kernel, rfl, by decide +kernel, by decide +kernel⟩
def b__law_fits : DS → RSt :=
    sSeq (sSet 2 (eLc [6] (wSeq (eVar 1)) (gjName 6) (tYesF) (eCall m__law_down (oCons (oVar 6) (oCons (oVar 0) (oNil)))))) <|
    sSeq (sSet 3 (eLst (oNil))) <|
    sSeq (sFor (wRng1 (oCons (oE (eOp2 gAdd (oVar 0) (oE (eC (.int 1))))) (oNil))) (gjName 4) (
      sSeq (sSet 5 (eOp2 gAdd (oE (eLc [7] (wSeq (eVar 2)) (gjName 7) (tVal (eOp2 (gLe) (oVar 7) (oVar 4))) (eVar 7))) (oE (eLst (oCons (oE (eCB gMin (oCons (oVar 4) (oCons (oE (eOp2 gIx (oVar 2) (oE (eOp2 gSubI (oE (eCB gLen (oCons (oVar 2) (oNil)))) (oE (eC (.int 1))))))) (oNil))))) (oNil)))))) <|
      sIf (tVal (eOp2 (gEq) (oE (eOp2 gIx (oVar 5) (oE (eC (.int 0))))) (oVar 4))) (
        sAppend 3 (eVar 4)) (
        sNext))) <|
    sRet (eMove 3)
def m__law_fits : FS := runB 8 2 [0, 1] (b__law_fits )
theorem D__law_fits (t : TopF K mg "_law_fits" "_law_fits" s__law_fits) (Z : Bz mg) (d__law_down : DefOk P w K mg base ⟨K, cl, xc⟩ "_law_down" ["widths", "most"] 1 m__law_down) : DefOk P w K mg base ⟨K, cl, xc⟩ "_law_fits" ["width", "several"] 2 (m__law_fits) :=
  defOk (N := ["width", "several", "greatest", "out", "offer", "shown", "widths", "use"]) t sc__law_fits (by decide) (fun f cdv A outer s H E hr tk po =>
    bj_cons (sj_setLc rfl sc__law_fits.nd rfl rfl (by decide) (sw_true rfl rfl rfl (by decide +kernel)) (blkOk_by (own := [("widths", 6)]) (N := ["width", "several", "greatest", "out", "offer", "shown", "widths", "use"]) (sc := defScope s__law_fits) (by decide +kernel)) rfl (by decide) (by decide) (pj_seq (ej_var (pv 1)) rfl) (fun _ _ _ _ _ => gj_name sc__law_fits.nd rfl (by first | exact .inl rfl | exact .inr rfl) (by decide)) (fun _ _ _ _ _ => tsj_nil) (fun _ _ _ _ _ => ej_callD d__law_down hr (by decide) rfl takes0 (aj_cons (oj_var (pv 6)) (aj_cons (oj_var (pv 0)) (aj_nil))))) <|
    bj_cons (sj_set sc__law_fits.nd rfl (by first | exact .inl rfl | exact .inr rfl) (by decide) (ej_lst (aj_nil))) <|
    bj_cons (sj_for po rfl (pj_range1 rfl Z.range (aj_cons (oj_of (ej_bin op_addD vr_add (oj_var (pv 0)) (oj_of (ej_int)))) (aj_nil))) (gj_name sc__law_fits.nd rfl (by first | exact .inl rfl | exact .inr rfl) (by decide)) (
      bj_cons (sj_set sc__law_fits.nd rfl (by first | exact .inl rfl | exact .inr rfl) (by decide) (ej_bin op_addD vr_add (oj_of (ej_lc rfl sc__law_fits.nd (blkOk_by (own := [("use", 7)]) (N := ["width", "several", "greatest", "out", "offer", "shown", "widths", "use"]) (sc := defScope s__law_fits) (by decide +kernel)) rfl (by decide) (by decide) (pj_seq (ej_var (pv 2)) rfl) (fun _ _ _ _ _ => gj_name sc__law_fits.nd rfl (by first | exact .inl rfl | exact .inr rfl) (by decide)) (fun _ _ _ _ _ => tsj_one (tj_cmp op_le vr_le (oj_var (pv 7)) (oj_var (pv 4)) (nomark _))) (fun _ _ _ _ _ => ej_var (pv 7)))) (oj_of (ej_lst (aj_cons (oj_of (ej_callB (cr_minD rfl) vl_min rfl Z.min (by decide +kernel) (aj_cons (oj_var (pv 4)) (aj_cons (oj_of (ej_ix ix_seq vr_ix (oj_var (pv 2)) (oj_of (ej_bin op_sub vr_sub (oj_of (ej_callB cr_len vl_len rfl Z.len (by decide +kernel) (aj_cons (oj_var (pv 2)) (aj_nil)))) (oj_of (ej_int)))))) (aj_nil))))) (aj_nil)))))) <|
      bj_one (sj_if (tj_cmp (op_eqD (room64 hr)) vr_eq (oj_of (ej_ix ix_seq vr_ix (oj_var (pv 5)) (oj_of (ej_int)))) (oj_var (pv 4)) (nomark _)) (
        bj_one (sj_append (pv 3) (ej_var (pv 4)) (fun h => pe_bm PySem.F.plainAttrs_list PySem.F.slot_list_append PySem.F.type_list_append mt_append (pv 3) h))) (
        bj_nil)))) <|
    bj_one (sj_ret (ej_move (pv 3)))) (fun _ _ _ _ _ _ us hl => match us, hl with | [_, _], _ => rfl)
/-! ### _law_set -/
abbrev s__law_set : Stmt := topS 20
theorem sc__law_set : FnScope ["store", "width", "way", "other"] ["store", "width"] (defScope s__law_set) := ⟨rfl, rfl, rfl, by decide +kernel, rfl, by decide +kernel, by decide +kernel⟩
def b__law_set : DS → RSt :=
    sSeq (sSet 2 (eCall m__law_take (oCons (oVar 0) (oCons (oE (eC (.int 6))) (oNil))))) <|
    sSeq (sIf (tVal (eOp2 (gEq) (oVar 2) (oE (eC (.int 0))))) (
      sRet (eListR1 (eOp2 gAdd (oVar 1) (oE (eC (.int 1)))))) (
      sNext)) <|
    sSeq (sIf (tVal (eOp2 (gLt) (oVar 2) (oE (eC (.int 4))))) (
      sRet (eOp2 gAdd (oE (eLst (oCons (oE (eC (.int 0))) (oNil)))) (oE (eLc [3] (wRng2 (oCons (oE (eC (.int 1))) (oCons (oE (eOp2 gAdd (oVar 1) (oE (eC (.int 1))))) (oNil)))) (gjName 3) (tTru (oE (eCall m__law_chance (oCons (oVar 0) (oCons (oE (eC (.int 2))) (oNil)))))) (eVar 3))))) (
      sNext)) <|
    sRet (eCall m__law_widths (oCons (oVar 0) (oCons (oVar 1) (oNil))))
def m__law_set : FS := runB 4 2 [0, 1] (b__law_set )
theorem D__law_set (t : TopF K mg "_law_set" "_law_set" s__law_set) (Z : Bz mg) (d__law_take : DefOk P w K mg base ⟨K, cl, xc⟩ "_law_take" ["store", "many"] 2 m__law_take) (d__law_chance : DefOk P w K mg base ⟨K, cl, xc⟩ "_law_chance" ["store", "many"] 3 m__law_chance) (d__law_widths : DefOk P w K mg base ⟨K, cl, xc⟩ "_law_widths" ["store", "width"] 4 m__law_widths) : DefOk P w K mg base ⟨K, cl, xc⟩ "_law_set" ["store", "width"] 5 (m__law_set) :=
  defOk (N := ["store", "width", "way", "other"]) t sc__law_set (by decide) (fun f cdv A outer s H E hr tk po =>
    bj_cons (sj_set sc__law_set.nd rfl (by first | exact .inl rfl | exact .inr rfl) (by decide) (ej_callD d__law_take hr (by decide) rfl tk (aj_cons (oj_var (pv 0)) (aj_cons (oj_of (ej_int)) (aj_nil))))) <|
    bj_cons (sj_if (tj_cmp (op_eqD (room64 hr)) vr_eq (oj_var (pv 2)) (oj_of (ej_int)) (nomark _)) (
      bj_one (sj_ret (ej_listR1 rfl rfl Z.list rfl Z.range (ej_bin op_addD vr_add (oj_var (pv 1)) (oj_of (ej_int)))))) (
      bj_nil)) <|
    bj_cons (sj_if (tj_cmp op_lt vr_lt (oj_var (pv 2)) (oj_of (ej_int)) (nomark _)) (
      bj_one (sj_ret (ej_bin op_addD vr_add (oj_of (ej_lst (aj_cons (oj_of (ej_int)) (aj_nil)))) (oj_of (ej_lc rfl sc__law_set.nd (blkOk_by (own := [("other", 3)]) (N := ["store", "width", "way", "other"]) (sc := defScope s__law_set) (by decide +kernel)) rfl (by decide) (by decide) (pj_range2 rfl Z.range (aj_cons (oj_of (ej_int)) (aj_cons (oj_of (ej_bin op_addD vr_add (oj_var (pv 1)) (oj_of (ej_int)))) (aj_nil)))) (fun _ _ _ _ _ => gj_name sc__law_set.nd rfl (by first | exact .inl rfl | exact .inr rfl) (by decide)) (fun _ _ _ _ _ => tsj_one (tj_truth (oj_of (ej_callD d__law_chance hr (by decide) rfl takes0 (aj_cons (oj_var (pv 0)) (aj_cons (oj_of (ej_int)) (aj_nil))))) rfl)) (fun _ _ _ _ _ => ej_var (pv 3))))))) (
      bj_nil)) <|
    bj_one (sj_ret (ej_callD d__law_widths hr (by decide) rfl tk (aj_cons (oj_var (pv 0)) (aj_cons (oj_var (pv 1)) (aj_nil)))))) (fun _ _ _ _ _ _ us hl => match us, hl with | [_, _], _ => rfl)
-- left out: _law_asked
-- left out: law
end
end La
namespace La
open PySem PySem.Spec
open PyProof.Rows L2 Dl
abbrev s__law_asked : Stmt := topS 21
abbrev s_law : Stmt := topS 22
theorem sc__law_asked : FnScope ["width", "sets", "several", "least", "border", "first", "second", "out", "passed", "widths"] ["width", "sets", "several", "least", "border"] (defScope s__law_asked) := ⟨rfl, rfl, rfl, by decide +kernel, rfl, by decide +kernel, by decide +kernel⟩
theorem sc_law : FnScope ["script", "store", "width", "sets", "k", "several", "least", "border", "sizes", "both", "due", "out", "passed", "widths", "other"] ["script"] (defScope s_law) := ⟨rfl, rfl, rfl, by decide +kernel, rfl, by decide +kernel, by decide +kernel⟩
def a1 : DS → RSt := sFrz 5 (sSet 5 (eCB gList (oCons (oE (eOp2 gIx (oVar 1) (oE (eC (.int 0))))) (oNil))))
def a2 : DS → RSt := sFrz 6 (sSet 6 (eCB gList (oCons (oE (eOp2 gIx (oVar 1) (oE (eC (.int 1))))) (oNil))))
def a3 : List (DS → Res S) := [eCall m_row_widths (oCons (oVar 0) (oCons (oVar 5) (oCons (oVar 6) (oNil)))), eCall m_row_widths (oCons (oVar 0) (oCons (oVar 6) (oCons (oVar 5) (oNil)))), eCall m_row_widths (oCons (oVar 0) (oCons (oVar 5) (oCons (oVar 5) (oNil))))]
def a4 : List (DS → Res S) := [eCall m_union_widths (oCons (oVar 5) (oCons (oVar 6) (oNil))), eCall m_union_widths (oCons (oVar 5) (oCons (oVar 5) (oNil))), eCall m_frame_widths (oCons (oVar 0) (oCons (oVar 5) (oCons (oVar 3) (oNil))))]
def a5 : List (DS → Res S) := [eCall m_cap_widths (oCons (oVar 5) (oCons (oVar 3) (oNil))), eCall m_pad_widths (oCons (oVar 0) (oCons (oVar 5) (oCons (oVar 4) (oNil))))]
def a6 : DS → RSt := sFrz 8 (sSet 8 (eLc [9] (wSeq (eVar 2)) (gjName 9) (tYesF) (eCB gList (oCons (oVar 9) (oNil)))))
def a7 : List (DS → Res S) := [eCall m_first_fit_widths (oCons (oVar 0) (oCons (oVar 8) (oNil))), eCall m_first_fit_widths (oCons (oVar 0) (oCons (oE (eLst (oCons (oE (eVar 5)) (oCons (oE (eVar 6)) (oNil))))) (oNil)))]
def a8 : DS → Res S := eOp2 gAdd (oE (eLst (oCons (oE (eVar 5)) (oCons (oE (eVar 6)) (oNil))))) (oVar 8)
def c1 : DS → Res (List Op) := oCons (oVar 2) (oCons (oVar 3) (oCons (oVar 5) (oCons (oVar 6) (oCons (oVar 7) (oNil)))))
def c2 : DS → Res Bool := tOrF (tNotF (tTru (oE (eCall (m__law_equal 4) (oCons (oVar 11) (oCons (oVar 10) (oNil))))))) (tNotF (tTru (oE (eCall (m__law_equal 4) (oCons (oVar 12) (oCons (oE (eOp2 gAdd (oVar 3) (oVar 5))) (oNil)))))))
def c4 : DS → Res Bool := tNotF (tTru (oE (eCall (m__law_equal 4) (oCons (oVar 12) (oCons (oE (eOp2 gAdd (oVar 3) (oVar 5))) (oNil))))))

def nxO : RSt → Option DS
  | .nx ds => some ds | _ => none
def g10 (ds : DS) : Option DS := if 8 ≤ ds.length then some ds else none
/-- what _law_asked tells: its own lists, what it passed -/
def askD (as : List Dat) : Option (List (List Int) × Dat) :=
  if as.length = 5 then
  (nxO (a1 (as.map (fun d => some (.val d)) ++ List.replicate 5 none))).bind fun d1 => (nxO (a2 d1)).bind fun d2 =>
  (eOwns a3 d2).bind fun p3 => (eOwns a4 (p3.2.set 7 none)).bind fun p4 => (eOwns a5 (p4.2.set 7 none)).bind fun p5 =>
  (nxO (a6 (p5.2.set 7 none))).bind fun d6 => (eOwns a7 d6).bind fun p7 =>
  if 8 ≤ d6.length ∧ 8 ≤ d2.length then
  match a8 (p7.2.set 7 none) with
  | .ok s _ => some (p3.1 ++ p4.1 ++ p5.1 ++ p7.1, s.dat)
  | _ => none else none else none
def valsD (ds : DS) : DS := ds.map fun o => match o with | some (.val d) => some (.val d) | _ => none
def okB (v : Bool) (r : Res Bool) : Bool := match r with | .ok b _ => b == v | _ => false
def sRound : DS → RSt := fun ds =>
  match c1 (valsD ds) with
  | .ok os _ => (match dats (valsD ds) os with
    | some as => (match askD as with
      | some (outs, pd) =>
        if 14 ≤ ds.length ∧ outs.length ≤ 100 ∧ (∀ ns ∈ outs, ns.length ≤ 1000) ∧
          okB false (c2 (((valsD ds).set 11 (some (.val (.lst (outs.map fun ns => .lst (ns.map .int)))))).set 12 (some (.val pd)))) = true ∧
          okB false (c4 ((((valsD ds).set 12 (some (.val pd))).set 11 none).set 13 none)) = true then .nx (((ds.set 11 none).set 12 none).set 13 none) else .stuck
      | none => .stuck)
    | none => .stuck)
  | _ => .stuck
def b_law : DS → RSt :=
    sSeq (sSet 1 (eCall m__law_store (oCons (oVar 0) (oCons (oE (eC (.int 68))) (oNil))))) <|
    sSeq (sSet 2 (eCall m__law_pick (oCons (oVar 1) (oCons (oE (eLst (oCons (oE (eC (.int 8))) (oCons (oE (eC (.int 5))) (oCons (oE (eC (.int 9))) (oCons (oE (eC (.int 12))) (oCons (oE (eC (.int 40))) (oCons (oE (eC (.int 3))) (oCons (oE (eC (.int 1))) (oCons (oE (eC (.int 0))) (oNil))))))))))) (oNil))))) <|
    sSeq (sFrz 3 (sSet 3 (eLst (oCons (oE (eCall m__law_set (oCons (oVar 1) (oCons (oVar 2) (oNil))))) (oCons (oE (eCall m__law_set (oCons (oVar 1) (oCons (oVar 2) (oNil))))) (oNil)))))) <|
    sSeq (sFrz 5 (sSet 5 (eLc [4] (wRng1 (oCons (oE (eCall m__law_range (oCons (oVar 1) (oCons (oE (eC (.int 1))) (oCons (oE (eC (.int 6))) (oNil)))))) (oNil))) (gjName 4) (tYesF) (eCall m__law_set (oCons (oVar 1) (oCons (oVar 2) (oNil))))))) <|
    sSeq (sFrz 5 (sIf (tTru (oE (eCall m__law_chance (oCons (oVar 1) (oCons (oE (eC (.int 4))) (oNil)))))) (
      sSet 5 (eOp2 gAdd (oVar 5) (oE (eLst (oCons (oE (eOp2 gIx (oVar 3) (oE (eC (.int 0))))) (oCons (oE (eOp2 gIx (oVar 3) (oE (eC (.int 0))))) (oNil))))))) (
      sNext))) <|
    sSeq (sSet 6 (eCall m__law_pick (oCons (oVar 1) (oCons (oE (eLst (oCons (oE (eCall m__law_take (oCons (oVar 1) (oCons (oE (eOp2 gAdd (oVar 2) (oE (eC (.int 3))))) (oNil))))) (oCons (oE (eVar 2)) (oCons (oE (eC (.int 0))) (oCons (oE (eC (.int 999))) (oNil))))))) (oNil))))) <|
    sSeq (sSet 7 (eCall m__law_pick (oCons (oVar 1) (oCons (oE (eLst (oCons (oE (eCall m__law_take (oCons (oVar 1) (oCons (oE (eOp2 gAdd (oE (eOp2 gDiv (oVar 2) (oE (eC (.int 2))))) (oE (eC (.int 2))))) (oNil))))) (oCons (oE (eCall m__law_take (oCons (oVar 1) (oCons (oE (eC (.int 21))) (oNil))))) (oCons (oE (eC (.int 0))) (oNil)))))) (oNil))))) <|
    sSeq (sSet 7 (eCB gMin (oCons (oVar 7) (oCons (oE (eC (.int 20))) (oNil))))) <|
    sSeq (sSet 8 (eListR1 (eOp2 gAdd (oVar 2) (oE (eC (.int 1)))))) <|
    sSeq (sSet 9 (eLc [14] (wSeq (eVar 8)) (gjName 14) (tVal (eOp2 (gEq) (oE (eCB gMax (oCons (oE (eCall m__law_down (oCons (oE (eOp2 gIx (oVar 3) (oE (eC (.int 0))))) (oCons (oVar 14) (oNil))))) (oCons (oE (eCall m__law_down (oCons (oE (eOp2 gIx (oVar 3) (oE (eC (.int 1))))) (oCons (oVar 14) (oNil))))) (oNil))))) (oVar 14))) (eVar 14))) <|
    sSeq (sSet 10 (eLst (oCons (oE (eCall m__law_row (oCons (oVar 2) (oCons (oE (eOp2 gIx (oVar 3) (oE (eC (.int 0))))) (oCons (oE (eOp2 gIx (oVar 3) (oE (eC (.int 1))))) (oNil)))))) (oCons (oE (eCall m__law_row (oCons (oVar 2) (oCons (oE (eOp2 gIx (oVar 3) (oE (eC (.int 1))))) (oCons (oE (eOp2 gIx (oVar 3) (oE (eC (.int 0))))) (oNil)))))) (oCons (oE (eCall m__law_row (oCons (oVar 2) (oCons (oE (eOp2 gIx (oVar 3) (oE (eC (.int 0))))) (oCons (oE (eOp2 gIx (oVar 3) (oE (eC (.int 0))))) (oNil)))))) (oNil)))))) <|
    sSeq (sSet 10 (eOp2 gAdd (oVar 10) (oE (eLst (oCons (oE (eVar 9)) (oCons (oE (eOp2 gIx (oVar 3) (oE (eC (.int 0))))) (oNil))))))) <|
    sSeq (sAppend 10 (eLc [14] (wSeq (eVar 8)) (gjName 14) (tVal (eOp2 (gEq) (oE (eCB gMax (oCons (oE (eCall m__law_down (oCons (oE (eOp2 gIx (oVar 3) (oE (eC (.int 0))))) (oCons (oVar 14) (oNil))))) (oCons (oE (eCB gMin (oCons (oVar 14) (oCons (oVar 6) (oNil))))) (oNil))))) (oVar 14))) (eVar 14))) <|
    sSeq (sAppend 10 (eLc [14] (wSeq (eVar 8)) (gjName 14) (tVal (eOp2 (gEq) (oE (eCall m__law_down (oCons (oE (eOp2 gIx (oVar 3) (oE (eC (.int 0))))) (oCons (oE (eCB gMin (oCons (oVar 14) (oCons (oVar 6) (oNil))))) (oNil))))) (oVar 14))) (eVar 14))) <|
    sSeq (sFrz 10 (sSet 10 (eOp2 gAdd (oVar 10) (oE (eLst (oCons (oE (eCall m__law_pad (oCons (oVar 2) (oCons (oE (eOp2 gIx (oVar 3) (oE (eC (.int 0))))) (oCons (oVar 7) (oNil)))))) (oCons (oE (eCall m__law_fits (oCons (oVar 2) (oCons (oVar 5) (oNil))))) (oCons (oE (eCall m__law_fits (oCons (oVar 2) (oCons (oVar 3) (oNil))))) (oNil))))))))) <|
    sSeq (sFor (wRng1 (oCons (oE (eC (.int 2))) oNil)) (gjName 4) sRound) <|
    sRet (eC (.bl true))
def m_law : FS := runB 15 1 [0] b_law
end La
namespace La
open PySem PySem.Spec
open PyProof.Rows L2 Dl

/-- the promise of _law_asked -/
def spA (G : Gd) : Sp := fun vs H Q _ => ∃ F ds outs pd, RepL G F ds vs ∧ Same F H ∧ askD ds = some (outs, pd) ∧ ∀ (F' H' : Hp) (p o : Addr) (vp : V) (as : List Addr), Same F F' → Same F' H' → Same H H' → (∀ a, F' a ≠ none → F a ≠ none ∨ H a = none) →
  Rep G F' pd vp → H' p = some (.tup [.ref o, vp]) → H' o = some (.lst (as.map V.ref)) → F' o = none → H o = none → as.length = outs.length →
  (∀ q ∈ as.zip (outs.map fun ns => HO.lst (ns.map V.int)), H' q.1 = some q.2 ∧ F' q.1 = none ∧ H q.1 = none) → Q (.ref p) H'
theorem liv_flat {A : Dl.Act} {F H : Hp} {tl : List T} (hH : A.H0 = H) (hF : A.F0 = F) (e : Same F H) (hv : ∀ t ∈ tl, ∃ v d, t = T.val v d ∧ Rep A.G F d v) : Liv A F H tl := by
  subst hH
  subst hF
  have nil : fps tl = [] := by
    unfold fps
    rw [List.flatMap_eq_nil_iff]
    intro t ht
    obtain ⟨v, d, rfl, _⟩ := hv t ht
    rfl
  refine ⟨e, Same.refl _, fun _ _ h _ => h, fun _ h => .inl h, fun t ht => ?_, by rw [nil]; exact List.nodup_nil, fun a ha => ?_⟩
  · obtain ⟨v, d, rfl, r⟩ := hv t ht
    exact r
  · rw [nil] at ha; cases ha
def tSAny (G : Gd) (js : List Nat) (W : Dl.WX) (f : DS → RSt) : TS := fun D σ H => ∃ A : Dl.Act, A.G = G ∧ A.js = js ∧ tS A W f D σ H
theorem SJ.any {G : Gd} {js : List Nat} {X : Cx} {W : Dl.WX} {st : Stmt} {f : DS → RSt} (h : SJ G js X W st f) : PS X st (tSAny G js W f) := ⟨fun pins s σ H D I q => by
  obtain ⟨A, h1, h2, q⟩ := q
  exact (h A h1 h2).run pins s σ H D I q⟩
/-- the state, with what is kept apart -/
structure Sta (A : Dl.Act) (σ : L2.St) (F H : Hp) (ts : Ts) (D : List (Addr × HO)) : Prop where
  ft : Fit A ts σ
  L : Liv A F H (fm ts)
  g : Gho A F H (fm ts) D
theorem fps_set0 {ts : Ts} {i : Nat} : ∀ a ∈ fps (fm (ts.set i none)), a ∈ fps (fm ts) := by
  intro a ha
  unfold fps at ha ⊢
  rw [List.mem_flatMap] at ha ⊢
  obtain ⟨t, ht, h⟩ := ha
  refine ⟨t, ?_, h⟩
  unfold fm at ht ⊢
  rw [List.mem_filterMap] at ht ⊢
  obtain ⟨o, ho, e⟩ := ht
  refine ⟨o, ?_, e⟩
  rcases List.mem_or_eq_of_mem_set ho with z | z
  · exact z
  · subst z; cases e
theorem Sta.out {A : Dl.Act} {σ : L2.St} {F H : Hp} {ts : Ts} {D : List (Addr × HO)} {p : Addr} {o : HO} {i : Nat} (s : Sta A σ F H ts D) (hP : A.P0 = []) (hp : H p = none) (hi : i ∉ A.js) : Sta A (σ.set i (some (.ref p))) F (upd H p o) (ts.set i none) ((p, o) :: D) := by
  obtain ⟨L, g⟩ := s.L.apart (o := o) hP s.g hp
  refine ⟨⟨by rw [List.length_set, List.length_set]; exact s.ft.len, fun j w hw => ?_, fun q hq => ?_⟩, fm_drop (pre := []) L, g.less fps_set0⟩
  · by_cases hj : i = j
    · subst hj
      by_cases hl : i < ts.length
      · rw [List.getElem?_set_self hl] at hw; cases hw
      · rw [List.set_eq_of_length_le (by omega)] at hw
        exact absurd (List.getElem?_eq_some_iff.mp hw).1 hl
    · rw [List.getElem?_set_ne hj] at hw ⊢
      exact s.ft.at' j w hw
  · have ne : i ≠ q.1 := fun z => hi (z ▸ List.mem_map.mpr ⟨q, hq, rfl⟩)
    rw [List.getElem?_set_ne ne]
    exact s.ft.pin q hq
theorem nxO_some {r : RSt} {d : DS} (h : nxO r = some d) : r = .nx d := by
  cases r <;> first | (cases h; rfl) | cases h
theorem cat_apart {K : PySem.W.Frag} {A : Dl.Act} {F H : Hp} {own : List T} {D : List (Addr × HO)} {l b : Addr} {xs zs : List V} {Q : VK} (h1 : H l = some (.lst xs)) (h2 : H b = some (.lst zs)) (hz : xs.length + zs.length ≤ sizeLine) (k : ∀ p, H p = none → Q (.ref p) (upd H p (.lst (xs ++ zs)))) : rAdd K (.ref l) (.ref b) H Q :=
  .inr (.inr (.inl ⟨l, b, xs, zs, rfl, rfl, h1, h2, hz, k⟩))

theorem Sta.apart {A : Dl.Act} {σ : L2.St} {F H : Hp} {ts : Ts} {D : List (Addr × HO)} {p : Addr} {o : HO} (s : Sta A σ F H ts D) (hP : A.P0 = []) (hp : H p = none) : Sta A σ F (upd H p o) ts ((p, o) :: D) :=
  ⟨s.ft, (s.L.apart hP s.g hp).1, (s.L.apart hP s.g hp).2⟩
theorem eOwns_len : ∀ {fs : List (DS → Res Dl.S)} {ds ds2 : DS} {l : List (List Int)}, eOwns fs ds = some (l, ds2) → l.length = fs.length
  | [], _, _, _, e => by cases e; rfl
  | f :: fs, ds, ds2, l, e => by
    unfold eOwns at e
    split at e
    · split at e
      · split at e
        · rename_i h
          cases e
          rw [List.length_cons, List.length_cons, eOwns_len h]
        · cases e
      · cases e
    · cases e
/-- a display of own lists -/
theorem lst_go {G : Gd} {js : List Nat} {W : Dl.WX} {A : Dl.Act} {σ : L2.St} {fs : List (DS → Res Dl.S)} {F H : Hp} {ts : Ts} {D : List (Addr × HO)} {l : List (List Int)} {ds2 : DS} {Q : VK} (hG : A.G = G) (hj : A.js = js) (hP : A.P0 = []) (s : Sta A σ F H ts D) (e : eOwns fs (erT ts) = some (l, ds2)) (hl : fs.length ≤ 100000)
    (k : ∀ (as : List Addr) F' H' ts' p, Same F F' → erT ts' = ds2 → as.length = l.length → H' p = none → Sta A σ F' H' ts' (as.zip (l.map fun ns => HO.lst (ns.map V.int)) ++ D) → Q (.ref p) (upd H' p (.lst (as.map V.ref)))) : tLst (tOwns G js W fs) σ H Q := by
  refine owns_go hG hj hP s.ft s.L s.g e fun as F1 H1 ts1 e1 f1 e2 L1 g1 hn => ?_
  refine ⟨big_ok (by rw [List.length_map, hn, eOwns_len e]; exact hl), fun p hp => ?_⟩
  exact k as F1 H1 ts1 p e1 e2 hn hp ⟨f1, L1, g1⟩
/-- out = [..] -/
theorem out_go {G : Gd} {js : List Nat} {W : Dl.WX} {A : Dl.Act} {σ : L2.St} {fs : List (DS → Res Dl.S)} {F H : Hp} {ts : Ts} {D : List (Addr × HO)} {l : List (List Int)} {ds2 : DS} {E : Ends} {i : Nat} (hG : A.G = G) (hj : A.js = js) (hP : A.P0 = []) (hi : i ∉ A.js) (s : Sta A σ F H ts D) (e : eOwns fs (erT ts) = some (l, ds2)) (hl : fs.length ≤ 100000)
    (k : ∀ (as : List Addr) F' H' ts' p, Same F F' → erT ts' = ds2.set i none → as.length = l.length → Sta A (σ.set i (some (.ref p))) F' H' ts' ((p, .lst (as.map V.ref)) :: (as.zip (l.map fun ns => HO.lst (ns.map V.int)) ++ D)) → E.nx (σ.set i (some (.ref p))) H') : tAsg (tLst (tOwns G js W fs)) (gName i) E σ H := by
  refine lst_go hG hj hP s e hl fun as F1 H1 ts1 p e1 e2 hn hp s1 => ?_
  exact k as F1 _ (ts1.set i none) p e1 (by rw [erT_set0, e2]) hn (s1.out hP hp hi)
/-- out = out + [..] -/
theorem cat_go {G : Gd} {js : List Nat} {W : Dl.WX} {K : PySem.W.Frag} {A : Dl.Act} {σ : L2.St} {fs : List (DS → Res Dl.S)} {F H : Hp} {ts : Ts} {D : List (Addr × HO)} {l : List (List Int)} {ds2 : DS} {E : Ends} {i : Nat} {p0 : Addr} {as0 : List Addr} (hG : A.G = G) (hj : A.js = js) (hP : A.P0 = []) (hi : i ∉ A.js) (s : Sta A σ F H ts D) (e : eOwns fs (erT ts) = some (l, ds2)) (hl : as0.length + fs.length ≤ 100000)
    (hs : σ[i]? = some (some (.ref p0))) (hD : (p0, HO.lst (as0.map V.ref)) ∈ D)
    (k : ∀ (as : List Addr) F' H' ts' p, Same F F' → erT ts' = ds2.set i none → as.length = l.length → Sta A (σ.set i (some (.ref p))) F' H' ts' ((p, .lst ((as0 ++ as).map V.ref)) :: (as.zip (l.map fun ns => HO.lst (ns.map V.int)) ++ D)) → E.nx (σ.set i (some (.ref p))) H') : tAsg (tOp (rAdd K) (tVar i) (tLst (tOwns G js W fs))) (gName i) E σ H := by
  refine ⟨_, hs, ?_⟩
  refine lst_go hG hj hP s e (by omega) fun as F1 H1 ts1 p e1 e2 hn hp s1 => ?_
  have s2 := s1.apart (o := .lst (as.map V.ref)) hP hp
  refine cat_apart (D := D) (A := A) (F := F1) (own := fm ts1) (xs := as0.map V.ref) (zs := as.map V.ref) ?_ upd_same (big_ok (by rw [List.length_map, List.length_map, hn, eOwns_len e]; exact hl)) fun p2 hp2 => ?_
  · exact (s2.g _ (List.mem_cons_of_mem _ (List.mem_append_right _ hD))).1
  · have s3 := s2.out (o := .lst ((as0 ++ as).map V.ref)) hP hp2 hi
    rw [← List.map_append]
    refine k as F1 _ (ts1.set i none) p2 e1 (by rw [erT_set0, e2]) hn ⟨s3.ft, s3.L, s3.g.mem fun q hq => ?_⟩
    rcases List.mem_cons.mp hq with h | h
    · exact List.mem_cons.mpr (.inl h)
    · exact List.mem_cons_of_mem _ (List.mem_cons_of_mem _ h)
abbrev jsA : List Nat := [0, 1, 2, 3, 4]
def tAsk (G : Gd) (K : PySem.W.Frag) (W : Dl.WX) (A : Dl.Act) : TS :=
  tSeq (tS A W a1) <| tSeq (tS A W a2) <| tSeq (tAsg (tLst (tOwns G jsA W a3)) (gName 7)) <| tSeq (tAsg (tOp (rAdd K) (tVar 7) (tLst (tOwns G jsA W a4))) (gName 7)) <|
  tSeq (tAsg (tOp (rAdd K) (tVar 7) (tLst (tOwns G jsA W a5))) (gName 7)) <| tSeq (tSAny G (7 :: jsA) W a6) <| tSeq (tAsg (tOp (rAdd K) (tVar 7) (tLst (tOwns G jsA W a7))) (gName 7)) <|
  tRet (tTup (tCons (tVar 7) (tCons (tAny G jsA W a8) tNil)))
theorem asked_len {G : Gd} {vs : List V} {H : Hp} {Q : VK} {E : XK} (h : spA G vs H Q E) : vs.length = 5 := by
  obtain ⟨F, ds, outs, pd, r, _, e, _⟩ := h
  unfold askD at e
  split at e
  · rename_i h5
    rw [← r.len]; exact h5
  · cases e
theorem repL_zip {G : Gd} {F : Hp} : ∀ {ds : List Dat} {vs : List V}, RepL G F ds vs → ∀ t ∈ (List.zipWith T.val vs ds), ∃ v d, t = T.val v d ∧ Rep G F d v
  | [], _, h, t, ht => by cases (show _ = [] from h); cases ht
  | d :: ds, _, ⟨v, r, h1, h2, h3⟩, t, ht => by
    subst h1
    rcases List.mem_cons.mp ht with e | e
    · exact ⟨v, d, e, h2⟩
    · exact repL_zip h3 t e
theorem zip_v : ∀ {ds : List Dat} {vs : List V}, ds.length = vs.length → (List.zipWith T.val vs ds).map T.v = vs ∧ (List.zipWith T.val vs ds).map T.er = ds.map Dl.S.val
  | [], [], _ => ⟨rfl, rfl⟩
  | d :: ds, v :: vs, h => by
    obtain ⟨h1, h2⟩ := zip_v (ds := ds) (vs := vs) (by simpa using h)
    exact ⟨by rw [List.zipWith_cons_cons, List.map_cons, h1] <;> rfl, by rw [List.zipWith_cons_cons, List.map_cons, h2] <;> rfl⟩
  | [], _ :: _, h => by cases h
  | _ :: _, [], h => by cases h
def actA (G : Gd) (vs : List V) (F H : Hp) : Dl.Act := ⟨G, H, F, [], jsA.map fun j => (j, vs.getD j .non)⟩
theorem asked_go {G : Gd} {K : PySem.W.Frag} {W : Dl.WX} {N : List Str} {vs : List V} {H : Hp} {Q : VK} {E : XK} {D0 : Ends} (h : spA G vs H Q E) (hN : N.length = 10) (hQ : D0.rt = Q) : ∃ F, tAsk G K W (actA G vs F H) D0 (L2.start N vs) H := by
  have h5 := asked_len h
  obtain ⟨F, ds, outs, pd, r, eF, e, k⟩ := h
  subst hQ
  refine ⟨F, ?_⟩
  have hd5 : ds.length = 5 := r.len.trans h5
  unfold askD at e
  rw [if_pos hd5] at e
  obtain ⟨d1, h1, e⟩ := Option.bind_eq_some_iff.mp e
  obtain ⟨d2, h2, e⟩ := Option.bind_eq_some_iff.mp e
  obtain ⟨⟨l3, d3⟩, h3, e⟩ := Option.bind_eq_some_iff.mp e
  obtain ⟨⟨l4, d4⟩, h4, e⟩ := Option.bind_eq_some_iff.mp e
  obtain ⟨⟨l5, d5⟩, h55, e⟩ := Option.bind_eq_some_iff.mp e
  obtain ⟨d6, h6, e⟩ := Option.bind_eq_some_iff.mp e
  obtain ⟨⟨l7, d7⟩, h7, e⟩ := Option.bind_eq_some_iff.mp e
  split at e
  · rename_i hlen
    have h1 := nxO_some h1
    have h2 := nxO_some h2
    have h6 := nxO_some h6
    split at e
    · rename_i s8 d8 h8
      obtain ⟨eo, ep⟩ := Prod.mk.inj (Option.some.inj e)
      subst ep
      -- the beginning
      let A := actA G vs F H
      have hjs : A.js = jsA := by
        show (jsA.map fun j => (j, vs.getD j V.non)).map (·.1) = jsA
        rfl
      have hi : 7 ∉ A.js := by rw [hjs]; decide
      let ts0 : Ts := (List.zipWith T.val vs ds).map some ++ List.replicate 5 none
      obtain ⟨zv, ze⟩ := zip_v (ds := ds) (vs := vs) r.len
      have hst : L2.start N vs = vsT ts0 := by
        show vs.map some ++ List.replicate (N.length - vs.length) none = ((List.zipWith T.val vs ds).map some ++ List.replicate 5 none).map fun (o : Option T) => o.map T.v
        rw [List.map_append, List.map_map, List.map_replicate, hN, h5]
        congr 1
        rw [show ((fun o : Option T => o.map T.v) ∘ some) = some ∘ T.v from rfl, ← List.map_map, zv]
      have her : erT ts0 = ds.map (fun d => some (Dl.S.val d)) ++ List.replicate 5 none := by
        show ((List.zipWith T.val vs ds).map some ++ List.replicate 5 none).map (fun o : Option T => o.map T.er) = _
        rw [List.map_append, List.map_map, List.map_replicate]
        congr 1
        rw [show ((fun o : Option T => o.map T.er) ∘ some) = some ∘ T.er from rfl, ← List.map_map, ze, List.map_map] <;> rfl
      have hfm : fm ts0 = List.zipWith T.val vs ds := by
        show ((List.zipWith T.val vs ds).map some ++ List.replicate 5 none).filterMap id = _
        rw [List.filterMap_append, List.filterMap_map, show (id ∘ some : T → Option T) = some from rfl, List.filterMap_some]
        have e2 : (List.replicate 5 (none : Option T)).filterMap id = [] := rfl
        rw [e2, List.append_nil]
      have L0 : Liv A F H (fm ts0) := liv_flat rfl rfl eF (by rw [hfm]; exact repL_zip r)
      have ft0 : Fit A ts0 (L2.start N vs) := by
        rw [hst]
        refine ⟨(vsT_len ts0).symm, fun i t h => vsT_get h, fun p hp => ?_⟩
        obtain ⟨j, hj, rfl⟩ := List.mem_map.mp (show p ∈ jsA.map fun j => (j, vs.getD j V.non) from hp)
        have hj5 : j < vs.length := by
          rw [h5]
          exact (show ∀ j ∈ jsA, j < 5 by decide) j hj
        rw [← hst]
        show (vs.map some ++ List.replicate (N.length - vs.length) none)[j]? = some (some (vs.getD j V.non))
        rw [List.getElem?_append_left (by rw [List.length_map]; exact hj5), List.getElem?_map, List.getD_eq_getElem?_getD, List.getElem?_eq_getElem hj5] <;> rfl
      refine ⟨F, ts0, ft0, L0, ?_⟩
      rw [her, h1]
      intro F1 H1 ts1 σ1 e1 f1 q1 L1
      refine ⟨F1, ts1, f1, L1, ?_⟩
      rw [q1, h2]
      intro F2 H2 ts2 σ2 e2 f2 q2 L2
      have s2 : Sta A σ2 F2 H2 ts2 [] := ⟨f2, L2, fun _ h => nomatch h⟩
      have n2 : 7 < σ2.length := by
        have : (erT ts2).length = ts2.length := List.length_map ..
        rw [← f2.len, ← this, q2]; omega
      refine out_go rfl hjs rfl hi s2 (q2 ▸ h3) (by decide) fun as3 F3 H3 ts3 p3 e3 q3 w3 s3 => ?_
      refine cat_go rfl hjs rfl hi s3 (q3 ▸ h4) ?_ (List.getElem?_set_self n2) List.mem_cons_self fun as4 F4 H4 ts4 p4 e4 q4 w4 s4 => ?_
      · rw [w3, eOwns_len h3]; decide
      refine cat_go rfl hjs rfl hi s4 (q4 ▸ h55) ?_ (List.getElem?_set_self (by rw [List.length_set]; exact n2)) List.mem_cons_self fun as5 F5 H5 ts5 p5 e5 q5 w5 s5 => ?_
      · rw [List.length_append, w3, w4, eOwns_len h3, eOwns_len h4]; decide
      -- passed = [..]
      let A6 : Dl.Act := ⟨G, H5, F5, fps (fm ts5), (7, V.ref p5) :: A.pin⟩
      have j6 : A6.js = 7 :: jsA := by
        show 7 :: A.js = 7 :: jsA
        rw [hjs]
      have nil : ∀ {F H : Hp} {l : List T}, Liv A F H l → Liv A F H (l ++ []) := fun L => by rw [List.append_nil]; exact L
      refine ⟨A6, rfl, j6, F5, ts5, ⟨s5.ft.len, s5.ft.at', fun q hq => ?_⟩, (nil s5.L).enter _, ?_⟩
      · rcases List.mem_cons.mp hq with rfl | hq
        · exact List.getElem?_set_self (by rw [List.length_set, List.length_set]; exact n2)
        · exact s5.ft.pin q hq
      rw [q5, h6]
      intro F6 H6 ts6 σ6 e6 f6 q6 L6
      have L6s : Liv (A.sub F5 H5 ts5) F6 H6 (fm ts6) := L6.repin
      have L6' : Liv A F6 H6 (fm ts6) := by
        have := Liv.unsub (tmp := []) (nil s5.L) L6s
        rwa [List.append_nil] at this
      have s6 : Sta A σ6 F6 H6 ts6 _ := ⟨⟨f6.len, f6.at', fun q hq => f6.pin q (List.mem_cons_of_mem _ hq)⟩, L6', s5.g.run L6s⟩
      have g6 : σ6[7]? = some (some (V.ref p5)) := f6.pin (7, V.ref p5) List.mem_cons_self
      have n6 : 7 < σ6.length := (List.getElem?_eq_some_iff.mp g6).1
      refine cat_go rfl hjs rfl hi s6 (q6 ▸ h7) ?_ g6 List.mem_cons_self fun as7 F7 H7 ts7 p7 e7 q7 w7 s7 => ?_
      · rw [List.length_append, List.length_append, w3, w4, w5, eOwns_len h3, eOwns_len h4, eOwns_len h55]; decide
      -- the answer
      refine ⟨_, List.getElem?_set_self n6, A.sub F7 H7 ts7, rfl, hjs, F7, ts7, s7.ft.sub, Liv.sub (tmp := []) (nil s7.L), ?_⟩
      rw [q7, h8]
      intro F8 H8 ts8 v8 e8 f8 q8 L8 r8
      obtain ⟨t, ht, rfl, Lt⟩ := r8
      obtain ⟨F9, e9, Lv⟩ := Lt.freeze
      have g9 := s7.g.run Lv
      have L9 : Liv A F9 H8 (.val t.v t.er.dat :: fm ts8) := by
        have := Liv.unsub (tmp := []) (nil s7.L) Lv
        rwa [List.append_nil] at this
      have rp : Rep G F9 s8.dat t.v := by
        have := L9.rep
        rw [ht] at this
        exact this
      refine ⟨big_ok (show 2 ≤ 100000 by decide), fun p hp => ?_⟩
      have ext : Same H8 (upd H8 p (.tup [V.ref p7, t.v])) := same_new hp
      obtain ⟨o1, o2, o3, o4⟩ := g9 _ (List.mem_cons_self)
      have hL3 : as3.length = l3.length := w3
      refine k F9 _ p p7 t.v (((as3 ++ as4) ++ as5) ++ as7) L9.f0 (L9.fh.trans ext) (fun a o q => ext _ _ (L9.keep a o q (fun z => nomatch z))) (fun a q => ?_) rp upd_same (ext _ _ o1) o2 o4 ?_ ?_
      · rcases L9.new a q with z | z | z
        · exact .inl z
        · exact .inr z
        · cases z
      · rw [← eo]
        simp only [List.length_append, w3, w4, w5, w7]
      · intro q hq
        have hq2 : q ∈ as3.zip (l3.map fun ns => HO.lst (ns.map V.int)) ∨ q ∈ as4.zip (l4.map fun ns => HO.lst (ns.map V.int)) ∨ q ∈ as5.zip (l5.map fun ns => HO.lst (ns.map V.int)) ∨ q ∈ as7.zip (l7.map fun ns => HO.lst (ns.map V.int)) := by
          rw [← eo] at hq
          simp only [List.map_append] at hq
          rw [List.zip_append (by simp only [List.length_append, List.length_map, w3, w4, w5]), List.zip_append (by simp only [List.length_append, List.length_map, w3, w4]), List.zip_append (by simp only [List.length_map, w3])] at hq
          simp only [List.mem_append] at hq
          rcases hq with ((z | z) | z) | z
          · exact .inl z
          · exact .inr (.inl z)
          · exact .inr (.inr (.inl z))
          · exact .inr (.inr (.inr z))
        obtain ⟨u1, u2, u3, u4⟩ := g9 q (by
          simp only [List.mem_cons, List.mem_append]
          rcases hq2 with z | z | z | z
          · simp only [z, true_or, or_true]
          · simp only [z, true_or, or_true]
          · simp only [z, true_or, or_true]
          · simp only [z, true_or, or_true])
        exact ⟨ext _ _ u1, u2, u4⟩
    · cases e
  · cases e

theorem SJ.at (G : Gd) (js : List Nat) {X : Cx} {W : Dl.WX} {A : Dl.Act} {st : Stmt} {f : DS → RSt} (h : SJ G js X W st f) (hG : A.G = G) (hj : A.js = js) : PS X st (tS A W f) := h A hG hj
section
variable {P : Program} {w : World} {K : PySem.W.Frag} {mg : Str → Option Value} {base : Heap} {cl xc : Nat → Addr}
theorem okAsked (t : TopF K mg "_law_asked" "_law_asked" s__law_asked) (Z : Bz mg) (d_row_widths : DefOk P w K mg base ⟨K, cl, xc⟩ "row_widths" ["width", "first", "second"] 1 m_row_widths) (d_union_widths : DefOk P w K mg base ⟨K, cl, xc⟩ "union_widths" ["first", "second"] 1 m_union_widths) (d_frame_widths : DefOk P w K mg base ⟨K, cl, xc⟩ "frame_widths" ["width", "widths", "least"] 1 m_frame_widths) (d_cap_widths : DefOk P w K mg base ⟨K, cl, xc⟩ "cap_widths" ["widths", "most"] 1 m_cap_widths) (d_pad_widths : DefOk P w K mg base ⟨K, cl, xc⟩ "pad_widths" ["width", "widths", "border"] 1 m_pad_widths) (d_first_fit_widths : DefOk P w K mg base ⟨K, cl, xc⟩ "first_fit_widths" ["width", "several"] 1 m_first_fit_widths) : ∃ f fd, FnOk P w K mg base (L2.CX P w) 2 f fd ["width", "sets", "several", "least", "border"] (spA ⟨K, cl, xc⟩) ∧ mg "_law_asked" = some (.ref f) ∧ PySem.W.keepIn K (.ref f) = true ∧ Binds K fd ["width", "sets", "several", "least", "border"] [] := by
  obtain ⟨f, fd, h1, h2⟩ := t.ex
  refine ⟨f, fd, h2.okX sc__law_asked (fun vs H Q E h => asked_len h) (fun cdv A outer s H vs Q E hr h => ?_), h1, h2.kp, h2.binds (fun _ _ _ _ _ _ us hl => match us, hl with | [_, _, _, _, _], _ => rfl)⟩
  obtain ⟨F, hgo⟩ := asked_go (K := K) (W := wE E) (N := ["width", "sets", "several", "least", "border", "first", "second", "out", "passed", "widths"]) (D0 := { nx := fun _ H' => Q .non H', rt := Q }) h rfl rfl
  have tk : Takes (cxOf (L2.CX P w) P w K mg base ["width", "sets", "several", "least", "border", "first", "second", "out", "passed", "widths"] "_law_asked" (defScope s__law_asked) f cdv A outer s H E) (wE E) := takes_of rfl rfl rfl rfl
  refine ⟨_, ?_, hgo⟩
  unfold tAsk
  exact
    pss_cons (SJ.at ⟨K, cl, xc⟩ jsA (sj_frz (sj_set sc__law_asked.nd rfl (by first | exact .inl rfl | exact .inr rfl) (by decide) (ej_callTy cr_list vl_list rfl Z.list (by decide +kernel) (aj_cons (oj_of (ej_ix ix_seq vr_ix (oj_var (pv 1)) (oj_of (ej_int)))) (aj_nil))))) rfl rfl) <|
    pss_cons (SJ.at ⟨K, cl, xc⟩ jsA (sj_frz (sj_set sc__law_asked.nd rfl (by first | exact .inl rfl | exact .inr rfl) (by decide) (ej_callTy cr_list vl_list rfl Z.list (by decide +kernel) (aj_cons (oj_of (ej_ix ix_seq vr_ix (oj_var (pv 1)) (oj_of (ej_int)))) (aj_nil))))) rfl rfl) <|
    pss_cons (ps_set sc__law_asked.nd rfl (by first | exact .inl rfl | exact .inr rfl) (pe_lst (OwnJ.pa (.cons (ej_callD d_row_widths hr (by decide) rfl tk (aj_cons (oj_var (pv 0)) (aj_cons (oj_var (pv 5)) (aj_cons (oj_var (pv 6)) (aj_nil))))) rfl (.cons (ej_callD d_row_widths hr (by decide) rfl tk (aj_cons (oj_var (pv 0)) (aj_cons (oj_var (pv 6)) (aj_cons (oj_var (pv 5)) (aj_nil))))) rfl (.cons (ej_callD d_row_widths hr (by decide) rfl tk (aj_cons (oj_var (pv 0)) (aj_cons (oj_var (pv 5)) (aj_cons (oj_var (pv 5)) (aj_nil))))) rfl (.nil))))))) <|
    pss_cons (ps_set sc__law_asked.nd rfl (by first | exact .inl rfl | exact .inr rfl) (pe_op op_addD (pv 7) (pe_lst (OwnJ.pa (.cons (ej_callD d_union_widths hr (by decide) rfl tk (aj_cons (oj_var (pv 5)) (aj_cons (oj_var (pv 6)) (aj_nil)))) rfl (.cons (ej_callD d_union_widths hr (by decide) rfl tk (aj_cons (oj_var (pv 5)) (aj_cons (oj_var (pv 5)) (aj_nil)))) rfl (.cons (ej_callD d_frame_widths hr (by decide) rfl tk (aj_cons (oj_var (pv 0)) (aj_cons (oj_var (pv 5)) (aj_cons (oj_var (pv 3)) (aj_nil))))) rfl (.nil)))))))) <|
    pss_cons (ps_set sc__law_asked.nd rfl (by first | exact .inl rfl | exact .inr rfl) (pe_op op_addD (pv 7) (pe_lst (OwnJ.pa (.cons (ej_callD d_cap_widths hr (by decide) rfl tk (aj_cons (oj_var (pv 5)) (aj_cons (oj_var (pv 3)) (aj_nil)))) rfl (.cons (ej_callD d_pad_widths hr (by decide) rfl tk (aj_cons (oj_var (pv 0)) (aj_cons (oj_var (pv 5)) (aj_cons (oj_var (pv 4)) (aj_nil))))) rfl (.nil))))))) <|
    pss_cons (SJ.any (sj_frz (sj_setLc rfl sc__law_asked.nd rfl rfl (by decide) (sw_true rfl rfl rfl (by decide +kernel)) (blkOk_by (own := [("widths", 9)]) (N := ["width", "sets", "several", "least", "border", "first", "second", "out", "passed", "widths"]) (sc := defScope s__law_asked) (by decide +kernel)) rfl (by decide) (by decide) (pj_seq (ej_var (pv 2)) rfl) (fun _ _ _ _ _ => gj_name sc__law_asked.nd rfl (by first | exact .inl rfl | exact .inr rfl) (by decide)) (fun _ _ _ _ _ => tsj_nil) (fun _ _ _ _ _ => ej_callTy cr_list vl_list rfl Z.list (by decide +kernel) (aj_cons (oj_var (pv 9)) (aj_nil)))))) <|
    pss_cons (ps_set sc__law_asked.nd rfl (by first | exact .inl rfl | exact .inr rfl) (pe_op op_addD (pv 7) (pe_lst (OwnJ.pa (.cons (ej_callD d_first_fit_widths hr (by decide) rfl tk (aj_cons (oj_var (pv 0)) (aj_cons (oj_var (pv 8)) (aj_nil)))) rfl (.cons (ej_callD d_first_fit_widths hr (by decide) rfl tk (aj_cons (oj_var (pv 0)) (aj_cons (oj_of (ej_lst (aj_cons (oj_of (ej_var (pv 5))) (aj_cons (oj_of (ej_var (pv 6))) (aj_nil))))) (aj_nil)))) rfl (.nil))))))) <|
    pss_one (ps_ret (pe_tup (pa_cons (pv 7) (pa_cons (EJ.any (ej_bin op_addD vr_add (oj_of (ej_lst (aj_cons (oj_of (ej_var (pv 5))) (aj_cons (oj_of (ej_var (pv 6))) (aj_nil))))) (oj_var (pv 8)))) pa_nil))))
end
/-! ### the round -/
def tAAny (G : Gd) (js : List Nat) (W : Dl.WX) (f : DS → Res (List Op)) : TA := fun σ H Q => ∃ A : Dl.Act, A.G = G ∧ A.js = js ∧ tX A W RA f σ H Q
theorem AJ.any {G : Gd} {js : List Nat} {X : Cx} {W : Dl.WX} {e : List Expr} {f : DS → Res (List Op)} (h : AJ G js X W e f) : PA X e (tAAny G js W f) := ⟨fun pos pins s σ H Q I q => by
  obtain ⟨A, h1, h2, q⟩ := q
  exact (h A h1 h2).run pos pins s σ H Q I q⟩
def tTAny (G : Gd) (js : List Nat) (W : Dl.WX) (f : DS → Res Bool) : TT := fun σ H Q => ∃ A : Dl.Act, A.G = G ∧ A.js = js ∧ tX A W RB f σ H Q
theorem TJ.any {G : Gd} {js : List Nat} {X : Cx} {W : Dl.WX} {e : Expr} {f : DS → Res Bool} (h : TJ G js X W e f) : PT X e (tTAny G js W f) := ⟨fun pins s σ H Q I q => by
  obtain ⟨A, h1, h2, q⟩ := q
  exact (h A h1 h2).run pins s σ H Q I q⟩
def tRound (G : Gd) (K : PySem.W.Frag) (W : Dl.WX) : TS :=
  tSeq (tAsg (tCallSD (spA G) [] (WE W) (tAAny G [0] W c1)) (gTup K 2 (gCons (gName 11) (gCons (gName 12) gNil)))) <|
  tSeq (tIfS (tTAny G [0] W c2) (tRet (tC (.bl false))) tNext) <|
  tSeq (tFor (iList K (tVar 11)) (gName 13) (tDrop (tBM K "list" rAppend (tVar 13) (tCons (tC (.int 41)) tNil)))) <|
  tIfS (tTAny G [0] W c4) (tRet (tC (.bl false))) tNext
def valsT (ts : Ts) : Ts := ts.map fun o => match o with | some (.val v d) => some (.val v d) | _ => none
theorem valsT_er (ts : Ts) : erT (valsT ts) = valsD (erT ts) := by
  unfold erT valsT valsD
  rw [List.map_map, List.map_map]
  refine List.map_congr_left fun o _ => ?_
  cases o with
  | none => rfl
  | some t => cases t <;> rfl
theorem valsT_mem {ts : Ts} {t : T} (h : t ∈ fm (valsT ts)) : t ∈ fm ts ∧ ∃ v d, t = .val v d := by
  unfold fm valsT at h
  rw [List.mem_filterMap] at h
  obtain ⟨o, ho, e⟩ := h
  obtain ⟨o2, ho2, rfl⟩ := List.mem_map.mp ho
  cases o2 with
  | none => cases e
  | some u =>
    cases u with
    | val v d =>
      cases e
      exact ⟨List.mem_filterMap.mpr ⟨_, ho2, rfl⟩, v, d, rfl⟩
    | _ => cases e
theorem valsT_get {ts : Ts} {i : Nat} {t : T} (h : (valsT ts)[i]? = some (some t)) : ts[i]? = some (some t) := by
  unfold valsT at h
  rw [List.getElem?_map] at h
  cases e : ts[i]? with
  | none => rw [e] at h; cases h
  | some o =>
    rw [e] at h
    cases o with
    | none => cases h
    | some u => cases u <;> first | exact h | cases h
theorem fm_set_mem {ts : Ts} {i : Nat} {u t : T} (h : t ∈ fm (ts.set i (some u))) : t = u ∨ t ∈ fm ts := by
  unfold fm at h ⊢
  rw [List.mem_filterMap] at h ⊢
  obtain ⟨o, ho, e⟩ := h
  rcases List.mem_or_eq_of_mem_set ho with z | z
  · exact .inr ⟨o, z, e⟩
  · subst z; cases e; exact .inl rfl
theorem fm_set0_mem {ts : Ts} {i : Nat} {t : T} (h : t ∈ fm (ts.set i none)) : t ∈ fm ts := by
  unfold fm at h ⊢
  rw [List.mem_filterMap] at h ⊢
  obtain ⟨o, ho, e⟩ := h
  rcases List.mem_or_eq_of_mem_set ho with z | z
  · exact ⟨o, z, e⟩
  · subst z; cases e
theorem liv_flat2 {A : Dl.Act} {F H : Hp} {tl : List T} (fh : Same F H) (f0 : Same A.F0 F) (keep : ∀ a o, A.H0 a = some o → a ∉ A.P0 → H a = some o) (new : ∀ a, F a ≠ none → A.F0 a ≠ none ∨ A.H0 a = none ∨ a ∈ A.P0) (hv : ∀ t ∈ tl, ∃ v d, t = T.val v d ∧ Rep A.G F d v) : Liv A F H tl := by
  have nil : fps tl = [] := by
    unfold fps
    rw [List.flatMap_eq_nil_iff]
    intro t ht
    obtain ⟨v, d, rfl, _⟩ := hv t ht
    rfl
  refine ⟨fh, f0, keep, new, fun t ht => ?_, by rw [nil]; exact List.nodup_nil, fun a ha => ?_⟩
  · obtain ⟨v, d, rfl, r⟩ := hv t ht
    exact r
  · rw [nil] at ha; cases ha
theorem repl_outs {G : Gd} {F : Hp} : ∀ {as : List Addr} {outs : List (List Int)}, as.length = outs.length → (∀ q ∈ as.zip (outs.map fun ns => HO.lst (ns.map V.int)), F q.1 = some q.2) → RepL G F (outs.map fun ns => Dat.lst (ns.map .int)) (as.map V.ref)
  | [], [], _, _ => rfl
  | a :: as, ns :: outs, h, k => ⟨.ref a, as.map V.ref, rfl, ⟨a, ns.map V.int, rfl, k (a, .lst (ns.map V.int)) (by simp), RepL.of_ints⟩, repl_outs (by simpa using h) fun q hq => k q (by
      simp only [List.map_cons, List.zip_cons_cons, List.mem_cons]
      exact .inr hq)⟩
  | [], _ :: _, h, _ => by cases h
  | _ :: _, [], h, _ => by cases h
/-- what stands at the lists -/
theorem zip_at {as : List Addr} {outs : List (List Int)} (h : as.length = outs.length) {a : Addr} (ha : a ∈ as) : ∃ ns ∈ outs, (a, HO.lst (ns.map V.int)) ∈ as.zip (outs.map fun ns => HO.lst (ns.map V.int)) := by
  induction as generalizing outs with
  | nil => cases ha
  | cons b as ih =>
    cases outs with
    | nil => cases h
    | cons ns outs =>
      rcases List.mem_cons.mp ha with e | e
      · subst e
        exact ⟨ns, List.mem_cons_self, by simp⟩
      · obtain ⟨ms, h1, h2⟩ := ih (outs := outs) (by simpa using h) e
        refine ⟨ms, List.mem_cons_of_mem _ h1, ?_⟩
        simp only [List.map_cons, List.zip_cons_cons, List.mem_cons]
        exact .inr h2
theorem okB_ok {v : Bool} {r : Res Bool} (h : okB v r = true) : ∃ ds, r = .ok v ds := by
  unfold okB at h
  split at h
  · rename_i b ds
    exact ⟨ds, by rw [eq_of_beq h]⟩
  · cases h
theorem round_go {G : Gd} {K : PySem.W.Frag} {W : Dl.WX} {A : Dl.Act} {D : Ends} {σ : L2.St} {H : Hp} (hG : A.G = G) (hj : A.js = [0]) (q : tS A W sRound D σ H) : tRound G K W D σ H := by
  subst hG
  obtain ⟨F, ts, ft, L, q⟩ := q
  unfold sRound at q
  cases hc1 : c1 (valsD (erT ts)) with
  | exc x ds => rw [hc1] at q; exact q.elim
  | stuck => rw [hc1] at q; exact q.elim
  | ok os ds1 =>
    rw [hc1] at q
    dsimp only at q
    cases hdat : dats (valsD (erT ts)) os with
    | none => rw [hdat] at q; exact q.elim
    | some as =>
      rw [hdat] at q
      dsimp only at q
      cases hask : askD as with
      | none => rw [hask] at q; exact q.elim
      | some pr =>
        obtain ⟨outs, pd⟩ := pr
        rw [hask] at q
        dsimp only at q
        split at q
        · rename_i hb
          obtain ⟨hlen, hol, hns, hc2, hc4⟩ := hb
          obtain ⟨ds2, hc2⟩ := okB_ok hc2
          obtain ⟨ds4, hc4⟩ := okB_ok hc4
          have hln : ts.length = σ.length := ft.len
          have hl14 : 14 ≤ σ.length := by
            have : (erT ts).length = ts.length := List.length_map ..
            omega
          -- the call
          let A0 : Dl.Act := ⟨A.G, H, F, [], A.pin⟩
          have fit0 : Fit A0 (valsT ts) σ := ⟨by rw [show (valsT ts).length = ts.length from List.length_map ..]; exact hln, fun i t h => ft.at' i t (valsT_get h), ft.pin⟩
          have val0 : ∀ t ∈ fm (valsT ts), ∃ v d, t = T.val v d ∧ Rep A.G F d v := fun t ht => by
            obtain ⟨h1, v, d, rfl⟩ := valsT_mem ht
            exact ⟨v, d, rfl, L.ok _ h1⟩
          have L0 : Liv A0 F H (fm (valsT ts)) := liv_flat rfl rfl L.fh val0
          refine ⟨A0, rfl, hj, F, valsT ts, fit0, L0, ?_⟩
          rw [valsT_er, hc1]
          intro F1 H1 ts1 vs e1 f1 q1 L1 r1
          have rl : RepL A.G F1 as vs := ROs.dats r1 hdat
          refine ⟨F1, as, outs, pd, by rw [List.append_nil]; exact rl, L1.fh, hask, fun F' H' p o vp asx e2 e3 e4 nw rp hp ho fo ho0 hn hz => ?_⟩
          refine ⟨p, _, rfl, .inl (.inl hp), rfl, _, _, rfl, _, _, rfl, rfl, ?_⟩
          -- what is kept apart
          have gz : ∀ a ∈ asx, ∃ ns ∈ outs, H' a = some (.lst (ns.map V.int)) ∧ F' a = none ∧ H1 a = none := fun a ha => by
            obtain ⟨ns, h1, h2⟩ := zip_at hn ha
            exact ⟨ns, h1, hz _ h2⟩
          have oNot : o ∉ asx := fun hm => by
            obtain ⟨ns, _, h1, _⟩ := gz o hm
            rw [ho] at h1
            have e : asx.map V.ref = ns.map V.int := by
              injection (Option.some.inj h1)
            cases asx with
            | nil => cases hm
            | cons a l => cases ns with
              | nil => cases e
              | cons n l2 => cases e
          let Fo : Hp := fun a => if a = o ∨ a ∈ asx then H' a else F' a
          have Fo_at : ∀ a, (a = o ∨ a ∈ asx) → Fo a = H' a := fun a h => if_pos h
          have Fo_ne : ∀ a, ¬(a = o ∨ a ∈ asx) → Fo a = F' a := fun a h => if_neg h
          have F'_ne : ∀ a u, F' a = some u → ¬(a = o ∨ a ∈ asx) := fun a u h hm => by
            rcases hm with rfl | hm
            · rw [fo] at h; cases h
            · obtain ⟨_, _, _, h2, _⟩ := gz a hm
              rw [h2] at h; cases h
          have sF'o : Same F' Fo := fun a u h => by rw [Fo_ne a (F'_ne a u h)]; exact h
          have sFoH : Same Fo H' := fun a u h => by
            by_cases hm : a = o ∨ a ∈ asx
            · rw [Fo_at a hm] at h; exact h
            · rw [Fo_ne a hm] at h; exact e3 a u h
          let A1 : Dl.Act := ⟨A.G, H1, F1, [], A.pin⟩
          let σ2 : L2.St := (σ.set 11 (some (V.ref o))).set 12 (some vp)
          let ts2 : Ts := ((valsT ts).set 11 (some (.val (.ref o) (.lst (outs.map fun ns => .lst (ns.map .int)))))).set 12 (some (.val vp pd))
          have n11 : 11 ∉ A1.js := by rw [show A1.js = [0] from hj]; decide
          have n12 : 12 ∉ A1.js := by rw [show A1.js = [0] from hj]; decide
          have fit2 : Fit A1 ts2 σ2 := (Fit.store (t := .val (.ref o) (.lst (outs.map fun ns => .lst (ns.map .int)))) (⟨fit0.len, fit0.at', fit0.pin⟩ : Fit A1 (valsT ts) σ) n11).store (t := .val vp pd) n12
          have val2 : ∀ t ∈ fm ts2, ∃ v d, t = T.val v d ∧ Rep A.G Fo d v := fun t ht => by
            rcases fm_set_mem ht with rfl | ht
            · exact ⟨vp, pd, rfl, rp.mono sF'o⟩
            · rcases fm_set_mem ht with rfl | ht
              · refine ⟨_, _, rfl, o, asx.map V.ref, rfl, (Fo_at o (.inl rfl)).trans ho, repl_outs hn fun u hu => ?_⟩
                have hm : u.1 ∈ asx := (List.of_mem_zip hu).1
                rw [Fo_at _ (.inr hm)]
                exact (hz u hu).1
              · obtain ⟨v, d, rfl, r⟩ := val0 t ht
                exact ⟨v, d, rfl, r.mono ((e1.trans e2).trans sF'o)⟩
          have L2' : Liv A1 Fo H' (fm ts2) := liv_flat2 sFoH (e2.trans sF'o) (fun a u h _ => e4 a u h) (fun a h => by
            by_cases hm : a = o ∨ a ∈ asx
            · rcases hm with rfl | hm
              · exact .inr (.inl ho0)
              · obtain ⟨_, _, _, _, h3⟩ := gz a hm
                exact .inr (.inl h3)
            · rw [Fo_ne a hm] at h
              exact (nw a h).elim .inl fun z => .inr (.inl z)) val2
          have er2 : erT ts2 = ((valsD (erT ts)).set 11 (some (.val (.lst (outs.map fun ns => .lst (ns.map .int)))))).set 12 (some (.val pd)) := by
            show erT (((valsT ts).set 11 _).set 12 _) = _
            rw [erT_set, erT_set, valsT_er] <;> rfl
          -- the first test
          refine ⟨A1, rfl, hj, Fo, ts2, fit2, L2', ?_⟩
          rw [er2, hc2]
          intro F3 H3 ts3 b e5 f3 q3 L3 rb
          cases rb
          rw [if_neg Bool.false_ne_true]
          unfold tNext tSeq tFor iList
          dsimp only
          have kp3 : ∀ a u, H1 a = some u → H3 a = some u := fun a u h => L3.keep a u h (fun z => nomatch z)
          have s3 : Same Fo H3 := e5.trans L3.fh
          have g11 : σ2[11]? = some (some (V.ref o)) := by
            show ((σ.set 11 (some (V.ref o))).set 12 (some vp))[11]? = _
            rw [List.getElem?_set_ne (by decide), List.getElem?_set_self (by omega)]
          have o3 : H3 o = some (.lst (asx.map V.ref)) := s3 o _ ((Fo_at o (.inl rfl)).trans ho)
          refine ⟨V.ref o, g11, o, rfl, ⟨_, .inl (.inl o3)⟩, ?_⟩
          -- the loop
          let Iv : Nat → L2.St → Hp → Prop := fun i σ' H' => (∀ j, j ≠ 13 → σ'[j]? = σ2[j]?) ∧ σ'.length = σ2.length ∧ (∀ a u, a ∉ asx → H3 a = some u → H' a = some u) ∧ (∀ a ∈ asx, ∃ xs, H' a = some (.lst xs) ∧ xs.length ≤ 1000 + i)
          have fin : ∀ σ4 H4 n, Iv n σ4 H4 → tIfS (tTAny A.G [0] W c4) (tRet (tC (.bl false))) tNext D σ4 H4 := fun σ4 H4 n iv => by
            obtain ⟨i1, i2, i3, i4⟩ := iv
            let ts4 : Ts := (((valsT ts).set 12 (some (.val vp pd))).set 11 none).set 13 none
            have er4 : erT ts4 = (((valsD (erT ts)).set 12 (some (.val pd))).set 11 none).set 13 none := by
              show erT ((((valsT ts).set 12 _).set 11 none).set 13 none) = _
              rw [erT_set0, erT_set0, erT_set, valsT_er] <;> rfl
            have l4 : ts4.length = ts.length := by
              show ((((valsT ts).set 12 _).set 11 none).set 13 none).length = _
              rw [List.length_set, List.length_set, List.length_set, show (valsT ts).length = ts.length from List.length_map ..]
            have l2 : σ2.length = σ.length := by
              show ((σ.set 11 _).set 12 _).length = _
              rw [List.length_set, List.length_set]
            have pin4 : ∀ p ∈ A.pin, σ4[p.1]? = some (some p.2) := fun p hp => by
              have hm : p.1 ∈ A.js := List.mem_map.mpr ⟨p, hp, rfl⟩
              rw [hj] at hm
              have h0 : p.1 = 0 := by simpa using hm
              rw [i1 p.1 (by omega)]
              exact fit2.pin p hp
            have fit4 : Fit A1 ts4 σ4 := ⟨by rw [l4, i2, l2]; exact hln, fun i t h => by
              have h13 : i ≠ 13 := fun z => by
                subst z
                rw [show ts4[13]? = some none from List.getElem?_set_self (by
                  rw [List.length_set, List.length_set, show (valsT ts).length = ts.length from List.length_map ..]; omega)] at h
                cases h
              rw [i1 i h13]
              have h11 : i ≠ 11 := fun z => by
                subst z
                rw [show ts4[11]? = some none from by
                  show ((((valsT ts).set 12 _).set 11 none).set 13 none)[11]? = _
                  rw [List.getElem?_set_ne (by decide), List.getElem?_set_self (by
                  rw [List.length_set, show (valsT ts).length = ts.length from List.length_map ..]; omega)]] at h
                cases h
              refine fit2.at' i t ?_
              have h' : ((((valsT ts).set 12 (some (T.val vp pd))).set 11 none).set 13 none)[i]? = some (some t) := h
              rw [List.getElem?_set_ne (Ne.symm h13), List.getElem?_set_ne (Ne.symm h11)] at h'
              show (((valsT ts).set 11 _).set 12 _)[i]? = _
              by_cases h12 : i = 12
              · subst h12
                have hl12 : 12 < (valsT ts).length := by rw [show (valsT ts).length = ts.length from List.length_map ..]; omega
                rw [List.getElem?_set_self hl12] at h'
                rw [List.getElem?_set_self (by rw [List.length_set]; exact hl12)]
                exact h'
              · rw [List.getElem?_set_ne (Ne.symm h12)] at h' ⊢
                rw [List.getElem?_set_ne (Ne.symm h11)]
                exact h', pin4⟩
            have L4 : Liv A1 F' H4 (fm ts4) := liv_flat2 (fun a u h => by
                have hne := F'_ne a u h
                exact i3 a u (fun z => hne (.inr z)) (s3 a u (sF'o a u h))) e2 (fun a u h _ => i3 a u (fun z => by
                obtain ⟨_, _, _, _, h3⟩ := gz a z
                have h : H1 a = some u := h
                rw [h3] at h; cases h) (kp3 a u h)) (fun a h => (nw a h).elim .inl fun z => .inr (.inl z)) (fun t ht => by
                rcases fm_set_mem (fm_set0_mem (fm_set0_mem ht)) with rfl | ht
                · exact ⟨vp, pd, rfl, rp⟩
                · obtain ⟨v, d, rfl, r⟩ := val0 t ht
                  exact ⟨v, d, rfl, r.mono (e1.trans e2)⟩)
            refine ⟨A1, rfl, hj, F', ts4, fit4, L4, ?_⟩
            rw [er4, hc4]
            intro F5 H5 ts5 b e6 f5 q5 L5 rb
            cases rb
            rw [if_neg Bool.false_ne_true]
            let tsE : Ts := ((ts.set 11 none).set 12 none).set 13 none
            have erE : erT tsE = (((erT ts).set 11 none).set 12 none).set 13 none := by
              show erT (((ts.set 11 none).set 12 none).set 13 none) = _
              rw [erT_set0, erT_set0, erT_set0]
            have lE : ∀ a u, H a = some u → H5 a = some u := fun a u h => L5.keep a u (L1.keep a u h (fun z => nomatch z)) (fun z => nomatch z)
            have LE : Liv A F H5 (fm tsE) := fm_drop (pre := []) (fm_drop (pre := []) (fm_drop (pre := []) (L.heap lE)))
            have fitE : Fit A tsE σ4 := ⟨by
              show (((ts.set 11 none).set 12 none).set 13 none).length = _
              rw [List.length_set, List.length_set, List.length_set, i2, l2]; exact hln, fun i t h => by
              have h' : (((ts.set 11 none).set 12 none).set 13 none)[i]? = some (some t) := h
              have ne : ∀ {l : Ts} {k : Nat}, i ≠ k ∨ i = k → (l.set k none)[i]? = some (some t) → i ≠ k ∧ l[i]? = some (some t) := fun {l k} _ h => by
                by_cases e : i = k
                · subst e
                  by_cases hl : i < l.length
                  · rw [List.getElem?_set_self hl] at h; cases h
                  · rw [List.set_eq_of_length_le (by omega)] at h
                    exact absurd (List.getElem?_eq_some_iff.mp h).1 hl
                · rw [List.getElem?_set_ne (Ne.symm e)] at h
                  exact ⟨e, h⟩
              obtain ⟨n13, h'⟩ := ne (Decidable.em _).symm h'
              obtain ⟨n12, h'⟩ := ne (Decidable.em _).symm h'
              obtain ⟨n11, h'⟩ := ne (Decidable.em _).symm h'
              rw [i1 i n13]
              show ((σ.set 11 _).set 12 _)[i]? = _
              rw [List.getElem?_set_ne (Ne.symm n12), List.getElem?_set_ne (Ne.symm n11)]
              exact ft.at' i t h', pin4⟩
            exact q F H5 tsE σ4 (Same.refl _) fitE erE LE
          refine ⟨fun i m σ' H' => m = asx.length - i ∧ Iv i σ' H', ⟨asx.length, by simp, fun _ _ => rfl, rfl, fun _ _ _ h => h, fun a ha => ?_⟩, ?_⟩
          · obtain ⟨ns, h1, h2, _⟩ := gz a ha
            refine ⟨ns.map V.int, s3 a _ ((Fo_at a (.inr ha)).trans h2), ?_⟩
            rw [List.length_map]
            have := hns ns h1
            omega
          · rintro i m σ4 H4 ⟨rfl, iv⟩
            have iv' := iv
            obtain ⟨i1, i2, i3, i4⟩ := iv'
            have o4 : H4 o = some (.lst (asx.map V.ref)) := i3 o _ oNot o3
            by_cases hlt : i < asx.length
            · refine .inr ⟨⟨asx.map V.ref, .ref asx[i], .inl (.inl o4), by rw [List.getElem?_map, List.getElem?_eq_getElem hlt] <;> rfl⟩, Iv (i + 1), fun σ' H' h => ⟨asx.length - (i + 1), by omega, rfl, h⟩, fun x H' y => ?_⟩
              obtain ⟨rfl, y⟩ := y
              have hx := y _ (.inl (.inl o4))
              rw [List.getElem?_map, List.getElem?_eq_getElem hlt] at hx
              cases hx
              have hm : asx[i] ∈ asx := List.getElem_mem hlt
              obtain ⟨xs, x1, x2⟩ := i4 _ hm
              have hl13 : 13 < σ4.length := by
                rw [i2]
                show 13 < ((σ.set 11 _).set 12 _).length
                rw [List.length_set, List.length_set]; omega
              refine ⟨V.ref asx[i], List.getElem?_set_self hl13, .inl ⟨rfl, _, .inl (.inl x1)⟩, ?_⟩
              refine ⟨asx[i], xs, .int 41, rfl, rfl, x1, Nat.lt_of_lt_of_le (show xs.length < 100000 by omega) (by decide), ?_⟩
              refine ⟨fun j hj => ?_, by rw [List.length_set]; exact i2, fun a u hna h => ?_, fun a ha => ?_⟩
              · rw [List.getElem?_set_ne (Ne.symm hj)]; exact i1 j hj
              · rw [upd_ne (fun z => hna (by rw [z]; exact hm))]; exact i3 a u hna h
              · by_cases e : a = asx[i]
                · subst e
                  exact ⟨_, upd_same, by rw [List.length_append]; show xs.length + 1 ≤ _; omega⟩
                · obtain ⟨zs, z1, z2⟩ := i4 a ha
                  exact ⟨zs, by rw [upd_ne e]; exact z1, by omega⟩
            · exact .inl ⟨⟨_, .inl (.inl o4), by rw [List.length_map]; omega⟩, fin σ4 H4 i iv⟩
        · exact q.elim
section
theorem fnOkD {P : Program} {w : World} {K : PySem.W.Frag} {mg : Str → Option Value} {base : Heap} {G : Gd} {x qual : Str} {st : Stmt} {N ps : List Str} {k : Nat} {js : List Nat} {body : DS → RSt} {f : Addr} {fd : FuncData} (F : Fun K x qual st f fd) (S : FnScope N ps (defScope st)) (hjs : js.all (fun j => decide (j < ps.length)) = true)
    (hb : ∀ (cdv : Value) (A : Around) (outer : List Env) (s : Shared) (H : Hp) (E : XK), Room k (A.deeper (envOfC qual (defScope st) s.heap.objs.size f cdv)) →
      Takes (cxOf (L2.CX P w) P w K mg base N qual (defScope st) f cdv A outer s H E) (wE E) →
      PassesOwn (model P w) (A.deeper (envOfC qual (defScope st) s.heap.objs.size f cdv)) (envOfC qual (defScope st) s.heap.objs.size f cdv) (cxOf (L2.CX P w) P w K mg base N qual (defScope st) f cdv A outer s H E).xe →
      BJ G js (cxOf (L2.CX P w) P w K mg base N qual (defScope st) f cdv A outer s H E) (wE E) (defBody st) body) : FnOk P w K mg base (L2.CX P w) (k + 1) f fd ps (spD G (runB N.length ps.length js body)) :=
  ok_def F S hjs fun cdv A outer s H E hr => hb cdv A outer s H E hr (takes_of rfl rfl rfl rfl) (passes_of rfl)
variable {P : Program} {w : World} {K : PySem.W.Frag} {mg : Str → Option Value} {base : Heap} {cl xc : Nat → Addr}
theorem D_law {f : Addr} {fd : FuncData} (F : Fun K "law" "law" s_law f fd) (Z : Bz mg) (d__law_store : DefOk P w K mg base ⟨K, cl, xc⟩ "_law_store" ["script", "salt"] 2 m__law_store) (d__law_pick : DefOk P w K mg base ⟨K, cl, xc⟩ "_law_pick" ["store", "items"] 3 m__law_pick) (d__law_set : DefOk P w K mg base ⟨K, cl, xc⟩ "_law_set" ["store", "width"] 5 m__law_set) (d__law_range : DefOk P w K mg base ⟨K, cl, xc⟩ "_law_range" ["store", "low", "high"] 3 m__law_range) (d__law_chance : DefOk P w K mg base ⟨K, cl, xc⟩ "_law_chance" ["store", "many"] 3 m__law_chance) (d__law_take : DefOk P w K mg base ⟨K, cl, xc⟩ "_law_take" ["store", "many"] 2 m__law_take) (d__law_down : DefOk P w K mg base ⟨K, cl, xc⟩ "_law_down" ["widths", "most"] 1 m__law_down) (d__law_row : DefOk P w K mg base ⟨K, cl, xc⟩ "_law_row" ["width", "first", "second"] 2 m__law_row) (d__law_fits : DefOk P w K mg base ⟨K, cl, xc⟩ "_law_fits" ["width", "several"] 2 m__law_fits) (d__law_pad : DefOk P w K mg base ⟨K, cl, xc⟩ "_law_pad" ["width", "widths", "border"] 2 m__law_pad) (d__law_equal : DefOk P w K mg base ⟨K, cl, xc⟩ "_law_equal" ["actual", "due"] 4 (m__law_equal 4)) {fA : Addr} {fdA : FuncData} (hA : FnOk P w K mg base (L2.CX P w) 2 fA fdA ["width", "sets", "several", "least", "border"] (spA ⟨K, cl, xc⟩)) (hm : mg "_law_asked" = some (.ref fA)) (hk : PySem.W.keepIn K (.ref fA) = true) (hb : Binds K fdA ["width", "sets", "several", "least", "border"] []) : FnOk P w K mg base (L2.CX P w) 6 f fd ["script"] (spD ⟨K, cl, xc⟩ m_law) :=
  fnOkD (N := ["script", "store", "width", "sets", "k", "several", "least", "border", "sizes", "both", "due", "out", "passed", "widths", "other"]) F sc_law (by decide) (fun cdv A outer s H E hr tk po =>
    bj_cons (sj_set sc_law.nd rfl (by first | exact .inl rfl | exact .inr rfl) (by decide) (ej_callD d__law_store hr (by decide) rfl tk (aj_cons (oj_var (pv 0)) (aj_cons (oj_of (ej_int)) (aj_nil))))) <|
    bj_cons (sj_set sc_law.nd rfl (by first | exact .inl rfl | exact .inr rfl) (by decide) (ej_callD d__law_pick hr (by decide) rfl tk (aj_cons (oj_var (pv 1)) (aj_cons (oj_of (ej_lst (aj_cons (oj_of (ej_int)) (aj_cons (oj_of (ej_int)) (aj_cons (oj_of (ej_int)) (aj_cons (oj_of (ej_int)) (aj_cons (oj_of (ej_int)) (aj_cons (oj_of (ej_int)) (aj_cons (oj_of (ej_int)) (aj_cons (oj_of (ej_int)) (aj_nil))))))))))) (aj_nil))))) <|
    bj_cons (sj_frz (sj_set sc_law.nd rfl (by first | exact .inl rfl | exact .inr rfl) (by decide) (ej_lst (aj_cons (oj_of (ej_callD d__law_set hr (by decide) rfl tk (aj_cons (oj_var (pv 1)) (aj_cons (oj_var (pv 2)) (aj_nil))))) (aj_cons (oj_of (ej_callD d__law_set hr (by decide) rfl tk (aj_cons (oj_var (pv 1)) (aj_cons (oj_var (pv 2)) (aj_nil))))) (aj_nil)))))) <|
    bj_cons (sj_frz (sj_setLc rfl sc_law.nd rfl rfl (by decide) (sw_true rfl rfl rfl (by decide +kernel)) (blkOk_by (own := [("k", 4)]) (N := ["script", "store", "width", "sets", "k", "several", "least", "border", "sizes", "both", "due", "out", "passed", "widths", "other"]) (sc := defScope s_law) (by decide +kernel)) rfl (by decide) (by decide) (pj_range1 rfl Z.range (aj_cons (oj_of (ej_callD d__law_range hr (by decide) rfl tk (aj_cons (oj_var (pv 1)) (aj_cons (oj_of (ej_int)) (aj_cons (oj_of (ej_int)) (aj_nil)))))) (aj_nil))) (fun _ _ _ _ _ => gj_name sc_law.nd rfl (by first | exact .inl rfl | exact .inr rfl) (by decide)) (fun _ _ _ _ _ => tsj_nil) (fun _ _ _ _ _ => ej_callD d__law_set hr (by decide) rfl takes0 (aj_cons (oj_var (pv 1)) (aj_cons (oj_var (pv 2)) (aj_nil)))))) <|
    bj_cons (sj_frz (sj_if (tj_truth (oj_of (ej_callD d__law_chance hr (by decide) rfl tk (aj_cons (oj_var (pv 1)) (aj_cons (oj_of (ej_int)) (aj_nil))))) rfl) (
      bj_one (sj_set sc_law.nd rfl (by first | exact .inl rfl | exact .inr rfl) (by decide) (ej_bin op_addD vr_add (oj_var (pv 5)) (oj_of (ej_lst (aj_cons (oj_of (ej_ix ix_seq vr_ix (oj_var (pv 3)) (oj_of (ej_int)))) (aj_cons (oj_of (ej_ix ix_seq vr_ix (oj_var (pv 3)) (oj_of (ej_int)))) (aj_nil)))))))) (
      bj_nil))) <|
    bj_cons (sj_set sc_law.nd rfl (by first | exact .inl rfl | exact .inr rfl) (by decide) (ej_callD d__law_pick hr (by decide) rfl tk (aj_cons (oj_var (pv 1)) (aj_cons (oj_of (ej_lst (aj_cons (oj_of (ej_callD d__law_take hr (by decide) rfl tk (aj_cons (oj_var (pv 1)) (aj_cons (oj_of (ej_bin op_addD vr_add (oj_var (pv 2)) (oj_of (ej_int)))) (aj_nil))))) (aj_cons (oj_of (ej_var (pv 2))) (aj_cons (oj_of (ej_int)) (aj_cons (oj_of (ej_int)) (aj_nil))))))) (aj_nil))))) <|
    bj_cons (sj_set sc_law.nd rfl (by first | exact .inl rfl | exact .inr rfl) (by decide) (ej_callD d__law_pick hr (by decide) rfl tk (aj_cons (oj_var (pv 1)) (aj_cons (oj_of (ej_lst (aj_cons (oj_of (ej_callD d__law_take hr (by decide) rfl tk (aj_cons (oj_var (pv 1)) (aj_cons (oj_of (ej_bin op_addD vr_add (oj_of (ej_bin op_fdivN vr_div (oj_var (pv 2)) (oj_of (ej_int)))) (oj_of (ej_int)))) (aj_nil))))) (aj_cons (oj_of (ej_callD d__law_take hr (by decide) rfl tk (aj_cons (oj_var (pv 1)) (aj_cons (oj_of (ej_int)) (aj_nil))))) (aj_cons (oj_of (ej_int)) (aj_nil)))))) (aj_nil))))) <|
    bj_cons (sj_set sc_law.nd rfl (by first | exact .inl rfl | exact .inr rfl) (by decide) (ej_callB (cr_minD rfl) vl_min rfl Z.min (by decide +kernel) (aj_cons (oj_var (pv 7)) (aj_cons (oj_of (ej_int)) (aj_nil))))) <|
    bj_cons (sj_set sc_law.nd rfl (by first | exact .inl rfl | exact .inr rfl) (by decide) (ej_listR1 rfl rfl Z.list rfl Z.range (ej_bin op_addD vr_add (oj_var (pv 2)) (oj_of (ej_int))))) <|
    bj_cons (sj_setLc rfl sc_law.nd rfl rfl (by decide) (sw_true rfl rfl rfl (by decide +kernel)) (blkOk_by (own := [("other", 14)]) (N := ["script", "store", "width", "sets", "k", "several", "least", "border", "sizes", "both", "due", "out", "passed", "widths", "other"]) (sc := defScope s_law) (by decide +kernel)) rfl (by decide) (by decide) (pj_seq (ej_var (pv 8)) rfl) (fun _ _ _ _ _ => gj_name sc_law.nd rfl (by first | exact .inl rfl | exact .inr rfl) (by decide)) (fun _ _ _ _ _ => tsj_one (tj_cmp (op_eqD (room64 hr)) vr_eq (oj_of (ej_callB (cr_maxD rfl) vl_max rfl Z.max (by decide +kernel) (aj_cons (oj_of (ej_callD d__law_down hr (by decide) rfl takes0 (aj_cons (oj_of (ej_ix ix_seq vr_ix (oj_var (pv 3)) (oj_of (ej_int)))) (aj_cons (oj_var (pv 14)) (aj_nil))))) (aj_cons (oj_of (ej_callD d__law_down hr (by decide) rfl takes0 (aj_cons (oj_of (ej_ix ix_seq vr_ix (oj_var (pv 3)) (oj_of (ej_int)))) (aj_cons (oj_var (pv 14)) (aj_nil))))) (aj_nil))))) (oj_var (pv 14)) (nomark _))) (fun _ _ _ _ _ => ej_var (pv 14))) <|
    bj_cons (sj_set sc_law.nd rfl (by first | exact .inl rfl | exact .inr rfl) (by decide) (ej_lst (aj_cons (oj_of (ej_callD d__law_row hr (by decide) rfl tk (aj_cons (oj_var (pv 2)) (aj_cons (oj_of (ej_ix ix_seq vr_ix (oj_var (pv 3)) (oj_of (ej_int)))) (aj_cons (oj_of (ej_ix ix_seq vr_ix (oj_var (pv 3)) (oj_of (ej_int)))) (aj_nil)))))) (aj_cons (oj_of (ej_callD d__law_row hr (by decide) rfl tk (aj_cons (oj_var (pv 2)) (aj_cons (oj_of (ej_ix ix_seq vr_ix (oj_var (pv 3)) (oj_of (ej_int)))) (aj_cons (oj_of (ej_ix ix_seq vr_ix (oj_var (pv 3)) (oj_of (ej_int)))) (aj_nil)))))) (aj_cons (oj_of (ej_callD d__law_row hr (by decide) rfl tk (aj_cons (oj_var (pv 2)) (aj_cons (oj_of (ej_ix ix_seq vr_ix (oj_var (pv 3)) (oj_of (ej_int)))) (aj_cons (oj_of (ej_ix ix_seq vr_ix (oj_var (pv 3)) (oj_of (ej_int)))) (aj_nil)))))) (aj_nil)))))) <|
    bj_cons (sj_set sc_law.nd rfl (by first | exact .inl rfl | exact .inr rfl) (by decide) (ej_bin op_addD vr_add (oj_var (pv 10)) (oj_of (ej_lst (aj_cons (oj_of (ej_var (pv 9))) (aj_cons (oj_of (ej_ix ix_seq vr_ix (oj_var (pv 3)) (oj_of (ej_int)))) (aj_nil))))))) <|
    bj_cons (sj_append (pv 10) (ej_lc rfl sc_law.nd (blkOk_by (own := [("other", 14)]) (N := ["script", "store", "width", "sets", "k", "several", "least", "border", "sizes", "both", "due", "out", "passed", "widths", "other"]) (sc := defScope s_law) (by decide +kernel)) rfl (by decide) (by decide) (pj_seq (ej_var (pv 8)) rfl) (fun _ _ _ _ _ => gj_name sc_law.nd rfl (by first | exact .inl rfl | exact .inr rfl) (by decide)) (fun _ _ _ _ _ => tsj_one (tj_cmp (op_eqD (room64 hr)) vr_eq (oj_of (ej_callB (cr_maxD rfl) vl_max rfl Z.max (by decide +kernel) (aj_cons (oj_of (ej_callD d__law_down hr (by decide) rfl takes0 (aj_cons (oj_of (ej_ix ix_seq vr_ix (oj_var (pv 3)) (oj_of (ej_int)))) (aj_cons (oj_var (pv 14)) (aj_nil))))) (aj_cons (oj_of (ej_callB (cr_minD rfl) vl_min rfl Z.min (by decide +kernel) (aj_cons (oj_var (pv 14)) (aj_cons (oj_var (pv 6)) (aj_nil))))) (aj_nil))))) (oj_var (pv 14)) (nomark _))) (fun _ _ _ _ _ => ej_var (pv 14))) (fun h => pe_bm PySem.F.plainAttrs_list PySem.F.slot_list_append PySem.F.type_list_append mt_append (pv 10) h)) <|
    bj_cons (sj_append (pv 10) (ej_lc rfl sc_law.nd (blkOk_by (own := [("other", 14)]) (N := ["script", "store", "width", "sets", "k", "several", "least", "border", "sizes", "both", "due", "out", "passed", "widths", "other"]) (sc := defScope s_law) (by decide +kernel)) rfl (by decide) (by decide) (pj_seq (ej_var (pv 8)) rfl) (fun _ _ _ _ _ => gj_name sc_law.nd rfl (by first | exact .inl rfl | exact .inr rfl) (by decide)) (fun _ _ _ _ _ => tsj_one (tj_cmp (op_eqD (room64 hr)) vr_eq (oj_of (ej_callD d__law_down hr (by decide) rfl takes0 (aj_cons (oj_of (ej_ix ix_seq vr_ix (oj_var (pv 3)) (oj_of (ej_int)))) (aj_cons (oj_of (ej_callB (cr_minD rfl) vl_min rfl Z.min (by decide +kernel) (aj_cons (oj_var (pv 14)) (aj_cons (oj_var (pv 6)) (aj_nil))))) (aj_nil))))) (oj_var (pv 14)) (nomark _))) (fun _ _ _ _ _ => ej_var (pv 14))) (fun h => pe_bm PySem.F.plainAttrs_list PySem.F.slot_list_append PySem.F.type_list_append mt_append (pv 10) h)) <|
    bj_cons (sj_frz (sj_set sc_law.nd rfl (by first | exact .inl rfl | exact .inr rfl) (by decide) (ej_bin op_addD vr_add (oj_var (pv 10)) (oj_of (ej_lst (aj_cons (oj_of (ej_callD d__law_pad hr (by decide) rfl tk (aj_cons (oj_var (pv 2)) (aj_cons (oj_of (ej_ix ix_seq vr_ix (oj_var (pv 3)) (oj_of (ej_int)))) (aj_cons (oj_var (pv 7)) (aj_nil)))))) (aj_cons (oj_of (ej_callD d__law_fits hr (by decide) rfl tk (aj_cons (oj_var (pv 2)) (aj_cons (oj_var (pv 5)) (aj_nil))))) (aj_cons (oj_of (ej_callD d__law_fits hr (by decide) rfl tk (aj_cons (oj_var (pv 2)) (aj_cons (oj_var (pv 3)) (aj_nil))))) (aj_nil))))))))) <|
    bj_cons (sj_for po rfl (pj_range1 rfl Z.range (aj_cons (oj_of (ej_int)) (aj_nil))) (gj_name sc_law.nd rfl (by first | exact .inl rfl | exact .inr rfl) (by decide)) (fun A' hG hj => pss_imp (
      pss_cons (ps_asg (pe_callSD hA (hr.mono (by decide)) rfl hm hk hb .nil (passAt tk) (AJ.any (aj_cons (oj_var (pv 2)) (aj_cons (oj_var (pv 3)) (aj_cons (oj_var (pv 5)) (aj_cons (oj_var (pv 6)) (aj_cons (oj_var (pv 7)) (aj_nil)))))))) (pg_tup rfl (pgs_cons (pg_name sc_law.nd rfl (by first | exact .inl rfl | exact .inr rfl)) (pgs_cons (pg_name sc_law.nd rfl (by first | exact .inl rfl | exact .inr rfl)) pgs_nil)))) <|
      pss_cons (ps_if (TJ.any (WJ.tj (wj_or (tj_not (tj_truth (oj_of (ej_callD d__law_equal hr (by decide) rfl tk (aj_cons (oj_var (pv 11)) (aj_cons (oj_var (pv 10)) (aj_nil))))) rfl)) (wj_or1 (tj_not (tj_truth (oj_of (ej_callD d__law_equal hr (by decide) rfl tk (aj_cons (oj_var (pv 12)) (aj_cons (oj_of (ej_bin op_addD vr_add (oj_var (pv 3)) (oj_var (pv 5)))) (aj_nil))))) rfl)))))) (pss_one (ps_ret pe_bl)) pss_nil) <|
      pss_cons (ps_for po rfl (pi_list (pv 11)) (pg_name sc_law.nd rfl (by first | exact .inl rfl | exact .inr rfl)) (pss_one (ps_expr (pe_bm PySem.F.plainAttrs_list PySem.F.slot_list_append PySem.F.type_list_append mt_append (pv 13) (pa_cons pe_int pa_nil))))) <|
      pss_one (ps_if (TJ.any (tj_not (tj_truth (oj_of (ej_callD d__law_equal hr (by decide) rfl tk (aj_cons (oj_var (pv 12)) (aj_cons (oj_of (ej_bin op_addD vr_add (oj_var (pv 3)) (oj_var (pv 5)))) (aj_nil))))) rfl))) (pss_one (ps_ret pe_bl)) pss_nil)) fun D σ H q => round_go hG hj q)) <|
    bj_one (sj_ret (ej_bl)))
end
end La
namespace La
open PySem PySem.Spec
open PyProof.Rows L2 Dl
local macro_rules | `(tactic| array_get_dec) => `(tactic| first
  | with_reducible exact eC_q
  | with_reducible exact oNil_q
  | with_reducible exact sNext_q
  | (with_reducible apply oVar_q; exact rfl)
  | (with_reducible apply oVar_l; exact rfl)
  | (with_reducible apply oVar_k; exact rfl)
  | (with_reducible apply oVar_t; exact rfl)
  | (with_reducible apply oVar_i; exact rfl)
  | with_reducible apply oE_q
  | with_reducible apply eOp2_q
  | with_reducible apply eOp1_q
  | with_reducible apply oCons_q
  | with_reducible apply eCB_q
  | with_reducible apply eVar_q
  | with_reducible apply eMove_q
  | with_reducible apply eLst_q
  | with_reducible apply eTup_q
  | with_reducible apply eCall_q
  | with_reducible apply tVal_q
  | with_reducible apply tTru_q
  | with_reducible apply tNotF_q
  | with_reducible apply sSet_q
  | with_reducible apply sRet_q
  | with_reducible apply sDrop_q
  | with_reducible apply sFrz_q
  | with_reducible apply sAppend_q
  | with_reducible apply eDisp_q
  | with_reducible apply eVals_cons
  | with_reducible exact eDisp_nil
  | ((with_reducible show gMul _ _ = some _); exact gMul_r (by decide))
  | ((with_reducible show gMul _ _ = some _); exact gMul_l (by decide))
  | ((with_reducible show gDiv _ _ = some _); exact gDiv_q (by decide) (by decide))
  | ((with_reducible show gMod _ _ = some _); exact gMod_q (by decide))
  | ((with_reducible show gEq _ _ = some _); exact gEq_i)
  | ((with_reducible show gInB _ _ _ = some _); exact gInB_i)
  | array_mem_dec
  | ((with_reducible show List.length _ ≤ 100000); simp; done)
  | ((with_reducible show _ = _); with_reducible assumption)
  | exact rfl)
local macro_rules | `(tactic| sizeOf_list_dec) => `(tactic| repeat' array_get_dec)
def mix1 (a b : Int) : Int := (a * 1103515245 + b * 69621 + 12345).fmod 2147483647
def mix2 (a b : Int) : Int := (mix1 a b * mix1 a b + 48271 * mix1 a b + b + 1).fmod 2147483629
def mixI (a b : Int) : Int := (((mix2 a b).fdiv 4096 + 524287 * mix2 a b) * 16807 + 7).fmod 2147483647
theorem mix1_small (a b : Int) : (mix1 a b).natAbs < 2 ^ 64 := by
  have h1 := Int.fmod_nonneg_of_pos (a * 1103515245 + b * 69621 + 12345) (show (0 : Int) < 2147483647 by decide)
  have h2 := Int.fmod_lt_of_pos (a * 1103515245 + b * 69621 + 12345) (show (0 : Int) < 2147483647 by decide)
  unfold mix1
  omega
theorem mix_ok (a b : Int) : m__law_mix [.val (.int a), .val (.int b)] = .ret (.val (.int (mixI a b))) [.val (.int a), .val (.int b)] := by
  have h := gMul_r (i := mix1 a b) (j := mix1 a b) (mix1_small a b)
  refine runB_rt rfl (ds := [some (.val (.int a)), some (.val (.int b)), some (.val (.int (mix2 a b)))]) ?_ rfl
  refine sSeq_q (ds1 := [some (.val (.int a)), some (.val (.int b)), some (.val (.int (mix1 a b)))]) (by sizeOf_list_dec) ?_
  refine sSeq_q (ds1 := [some (.val (.int a)), some (.val (.int b)), some (.val (.int (mix2 a b)))]) (by sizeOf_list_dec) ?_
  sizeOf_list_dec

local macro_rules | `(tactic| array_mem_dec) => `(tactic| ((with_reducible show m__law_mix _ = _); exact mix_ok _ _))
def stK : List Key := [.inr "cells", .inr "at", .inr "left", .inr "turn", .inr "salt", .inr "seed"]
def stS (c : List Int) (pos left turn salt seed : Int) : Dl.S := .dk stK [.lst (c.map .int), .int pos, .int left, .int turn, .int salt, .int seed]
def IsSt (s : Dl.S) : Prop := ∃ c pos left turn salt seed, s = stS c pos left turn salt seed ∧ 0 ≤ pos
abbrev sI (i : Int) : Dl.S := .val (.int i)
theorem get_turn {c : List Int} {pos left turn salt seed : Int} : gDGet (stS c pos left turn salt seed).dat (.str "turn") = some (.val (.int turn)) := rfl
theorem get_at {c : List Int} {pos left turn salt seed : Int} : gDGet (stS c pos left turn salt seed).dat (.str "at") = some (.val (.int pos)) := rfl
theorem put_turn {c : List Int} {pos left turn salt seed x : Int} : putD stK [.lst (c.map .int), .int pos, .int left, .int turn, .int salt, .int seed] (.inr "turn") (.int x) = (stK, [.lst (c.map .int), .int pos, .int left, .int x, .int salt, .int seed]) := rfl
theorem take_1 {c : List Int} {pos left turn salt seed many : Int} (h : many < 2) : m__law_take [stS c pos left turn salt seed, sI many] = .ret (sI 0) [stS c pos left (turn + 1) salt seed, sI many] := by
  refine runB_rt rfl (ds := [some (stS c pos left (turn + 1) salt seed), some (sI many), none, none, none]) ?_ rfl
  refine sSeq_q (ds1 := [some (stS c pos left (turn + 1) salt seed), some (sI many), none, none, none]) (sPutK_q (s := sI (turn + 1)) (by sizeOf_list_dec) rfl (by sizeOf_list_dec) rfl rfl (by decide) rfl) ?_
  refine sSeq_rt (sIf_t (by sizeOf_list_dec) (decide_eq_true h) (by sizeOf_list_dec))

theorem fmod_in (x : Int) {m : Int} (h : 2 ≤ m) : 0 ≤ x.fmod m ∧ x.fmod m < m := ⟨Int.fmod_nonneg_of_pos x (by omega), Int.fmod_lt_of_pos x (by omega)⟩
theorem atI_ok {α : Type} {l : List α} {i : Int} (h0 : 0 ≤ i) (h : i < l.length) : ∃ x, atI l i = some x := by
  unfold atI ixN
  rw [if_pos h0, if_pos h]
  show ∃ x, l[i.toNat]? = some x
  exact ⟨_, List.getElem?_eq_getElem (by omega)⟩
theorem atI_mem {α : Type} {l : List α} {i : Int} {x : α} (h : atI l i = some x) : x ∈ l := by
  unfold atI at h
  obtain ⟨j, _, h2⟩ := Option.bind_eq_some_iff.mp h
  exact List.mem_of_getElem? h2
theorem atI_int {c : List Int} {i : Int} {d : Dat} (h : atI (c.map Dat.int) i = some d) : ∃ z, d = .int z := by
  obtain ⟨z, _, rfl⟩ := List.mem_map.mp (atI_mem h)
  exact ⟨z, rfl⟩
theorem take_2 {c : List Int} {pos left turn salt seed many : Int} (h : 2 ≤ many) (hb : many < 1073741824) (h0 : 0 ≤ pos) : ∃ r s', m__law_take [stS c pos left turn salt seed, sI many] = .ret (sI r) [s', sI many] ∧ IsSt s' ∧ 0 ≤ r ∧ r < many := by
  have nz : many ≠ 0 := by omega
  have nb : many.natAbs < 1073741824 := by omega
  have nlt : ¬ many < 2 := by omega
  let s1 := stS c pos left (turn + 1) salt seed
  have start : ∀ {r : RSt} {g : DS → RSt}, g [some s1, some (sI many), some (sI left), none, none] = r → sSeq (sSet 2 (eOp2 gDGet (oVar 0) (oE (eC (.str "left"))))) g [some s1, some (sI many), none, none, none] = r := fun h => sSeq_q (by sizeOf_list_dec) h
  by_cases hl : left = 0
  · subst hl
    by_cases hp : pos < (c.length : Int)
    · obtain ⟨cell, hc⟩ := atI_ok (l := c.map Dat.int) h0 (by rw [List.length_map]; exact hp)
      obtain ⟨z, rfl⟩ : ∃ z, cell = .int z := atI_int hc
      let s2 := stS c (pos + 1) 0 (turn + 1) salt seed
      have gc : gIx (.lst (c.map .int)) (.int pos) = some (sI z) := by
        show (match atI (c.map Dat.int) pos with | some d => some (Dl.S.val d) | none => none) = _
        rw [hc]
      have pre : ∀ {r : RSt} {g : DS → RSt}, g [some s2, some (sI many), some (sI 0), some (sI z), none] = r → sSeq (sSet 3 (eOp2 gIx (oE (eOp2 gDGet (oVar 0) (oE (eC (.str "cells"))))) (oE (eOp2 gDGet (oVar 0) (oE (eC (.str "at"))))))) (sSeq (sPutK 0 (eC (.str "at")) (eOp2 gAdd (oE (eOp2 gDGet (oVar 0) (oE (eC (.str "at"))))) (oE (eC (.int 1))))) g) [some s1, some (sI many), some (sI 0), none, none] = r := fun h =>
        sSeq_q (sSet_q (s := sI z) (by sizeOf_list_dec) rfl) (sSeq_q (ds1 := [some s2, some (sI many), some (sI 0), some (sI z), none]) (sPutK_q (s := sI (pos + 1)) (by sizeOf_list_dec) rfl (by sizeOf_list_dec) rfl rfl (by decide) rfl) h)
      by_cases hz : (if z < 0 then -z else z) < 10 ^ 18
      · let t1 := mixI (z + salt) (turn + 1)
        let t2 := mixI t1 (turn + 1 + 17)
        refine ⟨(t2 * 2147483647 + t1).fmod many, s2, ?_, ⟨_, _, _, _, _, _, rfl, by omega⟩, fmod_in _ h⟩
        refine runB_rt rfl (ds := [some s2, some (sI many), some (sI 0), some (sI z), some (sI t1)]) ?_ rfl
        refine sSeq_q (ds1 := [some s1, some (sI many), none, none, none]) (sPutK_q (s := sI (turn + 1)) (by sizeOf_list_dec) rfl (by sizeOf_list_dec) rfl rfl (by decide) rfl) ?_
        refine sSeq_q (sIf_f (by sizeOf_list_dec) (decide_eq_false nlt) (by sizeOf_list_dec)) ?_
        refine start ?_
        refine sSeq_rt (sIf_t (tAndF_q (by sizeOf_list_dec) (by rw [if_pos (decide_eq_true rfl)]; sizeOf_list_dec)) ?_ ?_)
        · rw [List.length_map]
          exact decide_eq_true hp
        refine pre ?_
        refine sSeq_rt (sIf_t (by sizeOf_list_dec) (decide_eq_true hz) ?_)
        refine sSeq_q (sSet_q (s := sI t1) (by sizeOf_list_dec) rfl) ?_
        sizeOf_list_dec
        exact gMod_q nz
      · let n := if z < 0 then -z else z
        have n0 : ¬ n = 0 := fun e => hz (by show n < 10 ^ 18; rw [e]; decide)
        refine ⟨n.fmod many, stS c (pos + 1) (n.fdiv many) (turn + 1) salt seed, ?_, ⟨_, _, _, _, _, _, rfl, by omega⟩, fmod_in _ h⟩
        refine runB_rt rfl (ds := [some (stS c (pos + 1) (n.fdiv many) (turn + 1) salt seed), some (sI many), some (sI n), some (sI z), none]) ?_ rfl
        refine sSeq_q (ds1 := [some s1, some (sI many), none, none, none]) (sPutK_q (s := sI (turn + 1)) (by sizeOf_list_dec) rfl (by sizeOf_list_dec) rfl rfl (by decide) rfl) ?_
        refine sSeq_q (sIf_f (by sizeOf_list_dec) (decide_eq_false nlt) (by sizeOf_list_dec)) ?_
        refine start ?_
        refine sSeq_q (sIf_t (tAndF_q (by sizeOf_list_dec) (by rw [if_pos (decide_eq_true rfl)]; sizeOf_list_dec)) ?_ (pre (sSeq_q (sIf_f (by sizeOf_list_dec) (decide_eq_false hz) (by sizeOf_list_dec)) (by sizeOf_list_dec)))) ?_
        · rw [List.length_map]
          exact decide_eq_true hp
        refine sSeq_q (sIf_f (by sizeOf_list_dec) (decide_eq_false n0) (by sizeOf_list_dec)) ?_
        refine sSeq_q (sPutK_q (s := sI (n.fdiv many)) (by sizeOf_list_dec; exact gDiv_q nz nb) rfl (by sizeOf_list_dec) rfl rfl (by decide) rfl) ?_
        sizeOf_list_dec
        exact gMod_q nz
    · -- no cell is left: from the seed
      let t1 := mixI seed (turn + 1)
      let t2 := mixI t1 (seed + 5)
      refine ⟨(t2 * 2147483647 + t1).fmod many, s1, ?_, ⟨_, _, _, _, _, _, rfl, h0⟩, fmod_in _ h⟩
      refine runB_rt rfl (ds := [some s1, some (sI many), some (sI 0), none, some (sI t1)]) ?_ rfl
      refine sSeq_q (ds1 := [some s1, some (sI many), none, none, none]) (sPutK_q (s := sI (turn + 1)) (by sizeOf_list_dec) rfl (by sizeOf_list_dec) rfl rfl (by decide) rfl) ?_
      refine sSeq_q (sIf_f (by sizeOf_list_dec) (decide_eq_false nlt) (by sizeOf_list_dec)) ?_
      refine start ?_
      refine sSeq_q (sIf_f (tAndF_q (by sizeOf_list_dec) (by rw [if_pos (decide_eq_true rfl)]; sizeOf_list_dec)) ?_ (by sizeOf_list_dec)) ?_
      · rw [List.length_map]
        exact decide_eq_false hp
      refine sSeq_rt (sIf_t (by sizeOf_list_dec) (decide_eq_true rfl) ?_)
      refine sSeq_q (sSet_q (s := sI t1) (by sizeOf_list_dec) rfl) ?_
      sizeOf_list_dec
      exact gMod_q nz
  · refine ⟨left.fmod many, stS c pos (left.fdiv many) (turn + 1) salt seed, ?_, ⟨_, _, _, _, _, _, rfl, h0⟩, fmod_in _ h⟩
    refine runB_rt rfl (ds := [some (stS c pos (left.fdiv many) (turn + 1) salt seed), some (sI many), some (sI left), none, none]) ?_ rfl
    refine sSeq_q (ds1 := [some s1, some (sI many), none, none, none]) (sPutK_q (s := sI (turn + 1)) (by sizeOf_list_dec) rfl (by sizeOf_list_dec) rfl rfl (by decide) rfl) ?_
    refine sSeq_q (sIf_f (by sizeOf_list_dec) (decide_eq_false nlt) (by sizeOf_list_dec)) ?_
    refine start ?_
    refine sSeq_q (sIf_f (tAndF_q (by sizeOf_list_dec) (by rw [if_neg (by rw [decide_eq_false hl]; decide)])) rfl (by sizeOf_list_dec)) ?_
    refine sSeq_q (sIf_f (by sizeOf_list_dec) (decide_eq_false hl) (by sizeOf_list_dec)) ?_
    refine sSeq_q (sPutK_q (s := sI (left.fdiv many)) (by sizeOf_list_dec; exact gDiv_q nz nb) rfl (by sizeOf_list_dec) rfl rfl (by decide) rfl) ?_
    sizeOf_list_dec
    exact gMod_q nz
theorem take_ok {s : Dl.S} (hs : IsSt s) {many : Int} (hb : many < 1073741824) : ∃ r s', m__law_take [s, sI many] = .ret (sI r) [s', sI many] ∧ IsSt s' ∧ 0 ≤ r ∧ (r = 0 ∨ r < many) := by
  obtain ⟨c, pos, left, turn, salt, seed, rfl, h0⟩ := hs
  by_cases h : many < 2
  · exact ⟨0, _, take_1 h, ⟨_, _, _, _, _, _, rfl, h0⟩, Int.le_refl _, .inl rfl⟩
  · obtain ⟨r, s', h1, h2, h3, h4⟩ := take_2 (c := c) (left := left) (turn := turn) (salt := salt) (seed := seed) (show 2 ≤ many by omega) hb h0
    exact ⟨r, s', h1, h2, h3, .inr h4⟩
theorem IsSt.dk {s : Dl.S} (h : IsSt s) : ∃ ks xs, s = .dk ks xs := by
  obtain ⟨_, _, _, _, _, _, rfl, _⟩ := h
  exact ⟨_, _, rfl⟩
theorem oVar_st {i : Nat} {ds : DS} {s : Dl.S} (hs : IsSt s) (h : ds[i]? = some (some s)) : oVar i ds = .ok (.s i) ds := by
  obtain ⟨ks, xs, rfl⟩ := hs.dk
  exact oVar_k h
local macro_rules | `(tactic| array_mem_dec) => `(tactic| ((with_reducible show oVar _ _ = _); exact oVar_st (by assumption) rfl))
local macro_rules | `(tactic| array_mem_dec) => `(tactic| ((with_reducible show intsOf _ = _); exact intsOf_map))
theorem chance_ok {s : Dl.S} (hs : IsSt s) {many : Int} (hb : many < 1073741824) : ∃ (b : Bool) (s' : Dl.S), m__law_chance [s, sI many] = .ret (.val (.bl b)) [s', sI many] ∧ IsSt s' := by
  obtain ⟨r, s', h1, h2, _, _⟩ := take_ok hs hb
  refine ⟨decide (r = 0), s', ?_, h2⟩
  refine runB_rt rfl (ds := [some s', some (sI many)]) (sRet_q (eOp2_q (oE_q (eCall_q (oCons_q (oVar_st hs rfl) (by sizeOf_list_dec)) rfl h1 rfl)) (by sizeOf_list_dec) rfl rfl gEq_i)) rfl
theorem gLen_l {xs : List Dat} : gLen [.lst xs] = some (sI xs.length) := rfl
theorem pick_ok {s : Dl.S} (hs : IsSt s) {xs : List Dat} (hn : xs ≠ []) (hb : xs.length ≤ 100000) : ∃ (d : Dat) (s' : Dl.S), m__law_pick [s, .val (.lst xs)] = .ret (.val d) [s', .val (.lst xs)] ∧ IsSt s' ∧ d ∈ xs := by
  obtain ⟨r, s', h1, h2, h3, h4⟩ := take_ok hs (many := xs.length) (by omega)
  have hl : 0 < xs.length := List.length_pos_iff.mpr hn
  obtain ⟨d, hd⟩ := atI_ok (l := xs) h3 (by omega)
  refine ⟨d, s', ?_, h2, atI_mem hd⟩
  have gd : gIx (.lst xs) (.int r) = some (.val d) := by
    show (match atI xs r with | some d => some (Dl.S.val d) | none => none) = _
    rw [hd]
  refine runB_rt rfl (ds := [some s', some (.val (.lst xs))]) (sRet_q (eOp2_q (oVar_q rfl) (oE_q (eCall_q (oCons_q (oVar_st hs rfl) (oCons_q (oE_q (eCB_q (by sizeOf_list_dec) rfl gLen_l)) oNil_q)) rfl h1 rfl)) rfl rfl gd)) rfl
theorem gMax_i {i j : Int} : gMax [.int i, .int j] = some (sI (max i j)) := by
  show some (sI (if j > i then j else i)) = _
  congr 2
  rw [Int.max_def]
  split <;> split <;> congr 1 <;> omega
theorem gMin_i {i j : Int} : gMin [.int i, .int j] = some (sI (min i j)) := by
  show some (sI (if j < i then j else i)) = _
  congr 2
  rw [Int.min_def]
  split <;> split <;> congr 1 <;> omega
theorem range_ok {s : Dl.S} (hs : IsSt s) {low high : Int} (h : low ≤ high) (hb : high - low < 1000000) : ∃ r s', m__law_range [s, sI low, sI high] = .ret (sI r) [s', sI low, sI high] ∧ IsSt s' ∧ low ≤ r ∧ r ≤ high := by
  obtain ⟨way, s1, h1, h2, h3, h4⟩ := take_ok hs (many := 9) (by decide)
  obtain ⟨r, s2, k1, k2, k3, k4⟩ := take_ok h2 (many := high - low + 1) (by omega)
  have hm : max low high = high := by omega
  have pre : ∀ {r : RSt} {g : DS → RSt}, g [some s1, some (sI low), some (sI high), some (sI way)] = r → sSeq (sSet 2 (eCB gMax (oCons (oVar 1) (oCons (oVar 2) (oNil))))) (sSeq (sSet 3 (eCall m__law_take (oCons (oVar 0) (oCons (oE (eC (.int 9))) (oNil))))) g) [some s, some (sI low), some (sI high), none] = r := fun h => by
    refine sSeq_q (sSet_q (eCB_q (by sizeOf_list_dec) rfl gMax_i) rfl) ?_
    rw [hm]
    refine sSeq_q (by sizeOf_list_dec) ?_
    exact h
  by_cases w0 : way = 0
  · refine ⟨low, s1, runB_rt rfl (ds := [some s1, some (sI low), some (sI high), some (sI way)]) (pre ?_) rfl, h2, Int.le_refl _, h⟩
    exact sSeq_rt (sIf_t (by sizeOf_list_dec) (decide_eq_true w0) (by sizeOf_list_dec))
  · by_cases w1 : way = 1
    · refine ⟨high, s1, runB_rt rfl (ds := [some s1, some (sI low), some (sI high), some (sI way)]) (pre ?_) rfl, h2, h, Int.le_refl _⟩
      refine sSeq_q (sIf_f (by sizeOf_list_dec) (decide_eq_false w0) (by sizeOf_list_dec)) ?_
      exact sSeq_rt (sIf_t (by sizeOf_list_dec) (decide_eq_true w1) (by sizeOf_list_dec))
    · by_cases w2 : way = 2
      · refine ⟨low + min 1 (high - low), s1, runB_rt rfl (ds := [some s1, some (sI low), some (sI high), some (sI way)]) (pre ?_) rfl, h2, by omega, by omega⟩
        refine sSeq_q (sIf_f (by sizeOf_list_dec) (decide_eq_false w0) (by sizeOf_list_dec)) ?_
        refine sSeq_q (sIf_f (by sizeOf_list_dec) (decide_eq_false w1) (by sizeOf_list_dec)) ?_
        refine sSeq_rt (sIf_t (by sizeOf_list_dec) (decide_eq_true w2) (sRet_q (eOp2_q (by sizeOf_list_dec) (oE_q (eCB_q (by sizeOf_list_dec) rfl gMin_i)) rfl rfl rfl)))
      · refine ⟨low + r, s2, runB_rt rfl (ds := [some s2, some (sI low), some (sI high), some (sI way)]) (pre ?_) rfl, k2, by omega, by omega⟩
        refine sSeq_q (sIf_f (by sizeOf_list_dec) (decide_eq_false w0) (by sizeOf_list_dec)) ?_
        refine sSeq_q (sIf_f (by sizeOf_list_dec) (decide_eq_false w1) (by sizeOf_list_dec)) ?_
        refine sSeq_q (sIf_f (by sizeOf_list_dec) (decide_eq_false w2) (by sizeOf_list_dec)) ?_
        sizeOf_list_dec
/-- a list of widths -/
structure Wd (w : Int) (l : List Int) : Prop where
  up : l.Pairwise (· < ·)
  zero : 0 ∈ l
  le : ∀ x ∈ l, 0 ≤ x ∧ x ≤ w
theorem intsOf_map : ∀ {l : List Int}, intsOf (l.map .int) = some l
  | [] => rfl
  | i :: l => by rw [List.map_cons, intsOf, intsOf_map (l := l)]
theorem gSorted_l {l : List Int} : gSorted [.lst (l.map .int)] = some (.lst ((l.mergeSort (fun a b => decide (a ≤ b))).map .int)) := by
  show (match intsOf (l.map Dat.int) with | some ns => some (Dl.S.lst ((ns.mergeSort (fun a b => decide (a ≤ b))).map .int)) | none => none) = _
  rw [intsOf_map]
theorem sort_up {l : List Int} (h : l.Nodup) : (l.mergeSort (fun a b => decide (a ≤ b))).Pairwise (· < ·) ∧ ∀ x, x ∈ l.mergeSort (fun a b => decide (a ≤ b)) ↔ x ∈ l := by
  have hp := List.mergeSort_perm l (fun a b : Int => decide (a ≤ b))
  have h1 := List.pairwise_mergeSort (le := fun a b : Int => decide (a ≤ b)) (fun a b c h1 h2 => by simp at *; omega) (fun a b => by simp; omega) l
  have h2 : (l.mergeSort (fun a b => decide (a ≤ b))).Nodup := hp.nodup_iff.mpr h
  refine ⟨?_, fun x => hp.mem_iff⟩
  refine (h1.and h2).imp fun {a b} q => ?_
  have := of_decide_eq_true q.1
  have := q.2
  omega
theorem rng_get {lo : Int} {n : Nat} {p q : List Dat} {d : Dat} (h : rng lo n = p ++ d :: q) : d = .int (lo + p.length) ∧ p.length < n := by
  have hl : (rng lo n).length = n := by simp [rng]
  have e : (rng lo n)[p.length]? = some d := by rw [h]; simp
  have hlt : p.length < n := by
    have : (p ++ d :: q).length = n := by rw [← h, hl]
    rw [List.length_append, List.length_cons] at this; omega
  refine ⟨?_, hlt⟩
  unfold rng at e
  rw [List.getElem?_map, List.getElem?_range hlt] at e
  exact (Option.some.inj e).symm
theorem widths_ok {s : Dl.S} (hs : IsSt s) {w : Int} (h0 : 0 ≤ w) (hw : w ≤ 40) : ∃ l s', m__law_widths [s, sI w] = .ret (.lst (l.map .int)) [s', sI w] ∧ IsSt s' ∧ Wd w l := by
  obtain ⟨k, s1, h1, h2, h3, h4⟩ := range_ok hs (low := 0) (high := 6) (by decide) (by decide)
  let I : List Dat → DS → Prop := fun p ds => ∃ (s : Dl.S) (l : List Int) (x y : Option Dl.S), ds = [some s, some (sI w), some (.lst (l.map .int)), x, y] ∧ IsSt s ∧ l.Nodup ∧ 0 ∈ l ∧ (∀ x ∈ l, 0 ≤ x ∧ x ≤ w) ∧ l.length ≤ p.length + 1
  obtain ⟨ds', f1, f2⟩ := forD_inv (asg := gjName 3) (body := sSeq (sSet 4 (eCall m__law_take (oCons (oVar 0) (oCons (oE (eOp2 gAdd (oVar 1) (oE (eC (.int 1))))) (oNil))))) <|
      sIf (tVal (eOp2 (gInB true) (oVar 4) (oVar 2))) (sAppend 2 (eVar 4)) sNext) I (xs := rng 0 k.toNat) (pre := []) (ds := [some s1, some (sI w), some (.lst [.int 0]), none, none])
    ⟨s1, [0], none, none, rfl, h2, by simp, by simp, by simp; omega, by simp⟩ (fun p d ds ⟨s, l, x, y, e, i1, i2, i3, i4, i5⟩ ⟨q, hq⟩ => by
      subst e
      obtain ⟨rfl, hlt⟩ := rng_get hq
      obtain ⟨r, s', t1, t2, t3, t4⟩ := take_ok i1 (many := w + 1) (by omega)
      refine ⟨[some s, some (sI w), some (.lst (l.map .int)), some (sI (0 + p.length)), y], ?_⟩
      by_cases hr : r ∈ l
      · refine ⟨[some s', some (sI w), some (.lst (l.map .int)), some (sI (0 + p.length)), some (sI r)], rfl, .inl ?_, s', l, _, _, rfl, t2, i2, i3, i4, by rw [List.length_append]; omega⟩
        refine sSeq_q (by sizeOf_list_dec) ?_
        refine sIf_f (by sizeOf_list_dec) ?_ (by sizeOf_list_dec)
        rw [decide_eq_true hr] <;> rfl
      · refine ⟨[some s', some (sI w), some (.lst ((l ++ [r]).map .int)), some (sI (0 + p.length)), some (sI r)], rfl, .inl ?_, s', l ++ [r], _, _, rfl, t2, ?_, List.mem_append_left _ i3, ?_, by rw [List.length_append, List.length_append]; simp; omega⟩
        · refine sSeq_q (by sizeOf_list_dec) ?_
          refine sIf_t (by sizeOf_list_dec) ?_ (sAppend_q rfl (by sizeOf_list_dec) rfl ?_ ?_)
          · rw [decide_eq_false hr] <;> rfl
          · rw [List.length_map]
            omega
          · rw [List.map_append] <;> rfl
        · rw [List.nodup_append]
          exact ⟨i2, by simp, fun a ha b hb => by rw [List.mem_singleton.mp hb]; exact fun z => hr (z ▸ ha)⟩
        · intro x hx
          rcases List.mem_append.mp hx with hx | hx
          · exact i4 x hx
          · rw [List.mem_singleton.mp hx]; omega)
  obtain ⟨s', l, x, y, rfl, i1, i2, i3, i4, _⟩ := f2
  obtain ⟨u1, u2⟩ := sort_up i2
  refine ⟨_, s', runB_rt rfl (ds := [some s', some (sI w), some (.lst (l.map .int)), x, y]) ?_ rfl, i1, u1, (u2 0).mpr i3, fun z hz => i4 z ((u2 z).mp hz)⟩
  refine sSeq_q (sSet_q (by sizeOf_list_dec) rfl) ?_
  refine sSeq_q (sFor_q (xs := rng 0 k.toNat) (ds1 := [some s1, some (sI w), some (.lst [.int 0]), none, none]) ?_ f1) ?_
  · refine wRng1_q (j := k) (by sizeOf_list_dec) rfl (by omega)
  exact sRet_q (eCB_q (by sizeOf_list_dec) rfl gSorted_l)
def rgI (lo : Int) (n : Nat) : List Int := (List.range n).map fun (k : Nat) => lo + (k : Int)
theorem rng_map (lo : Int) (n : Nat) : rng lo n = (rgI lo n).map .int := by
  unfold rng rgI
  rw [List.map_map] <;> rfl
theorem rgI_up (lo : Int) (n : Nat) : (rgI lo n).Pairwise (· < ·) := by
  unfold rgI
  rw [List.pairwise_map]
  exact List.pairwise_lt_range.imp fun {a b} h => by omega
theorem mem_rgI {lo : Int} {n : Nat} {x : Int} : x ∈ rgI lo n ↔ lo ≤ x ∧ x < lo + n := by
  unfold rgI
  rw [List.mem_map]
  constructor
  · rintro ⟨k, hk, rfl⟩
    have := List.mem_range.mp hk
    omega
  · rintro ⟨h1, h2⟩
    exact ⟨(x - lo).toNat, List.mem_range.mpr (by omega), by omega⟩
theorem rgI_len (lo : Int) (n : Nat) : (rgI lo n).length = n := by simp [rgI]
theorem up_len : ∀ {l : List Int} {lo hi : Int}, l.Pairwise (· < ·) → (∀ x ∈ l, lo ≤ x ∧ x ≤ hi) → (l.length : Int) ≤ max 0 (hi - lo + 1)
  | [], _, _, _, _ => by simp; omega
  | x :: l, lo, hi, h, k => by
    obtain ⟨h1, h2⟩ := List.pairwise_cons.mp h
    have := up_len (l := l) (lo := x + 1) (hi := hi) h2 fun y hy => ⟨h1 y hy, (k y (List.mem_cons_of_mem _ hy)).2⟩
    have hx := k x List.mem_cons_self
    rw [List.length_cons]
    omega
theorem set_ok {s : Dl.S} (hs : IsSt s) {w : Int} (h0 : 0 ≤ w) (hw : w ≤ 40) : ∃ l s', m__law_set [s, sI w] = .ret (.lst (l.map .int)) [s', sI w] ∧ IsSt s' ∧ Wd w l := by
  obtain ⟨way, s1, h1, h2, h3, h4⟩ := take_ok hs (many := 6) (by decide)
  by_cases w0 : way = 0
  · refine ⟨rgI 0 (w + 1).toNat, s1, runB_rt rfl (ds := [some s1, some (sI w), some (sI way), none]) ?_ rfl, h2, rgI_up _ _, mem_rgI.mpr (by omega), fun x hx => ?_⟩
    · refine sSeq_q (by sizeOf_list_dec) ?_
      refine sSeq_rt (sIf_t (by sizeOf_list_dec) (decide_eq_true w0) (sRet_q ?_))
      rw [← rng_map]
      exact eListR1_q (by sizeOf_list_dec) (by omega)
    · have := mem_rgI.mp hx
      omega
  · by_cases w4 : way < 4
    · let I : List Dat → List Dat → DS → Prop := fun p acc ds => ∃ (s : Dl.S) (l : List Int), ds = [some s, some (sI w), some (sI way), none] ∧ IsSt s ∧ acc = l.map .int ∧ l.Pairwise (· < ·) ∧ (∀ x ∈ l, 1 ≤ x ∧ x < 1 + p.length)
      obtain ⟨acc, ds', f1, f2⟩ := eLc_inv (own := [3]) (asg := gjName 3) (src := wRng2 (oCons (oE (eC (.int 1))) (oCons (oE (eOp2 gAdd (oVar 1) (oE (eC (.int 1))))) oNil))) (tst := tTru (oE (eCall m__law_chance (oCons (oVar 0) (oCons (oE (eC (.int 2))) oNil))))) (elt := eVar 3) (xs := rng 1 (w + 1 - 1).toNat)
        (ds := [some s1, some (sI w), some (sI way), none]) I (wRng2_q (i := 1) (j := w + 1) (by sizeOf_list_dec) rfl (by omega) (by omega)) ⟨s1, [], rfl, h2, rfl, List.Pairwise.nil, fun x hx => nomatch hx⟩ (by rw [rng_map, List.length_map, rgI_len]; omega)
        (fun p d acc ds ⟨s, l, e, i1, i2, i3, i4⟩ ⟨q, hq⟩ => by
          subst e
          subst i2
          obtain ⟨rfl, hlt⟩ := rng_get hq
          obtain ⟨b, s', t1, t2⟩ := chance_ok i1 (many := 2) (by decide)
          refine ⟨[some s, some (sI w), some (sI way), some (sI (1 + p.length))], b, [some s', some (sI w), some (sI way), some (sI (1 + p.length))], rfl, by sizeOf_list_dec, fun _ => ⟨sI (1 + p.length), _, by sizeOf_list_dec, s', l ++ [1 + (p.length : Int)], rfl, t2, ?_, ?_, ?_⟩, fun _ => ⟨s', l, rfl, t2, rfl, i3, fun x hx => ?_⟩⟩
          · rw [List.map_append] <;> rfl
          · rw [List.pairwise_append]
            exact ⟨i3, List.pairwise_singleton _ _, fun a ha b hb => by rw [List.mem_singleton.mp hb]; exact (i4 a ha).2⟩
          · intro x hx
            rw [List.length_append]
            rcases List.mem_append.mp hx with hx | hx
            · have := i4 x hx
              simp
              omega
            · rw [List.mem_singleton.mp hx]
              simp
              omega
          · rw [List.length_append]
            have := i4 x hx
            simp
            omega)
      obtain ⟨s', l, rfl, i1, rfl, i3, i4⟩ := f2
      have hl : (rng 1 (w + 1 - 1).toNat).length = w.toNat := by rw [rng_map, List.length_map, rgI_len]; omega
      have hlen : l.length ≤ 100 := by
        have := up_len (lo := 1) (hi := w) i3 fun x hx => by have := i4 x hx; rw [hl] at this; omega
        omega
      refine ⟨0 :: l, s', runB_rt rfl (ds := [some s', some (sI w), some (sI way), none]) ?_ rfl, i1, List.pairwise_cons.mpr ⟨fun x hx => by have := i4 x hx; omega, i3⟩, List.mem_cons_self, fun x hx => ?_⟩
      · refine sSeq_q (by sizeOf_list_dec) ?_
        refine sSeq_q (sIf_f (by sizeOf_list_dec) (decide_eq_false w0) (by sizeOf_list_dec)) ?_
        refine sSeq_rt (sIf_t (by sizeOf_list_dec) (decide_eq_true w4) (sRet_q (eOp2_q (x := .d (.lst [.int 0])) (a := .lst [.int 0]) (y := .d (.lst (l.map .int))) (b := .lst (l.map .int)) (by sizeOf_list_dec) (oE_q f1) rfl rfl ?_)))
        exact gAdd_l (by simp; omega)
      · rcases List.mem_cons.mp hx with rfl | hx
        · omega
        · have := i4 x hx
          rw [hl] at this
          omega
    · obtain ⟨l, s2, k1, k2, k3⟩ := widths_ok h2 h0 hw
      refine ⟨l, s2, runB_rt rfl (ds := [some s2, some (sI w), some (sI way), none]) ?_ rfl, k2, k3⟩
      refine sSeq_q (by sizeOf_list_dec) ?_
      refine sSeq_q (sIf_f (by sizeOf_list_dec) (decide_eq_false w0) (by sizeOf_list_dec)) ?_
      refine sSeq_q (sIf_f (by sizeOf_list_dec) (decide_eq_false w4) (by sizeOf_list_dec)) ?_
      sizeOf_list_dec
theorem store_ok (ns : List Int) (salt : Int) : ∃ s, m__law_store [.val (.scr ns), sI salt] = .ret s [.val (.scr ns), sI salt] ∧ IsSt s := by
  let cs := Dl.cut ns none (some 63)
  have hcl : cs.length ≤ 63 := by
    show (List.take _ _).length ≤ 63
    rw [List.length_take, HT.sIx_none, show HT.sIx ns.length ns.length (some 63) = min 63 ns.length from HT.sIx_nat _ _ 63]
    omega
  let I : List Dat → DS → Prop := fun p ds => ∃ (z : Option Dl.S) (seed : Int), ds = [some (.val (.scr ns)), some (sI salt), z, some (.val (.lst (cs.map .int))), some (sI seed)]
  obtain ⟨ds', f1, f2⟩ := forD_inv (asg := gjName 2) (body := sSet 4 (eCall m__law_mix (oCons (oVar 4) (oCons (oE (eOp2 gMod (oE (eCB gInt (oCons (oVar 2) oNil))) (oE (eC (.int 2305843009213693951))))) oNil)))) I (xs := cs.map .int) (pre := []) (ds := [some (.val (.scr ns)), some (sI salt), none, some (.val (.lst (cs.map .int))), some (sI (7919 * salt + (cs.map Dat.int).length))])
    ⟨none, _, rfl⟩ (fun p d ds ⟨z, seed, e⟩ ⟨q, hq⟩ => by
      subst e
      obtain ⟨c, _, rfl⟩ : ∃ c, c ∈ cs ∧ Dat.int c = d := by
        have : d ∈ cs.map Dat.int := by rw [show cs.map Dat.int = p ++ d :: q from hq]; simp
        exact List.mem_map.mp this
      exact ⟨[some (.val (.scr ns)), some (sI salt), some (sI c), some (.val (.lst (cs.map .int))), some (sI seed)], _, rfl, .inl (by sizeOf_list_dec), some (sI c), _, rfl⟩)
  obtain ⟨z, seed, rfl⟩ := f2
  refine ⟨stS cs 0 0 0 (7919 * salt) seed, runB_rt rfl (ds := [some (.val (.scr ns)), some (sI salt), z, some (.val (.lst (cs.map .int))), some (sI seed)]) ?_ rfl, ⟨_, _, _, _, _, _, rfl, Int.le_refl _⟩⟩
  refine sSeq_q (ds1 := [some (.val (.scr ns)), some (sI salt), none, some (.lst (cs.map .int)), none]) (sSet_q (s := .lst (cs.map .int)) (ds1 := [some (.val (.scr ns)), some (sI salt), none, none, none]) ?_ rfl) ?_
  · have := eLc_q (i := 2) (ds := [some (.val (.scr ns)), some (sI salt), none, none, none]) (ds1 := [some (.val (.scr ns)), some (sI salt), none, none, none]) (ds2 := [some (.val (.scr ns)), some (sI salt), none, none, none]) (src := wSeq (eSl (oVar 0) oiNone (oiSome (eC (.int 63))))) (tst := tYesF) (elt := eCB gInt (oCons (oVar 2) oNil)) (xs := cs.map .int) (fun _ => true) (fun d => d)
      (wSeq_l (s := .lst (cs.map .int)) (eSl_q (oVar_q rfl) (lo := none) rfl (hi := some 63) rfl rfl rfl) rfl) rfl (by rw [List.length_map]; omega) (fun d hd => by
        obtain ⟨c, _, rfl⟩ := List.mem_map.mp hd
        exact ⟨[some (.val (.scr ns)), some (sI salt), some (sI c), none, none], rfl, fun _ => ⟨sI c, [some (.val (.scr ns)), some (sI salt), some (sI c), none, none], by sizeOf_list_dec, rfl, rfl⟩, fun h => nomatch h⟩)
    rw [List.filter_eq_self.mpr (fun _ _ => rfl), List.map_id'] at this
    exact this
  refine sSeq_q (ds1 := [some (.val (.scr ns)), some (sI salt), none, some (.lst (cs.map .int)), some (sI (7919 * salt + (cs.map Dat.int).length))]) (by sizeOf_list_dec) ?_
  refine sSeq_q (sFor_q (ds1 := [some (.val (.scr ns)), some (sI salt), none, some (.val (.lst (cs.map .int))), some (sI (7919 * salt + (cs.map Dat.int).length))]) (by sizeOf_list_dec) f1) ?_
  sizeOf_list_dec
abbrev lI (l : List Int) : Dat := .lst (l.map .int)
abbrev sL (l : List Int) : Dl.S := .val (lI l)
theorem filter_ints {p : Dat → Bool} {l : List Int} : (l.map Dat.int).filter p = (l.filter fun x => p (.int x)).map .int := by
  induction l with
  | nil => rfl
  | cons x l ih =>
    rw [List.map_cons, List.filter_cons, List.filter_cons, ih]
    split <;> rfl
theorem all_int {l : List Int} {d : Dat} (h : d ∈ l.map Dat.int) : ∃ x, x ∈ l ∧ d = .int x := by
  obtain ⟨x, h1, h2⟩ := List.mem_map.mp h
  exact ⟨x, h1, h2.symm⟩
/-- the greatest of l that is at most m -/
def dnI (l : List Int) (m : Int) : Int := match l.filter (fun x => decide (x ≤ m)) with | n :: ns => ns.foldl max n | [] => 0
theorem foldl_max : ∀ (ns : List Int) (n : Int), (ns.foldl max n ∈ n :: ns) ∧ ∀ x ∈ n :: ns, x ≤ ns.foldl max n
  | [], n => by simp
  | m :: ns, n => by
    obtain ⟨h1, h2⟩ := foldl_max ns (max n m)
    rw [List.foldl_cons]
    refine ⟨?_, fun x hx => ?_⟩
    · rcases List.mem_cons.mp h1 with e | e
      · rw [e]
        rcases Int.le_total n m with q | q
        · rw [Int.max_eq_right q]; simp
        · rw [Int.max_eq_left q]; simp
      · simp [e]
    · have h3 := h2 (max n m) List.mem_cons_self
      rcases List.mem_cons.mp hx with e | e
      · omega
      · rcases List.mem_cons.mp e with e | e
        · omega
        · exact h2 x (List.mem_cons_of_mem _ e)
theorem dnI_spec {l : List Int} {m y : Int} (hy : y ∈ l) (hm : y ≤ m) : dnI l m ∈ l ∧ dnI l m ≤ m ∧ ∀ x ∈ l, x ≤ m → x ≤ dnI l m := by
  have hf : y ∈ l.filter (fun x => decide (x ≤ m)) := List.mem_filter.mpr ⟨hy, decide_eq_true hm⟩
  unfold dnI
  split
  · rename_i n ns e
    obtain ⟨h1, h2⟩ := foldl_max ns n
    rw [← e] at h1 h2
    obtain ⟨h3, h4⟩ := List.mem_filter.mp h1
    exact ⟨h3, of_decide_eq_true h4, fun x hx hxm => h2 x (List.mem_filter.mpr ⟨hx, decide_eq_true hxm⟩)⟩
  · rename_i e
    rw [e] at hf; cases hf
def mx : List Int → Int
  | n :: ns => ns.foldl max n | [] => 0
theorem gMax_l {l : List Int} (h : l ≠ []) : gMax [.lst (l.map .int)] = some (sI (mx l)) := by
  cases l with
  | nil => exact absurd rfl h
  | cons n ns =>
    show (match intsOf ((n :: ns).map Dat.int) with | some (n :: ns) => some (Dl.S.val (.int (ns.foldl max n))) | _ => none) = _
    rw [intsOf_map] <;> rfl
theorem down_ok {l : List Int} {m y : Int} (hy : y ∈ l) (hm : y ≤ m) (hl : l.length ≤ 1000) : m__law_down [sL l, sI m] = .ret (sI (dnI l m)) [sL l, sI m] := by
  have hf : l.filter (fun x => decide (x ≤ m)) ≠ [] := List.ne_nil_of_mem (List.mem_filter.mpr ⟨hy, decide_eq_true hm⟩)
  refine runB_rt rfl (ds := [some (sL l), some (sI m), none]) (sRet_q ?_) rfl
  have := eLc_q (i := 2) (ds := [some (sL l), some (sI m), none]) (ds1 := [some (sL l), some (sI m), none]) (ds2 := [some (sL l), some (sI m), none]) (src := wSeq (eVar 0)) (tst := tVal (eOp2 gLe (oVar 2) (oVar 1))) (elt := eVar 2) (xs := l.map .int) (fun d => match d with | .int x => decide (x ≤ m) | _ => false) (fun d => d)
    (wSeq_l (by sizeOf_list_dec) rfl) rfl (by rw [List.length_map]; omega) (fun d hd => by
      obtain ⟨x, _, rfl⟩ := all_int hd
      exact ⟨[some (sL l), some (sI m), some (sI x)], by sizeOf_list_dec, fun _ => ⟨sI x, [some (sL l), some (sI m), some (sI x)], by sizeOf_list_dec, rfl, rfl⟩, fun _ => rfl⟩)
  rw [List.map_id', filter_ints] at this
  refine eCB_q (oCons_q (oE_q this) oNil_q) rfl ?_
  have hd : dnI l m = mx (l.filter (fun x => decide (x ≤ m))) := by
    unfold dnI mx
    rfl
  rw [hd]
  exact gMax_l hf
local macro_rules | `(tactic| array_mem_dec) => `(tactic| ((with_reducible show gMax _ = _); exact gMax_i))
local macro_rules | `(tactic| array_mem_dec) => `(tactic| ((with_reducible show gMin _ = _); exact gMin_i))
/-- the law's row -/
def rowL (w : Int) (a b : List Int) : List Int := (rgI 0 (w + 1).toNat).filter fun o => decide (dnI a o + dnI b (o - dnI a o) = o)
theorem filter_snoc {p : Int → Bool} {l : List Int} {x : Int} : (l ++ [x]).filter p = if p x = true then l.filter p ++ [x] else l.filter p := by
  rw [List.filter_append]
  by_cases h : p x = true
  · rw [if_pos h, List.filter_cons_of_pos h] <;> rfl
  · rw [if_neg h, List.filter_cons_of_neg h, List.filter_nil, List.append_nil]
/-- the front of a range -/
theorem rg_front {n : Nat} {p q : List Dat} {d : Dat} (h : rng 0 n = p ++ d :: q) : p = rng 0 p.length ∧ d = .int p.length ∧ p.length < n := by
  obtain ⟨h1, h2⟩ := rng_get h
  refine ⟨?_, by rw [h1, Int.zero_add], h2⟩
  apply List.ext_getElem?
  intro j
  by_cases hj : j < p.length
  · have e1 : (rng 0 n)[j]? = p[j]? := by rw [h, List.getElem?_append_left hj]
    have e2 : (rng 0 n)[j]? = (rng 0 p.length)[j]? := by
      unfold rng
      rw [List.getElem?_map, List.getElem?_map, List.getElem?_range (by omega), List.getElem?_range hj]
    rw [← e1, e2]
  · have hl : (rng 0 p.length).length = p.length := by simp [rng]
    rw [List.getElem?_eq_none (by omega), List.getElem?_eq_none (by omega)]
theorem rgI_succ (lo : Int) (n : Nat) : rgI lo (n + 1) = rgI lo n ++ [lo + (n : Int)] := by
  unfold rgI
  rw [List.range_succ, List.map_append] <;> rfl
theorem row_ok {w : Int} (h0 : 0 ≤ w) (hw : w ≤ 40) {a b : List Int} (ha : Wd w a) (hb : Wd w b) : m__law_row [sI w, sL a, sL b] = .ret (.lst ((rowL w a b).map .int)) [sI w, sL a, sL b] := by
  have la : a.length ≤ 1000 := by
    have := up_len ha.up ha.le
    omega
  have lb : b.length ≤ 1000 := by
    have := up_len hb.up hb.le
    omega
  let p := fun o => decide (dnI a o + dnI b (o - dnI a o) = o)
  let I : List Dat → DS → Prop := fun q ds => ∃ x y, ds = [some (sI w), some (sL a), some (sL b), some (.lst (((rgI 0 q.length).filter p).map .int)), x, y]
  obtain ⟨ds', f1, f2⟩ := forD_inv (asg := gjName 4) (body := sSeq (sSet 5 (eCall m__law_down (oCons (oVar 1) (oCons (oVar 4) (oNil))))) <|
      sIf (tVal (eOp2 (gEq) (oE (eOp2 gAdd (oVar 5) (oE (eCall m__law_down (oCons (oVar 2) (oCons (oE (eOp2 gSubI (oVar 4) (oVar 5))) (oNil))))))) (oVar 4))) (
        sAppend 3 (eVar 4)) (
        sNext)) I (xs := rng 0 (w + 1).toNat) (pre := []) (ds := [some (sI w), some (sL a), some (sL b), some (.lst []), none, none]) ⟨none, none, rfl⟩
    (fun q d ds ⟨x, y, e⟩ ⟨r, hq⟩ => by
      subst e
      obtain ⟨_, rfl, hlt⟩ := rg_front hq
      let o : Int := q.length
      have d1 := down_ok ha.zero (show (0 : Int) ≤ o by omega) la
      have s1 := dnI_spec ha.zero (show (0 : Int) ≤ o by omega)
      have d2 := down_ok hb.zero (show (0 : Int) ≤ o - dnI a o by omega) lb
      refine ⟨[some (sI w), some (sL a), some (sL b), some (.lst (((rgI 0 q.length).filter p).map .int)), some (sI o), y], [some (sI w), some (sL a), some (sL b), some (.lst (((rgI 0 (q ++ [Dat.int o]).length).filter p).map .int)), some (sI o), some (sI (dnI a o))], rfl, .inl ?_, _, _, rfl⟩
      have hn : rgI 0 (q ++ [Dat.int o]).length = rgI 0 q.length ++ [o] := by
        rw [List.length_append, List.length_singleton, rgI_succ, Int.zero_add]
      rw [hn, filter_snoc]
      refine sSeq_q (by sizeOf_list_dec) ?_
      by_cases hp : dnI a o + dnI b (o - dnI a o) = o
      · rw [if_pos (show p o = true from decide_eq_true hp)]
        refine sIf_t (by sizeOf_list_dec) (decide_eq_true hp) (sAppend_q rfl (by sizeOf_list_dec) rfl ?_ (by rw [List.map_append]; rfl))
        rw [List.length_map]
        have := List.length_filter_le p (rgI 0 q.length)
        rw [rgI_len] at this
        omega
      · rw [if_neg (show ¬ p o = true from fun z => hp (of_decide_eq_true z))]
        exact sIf_f (by sizeOf_list_dec) (decide_eq_false hp) (by sizeOf_list_dec))
  obtain ⟨x, y, rfl⟩ := f2
  have hl : ([] ++ rng 0 (w + 1).toNat : List Dat).length = (w + 1).toNat := by rw [rng_map, List.nil_append, List.length_map, rgI_len]
  rw [hl] at f1
  refine runB_rt rfl (ds := [some (sI w), some (sL a), some (sL b), none, x, y]) ?_ rfl
  refine sSeq_q (by sizeOf_list_dec) ?_
  refine sSeq_q (sFor_q (wRng1_q (j := w + 1) (by sizeOf_list_dec) rfl (by omega)) f1) ?_
  sizeOf_list_dec
theorem Wd.len {w : Int} {a : List Int} (ha : Wd w a) (h0 : 0 ≤ w) (hw : w ≤ 40) : a.length ≤ 41 := by
  have := up_len ha.up ha.le
  omega
/-- the law's pad -/
def padP (a : List Int) (bd o : Int) : Bool := decide (o < 2 * bd) || decide (dnI a (o - 2 * bd) + 2 * bd = o)
def padL (w : Int) (a : List Int) (bd : Int) : List Int := (rgI 0 (w + 1).toNat).filter (padP a bd)
theorem lpad_ok {w : Int} (h0 : 0 ≤ w) (hw : w ≤ 40) {a : List Int} (ha : Wd w a) {bd : Int} (b0 : 0 ≤ bd) : m__law_pad [sI w, sL a, sI bd] = .ret (.lst ((padL w a bd).map .int)) [sI w, sL a, sI bd] := by
  have la : a.length ≤ 1000 := by have := ha.len h0 hw; omega
  let p := padP a bd
  let I : List Dat → DS → Prop := fun q ds => ∃ x, ds = [some (sI w), some (sL a), some (sI bd), some (.lst (((rgI 0 q.length).filter p).map .int)), x]
  obtain ⟨ds', f1, f2⟩ := forD_inv (asg := gjName 4) (body := sIf (tOrF (tVal (eOp2 (gLt) (oVar 4) (oE (eOp2 gMul (oE (eC (.int 2))) (oVar 2))))) (tVal (eOp2 (gEq) (oE (eOp2 gAdd (oE (eCall m__law_down (oCons (oVar 1) (oCons (oE (eOp2 gSubI (oVar 4) (oE (eOp2 gMul (oE (eC (.int 2))) (oVar 2))))) (oNil))))) (oE (eOp2 gMul (oE (eC (.int 2))) (oVar 2))))) (oVar 4)))) (
        sAppend 3 (eVar 4)) (
        sNext)) I (xs := rng 0 (w + 1).toNat) (pre := []) (ds := [some (sI w), some (sL a), some (sI bd), some (.lst []), none]) ⟨none, rfl⟩
    (fun q d ds ⟨x, e⟩ ⟨r, hq⟩ => by
      subst e
      obtain ⟨_, rfl, hlt⟩ := rg_front hq
      let o : Int := q.length
      refine ⟨[some (sI w), some (sL a), some (sI bd), some (.lst (((rgI 0 q.length).filter p).map .int)), some (sI o)], [some (sI w), some (sL a), some (sI bd), some (.lst (((rgI 0 (q ++ [Dat.int o]).length).filter p).map .int)), some (sI o)], rfl, .inl ?_, _, rfl⟩
      have hn : rgI 0 (q ++ [Dat.int o]).length = rgI 0 q.length ++ [o] := by
        rw [List.length_append, List.length_singleton, rgI_succ, Int.zero_add]
      rw [hn, filter_snoc]
      have yes : p o = true → (sAppend 3 (eVar 4)) [some (sI w), some (sL a), some (sI bd), some (.lst (((rgI 0 q.length).filter p).map .int)), some (sI o)] = .nx [some (sI w), some (sL a), some (sI bd), some (.lst ((if p o = true then (rgI 0 q.length).filter p ++ [o] else (rgI 0 q.length).filter p).map .int)), some (sI o)] := fun hp => by
        rw [if_pos hp]
        refine sAppend_q rfl (by sizeOf_list_dec) rfl ?_ (by rw [List.map_append]; rfl)
        rw [List.length_map]
        have := List.length_filter_le p (rgI 0 q.length)
        rw [rgI_len] at this
        omega
      by_cases h1 : o < 2 * bd
      · have hp : p o = true := by
          show (decide (o < 2 * bd) || _) = true
          rw [decide_eq_true h1, Bool.true_or]
        refine sIf_t (tOrF_q (by sizeOf_list_dec) (by rw [if_pos (decide_eq_true h1)])) rfl (yes hp)
      · have d1 := down_ok ha.zero (show (0 : Int) ≤ o - 2 * bd by omega) la
        by_cases h2 : dnI a (o - 2 * bd) + 2 * bd = o
        · have hp : p o = true := by
            show (_ || decide (dnI a (o - 2 * bd) + 2 * bd = o)) = true
            rw [decide_eq_true h2, Bool.or_true]
          refine sIf_t (tOrF_q (by sizeOf_list_dec) (by rw [if_neg (by rw [decide_eq_false h1]; decide)]; sizeOf_list_dec)) (decide_eq_true h2) (yes hp)
        · have hp : ¬ p o = true := by
            show ¬ (decide (o < 2 * bd) || decide (dnI a (o - 2 * bd) + 2 * bd = o)) = true
            rw [decide_eq_false h1, decide_eq_false h2]; decide
          rw [if_neg hp]
          exact sIf_f (tOrF_q (by sizeOf_list_dec) (by rw [if_neg (by rw [decide_eq_false h1]; decide)]; sizeOf_list_dec)) (decide_eq_false h2) (by sizeOf_list_dec))
  obtain ⟨x, rfl⟩ := f2
  have hl : ([] ++ rng 0 (w + 1).toNat : List Dat).length = (w + 1).toNat := by rw [rng_map, List.nil_append, List.length_map, rgI_len]
  rw [hl] at f1
  refine runB_rt rfl (ds := [some (sI w), some (sL a), some (sI bd), none, x]) ?_ rfl
  refine sSeq_q (by sizeOf_list_dec) ?_
  refine sSeq_q (sFor_q (wRng1_q (j := w + 1) (by sizeOf_list_dec) rfl (by omega)) f1) ?_
  sizeOf_list_dec
/-! ### the library's easy ones -/
theorem union_ok {a b : List Int} (h : a.length + b.length < 4000) (h2 : (sset (a ++ b)).length < 64) : m_union_widths [sL a, sL b] = .ret (.lst ((sset (a ++ b)).map .int)) [sL a, sL b] := by
  refine runB_rt rfl (ds := [some (sL a), some (sL b)]) (sRet_q (eOp1_q (x := .d (.lst (a.map .int ++ b.map .int))) (oE_q (s := .lst (a.map .int ++ b.map .int)) (eOp2_q (x := .d (lI a)) (a := lI a) (y := .d (lI b)) (b := lI b) (by sizeOf_list_dec) (by sizeOf_list_dec) rfl rfl ?_)) rfl ?_)) rfl
  · exact gAdd_l (by rw [List.length_map, List.length_map]; omega)
  · show (match intsOf (a.map .int ++ b.map .int) with | some ns => if ns.length < 4000 ∧ (sset ns).length < 64 then some (Dl.S.lst ((sset ns).map .int)) else none | none => none) = _
    rw [← List.map_append, intsOf_map]
    dsimp only
    rw [if_pos ⟨by rw [List.length_append]; exact h, h2⟩]
theorem frame_ok {w : Int} (h0 : 0 ≤ w) (hw : w ≤ 40) {a : List Int} {least : Int} : m_frame_widths [sI w, sL a, sI least] = .ret (.lst (((rgI 0 (w + 1).toNat).filter fun o => decide (o ≤ least) || decide (o ∈ a)).map .int)) [sI w, sL a, sI least] := by
  refine runB_rt rfl (ds := [some (sI w), some (sL a), some (sI least), none]) (sRet_q ?_) rfl
  have := eLc_q (i := 3) (ds := [some (sI w), some (sL a), some (sI least), none]) (ds1 := [some (sI w), some (sL a), some (sI least), none]) (ds2 := [some (sI w), some (sL a), some (sI least), none]) (src := wRng1 (oCons (oE (eOp2 gAdd (oVar 0) (oE (eC (.int 1))))) (oNil))) (tst := tOrF (tVal (eOp2 (gLe) (oVar 3) (oVar 2))) (tVal (eOp2 (gInB false) (oVar 3) (oVar 1)))) (elt := eVar 3) (xs := rng 0 (w + 1).toNat) (fun d => match d with | .int o => decide (o ≤ least) || (decide (o ∈ a) != false) | _ => false) (fun d => d)
    (wRng1_q (j := w + 1) (by sizeOf_list_dec) rfl (by omega)) rfl (by rw [rng_map, List.length_map, rgI_len]; omega) (fun d hd => by
      rw [rng_map] at hd
      obtain ⟨x, _, rfl⟩ := all_int hd
      exact ⟨[some (sI w), some (sL a), some (sI least), some (sI x)], tOrF_b (by sizeOf_list_dec) (by sizeOf_list_dec), fun _ => ⟨sI x, [some (sI w), some (sL a), some (sI least), some (sI x)], by sizeOf_list_dec, rfl, rfl⟩, fun _ => rfl⟩)
  rw [List.map_id', rng_map, filter_ints] at this
  refine Eq.trans this ?_
  simp only [Bool.bne_false]
theorem cap_ok {a : List Int} {most : Int} (hl : a.length ≤ 1000) : m_cap_widths [sL a, sI most] = .ret (.lst ((a.filter fun o => decide (o ≤ most)).map .int)) [sL a, sI most] := by
  refine runB_rt rfl (ds := [some (sL a), some (sI most), none]) (sRet_q ?_) rfl
  have := eLc_q (i := 2) (ds := [some (sL a), some (sI most), none]) (ds1 := [some (sL a), some (sI most), none]) (ds2 := [some (sL a), some (sI most), none]) (src := wSeq (eVar 0)) (tst := tVal (eOp2 gLe (oVar 2) (oVar 1))) (elt := eVar 2) (xs := a.map .int) (fun d => match d with | .int x => decide (x ≤ most) | _ => false) (fun d => d)
    (wSeq_l (by sizeOf_list_dec) rfl) rfl (by rw [List.length_map]; omega) (fun d hd => by
      obtain ⟨x, _, rfl⟩ := all_int hd
      exact ⟨[some (sL a), some (sI most), some (sI x)], by sizeOf_list_dec, fun _ => ⟨sI x, [some (sL a), some (sI most), some (sI x)], by sizeOf_list_dec, rfl, rfl⟩, fun _ => rfl⟩)
  rw [List.map_id', filter_ints] at this
  exact this
def padF (w : Int) (a : List Int) (bd : Int) : List Int := rgI 0 (min (2 * bd) (w + 1)).toNat ++ (a.filter fun o => decide (o + 2 * bd ≤ w)).map (· + 2 * bd)
theorem pad_ok {w : Int} (h0 : 0 ≤ w) (hw : w ≤ 40) {a : List Int} (hl : a.length ≤ 1000) {bd : Int} (b0 : 0 ≤ bd) : m_pad_widths [sI w, sL a, sI bd] = .ret (.lst ((padF w a bd).map .int)) [sI w, sL a, sI bd] := by
  refine runB_rt rfl (ds := [some (sI w), some (sL a), some (sI bd), some (.lst (rng 0 (min (2 * bd) (w + 1)).toNat)), none]) ?_ rfl
  refine sSeq_q (sSet_q (eListR1_q (n := min (2 * bd) (w + 1)) (by sizeOf_list_dec) (by omega)) rfl) ?_
  let D : DS := [some (sI w), some (sL a), some (sI bd), some (.lst (rng 0 (min (2 * bd) (w + 1)).toNat)), none]
  have := eLc_q (i := 4) (ds := D) (ds1 := D) (ds2 := D) (src := wSeq (eVar 1)) (tst := tVal (eOp2 (gLe) (oE (eOp2 gAdd (oVar 4) (oE (eOp2 gMul (oE (eC (.int 2))) (oVar 2))))) (oVar 0))) (elt := eOp2 gAdd (oVar 4) (oE (eOp2 gMul (oE (eC (.int 2))) (oVar 2)))) (xs := a.map .int) (fun d => match d with | .int x => decide (x + 2 * bd ≤ w) | _ => false) (fun d => match d with | .int x => .int (x + 2 * bd) | _ => .non)
    (wSeq_l (by sizeOf_list_dec) rfl) rfl (by rw [List.length_map]; omega) (fun d hd => by
      obtain ⟨x, _, rfl⟩ := all_int hd
      exact ⟨[some (sI w), some (sL a), some (sI bd), some (.lst (rng 0 (min (2 * bd) (w + 1)).toNat)), some (sI x)], by sizeOf_list_dec, fun _ => ⟨sI (x + 2 * bd), [some (sI w), some (sL a), some (sI bd), some (.lst (rng 0 (min (2 * bd) (w + 1)).toNat)), some (sI x)], by sizeOf_list_dec, rfl, rfl⟩, fun _ => rfl⟩)
  rw [filter_ints, List.map_map] at this
  refine sRet_q (eOp2_q (x := .s 3) (a := .lst (rng 0 (min (2 * bd) (w + 1)).toNat)) (y := .d (.lst ((a.filter fun x => decide (x + 2 * bd ≤ w)).map fun x => Dat.int (x + 2 * bd)))) (by sizeOf_list_dec) (oE_q this) rfl rfl ?_)
  rw [gAdd_l]
  · unfold padF
    rw [rng_map, List.map_append, List.map_map] <;> rfl
  · rw [rng_map, List.length_map, rgI_len, List.length_map]
    have := List.length_filter_le (fun x => decide (x + 2 * bd ≤ w)) a
    omega
abbrev llI (ls : List (List Int)) : Dat := .lst (ls.map fun l => .lst (l.map .int))
abbrev sLL (ls : List (List Int)) : Dl.S := .val (llI ls)
theorem all_lst {ls : List (List Int)} {d : Dat} (h : d ∈ ls.map fun l => Dat.lst (l.map .int)) : ∃ l, l ∈ ls ∧ d = lI l := by
  obtain ⟨x, h1, h2⟩ := List.mem_map.mp h
  exact ⟨x, h1, h2.symm⟩
/-! ### the law's fits -/
def fitP (g : List Int) (o : Int) : Bool := match g.filter (fun x => decide (x ≤ o)) with | x :: _ => decide (x = o) | [] => decide (min o (g.getD (g.length - 1) 0) = o)
def fitL (w : Int) (g : List Int) : List Int := (rgI 0 (w + 1).toNat).filter (fitP g)
theorem gIx_last {g : List Int} (h : g ≠ []) : gIx (lI g) (.int ((g.length : Int) - 1)) = some (sI (g.getD (g.length - 1) 0)) := by
  have hl : 0 < g.length := List.length_pos_iff.mpr h
  have e : atI (g.map Dat.int) ((g.length : Int) - 1) = some (.int (g.getD (g.length - 1) 0)) := by
    unfold atI ixN
    rw [if_pos (by omega), if_pos (by rw [List.length_map]; omega)]
    show (g.map Dat.int)[((g.length : Int) - 1).toNat]? = _
    rw [show ((g.length : Int) - 1).toNat = g.length - 1 by omega, List.getElem?_map, List.getD_eq_getElem?_getD, List.getElem?_eq_getElem (by omega)] <;> rfl
  show (match atI (g.map Dat.int) ((g.length : Int) - 1) with | some d => some (Dl.S.val d) | none => none) = _
  rw [e]
theorem gIx_0 {x : Int} {l : List Int} : gIx (.lst ((x :: l).map .int)) (.int 0) = some (sI x) := by
  have e : atI ((x :: l).map Dat.int) 0 = some (.int x) := by
    unfold atI ixN
    rw [if_pos (by omega), if_pos (by rw [List.length_map, List.length_cons]; omega)] <;> rfl
  show (match atI ((x :: l).map Dat.int) 0 with | some d => some (Dl.S.val d) | none => none) = _
  rw [e]
theorem fits_ok {w : Int} (h0 : 0 ≤ w) (hw : w ≤ 40) {ls : List (List Int)} (hn : ls ≠ []) (hls : ls.length ≤ 1000) (hx : ∀ l ∈ ls, Wd w l) : m__law_fits [sI w, sLL ls] = .ret (.lst ((fitL w (ls.map fun l => dnI l w)).map .int)) [sI w, sLL ls] := by
  let g := ls.map fun l => dnI l w
  have hg : g ≠ [] := fun z => hn (List.map_eq_nil_iff.mp z)
  have hgl : g.length ≤ 1000 := by rw [show g.length = ls.length from List.length_map ..]; exact hls
  let p := fitP g
  have st1 := eLc_q (i := 6) (ds := [some (sI w), some (sLL ls), none, none, none, none, none, none]) (ds1 := [some (sI w), some (sLL ls), none, none, none, none, none, none]) (ds2 := [some (sI w), some (sLL ls), none, none, none, none, none, none]) (src := wSeq (eVar 1)) (tst := tYesF) (elt := eCall m__law_down (oCons (oVar 6) (oCons (oVar 0) (oNil)))) (xs := ls.map fun l => .lst (l.map .int)) (fun _ => true) (fun d => match d with | .lst xs => (match intsOf xs with | some l => .int (dnI l w) | none => .non) | _ => .non)
    (wSeq_l (by sizeOf_list_dec) rfl) rfl (by rw [List.length_map]; omega) (fun d hd => by
      obtain ⟨l, hl, rfl⟩ := all_lst hd
      have wd := hx l hl
      have d1 := down_ok wd.zero h0 (by have := wd.len h0 hw; omega)
      refine ⟨[some (sI w), some (sLL ls), none, none, none, none, some (sL l), none], rfl, fun _ => ⟨sI (dnI l w), [some (sI w), some (sLL ls), none, none, none, none, some (sL l), none], by sizeOf_list_dec, ?_, rfl⟩, fun _ => rfl⟩
      show Dat.int (dnI l w) = (match intsOf (l.map Dat.int) with | some l => .int (dnI l w) | none => .non)
      rw [intsOf_map])
  rw [List.filter_eq_self.mpr (fun _ _ => rfl), List.map_map] at st1
  have hg2 : (ls.map ((fun d => match d with | Dat.lst xs => (match intsOf xs with | some l => Dat.int (dnI l w) | none => .non) | _ => .non) ∘ fun l => Dat.lst (l.map .int))) = g.map .int := by
    show _ = (ls.map fun l => dnI l w).map Dat.int
    rw [List.map_map]
    refine List.map_congr_left fun l _ => ?_
    show (match intsOf (l.map Dat.int) with | some l => Dat.int (dnI l w) | none => .non) = _
    rw [intsOf_map] <;> rfl
  rw [hg2] at st1
  let I : List Dat → DS → Prop := fun q ds => ∃ x y z, ds = [some (sI w), some (sLL ls), some z, some (.lst (((rgI 0 q.length).filter p).map .int)), x, y, none, none] ∧ (z = .lst (g.map .int) ∨ z = sL g)
  obtain ⟨ds', f1, f2⟩ := forD_inv (asg := gjName 4) (body := sSeq (sSet 5 (eOp2 gAdd (oE (eLc [7] (wSeq (eVar 2)) (gjName 7) (tVal (eOp2 (gLe) (oVar 7) (oVar 4))) (eVar 7))) (oE (eLst (oCons (oE (eCB gMin (oCons (oVar 4) (oCons (oE (eOp2 gIx (oVar 2) (oE (eOp2 gSubI (oE (eCB gLen (oCons (oVar 2) (oNil)))) (oE (eC (.int 1))))))) (oNil))))) (oNil)))))) <|
      sIf (tVal (eOp2 (gEq) (oE (eOp2 gIx (oVar 5) (oE (eC (.int 0))))) (oVar 4))) (
        sAppend 3 (eVar 4)) (
        sNext)) I (xs := rng 0 (w + 1).toNat) (pre := []) (ds := [some (sI w), some (sLL ls), some (.lst (g.map .int)), some (.lst []), none, none, none, none]) ⟨none, none, _, rfl, .inl rfl⟩
    (fun q d ds ⟨x, y, z, e, hz⟩ ⟨r, hq⟩ => by
      subst e
      obtain ⟨_, rfl, hlt⟩ := rg_front hq
      let o : Int := q.length
      let fl := g.filter fun x => decide (x ≤ o)
      let mn := min o (g.getD (g.length - 1) 0)
      let E0 : DS := [some (sI w), some (sLL ls), some z, some (.lst (((rgI 0 q.length).filter p).map .int)), some (sI o), y, none, none]
      let E1 : DS := [some (sI w), some (sLL ls), some (sL g), some (.lst (((rgI 0 q.length).filter p).map .int)), some (sI o), y, none, none]
      let E2 : DS := [some (sI w), some (sLL ls), some (sL g), some (.lst (((rgI 0 q.length).filter p).map .int)), some (sI o), some (.lst ((fl ++ [mn]).map .int)), none, none]
      have ev2 : eVar 2 E0 = .ok (sL g) E1 := by
        rcases hz with rfl | rfl <;> sizeOf_list_dec
      have lc := eLc_q (i := 7) (ds := E0) (ds1 := E1) (ds2 := E1) (src := wSeq (eVar 2)) (tst := tVal (eOp2 (gLe) (oVar 7) (oVar 4))) (elt := eVar 7) (xs := g.map .int) (fun d => match d with | .int x => decide (x ≤ o) | _ => false) (fun d => d)
        (wSeq_l ev2 rfl) rfl (by rw [List.length_map]; omega) (fun d hd => by
          obtain ⟨x, _, rfl⟩ := all_int hd
          exact ⟨[some (sI w), some (sLL ls), some (sL g), some (.lst (((rgI 0 q.length).filter p).map .int)), some (sI o), y, none, some (sI x)], by sizeOf_list_dec, fun _ => ⟨sI x, [some (sI w), some (sLL ls), some (sL g), some (.lst (((rgI 0 q.length).filter p).map .int)), some (sI o), y, none, some (sI x)], by sizeOf_list_dec, rfl, rfl⟩, fun _ => rfl⟩)
      rw [List.map_id', filter_ints] at lc
      have gl : gLen [lI g] = some (sI g.length) := by
        rw [gLen_l, List.length_map]
      have gi := gIx_last hg
      have sset : sSet 5 (eOp2 gAdd (oE (eLc [7] (wSeq (eVar 2)) (gjName 7) (tVal (eOp2 (gLe) (oVar 7) (oVar 4))) (eVar 7))) (oE (eLst (oCons (oE (eCB gMin (oCons (oVar 4) (oCons (oE (eOp2 gIx (oVar 2) (oE (eOp2 gSubI (oE (eCB gLen (oCons (oVar 2) (oNil)))) (oE (eC (.int 1))))))) (oNil))))) (oNil))))) E0 = .nx E2 := by
        refine sSet_q (s := .lst ((fl ++ [mn]).map .int)) (ds1 := E1) (eOp2_q (x := .d (.lst (fl.map .int))) (a := .lst (fl.map .int)) (y := .d (.lst [.int mn])) (b := .lst [.int mn]) (ds1 := E1) (oE_q lc) (oE_q (s := .lst [.int mn]) (eLst_q (l := [.d (.int mn)]) (ds1 := E1) (oCons_q (oE_q (s := sI mn) (eCB_q (l := [.d (.int o), .d (.int (g.getD (g.length - 1) 0))]) (ds1 := E1) (oCons_q (oVar_q rfl) (oCons_q (oE_q (s := sI (g.getD (g.length - 1) 0)) (eOp2_q (ds1 := E1) (x := .d (lI g)) (a := lI g) (y := .d (.int ((g.length : Int) - 1))) (b := .int ((g.length : Int) - 1)) (oVar_q rfl) (oE_q (s := sI ((g.length : Int) - 1)) (eOp2_q (ds1 := E1) (x := .d (.int g.length)) (a := .int g.length) (y := .d (.int 1)) (b := .int 1) (oE_q (s := sI g.length) (eCB_q (oCons_q (oVar_q rfl) oNil_q) rfl gl)) (oE_q eC_q) rfl rfl rfl)) rfl rfl gi)) oNil_q)) rfl gMin_i)) oNil_q) rfl (by simp))) rfl rfl ?_) rfl
        rw [gAdd_l]
        · rw [List.map_append] <;> rfl
        · rw [List.length_map]
          have : fl.length ≤ g.length := List.length_filter_le (fun x => decide (x ≤ o)) g
          simp
          omega
      have hd : ∃ f, ∃ l, fl ++ [mn] = f :: l ∧ p o = decide (f = o) := by
        cases hfl : fl with
        | nil =>
          refine ⟨mn, [], rfl, ?_⟩
          show fitP g o = _
          unfold fitP
          rw [show g.filter (fun x => decide (x ≤ o)) = [] from hfl]
        | cons f l =>
          refine ⟨f, l ++ [mn], rfl, ?_⟩
          show fitP g o = _
          unfold fitP
          rw [show g.filter (fun x => decide (x ≤ o)) = f :: l from hfl]
      obtain ⟨f, l, e1, e2⟩ := hd
      have e3 : E2 = [some (sI w), some (sLL ls), some (sL g), some (.lst (((rgI 0 q.length).filter p).map .int)), some (sI o), some (.lst ((f :: l).map .int)), none, none] := by
        show [some (sI w), some (sLL ls), some (sL g), some (.lst (((rgI 0 q.length).filter p).map .int)), some (sI o), some (.lst ((fl ++ [mn]).map .int)), none, none] = _
        rw [e1]
      have hn : rgI 0 (q ++ [Dat.int o]).length = rgI 0 q.length ++ [o] := by
        rw [List.length_append, List.length_singleton, rgI_succ, Int.zero_add]
      refine ⟨E0, [some (sI w), some (sLL ls), some (sL g), some (.lst (((rgI 0 (q ++ [Dat.int o]).length).filter p).map .int)), some (sI o), some (.lst ((f :: l).map .int)), none, none], rfl, .inl ?_, _, _, _, rfl, .inr rfl⟩
      refine sSeq_q sset ?_
      rw [hn, filter_snoc, e3, e2]
      have gf : gIx (.lst ((f :: l).map .int)) (.int 0) = some (sI f) := gIx_0
      by_cases hf : f = o
      · rw [if_pos (decide_eq_true hf)]
        refine sIf_t (by sizeOf_list_dec) (decide_eq_true hf) (sAppend_q rfl (by sizeOf_list_dec) rfl ?_ (by rw [List.map_append]; rfl))
        rw [List.length_map]
        have := List.length_filter_le p (rgI 0 q.length)
        rw [rgI_len] at this
        omega
      · rw [if_neg (fun z => hf (of_decide_eq_true z))]
        exact sIf_f (by sizeOf_list_dec) (decide_eq_false hf) (by sizeOf_list_dec))
  obtain ⟨x, y, z, rfl, hz⟩ := f2
  have hl : ([] ++ rng 0 (w + 1).toNat : List Dat).length = (w + 1).toNat := by rw [rng_map, List.nil_append, List.length_map, rgI_len]
  rw [hl] at f1
  refine runB_rt rfl (ds := [some (sI w), some (sLL ls), some z, none, x, y, none, none]) ?_ rfl
  refine sSeq_q (sSet_q st1 rfl) ?_
  refine sSeq_q (by sizeOf_list_dec) ?_
  refine sSeq_q (sFor_q (wRng1_q (j := w + 1) (by sizeOf_list_dec) rfl (by omega)) f1) ?_
  sizeOf_list_dec
/-! ### first_fit_widths -/
/-- the least so far, the values kept -/
def ffR : Int × List Int → List Int → Int × List Int
  | st, [] => st
  | (m, ks), x :: g => if x ≤ m then ffR (x, if x ∈ ks then ks else ks ++ [x]) g else ffR (m, ks) g
theorem ffR_cons {m x : Int} {ks g : List Int} : ffR (m, ks) (x :: g) = if x ≤ m then ffR (x, if x ∈ ks then ks else ks ++ [x]) g else ffR (m, ks) g := rfl
theorem ffR_snoc (x : Int) : ∀ (g : List Int) (st : Int × List Int), ffR st (g ++ [x]) = ffR (ffR st g) [x]
  | [], (m, ks) => rfl
  | y :: g, (m, ks) => by
    rw [List.cons_append, ffR_cons (g := g ++ [x]), ffR_cons (x := y) (g := g)]
    split
    · exact ffR_snoc x g _
    · exact ffR_snoc x g _
def lastI (l : List Int) : Int := l.getD (l.length - 1) 0
theorem gIx_m1 {g : List Int} (h : g ≠ []) : gIx (lI g) (.int (-1)) = some (sI (lastI g)) := by
  have hl : 0 < g.length := List.length_pos_iff.mpr h
  have e : atI (g.map Dat.int) (-1) = some (.int (lastI g)) := by
    unfold atI ixN
    rw [if_neg (by omega), if_pos (by rw [List.length_map]; omega)]
    show (g.map Dat.int)[(_ : Int).toNat]? = _
    rw [List.length_map, show ((-1 : Int) + (g.length : Int)).toNat = g.length - 1 by omega, List.getElem?_map]
    unfold lastI
    rw [List.getD_eq_getElem?_getD, List.getElem?_eq_getElem (by omega)] <;> rfl
  show (match atI (g.map Dat.int) (-1) with | some d => some (Dl.S.val d) | none => none) = _
  rw [e]
theorem putD_new {ks : List Int} {x : Int} : putD (ks.map Sum.inl) (List.replicate ks.length (.bl true)) (.inl x) (.bl true) = ((if x ∈ ks then ks else ks ++ [x]).map (Sum.inl : Int → Key), List.replicate (if x ∈ ks then ks else ks ++ [x]).length (Dat.bl true)) := by
  unfold putD
  by_cases h : x ∈ ks
  · rw [if_pos h, if_pos]
    · congr 1
      clear h
      induction ks with
      | nil => rfl
      | cons k ks ih =>
        rw [List.map_cons, List.length_cons, List.replicate_succ]
        unfold repl
        rw [ih]
        split <;> rfl
    · rw [List.any_eq_true]
      exact ⟨.inl x, List.mem_map.mpr ⟨x, h, rfl⟩, decide_eq_true rfl⟩
  · rw [if_neg h, if_neg]
    · rw [List.map_append, List.length_append, List.length_singleton, List.replicate_succ'] <;> rfl
    · rw [List.any_eq_true]
      rintro ⟨k, hk, e⟩
      obtain ⟨y, hy, rfl⟩ := List.mem_map.mp hk
      have := of_decide_eq_true e
      exact h (Sum.inl.inj this ▸ hy)
theorem valD_in {ks : List Int} {x : Int} : (valD (ks.map Sum.inl) (List.replicate ks.length (.bl true)) (.inl x)).isSome = decide (x ∈ ks) := by
  induction ks with
  | nil => rfl
  | cons k ks ih =>
    rw [List.map_cons, List.length_cons, List.replicate_succ]
    unfold valD
    by_cases e : k = x
    · subst e
      rw [if_pos rfl]
      simp
    · rw [if_neg (fun z => e (Sum.inl.inj z)), ih]
      have : ¬ x = k := fun z => e z.symm
      simp [this]
theorem gDIn_i {ks : List Int} {x : Int} : gDIn false (.int x) (.dk (ks.map Sum.inl) (List.replicate ks.length (.bl true))) = some (.val (.bl (decide (x ∈ ks)))) := by
  show some (Dl.S.val (.bl ((valD (ks.map Sum.inl) (List.replicate ks.length (.bl true)) (.inl x)).isSome != false))) = _
  rw [valD_in, Bool.bne_false]
theorem ffR_len : ∀ (g : List Int) (m : Int) (ks : List Int), (ffR (m, ks) g).2.length ≤ ks.length + g.length
  | [], m, ks => by simp [ffR]
  | x :: g, m, ks => by
    unfold ffR
    rw [List.length_cons]
    split
    · have := ffR_len g x (if x ∈ ks then ks else ks ++ [x])
      split at this
      · rename_i h; rw [if_pos h]; omega
      · rename_i h
        rw [if_neg h]
        rw [List.length_append, List.length_singleton] at this
        omega
    · have := ffR_len g m ks
      omega
/-- what first_fit_widths tells -/
def ffL (w : Int) (g : List Int) : List Int := (rgI 0 (w + 1).toNat).filter fun o => decide (o < (ffR (g.headD 0, []) g).1) || decide (o ∈ (ffR (g.headD 0, []) g).2)
theorem ff_ok {w : Int} (h0 : 0 ≤ w) (hw : w ≤ 40) {ls : List (List Int)} (hn : ls ≠ []) (hls : ls.length ≤ 1000) (hx : ∀ l ∈ ls, l ≠ []) : m_first_fit_widths [sI w, sLL ls] = .ret (.lst ((ffL w (ls.map lastI)).map .int)) [sI w, sLL ls] := by
  obtain ⟨l0, lr, rfl⟩ := List.exists_cons_of_ne_nil hn
  let g := (l0 :: lr).map lastI
  let K : List Int → Dl.S := fun ks => .dk (ks.map Sum.inl) (List.replicate ks.length (.bl true))
  let I : List Dat → DS → Prop := fun q ds => ∃ x, ds = [some (sI w), some (sLL (l0 :: lr)), some (K (ffR (lastI l0, []) (g.take q.length)).2), some (sI (ffR (lastI l0, []) (g.take q.length)).1), x, none]
  obtain ⟨ds', f1, f2⟩ := forD_inv (asg := gjName 4) (body := sIf (tVal (eOp2 (gLe) (oE (eOp2 gIx (oVar 4) (oE (eOp1 gNeg (oE (eC (.int 1))))))) (oVar 3))) (
        sSeq (sSet 3 (eOp2 gIx (oVar 4) (oE (eOp1 gNeg (oE (eC (.int 1))))))) <|
        sPutK 2 (eVar 3) (eC (.bl true))) (
        sNext)) I (xs := (l0 :: lr).map fun l => .lst (l.map .int)) (pre := []) (ds := [some (sI w), some (sLL (l0 :: lr)), some (K []), some (sI (lastI l0)), none, none]) ⟨none, rfl⟩
    (fun q d ds ⟨x, e⟩ ⟨r, hq⟩ => by
      subst e
      have hlt : q.length < (l0 :: lr).length := by
        have := congrArg List.length hq
        rw [List.nil_append, List.length_map, List.length_append, List.length_cons (as := r)] at this
        omega
      have hd : d = lI ((l0 :: lr)[q.length]) := by
        have e1 : (((l0 :: lr).map fun l => Dat.lst (l.map .int)) : List Dat)[q.length]? = some d := by
          have : (((l0 :: lr).map fun l => Dat.lst (l.map .int)) : List Dat) = q ++ d :: r := hq
          rw [this]; simp
        rw [List.getElem?_map, List.getElem?_eq_getElem hlt] at e1
        exact (Option.some.inj e1).symm
      subst hd
      let l := (l0 :: lr)[q.length]
      have hl : l ∈ l0 :: lr := List.getElem_mem hlt
      have gi := gIx_m1 (hx l hl)
      have ht : g.take (q ++ [lI l]).length = g.take q.length ++ [lastI l] := by
        rw [List.length_append, List.length_singleton, List.take_succ]
        congr 1
        show ((l0 :: lr).map lastI)[q.length]?.toList = _
        rw [List.getElem?_map, List.getElem?_eq_getElem hlt] <;> rfl
      have hst : ffR (lastI l0, []) (g.take (q ++ [lI l]).length) = ffR (ffR (lastI l0, []) (g.take q.length)) [lastI l] := by
        rw [ht, ffR_snoc]
      generalize hst0 : ffR (lastI l0, []) (g.take q.length) = st at hst
      obtain ⟨m, ks⟩ := st
      have hks : ks.length ≤ 1000 := by
        have h1 := ffR_len (g.take q.length) (lastI l0) []
        rw [hst0] at h1
        rw [List.length_take] at h1
        simp at h1
        simp at hlt hls
        omega
      refine ⟨[some (sI w), some (sLL (l0 :: lr)), some (K ks), some (sI m), some (sL l), none], [some (sI w), some (sLL (l0 :: lr)), some (K (ffR (m, ks) [lastI l]).2), some (sI (ffR (m, ks) [lastI l]).1), some (sL l), none], rfl, .inl ?_, some (sL l), by rw [hst]⟩
      by_cases hle : lastI l ≤ m
      · have e : ffR (m, ks) [lastI l] = (lastI l, if lastI l ∈ ks then ks else ks ++ [lastI l]) := by
          unfold ffR
          rw [if_pos hle] <;> rfl
        rw [e]
        refine sIf_t (by sizeOf_list_dec) (decide_eq_true hle) (sSeq_q (by sizeOf_list_dec) (sPutK_q (s := .val (.bl true)) (k := sI (lastI l)) (ks := ks.map Sum.inl) (xs := List.replicate ks.length (.bl true)) (j := .inl (lastI l)) (by sizeOf_list_dec) rfl (by sizeOf_list_dec) rfl rfl (by rw [List.length_map]; omega) ?_))
        rw [show (Dl.S.val (Dat.bl true)).dat = Dat.bl true from rfl, putD_new] <;> rfl
      · have e : ffR (m, ks) [lastI l] = (m, ks) := by
          unfold ffR
          rw [if_neg hle] <;> rfl
        rw [e]
        exact sIf_f (by sizeOf_list_dec) (decide_eq_false hle) (by sizeOf_list_dec))
  obtain ⟨x, rfl⟩ := f2
  have hl : g.take ([] ++ ((l0 :: lr).map fun l => Dat.lst (l.map .int)) : List Dat).length = g := by
    rw [List.nil_append, List.length_map]
    exact List.take_of_length_le (by rw [show g.length = (l0 :: lr).length from List.length_map ..]; exact Nat.le_refl _)
  rw [hl] at f1
  let st := ffR (lastI l0, []) g
  let D : DS := [some (sI w), some (sLL (l0 :: lr)), some (K st.2), some (sI st.1), x, none]
  refine runB_rt rfl (ds := D) ?_ rfl
  have g0 : gIx (llI (l0 :: lr)) (.int 0) = some (sL l0) := by
    have e : atI ((l0 :: lr).map fun l => Dat.lst (l.map .int)) 0 = some (lI l0) := by
      unfold atI ixN
      rw [if_pos (by omega), if_pos (by rw [List.length_map, List.length_cons]; omega)] <;> rfl
    show (match atI ((l0 :: lr).map fun l => Dat.lst (l.map .int)) 0 with | some d => some (Dl.S.val d) | none => none) = _
    rw [e]
  have gl0 := gIx_m1 (hx l0 List.mem_cons_self)
  refine sSeq_q (ds1 := [some (sI w), some (sLL (l0 :: lr)), some (K []), none, none, none]) rfl ?_
  refine sSeq_q (ds1 := [some (sI w), some (sLL (l0 :: lr)), some (K []), some (sI (lastI l0)), none, none]) (by sizeOf_list_dec) ?_
  refine sSeq_q (sFor_q (ds1 := [some (sI w), some (sLL (l0 :: lr)), some (K []), some (sI (lastI l0)), none, none]) (wSeq_l (s := sLL (l0 :: lr)) (by sizeOf_list_dec) rfl) f1) ?_
  have lc := eLc_q (i := 5) (ds := D) (ds1 := D) (ds2 := D) (src := wRng1 (oCons (oE (eOp2 gAdd (oVar 0) (oE (eC (.int 1))))) (oNil))) (tst := tOrF (tVal (eOp2 (gLt) (oVar 5) (oVar 3))) (tVal (eOp2 (gDIn false) (oVar 5) (oVar 2)))) (elt := eVar 5) (xs := rng 0 (w + 1).toNat) (fun d => match d with | .int o => decide (o < st.1) || decide (o ∈ st.2) | _ => false) (fun d => d)
    (wRng1_q (j := w + 1) (by sizeOf_list_dec) rfl (by omega)) rfl (by rw [rng_map, List.length_map, rgI_len]; omega) (fun d hd => by
      rw [rng_map] at hd
      obtain ⟨z, _, rfl⟩ := all_int hd
      exact ⟨[some (sI w), some (sLL (l0 :: lr)), some (K st.2), some (sI st.1), x, some (sI z)], tOrF_b (by sizeOf_list_dec) (tVal_q (eOp2_q (oVar_q rfl) (oVar_k rfl) rfl rfl gDIn_i)), fun _ => ⟨sI z, [some (sI w), some (sLL (l0 :: lr)), some (K st.2), some (sI st.1), x, some (sI z)], by sizeOf_list_dec, rfl, rfl⟩, fun _ => rfl⟩)
  rw [List.map_id', rng_map, filter_ints] at lc
  exact sRet_q lc
/-! ### row_widths -/
def aI (a : List Int) (i : Nat) : Int := a.getD i 0
def endI (w : Int) (a : List Int) (i : Nat) : Int := if i + 1 < a.length then aI a (i + 1) else w + 1
def blk (w : Int) (a b : List Int) (i : Nat) : List Int := (b.filter fun m => decide (aI a i + m < endI w a i)).map (aI a i + ·)
def rowF (w : Int) (a b : List Int) (n : Nat) : List Int := (List.range n).flatMap (blk w a b)
theorem rowF_succ (w : Int) (a b : List Int) (n : Nat) : rowF w a b (n + 1) = rowF w a b n ++ blk w a b n := by
  unfold rowF
  rw [List.range_succ, List.flatMap_append] <;> simp
theorem blk_len (w : Int) (a b : List Int) (i : Nat) : (blk w a b i).length ≤ b.length := by
  unfold blk
  rw [List.length_map]
  exact List.length_filter_le _ _
theorem rowF_len (w : Int) (a b : List Int) (n : Nat) : (rowF w a b n).length ≤ n * b.length := by
  induction n with
  | zero => simp [rowF]
  | succ n ih =>
    rw [rowF_succ, List.length_append, Nat.succ_mul]
    have := blk_len w a b n
    omega
theorem gIx_nat {a : List Int} {i : Nat} (h : i < a.length) : gIx (lI a) (.int i) = some (sI (aI a i)) := by
  have e : atI (a.map Dat.int) (i : Int) = some (.int (aI a i)) := by
    unfold atI ixN
    rw [if_pos (by omega), if_pos (by rw [List.length_map]; omega)]
    show (a.map Dat.int)[(i : Int).toNat]? = _
    unfold aI
    rw [Int.toNat_natCast, List.getElem?_map, List.getD_eq_getElem?_getD, List.getElem?_eq_getElem h] <;> rfl
  show (match atI (a.map Dat.int) (i : Int) with | some d => some (Dl.S.val d) | none => none) = _
  rw [e]
theorem lrow_ok {w : Int} (h0 : 0 ≤ w) (hw : w ≤ 40) {a b : List Int} (la : a.length ≤ 41) (lb : b.length ≤ 41) : m_row_widths [sI w, sL a, sL b] = .ret (.lst ((rowF w a b a.length).map .int)) [sI w, sL a, sL b] := by
  let I : List Dat → DS → Prop := fun q ds => ∃ x y z, ds = [some (sI w), some (sL a), some (sL b), some (.lst ((rowF w a b q.length).map .int)), x, y, z]
  let inner : DS → RSt := sFor (wSeq (eVar 2)) (gjName 6) (
        sIf (tVal (eOp2 (gLt) (oE (eOp2 gAdd (oE (eOp2 gIx (oVar 1) (oVar 4))) (oVar 6))) (oVar 5))) (
          sAppend 3 (eOp2 gAdd (oE (eOp2 gIx (oVar 1) (oVar 4))) (oVar 6))) (
          sNext))
  have gl : gLen [lI a] = some (sI a.length) := by rw [gLen_l, List.length_map]
  obtain ⟨ds', f1, f2⟩ := forD_inv (asg := gjName 4) (body := sSeq (sSet 5 (eOp2 gAdd (oVar 0) (oE (eC (.int 1))))) <|
      sSeq (sIf (tVal (eOp2 (gLt) (oE (eOp2 gAdd (oVar 4) (oE (eC (.int 1))))) (oE (eCB gLen (oCons (oVar 1) (oNil)))))) (
        sSet 5 (eOp2 gIx (oVar 1) (oE (eOp2 gAdd (oVar 4) (oE (eC (.int 1))))))) (
        sNext)) inner) I (xs := rng 0 a.length) (pre := []) (ds := [some (sI w), some (sL a), some (sL b), some (.lst []), none, none, none]) ⟨none, none, none, rfl⟩
    (fun q d ds ⟨x, y, z, e⟩ ⟨r, hq⟩ => by
      subst e
      obtain ⟨_, rfl, hlt⟩ := rg_front hq
      have gi := gIx_nat hlt
      let base := rowF w a b q.length
      have hbl : base.length ≤ 1681 := by
        have h1 := rowF_len w a b q.length
        have h2 : q.length * b.length ≤ 41 * 41 := Nat.mul_le_mul (by omega) lb
        exact Nat.le_trans h1 h2
      let ii : Int := q.length
      let ai := aI a q.length
      let en := endI w a q.length
      let J : List Dat → DS → Prop := fun t ds => ∃ v, ds = [some (sI w), some (sL a), some (sL b), some (.lst ((base ++ ((b.take t.length).filter fun m => decide (ai + m < en)).map (ai + ·)).map .int)), some (sI ii), some (sI en), v]
      obtain ⟨ds2, k1, k2⟩ := forD_inv (asg := gjName 6) (body := sIf (tVal (eOp2 (gLt) (oE (eOp2 gAdd (oE (eOp2 gIx (oVar 1) (oVar 4))) (oVar 6))) (oVar 5))) (
          sAppend 3 (eOp2 gAdd (oE (eOp2 gIx (oVar 1) (oVar 4))) (oVar 6))) (
          sNext)) J (xs := b.map .int) (pre := []) (ds := [some (sI w), some (sL a), some (sL b), some (.lst (base.map .int)), some (sI ii), some (sI en), z]) ⟨z, by simp⟩
        (fun t d ds ⟨v, e⟩ ⟨r2, ht⟩ => by
          subst e
          have htl : t.length < b.length := by
            have := congrArg List.length ht
            rw [List.nil_append, List.length_map, List.length_append, List.length_cons (as := r2)] at this
            omega
          have hd : d = .int (b[t.length]) := by
            have e1 : (b.map Dat.int)[t.length]? = some d := by
              have : b.map Dat.int = t ++ d :: r2 := ht
              rw [this]; simp
            rw [List.getElem?_map, List.getElem?_eq_getElem htl] at e1
            exact (Option.some.inj e1).symm
          subst hd
          let m := b[t.length]
          have hT : b.take (t ++ [Dat.int m]).length = b.take t.length ++ [m] := by
            rw [List.length_append, List.length_singleton, List.take_succ, List.getElem?_eq_getElem htl] <;> rfl
          let cur := base ++ ((b.take t.length).filter fun m => decide (ai + m < en)).map (ai + ·)
          refine ⟨[some (sI w), some (sL a), some (sL b), some (.lst (cur.map .int)), some (sI ii), some (sI en), some (sI m)], [some (sI w), some (sL a), some (sL b), some (.lst ((base ++ ((b.take (t ++ [Dat.int m]).length).filter fun m => decide (ai + m < en)).map (ai + ·)).map .int)), some (sI ii), some (sI en), some (sI m)], rfl, .inl ?_, _, rfl⟩
          rw [hT, filter_snoc]
          by_cases hp : ai + m < en
          · rw [if_pos (decide_eq_true hp)]
            refine sIf_t (by sizeOf_list_dec) (decide_eq_true hp) (sAppend_q rfl (by sizeOf_list_dec) rfl ?_ ?_)
            · show (cur.map Dat.int).length < 100000
              rw [List.length_map, List.length_append, List.length_map]
              have := List.length_filter_le (fun m => decide (ai + m < en)) (b.take t.length)
              rw [List.length_take] at this
              omega
            · have e : (base ++ ((b.take t.length).filter (fun m => decide (ai + m < en)) ++ [m]).map (ai + ·)).map Dat.int = cur.map Dat.int ++ [Dat.int (ai + m)] := by
                show _ = (base ++ ((b.take t.length).filter fun m => decide (ai + m < en)).map (ai + ·)).map Dat.int ++ [Dat.int (ai + m)]
                simp
              rw [e] <;> rfl
          · rw [if_neg (fun z => hp (of_decide_eq_true z))]
            exact sIf_f (by sizeOf_list_dec) (decide_eq_false hp) (by sizeOf_list_dec))
      obtain ⟨v, rfl⟩ := k2
      have hb : b.take ([] ++ b.map Dat.int : List Dat).length = b := by
        rw [List.nil_append, List.length_map]
        exact List.take_of_length_le (Nat.le_refl _)
      rw [hb] at k1
      refine ⟨[some (sI w), some (sL a), some (sL b), some (.lst (base.map .int)), some (sI ii), y, z], [some (sI w), some (sL a), some (sL b), some (.lst ((rowF w a b (q ++ [Dat.int ii]).length).map .int)), some (sI ii), some (sI en), v], rfl, .inl ?_, _, _, _, rfl⟩
      have hlast : inner [some (sI w), some (sL a), some (sL b), some (.lst (base.map .int)), some (sI ii), some (sI en), z] = .nx [some (sI w), some (sL a), some (sL b), some (.lst ((rowF w a b (q ++ [Dat.int ii]).length).map .int)), some (sI ii), some (sI en), v] := by
        refine sFor_q (wSeq_l (s := sL b) (by sizeOf_list_dec) rfl) ?_
        rw [show (q ++ [Dat.int ii]).length = q.length + 1 by simp, rowF_succ]
        exact k1
      refine sSeq_q (by sizeOf_list_dec) ?_
      by_cases hc : q.length + 1 < a.length
      · have ge : gIx (lI a) (.int (ii + 1)) = some (sI (aI a (q.length + 1))) := by
          have := gIx_nat hc
          rwa [show ((q.length + 1 : Nat) : Int) = ii + 1 by omega] at this
        have he : en = aI a (q.length + 1) := if_pos hc
        refine sSeq_q (ds1 := [some (sI w), some (sL a), some (sL b), some (.lst (base.map .int)), some (sI ii), some (sI en), z]) (sIf_t (by sizeOf_list_dec) (decide_eq_true (show ii + 1 < (a.length : Int) by omega)) (sSet_q (s := sI (aI a (q.length + 1))) (by sizeOf_list_dec) (by rw [he]; rfl))) hlast
      · have he : en = w + 1 := if_neg hc
        refine sSeq_q (ds1 := [some (sI w), some (sL a), some (sL b), some (.lst (base.map .int)), some (sI ii), some (sI en), z]) (sIf_f (by sizeOf_list_dec) (decide_eq_false (show ¬ ii + 1 < (a.length : Int) by omega)) (by rw [he]; sizeOf_list_dec)) hlast)
  obtain ⟨x, y, z, rfl⟩ := f2
  have hl : ([] ++ rng 0 a.length : List Dat).length = a.length := by rw [rng_map, List.nil_append, List.length_map, rgI_len]
  rw [hl] at f1
  refine runB_rt rfl (ds := [some (sI w), some (sL a), some (sL b), none, x, y, z]) ?_ rfl
  refine sSeq_q (by sizeOf_list_dec) ?_
  refine sSeq_q (sFor_q (ds1 := [some (sI w), some (sL a), some (sL b), some (.lst []), none, none, none]) (wRng1_q (j := a.length) (by sizeOf_list_dec) rfl (by omega)) f1) ?_
  sizeOf_list_dec
/-! ### equal -/
theorem eq_int {n : Nat} {i : Int} : m__law_equal (n + 1) [sI i, sI i] = .ret (.val (.bl true)) [sI i, sI i] := by
  let D : DS := [some (sI i), some (sI i), none]
  refine runB_rt rfl (ds := D) ?_ rfl
  refine sSeq_q (sIf_f (by sizeOf_list_dec) rfl (by sizeOf_list_dec)) ?_
  refine sSeq_q (sIf_f (by sizeOf_list_dec) rfl (by sizeOf_list_dec)) ?_
  refine sSeq_rt (sIf_t (by sizeOf_list_dec) rfl (sRet_q (bnd_q (ds1 := D) (z := true) (by sizeOf_list_dec) ?_)))
  rw [if_pos rfl]
  refine bnd_q (ds1 := D) (z := true) (tVal_q (eOp2_q (x := .d (.bl false)) (a := .bl false) (y := .d (.bl false)) (b := .bl false) (ds1 := D) (oE_q (s := .val (.bl false)) (by sizeOf_list_dec)) (oE_q (s := .val (.bl false)) (by sizeOf_list_dec)) rfl rfl rfl)) ?_
  rw [if_pos rfl]
  refine eOp2_q (ds1 := D) (x := .d (.int i)) (a := .int i) (y := .d (.int i)) (b := .int i) (by sizeOf_list_dec) (by sizeOf_list_dec) rfl rfl ?_
  rw [gEq_i, decide_eq_true rfl]
theorem gInB_true (n : Nat) : gInB true (.bl false) (.lst (List.replicate n (.bl true))) = some (.val (.bl true)) := by
  have h1 : pdL (List.replicate n (Dat.bl true)) = some (List.replicate n (.bool true)) := by
    induction n with
    | zero => rfl
    | succ n ih => rw [List.replicate_succ, pdL, ih] <;> rfl
  have h2 : PyData.canLayAll0 (List.replicate n (.bool true)) = true := by
    clear h1
    induction n with
    | zero => rfl
    | succ n ih => rw [List.replicate_succ]; simp [PyData.canLayAll0, PyData.canLay0, ih]
  have h3 : PyData.depthAll (List.replicate n (.bool true)) = 0 := by
    clear h1 h2
    induction n with
    | zero => rfl
    | succ n ih => rw [List.replicate_succ]; simp [PyData.depthAll, PyData.depth, ih]
  have h4 : (List.replicate n (PyData.bool true)).any (fun z => PyData.eqv z (.bool false)) = false := by
    rw [List.any_eq_false]
    intro x hx
    rw [List.eq_of_mem_replicate hx]
    decide
  unfold gInB
  dsimp only
  rw [show pd (.bl false) = some (.bool false) from rfl, h1]
  dsimp only
  rw [if_pos, h4]
  · rfl
  · unfold SeqAt.shaped
    simp [PyData.canLay0, PyData.depth, h2, h3]
theorem eq_lst {n : Nat} {xs : List Dat} (hl : xs.length ≤ 1000) (h : ∀ d ∈ xs, m__law_equal n [.val d, .val d] = .ret (.val (.bl true)) [.val d, .val d]) : m__law_equal (n + 1) [.val (.lst xs), .val (.lst xs)] = .ret (.val (.bl true)) [.val (.lst xs), .val (.lst xs)] := by
  let s : Dl.S := .val (.lst xs)
  let D : DS := [some s, some s, none]
  refine runB_rt rfl (ds := D) ?_ rfl
  refine sSeq_q (sIf_f (by sizeOf_list_dec) rfl (by sizeOf_list_dec)) ?_
  refine sSeq_q (sIf_f (by sizeOf_list_dec) rfl (by sizeOf_list_dec)) ?_
  refine sSeq_q (sIf_f (by sizeOf_list_dec) rfl (by sizeOf_list_dec)) ?_
  refine sSeq_q (sIf_f (tOrF_b (ds := D) (c := false) (e := false) (tVal_q (eOp2_q (x := .d (.bl false)) (a := .bl false) (y := .d (.bl false)) (b := .bl false) (ds1 := D) (oE_q (s := .val (.bl false)) (by sizeOf_list_dec)) (oE_q (s := .val (.bl false)) (by sizeOf_list_dec)) rfl rfl rfl)) (tVal_q (eOp2_q (x := .d (.bl true)) (a := .bl true) (y := .d (.bl true)) (b := .bl true) (ds1 := D) (oE_q (s := .val (.bl true)) (by sizeOf_list_dec)) (oE_q (s := .val (.bl true)) (by sizeOf_list_dec)) rfl rfl rfl))) rfl (by sizeOf_list_dec)) ?_
  refine sRet_q (bnd_q (ds1 := D) (z := true) (tVal_q (eOp2_q (x := .d (.int xs.length)) (a := .int xs.length) (y := .d (.int xs.length)) (b := .int xs.length) (ds1 := D) (by sizeOf_list_dec) (by sizeOf_list_dec) rfl rfl (by rw [gEq_i, decide_eq_true rfl]))) ?_)
  rw [if_pos rfl]
  have lc := eLc_q (i := 2) (ds := D) (ds1 := D) (ds2 := D) (src := wRng1 (oCons (oE (eCB gLen (oCons (oVar 1) (oNil)))) (oNil))) (tst := tYesF) (elt := eCall (m__law_equal n) (oCons (oE (eOp2 gIx (oVar 0) (oVar 2))) (oCons (oE (eOp2 gIx (oVar 1) (oVar 2))) (oNil)))) (xs := rng 0 xs.length) (fun _ => true) (fun _ => .bl true)
    (wRng1_q (j := xs.length) (by sizeOf_list_dec) rfl (by omega)) rfl (by rw [rng_map, List.length_map, rgI_len]; omega) (fun d hd => by
      rw [rng_map] at hd
      obtain ⟨z, hz, rfl⟩ := all_int hd
      have hz2 := mem_rgI.mp hz
      obtain ⟨d, hd⟩ := atI_ok (l := xs) hz2.1 (by omega)
      have gd : gIx (.lst xs) (.int z) = some (.val d) := by
        show (match atI xs z with | some d => some (Dl.S.val d) | none => none) = _
        rw [hd]
      have hh := h d (atI_mem hd)
      exact ⟨[some s, some s, some (sI z)], rfl, fun _ => ⟨.val (.bl true), [some s, some s, some (sI z)], by sizeOf_list_dec, rfl, rfl⟩, fun z => nomatch z⟩)
  rw [List.filter_eq_self.mpr (fun _ _ => rfl), List.map_const', show (rng 0 xs.length).length = xs.length by rw [rng_map, List.length_map, rgI_len]] at lc
  refine eOp2_q (ds1 := D) (x := .d (.bl false)) (a := .bl false) (y := .d (.lst (List.replicate xs.length (.bl true)))) (b := .lst (List.replicate xs.length (.bl true))) (oE_q (s := .val (.bl false)) eC_q) (oE_q lc) rfl rfl (gInB_true _)
theorem eq_ints {n : Nat} {l : List Int} (hl : l.length ≤ 1000) : m__law_equal (n + 2) [sL l, sL l] = .ret (.val (.bl true)) [sL l, sL l] :=
  eq_lst (n := n + 1) (by rw [List.length_map]; exact hl) fun d hd => by
    obtain ⟨x, _, rfl⟩ := all_int hd
    exact eq_int
theorem eq_lists {n : Nat} {ls : List (List Int)} (hl : ls.length ≤ 1000) (h : ∀ l ∈ ls, l.length ≤ 1000) : m__law_equal (n + 3) [sLL ls, sLL ls] = .ret (.val (.bl true)) [sLL ls, sLL ls] :=
  eq_lst (n := n + 2) (by rw [List.length_map]; exact hl) fun d hd => by
    obtain ⟨l, h1, rfl⟩ := all_lst hd
    exact eq_ints (h l h1)
theorem mem_rg {w x : Int} (h0 : 0 ≤ w) : x ∈ rgI 0 (w + 1).toNat ↔ 0 ≤ x ∧ x ≤ w := by
  rw [mem_rgI]; omega
theorem up_filter {l : List Int} (h : l.Pairwise (· < ·)) (p : Int → Bool) : (l.filter p).Pairwise (· < ·) := List.Pairwise.filter p h
section
variable {w : Int} {a b : List Int}
theorem Wd.dn (ha : Wd w a) {o : Int} (ho : 0 ≤ o) : dnI a o ∈ a ∧ dnI a o ≤ o ∧ ∀ x ∈ a, x ≤ o → x ≤ dnI a o := dnI_spec ha.zero ho
theorem Wd.dn_eq (ha : Wd w a) {o : Int} (ho : 0 ≤ o) : dnI a o = o ↔ o ∈ a := by
  obtain ⟨h1, h2, h3⟩ := ha.dn ho
  constructor
  · intro e; rw [← e]; exact h1
  · intro h; have := h3 o h (Int.le_refl _); omega
theorem union_eq (h0 : 0 ≤ w) (ha : Wd w a) (hb : Wd w b) : sset (a ++ b) = (rgI 0 (w + 1).toNat).filter fun o => decide (max (dnI a o) (dnI b o) = o) := by
  refine up_uniq sset_up (up_filter (rgI_up _ _) _) fun z => ?_
  rw [mem_sset, List.mem_append, List.mem_filter, mem_rg h0, decide_eq_true_iff]
  constructor
  · intro h
    have hz : 0 ≤ z ∧ z ≤ w := h.elim (ha.le z) (hb.le z)
    refine ⟨hz, ?_⟩
    have h1 := ha.dn hz.1
    have h2 := hb.dn hz.1
    rcases h with h | h
    · have := (ha.dn_eq hz.1).mpr h; omega
    · have := (hb.dn_eq hz.1).mpr h; omega
  · rintro ⟨hz, e⟩
    rw [Int.max_def] at e
    split at e
    · exact .inr ((hb.dn_eq hz.1).mp e)
    · exact .inl ((ha.dn_eq hz.1).mp e)
theorem union_self (ha : Wd w a) : sset (a ++ a) = a := up_uniq sset_up ha.up fun z => by rw [mem_sset, List.mem_append, or_self]
theorem frame_eq (h0 : 0 ≤ w) (ha : Wd w a) {least : Int} : ((rgI 0 (w + 1).toNat).filter fun o => decide (o ≤ least) || decide (o ∈ a)) = (rgI 0 (w + 1).toNat).filter fun o => decide (max (dnI a o) (min o least) = o) := by
  refine List.filter_congr fun o ho => ?_
  have hz := (mem_rg h0).mp ho
  have h1 := ha.dn hz.1
  have h2 := ha.dn_eq hz.1
  rw [Bool.eq_iff_iff, Bool.or_eq_true, decide_eq_true_iff, decide_eq_true_iff, decide_eq_true_iff]
  constructor
  · rintro (h | h)
    · omega
    · have := h2.mpr h; omega
  · intro h
    by_cases hl : o ≤ least
    · exact .inl hl
    · exact .inr (h2.mp (by omega))
theorem cap_eq (h0 : 0 ≤ w) (ha : Wd w a) {least : Int} (hl : 0 ≤ least) : (a.filter fun o => decide (o ≤ least)) = (rgI 0 (w + 1).toNat).filter fun o => decide (dnI a (min o least) = o) := by
  refine up_uniq (up_filter ha.up _) (up_filter (rgI_up _ _) _) fun z => ?_
  rw [List.mem_filter, List.mem_filter, mem_rg h0, decide_eq_true_iff, decide_eq_true_iff]
  constructor
  · rintro ⟨h1, h2⟩
    have hz := ha.le z h1
    refine ⟨hz, ?_⟩
    rw [show min z least = z by omega]
    exact (ha.dn_eq hz.1).mpr h1
  · rintro ⟨hz, e⟩
    obtain ⟨h1, h2, h3⟩ := ha.dn (o := min z least) (by omega)
    rw [e] at h1 h2
    exact ⟨h1, by omega⟩
theorem pad_eq (h0 : 0 ≤ w) (ha : Wd w a) {bd : Int} (hb : 0 ≤ bd) : padF w a bd = padL w a bd := by
  refine up_uniq ?_ (up_filter (rgI_up _ _) _) fun z => ?_
  · unfold padF
    rw [List.pairwise_append]
    refine ⟨rgI_up _ _, ?_, fun x hx y hy => ?_⟩
    · rw [List.pairwise_map]
      exact (up_filter ha.up _).imp fun {x y} h => by omega
    · obtain ⟨o, ho, rfl⟩ := List.mem_map.mp hy
      have h1 := (ha.le o (List.mem_filter.mp ho).1).1
      have h2 := mem_rgI.mp hx
      omega
  · unfold padF padL padP
    rw [List.mem_append, mem_rgI, List.mem_map, List.mem_filter, mem_rg h0, Bool.or_eq_true, decide_eq_true_iff, decide_eq_true_iff]
    constructor
    · rintro (h | ⟨o, ho, rfl⟩)
      · exact ⟨by omega, .inl (by omega)⟩
      · obtain ⟨h1, h2⟩ := List.mem_filter.mp ho
        have h3 := of_decide_eq_true h2
        have h4 := ha.le o h1
        refine ⟨by omega, .inr ?_⟩
        rw [show o + 2 * bd - 2 * bd = o by omega, (ha.dn_eq h4.1).mpr h1]
    · rintro ⟨hz, h | h⟩
      · exact .inl (by omega)
      · by_cases hc : z < 2 * bd
        · exact .inl (by omega)
        · obtain ⟨h1, h2, h3⟩ := ha.dn (o := z - 2 * bd) (by omega)
          exact .inr ⟨dnI a (z - 2 * bd), List.mem_filter.mpr ⟨h1, decide_eq_true (by omega)⟩, h⟩
/-! ### rows -/
def bnd2 (w : Int) (a : List Int) (n : Nat) : Int := if n < a.length then aI a n else w + 1
theorem aI_mem {i : Nat} (h : i < a.length) : aI a i ∈ a := by
  unfold aI
  rw [List.getD_eq_getElem?_getD, List.getElem?_eq_getElem h]
  exact List.getElem_mem h
theorem aI_lt (ha : a.Pairwise (· < ·)) {i j : Nat} (h : i < j) (hj : j < a.length) : aI a i < aI a j := by
  unfold aI
  rw [List.getD_eq_getElem?_getD, List.getElem?_eq_getElem (by omega), List.getD_eq_getElem?_getD, List.getElem?_eq_getElem hj]
  exact List.pairwise_iff_getElem.mp ha i j (by omega) hj h
theorem mem_aI {x : Int} (h : x ∈ a) : ∃ i, i < a.length ∧ aI a i = x := by
  obtain ⟨i, hi, e⟩ := List.getElem_of_mem h
  refine ⟨i, hi, ?_⟩
  unfold aI
  rw [List.getD_eq_getElem?_getD, List.getElem?_eq_getElem hi]
  exact e
theorem mem_blk {i : Nat} {z : Int} : z ∈ blk w a b i ↔ ∃ m ∈ b, aI a i + m < endI w a i ∧ z = aI a i + m := by
  unfold blk
  rw [List.mem_map]
  constructor
  · rintro ⟨m, hm, rfl⟩
    obtain ⟨h1, h2⟩ := List.mem_filter.mp hm
    exact ⟨m, h1, of_decide_eq_true h2, rfl⟩
  · rintro ⟨m, h1, h2, rfl⟩
    exact ⟨m, List.mem_filter.mpr ⟨h1, decide_eq_true h2⟩, rfl⟩
theorem mem_rowF {n : Nat} {z : Int} : z ∈ rowF w a b n ↔ ∃ i, i < n ∧ ∃ m ∈ b, aI a i + m < endI w a i ∧ z = aI a i + m := by
  unfold rowF
  rw [List.mem_flatMap]
  constructor
  · rintro ⟨i, hi, h⟩
    exact ⟨i, List.mem_range.mp hi, mem_blk.mp h⟩
  · rintro ⟨i, hi, h⟩
    exact ⟨i, List.mem_range.mpr hi, mem_blk.mpr h⟩
theorem rowF_up (ha : Wd w a) (hb : Wd w b) : ∀ n, n ≤ a.length → (rowF w a b n).Pairwise (· < ·) ∧ ∀ z ∈ rowF w a b n, z < bnd2 w a n
  | 0, _ => ⟨List.Pairwise.nil, fun z hz => nomatch hz⟩
  | n + 1, hn => by
    obtain ⟨h1, h2⟩ := rowF_up ha hb n (by omega)
    have hbn : bnd2 w a n = aI a n := if_pos (by omega)
    have he : endI w a n = bnd2 w a (n + 1) := rfl
    have hlt : aI a n < bnd2 w a (n + 1) := by
      unfold bnd2
      split
      · rename_i h; exact aI_lt ha.up (Nat.lt_succ_self n) h
      · have := (ha.le _ (aI_mem (show n < a.length by omega))).2
        omega
    rw [rowF_succ]
    refine ⟨?_, fun z hz => ?_⟩
    · rw [List.pairwise_append]
      refine ⟨h1, ?_, fun x hx y hy => ?_⟩
      · unfold blk
        rw [List.pairwise_map]
        exact (up_filter hb.up _).imp fun {x y} h => by omega
      · obtain ⟨m, hm, _, rfl⟩ := mem_blk.mp hy
        have := h2 x hx
        have := (hb.le m hm).1
        omega
    · rcases List.mem_append.mp hz with hz | hz
      · have := h2 z hz; omega
      · obtain ⟨m, hm, h3, rfl⟩ := mem_blk.mp hz
        rw [← he]; exact h3
theorem row_eq (h0 : 0 ≤ w) (ha : Wd w a) (hb : Wd w b) : rowF w a b a.length = rowL w a b := by
  refine up_uniq (rowF_up ha hb _ (Nat.le_refl _)).1 (up_filter (rgI_up _ _) _) fun z => ?_
  unfold rowL
  rw [mem_rowF, List.mem_filter, mem_rg h0, decide_eq_true_iff]
  constructor
  · rintro ⟨i, hi, m, hm, hlt, rfl⟩
    have hai := ha.le _ (aI_mem hi)
    have hm0 := hb.le m hm
    have hend : endI w a i ≤ w + 1 := by
      unfold endI
      split
      · rename_i h; have := (ha.le _ (aI_mem h)).2; omega
      · omega
    have hz : 0 ≤ aI a i + m ∧ aI a i + m ≤ w := by omega
    obtain ⟨h1, h2, h3⟩ := ha.dn hz.1
    have hd : dnI a (aI a i + m) = aI a i := by
      have h4 := h3 _ (aI_mem hi) (by omega)
      obtain ⟨j, hj, e⟩ := mem_aI h1
      rcases Nat.lt_or_ge i j with q | q
      · have h5 : endI w a i ≤ aI a j := by
          have : endI w a i = aI a (i + 1) := if_pos (by omega)
          rw [this]
          rcases Nat.lt_or_ge (i + 1) j with q2 | q2
          · exact Int.le_of_lt (aI_lt ha.up q2 hj)
          · rw [show i + 1 = j by omega]; exact Int.le_refl _
        omega
      · rcases Nat.lt_or_ge j i with q2 | q2
        · have := aI_lt ha.up q2 hi; omega
        · have : i = j := by omega
          subst this
          exact e.symm
    refine ⟨hz, ?_⟩
    rw [hd, show aI a i + m - aI a i = m by omega, (hb.dn_eq hm0.1).mpr hm]
  · rintro ⟨hz, e⟩
    obtain ⟨h1, h2, h3⟩ := ha.dn hz.1
    obtain ⟨i, hi, ei⟩ := mem_aI h1
    obtain ⟨k1, k2, k3⟩ := hb.dn (o := z - dnI a z) (by omega)
    refine ⟨i, hi, dnI b (z - dnI a z), k1, ?_, by omega⟩
    unfold endI
    split
    · rename_i h
      have h5 := aI_lt ha.up (show i < i + 1 by omega) h
      by_cases hc : aI a (i + 1) ≤ z
      · have := h3 _ (aI_mem h) hc
        omega
      · omega
    · omega
/-! ### first fit -/
theorem last_max {l : List Int} (hn : l ≠ []) (h : l.Pairwise (· < ·)) : lastI l ∈ l ∧ ∀ x ∈ l, x ≤ lastI l := by
  have hl : 0 < l.length := List.length_pos_iff.mpr hn
  have e : lastI l = aI l (l.length - 1) := rfl
  refine ⟨e ▸ aI_mem (by omega), fun x hx => ?_⟩
  obtain ⟨i, hi, rfl⟩ := mem_aI hx
  rw [e]
  rcases Nat.lt_or_ge i (l.length - 1) with q | q
  · exact Int.le_of_lt (aI_lt h q (by omega))
  · rw [show i = l.length - 1 by omega]; exact Int.le_refl _
theorem Wd.last (h0 : 0 ≤ w) (ha : Wd w a) : lastI a = dnI a w := by
  obtain ⟨h1, h2⟩ := last_max (List.ne_nil_of_mem ha.zero) ha.up
  obtain ⟨k1, k2, k3⟩ := ha.dn h0
  have := h2 _ k1
  have := k3 _ h1 (ha.le _ h1).2
  omega
end
theorem ff_A {o : Int} : ∀ {g : List Int} {m : Int} {ks : List Int}, m ≤ o → m ∈ ks → ((o < (ffR (m, ks) g).1 ∨ o ∈ (ffR (m, ks) g).2) ↔ o ∈ ks)
  | [], m, ks, h, hm => by
    show (o < m ∨ o ∈ ks) ↔ _
    constructor
    · rintro (h2 | h2)
      · omega
      · exact h2
    · exact .inr
  | x :: g, m, ks, h, hm => by
    rw [ffR_cons]
    by_cases hx : x ≤ m
    · rw [if_pos hx]
      have hin : x ∈ (if x ∈ ks then ks else ks ++ [x]) := by
        split
        · assumption
        · simp
      rw [ff_A (by omega) hin]
      split
      · rfl
      · rw [List.mem_append, List.mem_singleton]
        constructor
        · rintro (q | q)
          · exact q
          · have : o = m := by omega
            exact this ▸ hm
        · exact .inl
    · rw [if_neg hx]
      exact ff_A h hm
theorem ff_B {o : Int} : ∀ {g : List Int} {m : Int} {ks : List Int}, o < m → (∀ k ∈ ks, m ≤ k) → ((o < (ffR (m, ks) g).1 ∨ o ∈ (ffR (m, ks) g).2) ↔ (match g.filter (fun x => decide (x ≤ o)) with | x :: _ => x = o | [] => True))
  | [], m, ks, h, hk => by
    show (o < m ∨ o ∈ ks) ↔ True
    exact ⟨fun _ => trivial, fun _ => .inl h⟩
  | x :: g, m, ks, h, hk => by
    rw [ffR_cons]
    by_cases hx : x ≤ m
    · rw [if_pos hx]
      have hin : x ∈ (if x ∈ ks then ks else ks ++ [x]) := by
        split
        · assumption
        · simp
      by_cases ho : x ≤ o
      · rw [ff_A ho hin, List.filter_cons_of_pos (p := fun x => decide (x ≤ o)) (decide_eq_true ho)]
        have hno : o ∉ ks := fun z => by have := hk o z; omega
        split
        · rename_i hxk
          have := hk x hxk
          omega
        · rw [List.mem_append, List.mem_singleton]
          constructor
          · rintro (q | q)
            · exact absurd q hno
            · exact q.symm
          · intro q; exact .inr q.symm
      · rw [ff_B (by omega) (fun k hk' => ?_), List.filter_cons_of_neg (p := fun x => decide (x ≤ o)) (fun z => ho (of_decide_eq_true z))]
        split at hk'
        · have := hk k hk'; omega
        · rcases List.mem_append.mp hk' with q | q
          · have := hk k q; omega
          · rw [List.mem_singleton.mp q]; exact Int.le_refl _
    · rw [if_neg hx, ff_B h hk, List.filter_cons_of_neg (p := fun x => decide (x ≤ o)) (fun z => hx (by have := of_decide_eq_true z; omega))]
theorem ff_eq {w : Int} {g : List Int} (hg : g ≠ []) : ffL w g = fitL w g := by
  obtain ⟨x, r, rfl⟩ := List.exists_cons_of_ne_nil hg
  refine List.filter_congr fun o _ => ?_
  have key : (o < (ffR (x, []) (x :: r)).1 ∨ o ∈ (ffR (x, []) (x :: r)).2) ↔ (match (x :: r).filter (fun y => decide (y ≤ o)) with | y :: _ => y = o | [] => True) := by
    by_cases ho : x ≤ o
    · rw [ffR_cons, if_pos (Int.le_refl x), if_neg (List.not_mem_nil), List.nil_append, ff_A ho (List.mem_singleton.mpr rfl), List.filter_cons_of_pos (p := fun x => decide (x ≤ o)) (decide_eq_true ho), List.mem_singleton]
      exact ⟨fun h => h.symm, fun h => h.symm⟩
    · exact ff_B (by omega) (fun k h => nomatch h)
  rw [Bool.eq_iff_iff, Bool.or_eq_true, decide_eq_true_iff, decide_eq_true_iff]
  show (o < (ffR (x, []) (x :: r)).1 ∨ o ∈ (ffR (x, []) (x :: r)).2) ↔ _
  rw [key]
  unfold fitP
  cases e : (x :: r).filter (fun y => decide (y ≤ o)) with
  | cons y t => exact decide_eq_true_iff.symm
  | nil =>
    refine Iff.trans ?_ decide_eq_true_iff.symm
    refine ⟨fun _ => ?_, fun _ => trivial⟩
    have hl : lastI (x :: r) ∈ x :: r := aI_mem (by simp)
    have : ¬ lastI (x :: r) ≤ o := fun z => by
      have : lastI (x :: r) ∈ (x :: r).filter (fun y => decide (y ≤ o)) := List.mem_filter.mpr ⟨hl, decide_eq_true z⟩
      rw [e] at this; cases this
    show min o (lastI (x :: r)) = o
    omega
theorem eOwns_nil {ds : DS} : eOwns [] ds = some ([], ds) := rfl
theorem eOwns_cons {ds ds1 ds2 : DS} {f : DS → Res Dl.S} {fs : List (DS → Res Dl.S)} {ns : List Int} {l : List (List Int)} (h : f ds = .ok (.lst (ns.map .int)) ds1) (h2 : eOwns fs ds1 = some (l, ds2)) : eOwns (f :: fs) ds = some (ns :: l, ds2) := by
  unfold eOwns
  rw [h]
  dsimp only
  rw [intsOf_map]
  dsimp only
  rw [h2]
theorem gIx_ll0 {a : List Int} {ls : List (List Int)} : gIx (llI (a :: ls)) (.int 0) = some (sL a) := by
  have e : atI ((a :: ls).map fun l => Dat.lst (l.map .int)) 0 = some (lI a) := by
    unfold atI ixN
    rw [if_pos (by omega), if_pos (by rw [List.length_map, List.length_cons]; omega)] <;> rfl
  show (match atI ((a :: ls).map fun l => Dat.lst (l.map .int)) 0 with | some d => some (Dl.S.val d) | none => none) = _
  rw [e]
theorem gIx_ll1 {a b : List Int} {ls : List (List Int)} : gIx (llI (a :: b :: ls)) (.int 1) = some (sL b) := by
  have e : atI ((a :: b :: ls).map fun l => Dat.lst (l.map .int)) 1 = some (lI b) := by
    unfold atI ixN
    rw [if_pos (by omega), if_pos (by rw [List.length_map, List.length_cons, List.length_cons]; omega)] <;> rfl
  show (match atI ((a :: b :: ls).map fun l => Dat.lst (l.map .int)) 1 with | some d => some (Dl.S.val d) | none => none) = _
  rw [e]
theorem askD_of {as : List Dat} {d0 d1 d2 d3 d3' d4 d4' d5 d5' d6 d7 d7' d8 : DS} {l3 l4 l5 l7 : List (List Int)} {s : Dl.S} (h5 : as.length = 5) (h0 : as.map (fun d => some (Dl.S.val d)) ++ List.replicate 5 none = d0) (s1 : a1 d0 = .nx d1) (s2 : a2 d1 = .nx d2) (o3 : eOwns a3 d2 = some (l3, d3)) (e3 : d3.set 7 none = d3') (o4 : eOwns a4 d3' = some (l4, d4)) (e4 : d4.set 7 none = d4')
    (o5 : eOwns a5 d4' = some (l5, d5)) (e5 : d5.set 7 none = d5') (s6 : a6 d5' = .nx d6) (o7 : eOwns a7 d6 = some (l7, d7)) (e7 : d7.set 7 none = d7') (hl : 8 ≤ d6.length ∧ 8 ≤ d2.length) (h8 : a8 d7' = .ok s d8) : askD as = some (l3 ++ l4 ++ l5 ++ l7, s.dat) := by
  unfold askD
  rw [if_pos h5, h0, s1]
  simp only [nxO, Option.bind_some]
  rw [s2]
  simp only [nxO, Option.bind_some]
  rw [o3]
  simp only [Option.bind_some]
  rw [e3, o4]
  simp only [Option.bind_some]
  rw [e4, o5]
  simp only [Option.bind_some]
  rw [e5, s6]
  simp only [nxO, Option.bind_some]
  rw [o7]
  simp only [Option.bind_some]
  rw [if_pos hl, e7, h8]
/-- what _law_asked tells, of its own -/
def outsF (w : Int) (a b : List Int) (ls : List (List Int)) (least bd : Int) : List (List Int) :=
  [rowF w a b a.length, rowF w b a b.length, rowF w a a a.length, sset (a ++ b), sset (a ++ a), (rgI 0 (w + 1).toNat).filter fun o => decide (o ≤ least) || decide (o ∈ a),
    a.filter fun o => decide (o ≤ least), padF w a bd, ffL w (ls.map lastI), ffL w ([a, b].map lastI)]
theorem askD_ok {w : Int} (h0 : 0 ≤ w) (hw : w ≤ 40) {a b : List Int} (ha : Wd w a) (hb : Wd w b) {ls : List (List Int)} (hn : ls ≠ []) (hl : ls.length ≤ 100) (hls : ∀ l ∈ ls, Wd w l) {least bd : Int} (b0 : 0 ≤ bd) :
    askD [.int w, llI [a, b], llI ls, .int least, .int bd] = some (outsF w a b ls least bd, llI ([a, b] ++ ls)) := by
  have la := ha.len h0 hw
  have lb := hb.len h0 hw
  have sab : (sset (a ++ b)).length < 64 := by
    rw [union_eq h0 ha hb]
    have := List.length_filter_le (fun o => decide (max (dnI a o) (dnI b o) = o)) (rgI 0 (w + 1).toNat)
    rw [rgI_len] at this; omega
  have saa : (sset (a ++ a)).length < 64 := by rw [union_self ha]; omega
  let D0 : DS := [some (sI w), some (sLL [a, b]), some (sLL ls), some (sI least), some (sI bd), none, none, none, none, none]
  let D1 : DS := [some (sI w), some (sLL [a, b]), some (sLL ls), some (sI least), some (sI bd), some (sL a), none, none, none, none]
  let D2 : DS := [some (sI w), some (sLL [a, b]), some (sLL ls), some (sI least), some (sI bd), some (sL a), some (sL b), none, none, none]
  let D6 : DS := [some (sI w), some (sLL [a, b]), some (sLL ls), some (sI least), some (sI bd), some (sL a), some (sL b), none, some (sLL ls), none]
  have g0 : gIx (llI [a, b]) (.int 0) = some (sL a) := gIx_ll0
  have g1 : gIx (llI [a, b]) (.int 1) = some (sL b) := gIx_ll1
  have s1 : a1 D0 = .nx D1 := sFrz_q (ds1 := [some (sI w), some (sLL [a, b]), some (sLL ls), some (sI least), some (sI bd), some (.lst (a.map .int)), none, none, none, none]) (by sizeOf_list_dec) rfl
  have s2 : a2 D1 = .nx D2 := sFrz_q (ds1 := [some (sI w), some (sLL [a, b]), some (sLL ls), some (sI least), some (sI bd), some (sL a), some (.lst (b.map .int)), none, none, none]) (by sizeOf_list_dec) rfl
  have r1 := lrow_ok h0 hw la lb
  have r2 := lrow_ok h0 hw lb la
  have r3 := lrow_ok h0 hw la la
  have u1 := union_ok (a := a) (b := b) (by omega) sab
  have u2 := union_ok (a := a) (b := a) (by omega) saa
  have f1 := frame_ok h0 hw (a := a) (least := least)
  have k1 := cap_ok (a := a) (most := least) (by omega)
  have p1 := pad_ok h0 hw (a := a) (bd := bd) (by omega) b0
  have q1 := ff_ok h0 hw (ls := ls) hn (by omega) fun l h => List.ne_nil_of_mem (hls l h).zero
  have q2 := ff_ok h0 hw (ls := [a, b]) (by simp) (by simp) fun l h => by
    rcases List.mem_cons.mp h with rfl | h
    · exact List.ne_nil_of_mem ha.zero
    · rw [List.mem_singleton.mp h]; exact List.ne_nil_of_mem hb.zero
  have o3 : eOwns a3 D2 = some ([rowF w a b a.length, rowF w b a b.length, rowF w a a a.length], D2) := eOwns_cons (by sizeOf_list_dec) (eOwns_cons (by sizeOf_list_dec) (eOwns_cons (by sizeOf_list_dec) rfl))
  have o4 : eOwns a4 D2 = some ([sset (a ++ b), sset (a ++ a), (rgI 0 (w + 1).toNat).filter fun o => decide (o ≤ least) || decide (o ∈ a)], D2) := eOwns_cons (by sizeOf_list_dec) (eOwns_cons (by sizeOf_list_dec) (eOwns_cons (by sizeOf_list_dec) rfl))
  have o5 : eOwns a5 D2 = some ([a.filter fun o => decide (o ≤ least), padF w a bd], D2) := eOwns_cons (by sizeOf_list_dec) (eOwns_cons (by sizeOf_list_dec) rfl)
  have s6 : a6 D2 = .nx D6 := by
    have := eLc_q (i := 9) (ds := D2) (ds1 := D2) (ds2 := D2) (src := wSeq (eVar 2)) (tst := tYesF) (elt := eCB gList (oCons (oVar 9) (oNil))) (xs := ls.map fun l => .lst (l.map .int)) (fun _ => true) (fun d => d)
      (wSeq_l (by sizeOf_list_dec) rfl) rfl (by rw [List.length_map]; omega) (fun d hd => by
        obtain ⟨l, _, rfl⟩ := all_lst hd
        exact ⟨[some (sI w), some (sLL [a, b]), some (sLL ls), some (sI least), some (sI bd), some (sL a), some (sL b), none, none, some (sL l)], rfl, fun _ => ⟨.lst (l.map .int), [some (sI w), some (sLL [a, b]), some (sLL ls), some (sI least), some (sI bd), some (sL a), some (sL b), none, none, some (sL l)], by sizeOf_list_dec, rfl, rfl⟩, fun z => nomatch z⟩)
    rw [List.filter_eq_self.mpr (fun _ _ => rfl), List.map_id'] at this
    exact sFrz_q (sSet_q this rfl) rfl
  have l2 : eLst (oCons (oE (eVar 5)) (oCons (oE (eVar 6)) oNil)) D6 = .ok (.lst [lI a, lI b]) D6 := by sizeOf_list_dec
  have o7 : eOwns a7 D6 = some ([ffL w (ls.map lastI), ffL w ([a, b].map lastI)], D6) :=
    eOwns_cons (by sizeOf_list_dec) (eOwns_cons (eCall_q (l := [.d (.int w), .d (llI [a, b])]) (ds1 := D6) (oCons_q (by sizeOf_list_dec) (oCons_q (oE_q l2) oNil_q)) rfl q2 rfl) rfl)
  have e8 : a8 D6 = .ok (.lst ([lI a, lI b] ++ ls.map fun l => .lst (l.map .int))) D6 := by
    refine eOp2_q (x := .d (.lst [lI a, lI b])) (a := .lst [lI a, lI b]) (y := .d (llI ls)) (b := llI ls) (oE_q l2) (by sizeOf_list_dec) rfl rfl (gAdd_l ?_)
    rw [List.length_map]; simp; omega
  exact askD_of (d0 := D0) (d1 := D1) (d2 := D2) (d3 := D2) (d3' := D2) (d4 := D2) (d4' := D2) (d5 := D2) (d5' := D2) (d6 := D6) (d7 := D6) (d7' := D6) (d8 := D6) rfl rfl s1 s2 o3 rfl o4 rfl o5 rfl s6 o7 rfl ⟨Nat.le_of_ble_eq_true rfl, Nat.le_of_ble_eq_true rfl⟩ e8
theorem round_of {ds ds1 : DS} {os : List Op} {as : List Dat} {outs : List (List Int)} {pd : Dat} (h1 : c1 (valsD ds) = .ok os ds1) (h2 : dats (valsD ds) os = some as) (h3 : askD as = some (outs, pd))
    (hb : 14 ≤ ds.length ∧ outs.length ≤ 100 ∧ (∀ ns ∈ outs, ns.length ≤ 1000) ∧ okB false (c2 (((valsD ds).set 11 (some (.val (.lst (outs.map fun ns => .lst (ns.map .int)))))).set 12 (some (.val pd)))) = true ∧ okB false (c4 ((((valsD ds).set 12 (some (.val pd))).set 11 none).set 13 none)) = true) :
    sRound ds = .nx (((ds.set 11 none).set 12 none).set 13 none) := by
  unfold sRound
  rw [h1]
  dsimp only
  rw [h2]
  dsimp only
  rw [h3]
  dsimp only
  rw [if_pos hb]
theorem comp14 {D D1 : DS} {z : Dl.S} {tst : DS → Res Bool} {p : Int → Bool} (R : List Int) (h8 : D[8]? = some (some z)) (hz : z.dat = lI R) (h1 : D.set 8 (some (.val z.dat)) = D1) (h14 : D1.set 14 none = D1) (hl : 14 < D1.length) (hR : R.length ≤ 1000)
    (hx : ∀ x ∈ R, tst (D1.set 14 (some (sI x))) = .ok (p x) (D1.set 14 (some (sI x)))) : eLc [14] (wSeq (eVar 8)) (gjName 14) tst (eVar 14) D = .ok (.lst ((R.filter p).map .int)) D1 := by
  have := eLc_q (i := 14) (ds := D) (ds1 := D1) (ds2 := D1) (src := wSeq (eVar 8)) (tst := tst) (elt := eVar 14) (xs := R.map .int) (fun d => match d with | .int x => p x | _ => false) (fun d => d)
    (wSeq_l (eVar_q h8 h1) hz) h14 (by rw [List.length_map]; omega) (fun d hd => by
      obtain ⟨x, hxR, rfl⟩ := all_int hd
      refine ⟨D1.set 14 (some (sI x)), hx x hxR, fun _ => ⟨sI x, D1.set 14 (some (sI x)), eVar_q (List.getElem?_set_self hl) (by rw [List.set_set]), rfl, by rw [List.set_set]; exact h14⟩, fun _ => by rw [List.set_set]; exact h14⟩)
  rw [List.map_id', filter_ints] at this
  exact this
/-- what is due -/
def dueF (w : Int) (a b : List Int) (ls : List (List Int)) (least bd : Int) : List (List Int) :=
  [rowL w a b, rowL w b a, rowL w a a, (rgI 0 (w + 1).toNat).filter fun o => decide (max (dnI a o) (dnI b o) = o), a, (rgI 0 (w + 1).toNat).filter fun o => decide (max (dnI a o) (min o least) = o),
    (rgI 0 (w + 1).toNat).filter fun o => decide (dnI a (min o least) = o), padL w a bd, fitL w (ls.map fun l => dnI l w), fitL w ([a, b].map fun l => dnI l w)]
theorem outs_due {w : Int} (h0 : 0 ≤ w) {a b : List Int} (ha : Wd w a) (hb : Wd w b) {ls : List (List Int)} (hn : ls ≠ []) (hls : ∀ l ∈ ls, Wd w l) {least bd : Int} (l0 : 0 ≤ least) (b0 : 0 ≤ bd) : outsF w a b ls least bd = dueF w a b ls least bd := by
  have e1 : ls.map lastI = ls.map fun l => dnI l w := List.map_congr_left fun l h => (hls l h).last h0
  have e2 : [a, b].map lastI = [a, b].map fun l => dnI l w := by
    show [lastI a, lastI b] = [dnI a w, dnI b w]
    rw [ha.last h0, hb.last h0]
  unfold outsF dueF
  rw [row_eq h0 ha hb, row_eq h0 hb ha, row_eq h0 ha ha, union_eq h0 ha hb, union_self ha, frame_eq h0 ha, cap_eq h0 ha l0, pad_eq h0 ha b0, ff_eq (fun z => hn (List.map_eq_nil_iff.mp z)), ff_eq (w := w) (g := [a, b].map lastI) (by simp), e1, e2]
theorem due_len {w : Int} (h0 : 0 ≤ w) (hw : w ≤ 40) {a b : List Int} (ha : Wd w a) {ls : List (List Int)} {least bd : Int} : ∀ l ∈ dueF w a b ls least bd, l.length ≤ 1000 := by
  have hR : ∀ p : Int → Bool, ((rgI 0 (w + 1).toNat).filter p).length ≤ 1000 := fun p => by
    have := List.length_filter_le p (rgI 0 (w + 1).toNat)
    rw [rgI_len] at this; omega
  have la := ha.len h0 hw
  intro l hl
  unfold dueF at hl
  simp only [List.mem_cons, List.not_mem_nil, or_false] at hl
  rcases hl with rfl | rfl | rfl | rfl | rfl | rfl | rfl | rfl | rfl | rfl
  · exact hR _
  · exact hR _
  · exact hR _
  · exact hR _
  · omega
  · exact hR _
  · exact hR _
  · exact hR _
  · exact hR _
  · exact hR _
theorem round_ok {w : Int} (h0 : 0 ≤ w) (hw : w ≤ 40) {a b : List Int} (ha : Wd w a) (hb : Wd w b) {ls : List (List Int)} (hn : ls ≠ []) (hl : ls.length ≤ 100) (hls : ∀ l ∈ ls, Wd w l) {least bd : Int} (l0 : 0 ≤ least) (b0 : 0 ≤ bd) {scr k : Dat} {s z8 z9 : Dl.S} (hs : IsSt s) :
    sRound [some (.val scr), some s, some (sI w), some (sLL [a, b]), some (.val k), some (sLL ls), some (sI least), some (sI bd), some (.val z8.dat), some (.val z9.dat), some (sLL (dueF w a b ls least bd)), none, none, none, none] =
      .nx [some (.val scr), some s, some (sI w), some (sLL [a, b]), some (.val k), some (sLL ls), some (sI least), some (sI bd), some (.val z8.dat), some (.val z9.dat), some (sLL (dueF w a b ls least bd)), none, none, none, none] := by
  obtain ⟨ks, xs, rfl⟩ := hs.dk
  let due := dueF w a b ls least bd
  have hask := askD_ok h0 hw ha hb hn hl hls (least := least) b0
  rw [outs_due h0 ha hb hn hls l0 b0] at hask
  have la := ha.len h0 hw
  have lb := hb.len h0 hw
  have q1 := eq_lists (n := 1) (ls := due) (show 10 ≤ 1000 by decide) (due_len h0 hw ha)
  have q2 := eq_lists (n := 1) (ls := [a, b] ++ ls) (by simp; omega) (fun l hm => by
    rcases List.mem_append.mp hm with h | h
    · rcases List.mem_cons.mp h with rfl | h
      · omega
      · rw [List.mem_singleton.mp h]; omega
    · have := (hls l h).len h0 hw; omega)
  let E1 : DS := [some (.val scr), none, some (sI w), some (sLL [a, b]), some (.val k), some (sLL ls), some (sI least), some (sI bd), some (.val z8.dat), some (.val z9.dat), some (sLL due), some (sLL due), some (sLL ([a, b] ++ ls)), none, none]
  let E2 : DS := [some (.val scr), none, some (sI w), some (sLL [a, b]), some (.val k), some (sLL ls), some (sI least), some (sI bd), some (.val z8.dat), some (.val z9.dat), some (sLL due), none, some (sLL ([a, b] ++ ls)), none, none]
  have add : gAdd (llI [a, b]) (llI ls) = some (.lst (([a, b] ++ ls).map fun l => .lst (l.map .int))) := by
    rw [gAdd_l (by rw [List.length_map, List.length_map]; simp; omega), ← List.map_append]
  have t2 : ∀ E : DS, E[12]? = some (some (sLL ([a, b] ++ ls))) → E[3]? = some (some (sLL [a, b])) → E[5]? = some (some (sLL ls)) → (tNotF (tTru (oE (eCall (m__law_equal 4) (oCons (oVar 12) (oCons (oE (eOp2 gAdd (oVar 3) (oVar 5))) (oNil))))))) E = .ok false E := fun E e1 e2 e3 => by
    refine tNotF_q (c := true) (tTru_q (x := .d (.bl true)) (oE_q (s := .val (.bl true)) (eCall_q (l := [.d (llI ([a, b] ++ ls)), .d (llI ([a, b] ++ ls))]) (ds1 := E) (oCons_q (oVar_q e1) (oCons_q (oE_q (s := .lst (([a, b] ++ ls).map fun l => .lst (l.map .int))) (eOp2_q (oVar_q e2) (oVar_q e3) rfl rfl add)) oNil_q)) rfl q2 rfl)) rfl)
  have hc2 : c2 E1 = .ok false E1 := by
    refine tOrF_b (c := false) (e := false) ?_ (t2 E1 rfl rfl rfl)
    exact tNotF_q (c := true) (tTru_q (x := .d (.bl true)) (oE_q (s := .val (.bl true)) (eCall_q (l := [.d (llI due), .d (llI due)]) (ds1 := E1) (oCons_q (oVar_q rfl) (oCons_q (oVar_q rfl) oNil_q)) rfl q1 rfl)) rfl)
  have hc4 : c4 E2 = .ok false E2 := t2 E2 rfl rfl rfl
  refine round_of (os := [.d (.int w), .d (llI [a, b]), .d (llI ls), .d (.int least), .d (.int bd)]) (ds1 := [some (.val scr), none, some (sI w), some (sLL [a, b]), some (.val k), some (sLL ls), some (sI least), some (sI bd), some (.val z8.dat), some (.val z9.dat), some (sLL due), none, none, none, none]) ?_ rfl hask ⟨Nat.le_of_ble_eq_true rfl, Nat.le_of_ble_eq_true rfl, due_len h0 hw ha, ?_, ?_⟩
  · exact oCons_q (oVar_q rfl) (oCons_q (oVar_q rfl) (oCons_q (oVar_q rfl) (oCons_q (oVar_q rfl) (oCons_q (oVar_q rfl) oNil_q))))
  · show okB false (c2 E1) = true
    rw [hc2] <;> rfl
  · show okB false (c4 E2) = true
    rw [hc4] <;> rfl
theorem several_ok {scr : Dat} {s : Dl.S} (hs : IsSt s) {w : Int} (h0 : 0 ≤ w) (hw : w ≤ 40) {a b : List Int} : ∃ ls s', eLc [4] (wRng1 (oCons (oE (eCall m__law_range (oCons (oVar 1) (oCons (oE (eC (.int 1))) (oCons (oE (eC (.int 6))) (oNil)))))) (oNil))) (gjName 4) (tYesF) (eCall m__law_set (oCons (oVar 1) (oCons (oVar 2) (oNil))))
      [some (.val scr), some s, some (sI w), some (sLL [a, b]), none, none, none, none, none, none, none, none, none, none, none] = .ok (.lst (ls.map fun l => .lst (l.map .int))) [some (.val scr), some s', some (sI w), some (sLL [a, b]), none, none, none, none, none, none, none, none, none, none, none] ∧
    IsSt s' ∧ ls ≠ [] ∧ ls.length ≤ 10 ∧ ∀ l ∈ ls, Wd w l := by
  obtain ⟨r, s1, h1, h2, h3, h4⟩ := range_ok hs (low := 1) (high := 6) (by decide) (by decide)
  let I : List Dat → List Dat → DS → Prop := fun p acc ds => ∃ (s : Dl.S) (ls : List (List Int)), ds = [some (.val scr), some s, some (sI w), some (sLL [a, b]), none, none, none, none, none, none, none, none, none, none, none] ∧ IsSt s ∧ acc = (ls.map fun l => .lst (l.map .int)) ∧ ls.length = p.length ∧ ∀ l ∈ ls, Wd w l
  have src : wRng1 (oCons (oE (eCall m__law_range (oCons (oVar 1) (oCons (oE (eC (.int 1))) (oCons (oE (eC (.int 6))) (oNil)))))) (oNil)) [some (.val scr), some s, some (sI w), some (sLL [a, b]), none, none, none, none, none, none, none, none, none, none, none] = .ok (rng 0 r.toNat) [some (.val scr), some s1, some (sI w), some (sLL [a, b]), none, none, none, none, none, none, none, none, none, none, none] :=
    wRng1_q (j := r) (by sizeOf_list_dec) rfl (by omega)
  obtain ⟨acc, ds', f1, f2⟩ := eLc_inv (own := [4]) (asg := gjName 4) (tst := tYesF) (elt := eCall m__law_set (oCons (oVar 1) (oCons (oVar 2) (oNil)))) I src ⟨s1, [], rfl, h2, rfl, rfl, fun l h => nomatch h⟩ (by rw [rng_map, List.length_map, rgI_len]; omega)
    (fun p d acc ds ⟨s, ls, e, i1, i2, i3, i4⟩ ⟨q, hq⟩ => by
      subst e
      subst i2
      obtain ⟨_, rfl, hlt⟩ := rg_front hq
      obtain ⟨l, s', t1, t2, t3⟩ := set_ok i1 h0 hw
      refine ⟨[some (.val scr), some s, some (sI w), some (sLL [a, b]), some (sI p.length), none, none, none, none, none, none, none, none, none, none], true, _, rfl, rfl, fun _ => ⟨.lst (l.map .int), [some (.val scr), some s', some (sI w), some (sLL [a, b]), some (sI p.length), none, none, none, none, none, none, none, none, none, none], by sizeOf_list_dec, s', ls ++ [l], rfl, t2, ?_, by simp [i3], ?_⟩, fun z => nomatch z⟩
      · rw [List.map_append] <;> rfl
      · intro x hx
        rcases List.mem_append.mp hx with hx | hx
        · exact i4 x hx
        · rw [List.mem_singleton.mp hx]; exact t3)
  obtain ⟨s', ls, rfl, i1, rfl, i3, i4⟩ := f2
  have hl : ls.length = r.toNat := by rw [i3, rng_map, List.length_map, rgI_len]
  exact ⟨ls, s', f1, i1, fun z => by rw [z] at hl; simp at hl; omega, by omega, i4⟩
theorem law_true (ns : List Int) (h : ns.length ≤ 63) : ∃ as, m_law [.val (.scr ns)] = .ret (.val (.bl true)) as := by
  obtain ⟨s0, e0, i0⟩ := store_ok ns 68
  let scr : Dat := .scr ns
  -- width
  obtain ⟨dw, s1, e1, i1, mw⟩ := pick_ok i0 (xs := [.int 8, .int 5, .int 9, .int 12, .int 40, .int 3, .int 1, .int 0]) (by simp) (by simp)
  obtain ⟨w, hw, rfl⟩ := all_int (l := [8, 5, 9, 12, 40, 3, 1, 0]) mw
  have hw0 : 0 ≤ w ∧ w ≤ 40 := by
    simp only [List.mem_cons, List.not_mem_nil, or_false] at hw
    omega
  clear mw hw
  obtain ⟨h0, hw⟩ := hw0
  -- sets, several
  obtain ⟨a, s2, e2, i2, ha⟩ := set_ok i1 h0 hw
  obtain ⟨b, s3, e3, i3, hb⟩ := set_ok i2 h0 hw
  obtain ⟨ls0, s4, e4, i4, hn0, hl0, hls0⟩ := several_ok (scr := scr) (a := a) (b := b) i3 h0 hw
  obtain ⟨c, s5, e5, i5⟩ := chance_ok i4 (many := 4) (by decide)
  have g0 : gIx (llI [a, b]) (.int 0) = some (sL a) := gIx_ll0
  have g1 : gIx (llI [a, b]) (.int 1) = some (sL b) := gIx_ll1
  let N : Option Dl.S := none
  have several : ∃ ls : List (List Int), ls ≠ [] ∧ ls.length ≤ 100 ∧ (∀ l ∈ ls, Wd w l) ∧ (sFrz 5 (sIf (tTru (oE (eCall m__law_chance (oCons (oVar 1) (oCons (oE (eC (.int 4))) (oNil)))))) (
      sSet 5 (eOp2 gAdd (oVar 5) (oE (eLst (oCons (oE (eOp2 gIx (oVar 3) (oE (eC (.int 0))))) (oCons (oE (eOp2 gIx (oVar 3) (oE (eC (.int 0))))) (oNil))))))) (
      sNext))) [some (.val scr), some s4, some (sI w), some (sLL [a, b]), none, some (sLL ls0), none, none, none, none, none, none, none, none, none] = .nx [some (.val scr), some s5, some (sI w), some (sLL [a, b]), none, some (sLL ls), none, none, none, none, none, none, none, none, none] := by
    cases c with
    | true =>
      refine ⟨ls0 ++ [a, a], by simp, by rw [List.length_append]; simp; omega, fun l hl => ?_, ?_⟩
      · rcases List.mem_append.mp hl with hl | hl
        · exact hls0 l hl
        · simp only [List.mem_cons, List.not_mem_nil, or_false, or_self] at hl
          rw [hl]; exact ha
      · have add : gAdd (llI ls0) (.lst [lI a, lI a]) = some (.lst ((ls0 ++ [a, a]).map fun l => .lst (l.map .int))) := by
          rw [gAdd_l (by rw [List.length_map]; simp; omega), List.map_append] <;> rfl
        refine sFrz_q (ds1 := [some (.val scr), some s5, some (sI w), some (sLL [a, b]), none, some (.lst ((ls0 ++ [a, a]).map fun l => .lst (l.map .int))), none, none, none, none, none, none, none, none, none]) (sIf_t (c := true) (by sizeOf_list_dec) rfl ?_) rfl
        sizeOf_list_dec
    | false =>
      refine ⟨ls0, hn0, by omega, hls0, ?_⟩
      refine sFrz_q (ds1 := [some (.val scr), some s5, some (sI w), some (sLL [a, b]), none, some (sLL ls0), none, none, none, none, none, none, none, none, none]) (sIf_f (c := false) (by sizeOf_list_dec) rfl (by sizeOf_list_dec)) rfl
  obtain ⟨ls, hn, hl, hls, e6⟩ := several
  -- least, border
  obtain ⟨r7, s7, e7, i7, r70, _⟩ := take_ok i5 (many := w + 3) (by omega)
  obtain ⟨d8, s8, e8, i8, m8⟩ := pick_ok i7 (xs := [.int r7, .int w, .int 0, .int 999]) (by simp) (by simp)
  obtain ⟨least, hm8, rfl⟩ := all_int (l := [r7, w, 0, 999]) m8
  have l0 : 0 ≤ least := by
    simp only [List.mem_cons, List.not_mem_nil, or_false] at hm8
    omega
  obtain ⟨r9, s9, e9, i9, r90, _⟩ := take_ok i8 (many := w.fdiv 2 + 2) (by
    have : w.fdiv 2 = w / 2 := Int.fdiv_eq_ediv_of_nonneg _ (by omega)
    omega)
  obtain ⟨r10, s10, e10, i10, r100, _⟩ := take_ok i9 (many := 21) (by decide)
  obtain ⟨d11, s11, e11, i11, m11⟩ := pick_ok i10 (xs := [.int r9, .int r10, .int 0]) (by simp) (by simp)
  obtain ⟨bd0, hm11, rfl⟩ := all_int (l := [r9, r10, 0]) m11
  have b00 : 0 ≤ bd0 := by
    simp only [List.mem_cons, List.not_mem_nil, or_false] at hm11
    omega
  let bd := min bd0 20
  have b0 : 0 ≤ bd := by omega
  let R := rgI 0 (w + 1).toNat
  have hR : R.length ≤ 1000 := by rw [show R.length = (w + 1).toNat from rgI_len _ _]; omega
  have la := ha.len h0 hw
  have lb := hb.len h0 hw
  -- both
  let D9 : DS := [some (.val scr), some s11, some (sI w), some (sLL [a, b]), none, some (sLL ls), some (sI least), some (sI bd), some (.lst (R.map .int)), none, none, none, none, none, none]
  let D9' : DS := [some (.val scr), some s11, some (sI w), some (sLL [a, b]), none, some (sLL ls), some (sI least), some (sI bd), some (sL R), none, none, none, none, none, none]
  let both := R.filter fun o => decide (max (dnI a o) (dnI b o) = o)
  have x9 : eLc [14] (wSeq (eVar 8)) (gjName 14) (tVal (eOp2 (gEq) (oE (eCB gMax (oCons (oE (eCall m__law_down (oCons (oE (eOp2 gIx (oVar 3) (oE (eC (.int 0))))) (oCons (oVar 14) (oNil))))) (oCons (oE (eCall m__law_down (oCons (oE (eOp2 gIx (oVar 3) (oE (eC (.int 1))))) (oCons (oVar 14) (oNil))))) (oNil))))) (oVar 14))) (eVar 14) D9 = .ok (.lst (both.map .int)) D9' :=
    comp14 R rfl rfl rfl rfl (Nat.lt_of_lt_of_le (Nat.lt_succ_self 14) (Nat.le_of_ble_eq_true rfl)) hR fun x hx => by
      have hz := (mem_rg h0).mp hx
      have d1 := down_ok ha.zero hz.1 (show a.length ≤ 1000 by omega)
      have d2 := down_ok hb.zero hz.1 (show b.length ≤ 1000 by omega)
      show tVal _ [some (.val scr), some s11, some (sI w), some (sLL [a, b]), none, some (sLL ls), some (sI least), some (sI bd), some (sL R), none, none, none, none, none, some (sI x)] = _
      sizeOf_list_dec
  -- due
  have r1 := row_ok h0 hw ha hb
  have r2 := row_ok h0 hw hb ha
  have r3 := row_ok h0 hw ha ha
  let fr := R.filter fun o => decide (max (dnI a o) (min o least) = o)
  let cp := R.filter fun o => decide (dnI a (min o least) = o)
  let DU (x : Dl.S) : DS := [some (.val scr), some s11, some (sI w), some (sLL [a, b]), none, some (sLL ls), some (sI least), some (sI bd), some (sL R), some (sL both), some x, none, none, none, none]
  have x12 : eLc [14] (wSeq (eVar 8)) (gjName 14) (tVal (eOp2 (gEq) (oE (eCB gMax (oCons (oE (eCall m__law_down (oCons (oE (eOp2 gIx (oVar 3) (oE (eC (.int 0))))) (oCons (oVar 14) (oNil))))) (oCons (oE (eCB gMin (oCons (oVar 14) (oCons (oVar 6) (oNil))))) (oNil))))) (oVar 14))) (eVar 14) (DU (.lst [lI (rowL w a b), lI (rowL w b a), lI (rowL w a a), lI both, lI a])) = .ok (.lst (fr.map .int)) (DU (.lst [lI (rowL w a b), lI (rowL w b a), lI (rowL w a a), lI both, lI a])) :=
    comp14 R rfl rfl rfl rfl (Nat.lt_of_lt_of_le (Nat.lt_succ_self 14) (Nat.le_of_ble_eq_true rfl)) hR fun x hx => by
      have hz := (mem_rg h0).mp hx
      have d1 := down_ok ha.zero hz.1 (show a.length ≤ 1000 by omega)
      show tVal _ [some (.val scr), some s11, some (sI w), some (sLL [a, b]), none, some (sLL ls), some (sI least), some (sI bd), some (sL R), some (sL both), some (.lst [lI (rowL w a b), lI (rowL w b a), lI (rowL w a a), lI both, lI a]), none, none, none, some (sI x)] = _
      sizeOf_list_dec
  have x13 : eLc [14] (wSeq (eVar 8)) (gjName 14) (tVal (eOp2 (gEq) (oE (eCall m__law_down (oCons (oE (eOp2 gIx (oVar 3) (oE (eC (.int 0))))) (oCons (oE (eCB gMin (oCons (oVar 14) (oCons (oVar 6) (oNil))))) (oNil))))) (oVar 14))) (eVar 14) (DU (.lst [lI (rowL w a b), lI (rowL w b a), lI (rowL w a a), lI both, lI a, lI fr])) = .ok (.lst (cp.map .int)) (DU (.lst [lI (rowL w a b), lI (rowL w b a), lI (rowL w a a), lI both, lI a, lI fr])) :=
    comp14 R rfl rfl rfl rfl (Nat.lt_of_lt_of_le (Nat.lt_succ_self 14) (Nat.le_of_ble_eq_true rfl)) hR fun x hx => by
      have hz := (mem_rg h0).mp hx
      have d1 := down_ok (m := min x least) ha.zero (by omega) (show a.length ≤ 1000 by omega)
      show tVal _ [some (.val scr), some s11, some (sI w), some (sLL [a, b]), none, some (sLL ls), some (sI least), some (sI bd), some (sL R), some (sL both), some (.lst [lI (rowL w a b), lI (rowL w b a), lI (rowL w a a), lI both, lI a, lI fr]), none, none, none, some (sI x)] = _
      sizeOf_list_dec
  have p1 := lpad_ok h0 hw ha b0
  have q1 := fits_ok h0 hw (ls := ls) hn (by omega) hls
  have q2 := fits_ok h0 hw (ls := [a, b]) (by simp) (by simp) (fun l h => by
    rcases List.mem_cons.mp h with rfl | h
    · exact ha
    · rw [List.mem_singleton.mp h]; exact hb)
  let due := dueF w a b ls least bd
  let DE (k : Option Dl.S) : DS := [some (.val scr), some s11, some (sI w), some (sLL [a, b]), k, some (sLL ls), some (sI least), some (sI bd), some (sL R), some (sL both), some (sLL due), none, none, none, none]
  have rnd : ∀ k : Dat, sRound (DE (some (.val k))) = .nx (DE (some (.val k))) := fun k => round_ok (z8 := .lst (R.map .int)) (z9 := .lst (both.map .int)) h0 hw ha hb hn hl hls l0 b0 i11
  refine ⟨[.val scr], runB_rt rfl (ds := DE (some (sI 1))) ?_ rfl⟩
  refine sSeq_q (ds1 := [some (.val scr), some s0, none, none, none, none, none, none, none, none, none, none, none, none, none]) (by sizeOf_list_dec) ?_
  refine sSeq_q (ds1 := [some (.val scr), some s1, some (sI w), none, none, none, none, none, none, none, none, none, none, none, none]) (by sizeOf_list_dec) ?_
  refine sSeq_q (ds1 := [some (.val scr), some s3, some (sI w), some (sLL [a, b]), none, none, none, none, none, none, none, none, none, none, none]) (sFrz_q (ds1 := [some (.val scr), some s3, some (sI w), some (.lst [lI a, lI b]), none, none, none, none, none, none, none, none, none, none, none]) (by sizeOf_list_dec) rfl) ?_
  refine sSeq_q (ds1 := [some (.val scr), some s4, some (sI w), some (sLL [a, b]), none, some (sLL ls0), none, none, none, none, none, none, none, none, none]) (sFrz_q (sSet_q e4 rfl) rfl) ?_
  refine sSeq_q e6 ?_
  refine sSeq_q (ds1 := [some (.val scr), some s8, some (sI w), some (sLL [a, b]), none, some (sLL ls), some (sI least), none, none, none, none, none, none, none, none]) (by sizeOf_list_dec) ?_
  refine sSeq_q (ds1 := [some (.val scr), some s11, some (sI w), some (sLL [a, b]), none, some (sLL ls), some (sI least), some (sI bd0), none, none, none, none, none, none, none]) (by sizeOf_list_dec) ?_
  refine sSeq_q (ds1 := [some (.val scr), some s11, some (sI w), some (sLL [a, b]), none, some (sLL ls), some (sI least), some (sI bd), none, none, none, none, none, none, none]) (by sizeOf_list_dec) ?_
  refine sSeq_q (ds1 := D9) (sSet_q (s := .lst (R.map .int)) (ds1 := [some (.val scr), some s11, some (sI w), some (sLL [a, b]), none, some (sLL ls), some (sI least), some (sI bd), none, none, none, none, none, none, none]) (by rw [← rng_map]; exact eListR1_q (by sizeOf_list_dec) (by omega)) rfl) ?_
  refine sSeq_q (sSet_q x9 rfl) ?_
  refine sSeq_q (ds1 := [some (.val scr), some s11, some (sI w), some (sLL [a, b]), none, some (sLL ls), some (sI least), some (sI bd), some (sL R), some (.lst (both.map .int)), some (.lst [lI (rowL w a b), lI (rowL w b a), lI (rowL w a a)]), none, none, none, none]) (by sizeOf_list_dec) ?_
  refine sSeq_q (ds1 := DU (.lst [lI (rowL w a b), lI (rowL w b a), lI (rowL w a a), lI both, lI a])) (by sizeOf_list_dec) ?_
  refine sSeq_q (ds1 := DU (.lst [lI (rowL w a b), lI (rowL w b a), lI (rowL w a a), lI both, lI a, lI fr])) (sAppend_q rfl x12 rfl (by simp) rfl) ?_
  refine sSeq_q (ds1 := DU (.lst [lI (rowL w a b), lI (rowL w b a), lI (rowL w a a), lI both, lI a, lI fr, lI cp])) (sAppend_q rfl x13 rfl (by simp) rfl) ?_
  refine sSeq_q (ds1 := DE none) (sFrz_q (ds1 := DU (.lst (due.map fun l => .lst (l.map .int)))) (by sizeOf_list_dec) rfl) ?_
  refine sSeq_q (ds1 := DE (some (sI 1))) (sFor_q (xs := rng 0 2) (wRng1_q (j := 2) (by sizeOf_list_dec) rfl (by decide)) (forD_nx (ds1 := DE (some (sI 0))) rfl (.inl (rnd _)) (forD_nx (ds1 := DE (some (sI 1))) rfl (.inl (rnd _)) rfl))) ?_
  sizeOf_list_dec
end La
namespace La
open PySem PySem.Spec
open PyProof.Rows L2 Dl
structure Tops (K : PySem.W.Frag) (mg : Str → Option Value) : Prop where
  t_row_widths : TopF K mg "row_widths" "row_widths" s_row_widths
  t_union_widths : TopF K mg "union_widths" "union_widths" s_union_widths
  t_frame_widths : TopF K mg "frame_widths" "frame_widths" s_frame_widths
  t_cap_widths : TopF K mg "cap_widths" "cap_widths" s_cap_widths
  t_pad_widths : TopF K mg "pad_widths" "pad_widths" s_pad_widths
  t_first_fit_widths : TopF K mg "first_fit_widths" "first_fit_widths" s_first_fit_widths
  t__law_mix : TopF K mg "_law_mix" "_law_mix" s__law_mix
  t__law_store : TopF K mg "_law_store" "_law_store" s__law_store
  t__law_take : TopF K mg "_law_take" "_law_take" s__law_take
  t__law_chance : TopF K mg "_law_chance" "_law_chance" s__law_chance
  t__law_pick : TopF K mg "_law_pick" "_law_pick" s__law_pick
  t__law_range : TopF K mg "_law_range" "_law_range" s__law_range
  t__law_widths : TopF K mg "_law_widths" "_law_widths" s__law_widths
  t__law_equal : TopF K mg "_law_equal" "_law_equal" s__law_equal
  t__law_down : TopF K mg "_law_down" "_law_down" s__law_down
  t__law_row : TopF K mg "_law_row" "_law_row" s__law_row
  t__law_pad : TopF K mg "_law_pad" "_law_pad" s__law_pad
  t__law_fits : TopF K mg "_law_fits" "_law_fits" s__law_fits
  t__law_set : TopF K mg "_law_set" "_law_set" s__law_set
  t__law_asked : TopF K mg "_law_asked" "_law_asked" s__law_asked
  t_law : TopF K mg "law" "law" s_law
section
variable {P : Program} {w : World} {K : PySem.W.Frag} {mg : Str → Option Value} {base : Heap}
theorem defOk0 {G : Gd} {x qual : Str} {st : Stmt} {ps : List Str} (t : TopF K mg x qual st) (hbind : ∀ (kV doc pm : Value) (an : Option Addr) (cdv ct : Value) (us : List Value), us.length = ps.length → bindArgs (PySem.W.fnOf x qual (defArgs st) (defBody st) (defScope st) .none kV doc pm an cdv ct) ⟨us, []⟩ = pure (ps.zip us)) : DefOk P w K mg base G x ps 0 (fun _ => .stuck) := by
  obtain ⟨f, fd, h1, h2⟩ := t.ex
  exact ⟨f, fd, ⟨fun vs H Q E h => h.elim fun F h => h.elim fun tl h => h.2.2.elim, fun A outer s H args us vs Q E _ _ _ _ h => h.elim fun F h => h.elim fun tl h => h.2.2.elim⟩, h1, h2.kp, h2.binds hbind⟩
theorem chain {f : Addr} {fd : FuncData} (F : Fun K "law" "law" s_law f fd) (T : Tops K mg) (Z : Bz mg) : FnOk P w K mg base (L2.CX P w) 6 f fd ["script"] (spD ⟨K, fun _ => 0, fun _ => 0⟩ m_law) := by
  let cl : Nat → Addr := fun _ => 0
  let xc : Nat → Addr := fun _ => 0
  have d_row_widths := D_row_widths (P := P) (w := w) (base := base) (cl := cl) (xc := xc) T.t_row_widths Z 
  have d_union_widths := D_union_widths (P := P) (w := w) (base := base) (cl := cl) (xc := xc) T.t_union_widths Z 
  have d_frame_widths := D_frame_widths (P := P) (w := w) (base := base) (cl := cl) (xc := xc) T.t_frame_widths Z 
  have d_cap_widths := D_cap_widths (P := P) (w := w) (base := base) (cl := cl) (xc := xc) T.t_cap_widths 
  have d_pad_widths := D_pad_widths (P := P) (w := w) (base := base) (cl := cl) (xc := xc) T.t_pad_widths Z 
  have d_first_fit_widths := D_first_fit_widths (P := P) (w := w) (base := base) (cl := cl) (xc := xc) T.t_first_fit_widths Z 
  have d__law_mix := D__law_mix (P := P) (w := w) (base := base) (cl := cl) (xc := xc) T.t__law_mix Z 
  have d__law_store := D__law_store (P := P) (w := w) (base := base) (cl := cl) (xc := xc) T.t__law_store Z d__law_mix
  have d__law_take := D__law_take (P := P) (w := w) (base := base) (cl := cl) (xc := xc) T.t__law_take Z d__law_mix
  have d__law_chance := D__law_chance (P := P) (w := w) (base := base) (cl := cl) (xc := xc) T.t__law_chance d__law_take
  have d__law_pick := D__law_pick (P := P) (w := w) (base := base) (cl := cl) (xc := xc) T.t__law_pick Z d__law_take
  have d__law_range := D__law_range (P := P) (w := w) (base := base) (cl := cl) (xc := xc) T.t__law_range Z d__law_take
  have d__law_widths := D__law_widths (P := P) (w := w) (base := base) (cl := cl) (xc := xc) T.t__law_widths Z d__law_range d__law_take
  have z0 : DefOk P w K mg base ⟨K, cl, xc⟩ "_law_equal" ["actual", "due"] 0 (m__law_equal 0) := defOk0 T.t__law_equal (fun _ _ _ _ _ _ us hl => match us, hl with | [_, _], _ => rfl)
  have z1 : DefOk P w K mg base ⟨K, cl, xc⟩ "_law_equal" ["actual", "due"] 1 (m__law_equal 1) := D__law_equal T.t__law_equal Z (Nat.zero_le _) z0
  have z2 : DefOk P w K mg base ⟨K, cl, xc⟩ "_law_equal" ["actual", "due"] 2 (m__law_equal 2) := D__law_equal T.t__law_equal Z (Nat.zero_le _) z1
  have z3 : DefOk P w K mg base ⟨K, cl, xc⟩ "_law_equal" ["actual", "due"] 3 (m__law_equal 3) := D__law_equal T.t__law_equal Z (Nat.zero_le _) z2
  have z4 : DefOk P w K mg base ⟨K, cl, xc⟩ "_law_equal" ["actual", "due"] 4 (m__law_equal 4) := D__law_equal T.t__law_equal Z (Nat.zero_le _) z3
  have d__law_equal := z4
  have d__law_down := D__law_down (P := P) (w := w) (base := base) (cl := cl) (xc := xc) T.t__law_down Z 
  have d__law_row := D__law_row (P := P) (w := w) (base := base) (cl := cl) (xc := xc) T.t__law_row Z d__law_down
  have d__law_pad := D__law_pad (P := P) (w := w) (base := base) (cl := cl) (xc := xc) T.t__law_pad Z d__law_down
  have d__law_fits := D__law_fits (P := P) (w := w) (base := base) (cl := cl) (xc := xc) T.t__law_fits Z d__law_down
  have d__law_set := D__law_set (P := P) (w := w) (base := base) (cl := cl) (xc := xc) T.t__law_set Z d__law_take d__law_chance d__law_widths
  obtain ⟨fA, fdA, hA, hm, hk, hb⟩ := okAsked (P := P) (w := w) (base := base) (cl := cl) (xc := xc) T.t__law_asked Z d_row_widths d_union_widths d_frame_widths d_cap_widths d_pad_widths d_first_fit_widths
  exact D_law F Z d__law_store d__law_pick d__law_set d__law_range d__law_chance d__law_take d__law_down d__law_row d__law_fits d__law_pad d__law_equal hA hm hk hb
def spLaw (K : PySem.W.Frag) : Sp := fun vs H Q _ => ∃ (a : Addr) (ns : List Int), vs = [.ref a] ∧ SqL K H a (ns.map V.int) ∧ ns.length ≤ 63 ∧ ∀ H', Q (.bl true) H'
theorem law_at {f : Addr} {fd : FuncData} (h1 : FnOk P w K mg base (L2.CX P w) 6 f fd ["script"] (spD ⟨K, fun _ => 0, fun _ => 0⟩ m_law)) : FnOk P w K mg base (L2.CX P w) 6 f fd ["script"] (spLaw K) := by
  refine h1.imp fun vs H Q E h => ?_
  obtain ⟨a, ns, rfl, hs, hl, k⟩ := h
  obtain ⟨as, e⟩ := law_true ns hl
  refine ⟨H, [.val (.ref a) (.scr ns)], liv_flat rfl rfl (Same.refl _) fun t ht => ?_, rfl, ?_⟩
  · cases List.mem_singleton.mp ht
    exact ⟨_, _, rfl, a, rfl, hs⟩
  · rw [show ([T.val (V.ref a) (Dat.scr ns)].map T.er) = [Dl.S.val (.scr ns)] from rfl, e]
    intro F' H' t tl' L ht _ _
    cases t with
    | val v d =>
      cases ht
      have r : v = V.bl true := L.rep
      subst r
      exact k H'
    | _ => cases ht
end
theorem all_mk {l : PySem.W.OpenLaw} {w : World} {K : PySem.W.Frag} {h : Heap} {mg : Str → Option Value} {fa : Addr} (X : K.In h) (G : h.Ns mainGlobals mg) (hfa : mg "law" = some (.ref fa))
    {f0 : Addr} {od0 an0 : Option Addr} {sl0 : Array (Option Value)} {oc0 kV0 dc0 pm0 cd0 ct0 : Value}
    {f1 : Addr} {od1 an1 : Option Addr} {sl1 : Array (Option Value)} {oc1 kV1 dc1 pm1 cd1 ct1 : Value}
    {f2 : Addr} {od2 an2 : Option Addr} {sl2 : Array (Option Value)} {oc2 kV2 dc2 pm2 cd2 ct2 : Value}
    {f3 : Addr} {od3 an3 : Option Addr} {sl3 : Array (Option Value)} {oc3 kV3 dc3 pm3 cd3 ct3 : Value}
    {f4 : Addr} {od4 an4 : Option Addr} {sl4 : Array (Option Value)} {oc4 kV4 dc4 pm4 cd4 ct4 : Value}
    {f5 : Addr} {od5 an5 : Option Addr} {sl5 : Array (Option Value)} {oc5 kV5 dc5 pm5 cd5 ct5 : Value}
    {f6 : Addr} {od6 an6 : Option Addr} {sl6 : Array (Option Value)} {oc6 kV6 dc6 pm6 cd6 ct6 : Value}
    {f7 : Addr} {od7 an7 : Option Addr} {sl7 : Array (Option Value)} {oc7 kV7 dc7 pm7 cd7 ct7 : Value}
    {f8 : Addr} {od8 an8 : Option Addr} {sl8 : Array (Option Value)} {oc8 kV8 dc8 pm8 cd8 ct8 : Value}
    {f9 : Addr} {od9 an9 : Option Addr} {sl9 : Array (Option Value)} {oc9 kV9 dc9 pm9 cd9 ct9 : Value}
    {f10 : Addr} {od10 an10 : Option Addr} {sl10 : Array (Option Value)} {oc10 kV10 dc10 pm10 cd10 ct10 : Value}
    {f11 : Addr} {od11 an11 : Option Addr} {sl11 : Array (Option Value)} {oc11 kV11 dc11 pm11 cd11 ct11 : Value}
    {f12 : Addr} {od12 an12 : Option Addr} {sl12 : Array (Option Value)} {oc12 kV12 dc12 pm12 cd12 ct12 : Value}
    {f13 : Addr} {od13 an13 : Option Addr} {sl13 : Array (Option Value)} {oc13 kV13 dc13 pm13 cd13 ct13 : Value}
    {f14 : Addr} {od14 an14 : Option Addr} {sl14 : Array (Option Value)} {oc14 kV14 dc14 pm14 cd14 ct14 : Value}
    {f15 : Addr} {od15 an15 : Option Addr} {sl15 : Array (Option Value)} {oc15 kV15 dc15 pm15 cd15 ct15 : Value}
    {f16 : Addr} {od16 an16 : Option Addr} {sl16 : Array (Option Value)} {oc16 kV16 dc16 pm16 cd16 ct16 : Value}
    {f17 : Addr} {od17 an17 : Option Addr} {sl17 : Array (Option Value)} {oc17 kV17 dc17 pm17 cd17 ct17 : Value}
    {f18 : Addr} {od18 an18 : Option Addr} {sl18 : Array (Option Value)} {oc18 kV18 dc18 pm18 cd18 ct18 : Value}
    {f19 : Addr} {od19 an19 : Option Addr} {sl19 : Array (Option Value)} {oc19 kV19 dc19 pm19 cd19 ct19 : Value}
    {f20 : Addr} {od20 an20 : Option Addr} {sl20 : Array (Option Value)} {oc20 kV20 dc20 pm20 cd20 ct20 : Value}
    (a0 : PySem.W.nsIn K mainGlobals "row_widths" = some (some (.ref f0))) (l0 : K.lookup f0 = some ⟨oc0, od0, .func (PySem.W.fnOf "row_widths" "row_widths" (defArgs s_row_widths) (defBody s_row_widths) (defScope s_row_widths) .none kV0 dc0 pm0 an0 cd0 ct0), sl0⟩) (c0 : PySem.W.codeIn K cd0 "row_widths" = true) (k0 : PySem.W.keepIn K (.ref f0) = true)
    (a1 : PySem.W.nsIn K mainGlobals "union_widths" = some (some (.ref f1))) (l1 : K.lookup f1 = some ⟨oc1, od1, .func (PySem.W.fnOf "union_widths" "union_widths" (defArgs s_union_widths) (defBody s_union_widths) (defScope s_union_widths) .none kV1 dc1 pm1 an1 cd1 ct1), sl1⟩) (c1 : PySem.W.codeIn K cd1 "union_widths" = true) (k1 : PySem.W.keepIn K (.ref f1) = true)
    (a2 : PySem.W.nsIn K mainGlobals "frame_widths" = some (some (.ref f2))) (l2 : K.lookup f2 = some ⟨oc2, od2, .func (PySem.W.fnOf "frame_widths" "frame_widths" (defArgs s_frame_widths) (defBody s_frame_widths) (defScope s_frame_widths) .none kV2 dc2 pm2 an2 cd2 ct2), sl2⟩) (c2 : PySem.W.codeIn K cd2 "frame_widths" = true) (k2 : PySem.W.keepIn K (.ref f2) = true)
    (a3 : PySem.W.nsIn K mainGlobals "cap_widths" = some (some (.ref f3))) (l3 : K.lookup f3 = some ⟨oc3, od3, .func (PySem.W.fnOf "cap_widths" "cap_widths" (defArgs s_cap_widths) (defBody s_cap_widths) (defScope s_cap_widths) .none kV3 dc3 pm3 an3 cd3 ct3), sl3⟩) (c3 : PySem.W.codeIn K cd3 "cap_widths" = true) (k3 : PySem.W.keepIn K (.ref f3) = true)
    (a4 : PySem.W.nsIn K mainGlobals "pad_widths" = some (some (.ref f4))) (l4 : K.lookup f4 = some ⟨oc4, od4, .func (PySem.W.fnOf "pad_widths" "pad_widths" (defArgs s_pad_widths) (defBody s_pad_widths) (defScope s_pad_widths) .none kV4 dc4 pm4 an4 cd4 ct4), sl4⟩) (c4 : PySem.W.codeIn K cd4 "pad_widths" = true) (k4 : PySem.W.keepIn K (.ref f4) = true)
    (a5 : PySem.W.nsIn K mainGlobals "first_fit_widths" = some (some (.ref f5))) (l5 : K.lookup f5 = some ⟨oc5, od5, .func (PySem.W.fnOf "first_fit_widths" "first_fit_widths" (defArgs s_first_fit_widths) (defBody s_first_fit_widths) (defScope s_first_fit_widths) .none kV5 dc5 pm5 an5 cd5 ct5), sl5⟩) (c5 : PySem.W.codeIn K cd5 "first_fit_widths" = true) (k5 : PySem.W.keepIn K (.ref f5) = true)
    (a6 : PySem.W.nsIn K mainGlobals "_law_mix" = some (some (.ref f6))) (l6 : K.lookup f6 = some ⟨oc6, od6, .func (PySem.W.fnOf "_law_mix" "_law_mix" (defArgs s__law_mix) (defBody s__law_mix) (defScope s__law_mix) .none kV6 dc6 pm6 an6 cd6 ct6), sl6⟩) (c6 : PySem.W.codeIn K cd6 "_law_mix" = true) (k6 : PySem.W.keepIn K (.ref f6) = true)
    (a7 : PySem.W.nsIn K mainGlobals "_law_store" = some (some (.ref f7))) (l7 : K.lookup f7 = some ⟨oc7, od7, .func (PySem.W.fnOf "_law_store" "_law_store" (defArgs s__law_store) (defBody s__law_store) (defScope s__law_store) .none kV7 dc7 pm7 an7 cd7 ct7), sl7⟩) (c7 : PySem.W.codeIn K cd7 "_law_store" = true) (k7 : PySem.W.keepIn K (.ref f7) = true)
    (a8 : PySem.W.nsIn K mainGlobals "_law_take" = some (some (.ref f8))) (l8 : K.lookup f8 = some ⟨oc8, od8, .func (PySem.W.fnOf "_law_take" "_law_take" (defArgs s__law_take) (defBody s__law_take) (defScope s__law_take) .none kV8 dc8 pm8 an8 cd8 ct8), sl8⟩) (c8 : PySem.W.codeIn K cd8 "_law_take" = true) (k8 : PySem.W.keepIn K (.ref f8) = true)
    (a9 : PySem.W.nsIn K mainGlobals "_law_chance" = some (some (.ref f9))) (l9 : K.lookup f9 = some ⟨oc9, od9, .func (PySem.W.fnOf "_law_chance" "_law_chance" (defArgs s__law_chance) (defBody s__law_chance) (defScope s__law_chance) .none kV9 dc9 pm9 an9 cd9 ct9), sl9⟩) (c9 : PySem.W.codeIn K cd9 "_law_chance" = true) (k9 : PySem.W.keepIn K (.ref f9) = true)
    (a10 : PySem.W.nsIn K mainGlobals "_law_pick" = some (some (.ref f10))) (l10 : K.lookup f10 = some ⟨oc10, od10, .func (PySem.W.fnOf "_law_pick" "_law_pick" (defArgs s__law_pick) (defBody s__law_pick) (defScope s__law_pick) .none kV10 dc10 pm10 an10 cd10 ct10), sl10⟩) (c10 : PySem.W.codeIn K cd10 "_law_pick" = true) (k10 : PySem.W.keepIn K (.ref f10) = true)
    (a11 : PySem.W.nsIn K mainGlobals "_law_range" = some (some (.ref f11))) (l11 : K.lookup f11 = some ⟨oc11, od11, .func (PySem.W.fnOf "_law_range" "_law_range" (defArgs s__law_range) (defBody s__law_range) (defScope s__law_range) .none kV11 dc11 pm11 an11 cd11 ct11), sl11⟩) (c11 : PySem.W.codeIn K cd11 "_law_range" = true) (k11 : PySem.W.keepIn K (.ref f11) = true)
    (a12 : PySem.W.nsIn K mainGlobals "_law_widths" = some (some (.ref f12))) (l12 : K.lookup f12 = some ⟨oc12, od12, .func (PySem.W.fnOf "_law_widths" "_law_widths" (defArgs s__law_widths) (defBody s__law_widths) (defScope s__law_widths) .none kV12 dc12 pm12 an12 cd12 ct12), sl12⟩) (c12 : PySem.W.codeIn K cd12 "_law_widths" = true) (k12 : PySem.W.keepIn K (.ref f12) = true)
    (a13 : PySem.W.nsIn K mainGlobals "_law_equal" = some (some (.ref f13))) (l13 : K.lookup f13 = some ⟨oc13, od13, .func (PySem.W.fnOf "_law_equal" "_law_equal" (defArgs s__law_equal) (defBody s__law_equal) (defScope s__law_equal) .none kV13 dc13 pm13 an13 cd13 ct13), sl13⟩) (c13 : PySem.W.codeIn K cd13 "_law_equal" = true) (k13 : PySem.W.keepIn K (.ref f13) = true)
    (a14 : PySem.W.nsIn K mainGlobals "_law_down" = some (some (.ref f14))) (l14 : K.lookup f14 = some ⟨oc14, od14, .func (PySem.W.fnOf "_law_down" "_law_down" (defArgs s__law_down) (defBody s__law_down) (defScope s__law_down) .none kV14 dc14 pm14 an14 cd14 ct14), sl14⟩) (c14 : PySem.W.codeIn K cd14 "_law_down" = true) (k14 : PySem.W.keepIn K (.ref f14) = true)
    (a15 : PySem.W.nsIn K mainGlobals "_law_row" = some (some (.ref f15))) (l15 : K.lookup f15 = some ⟨oc15, od15, .func (PySem.W.fnOf "_law_row" "_law_row" (defArgs s__law_row) (defBody s__law_row) (defScope s__law_row) .none kV15 dc15 pm15 an15 cd15 ct15), sl15⟩) (c15 : PySem.W.codeIn K cd15 "_law_row" = true) (k15 : PySem.W.keepIn K (.ref f15) = true)
    (a16 : PySem.W.nsIn K mainGlobals "_law_pad" = some (some (.ref f16))) (l16 : K.lookup f16 = some ⟨oc16, od16, .func (PySem.W.fnOf "_law_pad" "_law_pad" (defArgs s__law_pad) (defBody s__law_pad) (defScope s__law_pad) .none kV16 dc16 pm16 an16 cd16 ct16), sl16⟩) (c16 : PySem.W.codeIn K cd16 "_law_pad" = true) (k16 : PySem.W.keepIn K (.ref f16) = true)
    (a17 : PySem.W.nsIn K mainGlobals "_law_fits" = some (some (.ref f17))) (l17 : K.lookup f17 = some ⟨oc17, od17, .func (PySem.W.fnOf "_law_fits" "_law_fits" (defArgs s__law_fits) (defBody s__law_fits) (defScope s__law_fits) .none kV17 dc17 pm17 an17 cd17 ct17), sl17⟩) (c17 : PySem.W.codeIn K cd17 "_law_fits" = true) (k17 : PySem.W.keepIn K (.ref f17) = true)
    (a18 : PySem.W.nsIn K mainGlobals "_law_set" = some (some (.ref f18))) (l18 : K.lookup f18 = some ⟨oc18, od18, .func (PySem.W.fnOf "_law_set" "_law_set" (defArgs s__law_set) (defBody s__law_set) (defScope s__law_set) .none kV18 dc18 pm18 an18 cd18 ct18), sl18⟩) (c18 : PySem.W.codeIn K cd18 "_law_set" = true) (k18 : PySem.W.keepIn K (.ref f18) = true)
    (a19 : PySem.W.nsIn K mainGlobals "_law_asked" = some (some (.ref f19))) (l19 : K.lookup f19 = some ⟨oc19, od19, .func (PySem.W.fnOf "_law_asked" "_law_asked" (defArgs s__law_asked) (defBody s__law_asked) (defScope s__law_asked) .none kV19 dc19 pm19 an19 cd19 ct19), sl19⟩) (c19 : PySem.W.codeIn K cd19 "_law_asked" = true) (k19 : PySem.W.keepIn K (.ref f19) = true)
    (a20 : PySem.W.nsIn K mainGlobals "law" = some (some (.ref f20))) (l20 : K.lookup f20 = some ⟨oc20, od20, .func (PySem.W.fnOf "law" "law" (defArgs s_law) (defBody s_law) (defScope s_law) .none kV20 dc20 pm20 an20 cd20 ct20), sl20⟩) (c20 : PySem.W.codeIn K cd20 "law" = true) (k20 : PySem.W.keepIn K (.ref f20) = true)
    (z0 : PySem.W.nsIn K mainGlobals "len" = some none) (z1 : PySem.W.nsIn K mainGlobals "range" = some none) (z2 : PySem.W.nsIn K mainGlobals "sorted" = some none) (z3 : PySem.W.nsIn K mainGlobals "list" = some none) (z4 : PySem.W.nsIn K mainGlobals "set" = some none) (z5 : PySem.W.nsIn K mainGlobals "min" = some none) (z6 : PySem.W.nsIn K mainGlobals "int" = some none) (z7 : PySem.W.nsIn K mainGlobals "abs" = some none) (z8 : PySem.W.nsIn K mainGlobals "max" = some none) (z9 : PySem.W.nsIn K mainGlobals "isinstance" = some none) (z10 : PySem.W.nsIn K mainGlobals "str" = some none) (z11 : PySem.W.nsIn K mainGlobals "bool" = some none) (z12 : PySem.W.nsIn K mainGlobals "tuple" = some none) :
    ∃ fd : FuncData, (∀ (s : Shared) (v : Value), BindsTo s fd ⟨[v], []⟩ [("script", v)]) ∧ ∀ base : Heap, K.In base → base.Ns mainGlobals mg → FnOk l.prog w K mg base (L2.CX l.prog w) 6 fa fd ["script"] (spLaw K) := by
  cases hfa.symm.trans (PySem.W.mg_of X G a20)
  have Z : Bz mg := ⟨PySem.W.mg_none_of X G z0, PySem.W.mg_none_of X G z1, PySem.W.mg_none_of X G z2, PySem.W.mg_none_of X G z3, PySem.W.mg_none_of X G z4, PySem.W.mg_none_of X G z5, PySem.W.mg_none_of X G z6, PySem.W.mg_none_of X G z7, PySem.W.mg_none_of X G z8, PySem.W.mg_none_of X G z9, PySem.W.mg_none_of X G z10, PySem.W.mg_none_of X G z11, PySem.W.mg_none_of X G z12⟩
  have T : Tops K mg := {
    t_row_widths := ⟨_, _, PySem.W.mg_of X G a0, fun_mk (st := s_row_widths) l0 c0 k0⟩,
    t_union_widths := ⟨_, _, PySem.W.mg_of X G a1, fun_mk (st := s_union_widths) l1 c1 k1⟩,
    t_frame_widths := ⟨_, _, PySem.W.mg_of X G a2, fun_mk (st := s_frame_widths) l2 c2 k2⟩,
    t_cap_widths := ⟨_, _, PySem.W.mg_of X G a3, fun_mk (st := s_cap_widths) l3 c3 k3⟩,
    t_pad_widths := ⟨_, _, PySem.W.mg_of X G a4, fun_mk (st := s_pad_widths) l4 c4 k4⟩,
    t_first_fit_widths := ⟨_, _, PySem.W.mg_of X G a5, fun_mk (st := s_first_fit_widths) l5 c5 k5⟩,
    t__law_mix := ⟨_, _, PySem.W.mg_of X G a6, fun_mk (st := s__law_mix) l6 c6 k6⟩,
    t__law_store := ⟨_, _, PySem.W.mg_of X G a7, fun_mk (st := s__law_store) l7 c7 k7⟩,
    t__law_take := ⟨_, _, PySem.W.mg_of X G a8, fun_mk (st := s__law_take) l8 c8 k8⟩,
    t__law_chance := ⟨_, _, PySem.W.mg_of X G a9, fun_mk (st := s__law_chance) l9 c9 k9⟩,
    t__law_pick := ⟨_, _, PySem.W.mg_of X G a10, fun_mk (st := s__law_pick) l10 c10 k10⟩,
    t__law_range := ⟨_, _, PySem.W.mg_of X G a11, fun_mk (st := s__law_range) l11 c11 k11⟩,
    t__law_widths := ⟨_, _, PySem.W.mg_of X G a12, fun_mk (st := s__law_widths) l12 c12 k12⟩,
    t__law_equal := ⟨_, _, PySem.W.mg_of X G a13, fun_mk (st := s__law_equal) l13 c13 k13⟩,
    t__law_down := ⟨_, _, PySem.W.mg_of X G a14, fun_mk (st := s__law_down) l14 c14 k14⟩,
    t__law_row := ⟨_, _, PySem.W.mg_of X G a15, fun_mk (st := s__law_row) l15 c15 k15⟩,
    t__law_pad := ⟨_, _, PySem.W.mg_of X G a16, fun_mk (st := s__law_pad) l16 c16 k16⟩,
    t__law_fits := ⟨_, _, PySem.W.mg_of X G a17, fun_mk (st := s__law_fits) l17 c17 k17⟩,
    t__law_set := ⟨_, _, PySem.W.mg_of X G a18, fun_mk (st := s__law_set) l18 c18 k18⟩,
    t__law_asked := ⟨_, _, PySem.W.mg_of X G a19, fun_mk (st := s__law_asked) l19 c19 k19⟩,
    t_law := ⟨_, _, PySem.W.mg_of X G a20, fun_mk (st := s_law) l20 c20 k20⟩ }
  refine ⟨PySem.W.fnOf "law" "law" (defArgs s_law) (defBody s_law) (defScope s_law) .none kV20 dc20 pm20 an20 cd20 ct20, fun s v => .of_eq rfl, fun base _ _ => ?_⟩
  exact law_at (chain (fun_mk (st := s_law) l20 c20 k20) T Z)
theorem walk {l : PySem.W.OpenLaw} {q : Program} {loose : List Str} {XP : (Str → Option Value) → Heap → Prop} {YP : World → Heap → Prop} {d : DefRec} {K : Params → PySem.W.Frag} (hn : l.most = some 63) (hdf : d.params.defaults = [])
    (hY : ∀ (w : World) (h : Heap), YP w h → (K w.params).In h)
    (F : ∀ (w : World) (mg : Str → Option Value) (fa : Addr) (h : Heap), (K w.params).In h → h.Ns mainGlobals mg → mg d.name = some (.ref fa) →
      ∃ fd : FuncData, (∀ (s : Shared) (u : Value), BindsTo s fd ⟨[u], []⟩ [("script", u)]) ∧ ∀ base : Heap, (K w.params).In base → base.Ns mainGlobals mg → FnOk l.prog w (K w.params) mg base (L2.CX l.prog w) 6 fa fd ["script"] (spLaw (K w.params))) :
    PySem.W.WalkO q loose XP YP l.row.toRowW d [] (fun f vs => PySem.call f vs) :=
  L2.walk_of (n := 63) (k := 6) (x := "script") (CX := fun w => L2.CX l.prog w) (sp := fun w => spLaw (K w.params)) hn (by decide) hdf ⟨rfl, by decide, by decide⟩ hY F (fun _ _ a ns hl _ hS => ⟨a, ns, rfl, hS, hl, fun _ => rfl⟩) fun _ _ _ _ _ z => by
    obtain ⟨_, _, _, _, _, _, _, _, _, _, _, _, h⟩ := z
    exact h
end La
open PySem PySem.W PyProof.Rows in
set_option maxRecDepth 100000 in
set_option maxHeartbeats 0 in
theorem PySem.Challenge.cw_steadyroom_k68_width_forms_holds : PySem.Challenge.rw_steadyroom_k68_width_forms.Holds := by
  w_on; o_law; k_head; (case hw => w_witness2)
  k_fill
  refine La.walk (l := PySem.Challenge.rw_steadyroom_k68_width_forms) rfl rfl (fun w h Y => PySem.W.kIn_of Y) ?F
  case F =>
    intro w mg fa h KX G hmg
    refine' La.all_mk KX G hmg ?a0 ?l0 ?c0 ?k0 ?a1 ?l1 ?c1 ?k1 ?a2 ?l2 ?c2 ?k2 ?a3 ?l3 ?c3 ?k3 ?a4 ?l4 ?c4 ?k4 ?a5 ?l5 ?c5 ?k5 ?a6 ?l6 ?c6 ?k6 ?a7 ?l7 ?c7 ?k7 ?a8 ?l8 ?c8 ?k8 ?a9 ?l9 ?c9 ?k9 ?a10 ?l10 ?c10 ?k10 ?a11 ?l11 ?c11 ?k11 ?a12 ?l12 ?c12 ?k12 ?a13 ?l13 ?c13 ?k13 ?a14 ?l14 ?c14 ?k14 ?a15 ?l15 ?c15 ?k15 ?a16 ?l16 ?c16 ?k16 ?a17 ?l17 ?c17 ?k17 ?a18 ?l18 ?c18 ?k18 ?a19 ?l19 ?c19 ?k19 ?a20 ?l20 ?c20 ?k20 ?z0 ?z1 ?z2 ?z3 ?z4 ?z5 ?z6 ?z7 ?z8 ?z9 ?z10 ?z11 ?z12
    (case a0 => k_is)
    (case l0 => k_is)
    (case c0 => k_is)
    (case k0 => k_is)
    (case a1 => k_is)
    (case l1 => k_is)
    (case c1 => k_is)
    (case k1 => k_is)
    (case a2 => k_is)
    (case l2 => k_is)
    (case c2 => k_is)
    (case k2 => k_is)
    (case a3 => k_is)
    (case l3 => k_is)
    (case c3 => k_is)
    (case k3 => k_is)
    (case a4 => k_is)
    (case l4 => k_is)
    (case c4 => k_is)
    (case k4 => k_is)
    (case a5 => k_is)
    (case l5 => k_is)
    (case c5 => k_is)
    (case k5 => k_is)
    (case a6 => k_is)
    (case l6 => k_is)
    (case c6 => k_is)
    (case k6 => k_is)
    (case a7 => k_is)
    (case l7 => k_is)
    (case c7 => k_is)
    (case k7 => k_is)
    (case a8 => k_is)
    (case l8 => k_is)
    (case c8 => k_is)
    (case k8 => k_is)
    (case a9 => k_is)
    (case l9 => k_is)
    (case c9 => k_is)
    (case k9 => k_is)
    (case a10 => k_is)
    (case l10 => k_is)
    (case c10 => k_is)
    (case k10 => k_is)
    (case a11 => k_is)
    (case l11 => k_is)
    (case c11 => k_is)
    (case k11 => k_is)
    (case a12 => k_is)
    (case l12 => k_is)
    (case c12 => k_is)
    (case k12 => k_is)
    (case a13 => k_is)
    (case l13 => k_is)
    (case c13 => k_is)
    (case k13 => k_is)
    (case a14 => k_is)
    (case l14 => k_is)
    (case c14 => k_is)
    (case k14 => k_is)
    (case a15 => k_is)
    (case l15 => k_is)
    (case c15 => k_is)
    (case k15 => k_is)
    (case a16 => k_is)
    (case l16 => k_is)
    (case c16 => k_is)
    (case k16 => k_is)
    (case a17 => k_is)
    (case l17 => k_is)
    (case c17 => k_is)
    (case k17 => k_is)
    (case a18 => k_is)
    (case l18 => k_is)
    (case c18 => k_is)
    (case k18 => k_is)
    (case a19 => k_is)
    (case l19 => k_is)
    (case c19 => k_is)
    (case k19 => k_is)
    (case a20 => k_is)
    (case l20 => k_is)
    (case c20 => k_is)
    (case k20 => k_is)
    (case z0 => k_is)
    (case z1 => k_is)
    (case z2 => k_is)
    (case z3 => k_is)
    (case z4 => k_is)
    (case z5 => k_is)
    (case z6 => k_is)
    (case z7 => k_is)
    (case z8 => k_is)
    (case z9 => k_is)
    (case z10 => k_is)
    (case z11 => k_is)
    (case z12 => k_is)
#print axioms PySem.Challenge.cw_steadyroom_k68_width_forms_holds
