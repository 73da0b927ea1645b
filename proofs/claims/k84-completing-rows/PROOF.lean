import PyProof.Rows.All
import Wide.All
import OpenK.AllK
import Wide.FinOn
import HandS.ForMost
import HandS.Walk
import HandS.Wide
import HandS.WideBits
import HandS.Style
import HandS.Defaults
import HandS.More
import HandS.IsInst
import HandS.Deep
import HandS.Zip
import KE.GoesEnum
import PyProof.ReprLen
import HandS.EndBits
import HandS.MakeKwOnly
import HandS.Star
import HandS.HeadHook1
import HandS.HeadHook2
import PySem.Challenge.RW_sumaudit_k84_whole_completing_rows
import KE.KStateDown
import HandS.Head0
import HandS.Head1
import HandS.Head2
import HandS.HeadEnd
set_option Elab.async false
set_option linter.all false
set_option maxRecDepth 100000
set_option maxHeartbeats 2000000
namespace GL
open PySem L2

/-! ### deep data and what represents it -/
inductive D where
  | non | bl (b : Bool) | int (i : Int) | str (s : Str) | lst (xs : List D) | tup (xs : List D) | raw (v : V)

def lim : Nat := 1000000

mutual
def rep (K : PySem.W.Frag) (B : Hp) (v : V) : D → Prop
  | .non => v = .non
  | .bl b => v = .bl b
  | .int i => v = .int i
  | .str s => v = .str s
  | .raw u => v = u
  | .lst ds => ∃ a vs, v = .ref a ∧ B a = some (.lst vs) ∧ ds.length ≤ lim ∧ reps K B vs ds
  | .tup ds => ∃ a vs, v = .ref a ∧ B a = some (.tup vs) ∧ ds.length ≤ lim ∧ reps K B vs ds
def reps (K : PySem.W.Frag) (B : Hp) : List V → List D → Prop
  | vs, [] => vs = []
  | vs, d :: ds => ∃ v r, vs = v :: r ∧ rep K B v d ∧ reps K B r ds
end

theorem Same.rd {H H' : Hp} (e : Same H H') {a : Addr} {u : HO} (h : Rd H a u) : Rd H' a u := by
  rcases h with h | ⟨o, h⟩
  · exact .inl (e _ _ h)
  · exact .inr ⟨o, e _ _ h⟩
theorem Same.sqL {K : PySem.W.Frag} {H H' : Hp} (e : Same H H') {a : Addr} {xs : List V} (h : SqL K H a xs) : SqL K H' a xs := e.seq h
theorem Same.sqT {K : PySem.W.Frag} {H H' : Hp} (e : Same H H') {a : Addr} {xs : List V} (h : SqT K H a xs) : SqT K H' a xs := by
  rcases h with h | h
  · exact .inl (Same.rd e h)
  · exact .inr h
theorem Same.upd {H : Hp} {a : Addr} {o : HO} (h : H a = none) : Same H (upd H a o) := fun b u e => by
  rw [upd_ne (ne_of_none e h)]; exact e

mutual
theorem rep.mono {K : PySem.W.Frag} {B B' : Hp} (e : Same B B') {v : V} : ∀ {d : D}, rep K B v d → rep K B' v d
  | .non, h => h
  | .bl _, h => h
  | .int _, h => h
  | .str _, h => h
  | .raw _, h => h
  | .lst ds, h => by
    obtain ⟨a, vs, e1, s, l, r⟩ := h
    exact ⟨a, vs, e1, e _ _ s, l, reps.mono e r⟩
  | .tup ds, h => by
    obtain ⟨a, vs, e1, s, l, r⟩ := h
    exact ⟨a, vs, e1, e _ _ s, l, reps.mono e r⟩
theorem reps.mono {K : PySem.W.Frag} {B B' : Hp} (e : Same B B') : ∀ {vs : List V} {ds : List D}, reps K B vs ds → reps K B' vs ds
  | _, [], h => h
  | _, d :: ds, h => by
    obtain ⟨v, r, e1, h1, h2⟩ := h
    exact ⟨v, r, e1, rep.mono e h1, reps.mono e h2⟩
end
theorem reps.length {K : PySem.W.Frag} {B : Hp} : ∀ {vs : List V} {ds : List D}, reps K B vs ds → vs.length = ds.length
  | _, [], h => by cases (show _ = [] from h); rfl
  | _, d :: ds, h => by
    obtain ⟨v, r, rfl, _, h2⟩ := h
    simp [reps.length h2]
theorem reps.get {K : PySem.W.Frag} {B : Hp} : ∀ {vs : List V} {ds : List D} {i : Nat} {d : D}, reps K B vs ds → ds[i]? = some d → ∃ v, vs[i]? = some v ∧ rep K B v d
  | _, [], i, d, h, e => by simp at e
  | _, d :: ds, 0, d', h, e => by
    obtain ⟨v, r, rfl, h1, _⟩ := h
    simp at e; subst e
    exact ⟨v, by simp, h1⟩
  | _, d :: ds, i + 1, d', h, e => by
    obtain ⟨v, r, rfl, _, h2⟩ := h
    obtain ⟨v', e1, h'⟩ := reps.get (i := i) (d := d') h2 (by simpa using e)
    exact ⟨v', by simpa using e1, h'⟩
theorem reps.getV {K : PySem.W.Frag} {B : Hp} {vs : List V} {ds : List D} {i : Nat} {v : V} (h : reps K B vs ds) (e : vs[i]? = some v) : ∃ d, ds[i]? = some d ∧ rep K B v d := by
  have hl := h.length
  have hi := (List.getElem?_eq_some_iff.mp e).1
  have hd : ds[i]? = some ds[i] := List.getElem?_eq_getElem (by omega)
  obtain ⟨v', e1, h'⟩ := h.get hd
  rw [e] at e1; cases e1
  exact ⟨_, hd, h'⟩
theorem reps.nil {K : PySem.W.Frag} {B : Hp} : reps K B [] [] := rfl
theorem reps.cons {K : PySem.W.Frag} {B : Hp} {v : V} {d : D} {vs : List V} {ds : List D} (h : rep K B v d) (t : reps K B vs ds) : reps K B (v :: vs) (d :: ds) := ⟨v, vs, rfl, h, t⟩
theorem reps.append {K : PySem.W.Frag} {B : Hp} : ∀ {vs ws : List V} {ds es : List D}, reps K B vs ds → reps K B ws es → reps K B (vs ++ ws) (ds ++ es)
  | _, _, [], _, h, t => by cases (show _ = [] from h); exact t
  | _, _, d :: ds, _, h, t => by
    obtain ⟨v, r, rfl, h1, h2⟩ := h
    exact reps.cons h1 (reps.append h2 t)
theorem reps.snoc {K : PySem.W.Frag} {B : Hp} {v : V} {d : D} {vs : List V} {ds : List D} (t : reps K B vs ds) (h : rep K B v d) : reps K B (vs ++ [v]) (ds ++ [d]) := t.append (.cons h .nil)
theorem reps.of_get {K : PySem.W.Frag} {B : Hp} : ∀ {vs : List V} {ds : List D}, vs.length = ds.length → (∀ (i : Nat) (v : V) (d : D), vs[i]? = some v → ds[i]? = some d → rep K B v d) → reps K B vs ds
  | [], [], _, _ => .nil
  | v :: vs, d :: ds, hl, h => .cons (h 0 v d (by simp) (by simp)) (reps.of_get (by simpa using hl) fun i v' d' e1 e2 => h (i + 1) v' d' (by simpa using e1) (by simpa using e2))
  | [], _ :: _, hl, _ => by simp at hl
  | _ :: _, [], hl, _ => by simp at hl
theorem reps.set {K : PySem.W.Frag} {B : Hp} {v : V} {d : D} {vs : List V} {ds : List D} (j : Nat) (t : reps K B vs ds) (h : rep K B v d) : reps K B (vs.set j v) (ds.set j d) := by
  refine reps.of_get (by simp [t.length]) fun i v' d' e1 e2 => ?_
  by_cases hj : j = i
  · subst hj
    have hl : j < vs.length := by
      have := (List.getElem?_eq_some_iff.mp e1).1; simpa using this
    rw [List.getElem?_set_self hl] at e1
    rw [List.getElem?_set_self (by rw [← t.length]; exact hl)] at e2
    cases e1; cases e2; exact h
  · rw [List.getElem?_set_ne hj] at e1 e2
    obtain ⟨v'', e3, r⟩ := t.get e2
    rw [e1] at e3; cases e3; exact r

/-! ### what is owned -/
structure Own where
  as : List Addr
  P : PySem.W.Frag → Hp → Hp → Prop
  mono : ∀ {K : PySem.W.Frag} {B B' H H' : Hp}, Same B B' → (∀ a ∈ as, H' a = H a) → P K B H → P K B' H'
  dom : ∀ {K : PySem.W.Frag} {B H : Hp}, P K B H → ∀ a ∈ as, H a ≠ none
def foot (O : List Own) : List Addr := O.flatMap (·.as)
theorem mem_foot {O : List Own} {a : Addr} : a ∈ foot O ↔ ∃ w ∈ O, a ∈ w.as := by unfold foot; rw [List.mem_flatMap]

structure OSt (K : PySem.W.Frag) (O : List Own) (B H : Hp) : Prop where
  ext : Same B H
  nd : (foot O).Nodup
  out : ∀ a ∈ foot O, B a = none
  all : ∀ w ∈ O, w.P K B H
theorem OSt.dom {K : PySem.W.Frag} {O : List Own} {B H : Hp} (h : OSt K O B H) {a : Addr} (ha : a ∈ foot O) : H a ≠ none := by
  obtain ⟨w, hw, hm⟩ := mem_foot.mp ha
  exact w.dom (h.all w hw) a hm

/-- from (O, B, H) to (O', B', H') -/
structure Next (K : PySem.W.Frag) (O : List Own) (B H : Hp) (O' : List Own) (B' H' : Hp) : Prop where
  base : Same B B'
  new : ∀ a, H a ≠ none → B a = none → a ∉ foot O → B' a = none
  frame : ∀ a o, H a = some o → a ∉ foot O → H' a = some o
  foot : ∀ a ∈ foot O', a ∈ foot O ∨ H a = none
  keep : ∀ a, H a ≠ none → H' a ≠ none
  st : OSt K O' B' H'
theorem Next.refl {K : PySem.W.Frag} {O : List Own} {B H : Hp} (h : OSt K O B H) : Next K O B H O B H :=
  ⟨fun _ _ e => e, fun _ _ e _ => e, fun _ _ e _ => e, fun _ h => .inl h, fun _ h => h, h⟩
theorem Next.trans {K : PySem.W.Frag} {O O1 O2 : List Own} {B B1 B2 H H1 H2 : Hp} (x : Next K O B H O1 B1 H1) (y : Next K O1 B1 H1 O2 B2 H2) : Next K O B H O2 B2 H2 where
  base := x.base.trans y.base
  new := fun a h b n => by
    have n1 : a ∉ GL.foot O1 := fun m => (x.foot a m).elim n h
    exact y.new a (x.keep a h) (x.new a h b n) n1
  frame := fun a o h n => by
    have n1 : a ∉ GL.foot O1 := fun m => (x.foot a m).elim n (fun e => by rw [h] at e; cases e)
    exact y.frame a o (x.frame a o h n) n1
  foot := fun a m => by
    rcases y.foot a m with z | z
    · exact x.foot a z
    · refine .inr ?_
      cases q : H a with
      | none => rfl
      | some o => exact absurd z (x.keep a (by rw [q]; simp))
  keep := fun a h => y.keep a (x.keep a h)
  st := y.st

/-- the frame: the owned things R beside -/
theorem OSt.left {K : PySem.W.Frag} {O R : List Own} {B H : Hp} (h : OSt K (O ++ R) B H) : OSt K O B H where
  ext := h.ext
  nd := by
    have := h.nd
    unfold foot at this ⊢
    rw [List.flatMap_append] at this
    exact (List.nodup_append.mp this).1
  out := fun a m => h.out a (by unfold foot at m ⊢; rw [List.flatMap_append]; exact List.mem_append_left _ m)
  all := fun w m => h.all w (List.mem_append_left _ m)
theorem foot_append (O R : List Own) : foot (O ++ R) = foot O ++ foot R := by unfold foot; rw [List.flatMap_append]
theorem Next.beside {K : PySem.W.Frag} {O O' R : List Own} {B H B' H' : Hp} (h : OSt K (O ++ R) B H) (n : Next K O B H O' B' H') : Next K (O ++ R) B H (O' ++ R) B' H' := by
  have hnd := h.nd
  rw [foot_append] at hnd
  obtain ⟨nd1, nd2, nd3⟩ := List.nodup_append.mp hnd
  have hR : ∀ a ∈ GL.foot R, a ∉ GL.foot O := fun a m z => nd3 a z a m rfl
  have hdR : ∀ a ∈ GL.foot R, H a ≠ none := fun a m => h.dom (by rw [foot_append]; exact List.mem_append_right _ m)
  refine ⟨n.base, fun a x y z => n.new a x y (fun m => z (by rw [foot_append]; exact List.mem_append_left _ m)), fun a o x z => n.frame a o x (fun m => z (by rw [foot_append]; exact List.mem_append_left _ m)), fun a m => ?_, n.keep, ⟨n.st.ext, ?_, fun a m => ?_, fun w m => ?_⟩⟩
  · rw [foot_append] at m ⊢
    rcases List.mem_append.mp m with m | m
    · rcases n.foot a m with z | z
      · exact .inl (List.mem_append_left _ z)
      · exact .inr z
    · exact .inl (List.mem_append_right _ m)
  · rw [foot_append]
    refine List.nodup_append.mpr ⟨n.st.nd, nd2, fun a ma b mb e => ?_⟩
    subst e
    rcases n.foot a ma with z | z
    · exact hR a mb z
    · exact hdR a mb z
  · rw [foot_append] at m
    rcases List.mem_append.mp m with m | m
    · exact n.st.out a m
    · exact n.new a (hdR a m) (h.out a (by rw [foot_append]; exact List.mem_append_right _ m)) (hR a m)
  · rcases List.mem_append.mp m with m | m
    · exact n.st.all w m
    · refine w.mono n.base (fun a ha => ?_) (h.all w (List.mem_append_right _ m))
      have mR : a ∈ GL.foot R := mem_foot.mpr ⟨w, m, ha⟩
      cases q : H a with
      | none => exact absurd q (hdR a mR)
      | some o => exact n.frame a o q (hR a mR)
/-- the order does not matter -/
theorem foot_perm {O O' : List Own} (p : O.Perm O') : (foot O).Perm (foot O') := by unfold foot; exact p.flatMap_right _
theorem OSt.perm {K : PySem.W.Frag} {O O' : List Own} {B H : Hp} (p : O.Perm O') (h : OSt K O B H) : OSt K O' B H :=
  ⟨h.ext, (foot_perm p).nodup_iff.mp h.nd, fun a m => h.out a ((foot_perm p).mem_iff.mpr m), fun w m => h.all w (p.mem_iff.mpr m)⟩
theorem Next.perm {K : PySem.W.Frag} {O O' Q Q' : List Own} {B H B' H' : Hp} (p : O.Perm O') (q : Q.Perm Q') (n : Next K O B H Q B' H') : Next K O' B H Q' B' H' :=
  ⟨n.base, fun a x y z => n.new a x y fun m => z ((foot_perm p).mem_iff.mp m), fun a o x z => n.frame a o x fun m => z ((foot_perm p).mem_iff.mp m),
    fun a m => (n.foot a ((foot_perm q).mem_iff.mpr m)).imp (fun z => (foot_perm p).mem_iff.mp z) id, n.keep, n.st.perm q⟩
theorem perm_at : ∀ {O : List Own} {k : Nat} {w : Own}, O[k]? = some w → O.Perm (w :: O.eraseIdx k)
  | [], k, w, h => by simp at h
  | x :: O, 0, w, h => by simp at h; subst h; exact List.Perm.refl _
  | x :: O, k + 1, w, h => by
    have ih := perm_at (O := O) (k := k) (w := w) (by simpa using h)
    exact (ih.cons x).trans (List.Perm.swap _ _ _)
theorem perm_set : ∀ {O : List Own} {k : Nat} {w w' : Own}, O[k]? = some w → (w' :: O.eraseIdx k).Perm (O.set k w')
  | [], k, w, w', h => by simp at h
  | x :: O, 0, w, w', h => by simp at h; exact List.Perm.refl _
  | x :: O, k + 1, w, w', h => by
    have ih := perm_set (O := O) (k := k) (w := w) (w' := w') (by simpa using h)
    exact (List.Perm.swap _ _ _).trans (ih.cons x)
/-- one owned thing is changed, the others stay in their places -/
theorem Next.at {K : PySem.W.Frag} {O : List Own} {k : Nat} {w w' : Own} {B H B' H' : Hp} (hk : O[k]? = some w) (h : OSt K O B H) (n : Next K [w] B H [w'] B' H') : Next K O B H (O.set k w') B' H' :=
  (Next.beside (R := O.eraseIdx k) (h.perm (perm_at hk)) n).perm (perm_at hk).symm (perm_set hk)
theorem OSt.at {K : PySem.W.Frag} {O : List Own} {k : Nat} {w : Own} {B H : Hp} (hk : O[k]? = some w) (h : OSt K O B H) : OSt K [w] B H := (h.perm (perm_at hk)).left (O := [w]) (R := O.eraseIdx k)
theorem OSt.none {K : PySem.W.Frag} {O : List Own} {B H : Hp} (h : OSt K O B H) : OSt K [] B H := OSt.left (O := []) (R := O) h
/-- nothing owned is touched -/
theorem Next.pure {K : PySem.W.Frag} {O O' : List Own} {B H B' H' : Hp} (h : OSt K O B H) (n : Next K [] B H O' B' H') : Next K O B H (O' ++ O) B' H' := Next.beside (O := []) (R := O) h n

/-! ### a new cell -/
theorem Next.cell {K : PySem.W.Frag} {B H : Hp} {p : Addr} {o : HO} (e : Same B H) (hp : H p = none) : Next K [] B H [] (upd B p o) (upd H p o) where
  base := Same.upd (e.free hp)
  new := fun a h b _ => by
    have : a ≠ p := fun z => h (z ▸ hp)
    rw [upd_ne this]; exact b
  frame := fun a u h _ => by rw [upd_ne (ne_of_none h hp)]; exact h
  foot := fun a m => absurd m (by simp [GL.foot])
  keep := fun a h => by
    have : a ≠ p := fun z => h (z ▸ hp)
    rw [upd_ne this]; exact h
  st := ⟨fun a u h => by
      by_cases z : a = p
      · subst z; rw [upd_same] at h ⊢; exact h
      · rw [upd_ne z] at h ⊢; exact e a u h, by simp [GL.foot], fun a m => absurd m (by simp [GL.foot]), fun w m => absurd m (by simp)⟩
/-- a new owned cell -/
theorem Next.own {K : PySem.W.Frag} {B H : Hp} {p : Addr} {o : HO} {w : Own} (e : Same B H) (hp : H p = none) (hw : w.as = [p]) (hP : w.P K B (upd H p o)) : Next K [] B H [w] B (upd H p o) where
  base := fun _ _ h => h
  new := fun _ _ b _ => b
  frame := fun a u h _ => by rw [upd_ne (ne_of_none h hp)]; exact h
  foot := fun a m => by
    have : a = p := by simpa [GL.foot, hw] using m
    subst this; exact .inr hp
  keep := fun a h => by
    have : a ≠ p := fun z => h (z ▸ hp)
    rw [upd_ne this]; exact h
  st := ⟨fun a u h => by rw [upd_ne (ne_of_none (e a u h) hp)]; exact e a u h, by simp [GL.foot, hw], fun a m => by
      have : a = p := by simpa [GL.foot, hw] using m
      subst this; exact e.free hp, fun x m => by
      have : x = w := by simpa using m
      subst this; exact hP⟩
/-- an owned cell is written -/
theorem Next.write {K : PySem.W.Frag} {B H : Hp} {p : Addr} {o : HO} {w w' : Own} (h : OSt K [w] B H) (ha : p ∈ w.as) (he : w'.as = w.as) (hP : w'.P K B (upd H p o)) : Next K [w] B H [w'] B (upd H p o) where
  base := fun _ _ h => h
  new := fun _ _ b _ => b
  frame := fun a u q n => by
    have : a ≠ p := fun z => n (by subst z; simpa [GL.foot] using ha)
    rw [upd_ne this]; exact q
  foot := fun a m => .inl (by simpa [GL.foot, he] using m)
  keep := fun a q => by
    by_cases z : a = p
    · subst z; rw [upd_same]; simp
    · rw [upd_ne z]; exact q
  st := ⟨fun a u q => by
      have hB : B p = Option.none := h.out p (by simpa [GL.foot] using ha)
      rw [upd_ne (ne_of_none q hB)]; exact h.ext a u q, by simpa [GL.foot, he] using h.nd, fun a m => h.out a (by simpa [GL.foot, he] using m), fun x m => by
      have : x = w' := by simpa using m
      subst this; exact hP⟩
/-- .. or given to the base -/
theorem Next.freeze {K : PySem.W.Frag} {B H : Hp} {p : Addr} {o : HO} {w : Own} (h : OSt K [w] B H) (ha : w.as = [p]) (hp : H p = some o) : Next K [w] B H [] (upd B p o) H where
  base := Same.upd (h.out p (by simp [GL.foot, ha]))
  new := fun a q b n => by
    have : a ≠ p := fun z => n (by subst z; simp [GL.foot, ha])
    rw [upd_ne this]; exact b
  frame := fun _ _ q _ => q
  foot := fun a m => absurd m (by simp [GL.foot])
  keep := fun _ q => q
  st := ⟨fun a u q => by
      by_cases z : a = p
      · subst z; rw [upd_same] at q; rw [hp]; exact q
      · rw [upd_ne z] at q; exact h.ext a u q, by simp [GL.foot], fun a m => absurd m (by simp [GL.foot]), fun w m => absurd m (by simp)⟩

/-- an owned list -/
def Own.lst (p : Addr) (ds : List D) : Own where
  as := [p]
  P := fun K B H => ∃ vs, H p = some (.lst vs) ∧ ds.length ≤ lim ∧ reps K B vs ds
  mono := fun e k ⟨vs, h, l, r⟩ => ⟨vs, (k p (by simp)).trans h, l, reps.mono e r⟩
  dom := fun ⟨vs, h, _⟩ a m => by
    have : a = p := by simpa using m
    subst this; rw [h]; simp

/-! ### names -/
abbrev Ro := List (Option D)
structure Slots (K : PySem.W.Frag) (B : Hp) (σ : St) (ρ : Ro) : Prop where
  len : σ.length = ρ.length
  at' : ∀ (i : Nat) (d : D), ρ[i]? = some (some d) → ∃ v, σ[i]? = some (some v) ∧ rep K B v d
theorem Slots.mono {K : PySem.W.Frag} {B B' : Hp} {σ : St} {ρ : Ro} (e : Same B B') (h : Slots K B σ ρ) : Slots K B' σ ρ :=
  ⟨h.len, fun i d q => let ⟨v, q1, q2⟩ := h.at' i d q; ⟨v, q1, q2.mono e⟩⟩
theorem Slots.set {K : PySem.W.Frag} {B : Hp} {σ : St} {ρ : Ro} {v : V} {d : D} (i : Nat) (h : Slots K B σ ρ) (r : rep K B v d) : Slots K B (σ.set i (some v)) (ρ.set i (some d)) := by
  refine ⟨by simp [h.len], fun j d' q => ?_⟩
  by_cases e : i = j
  · subst e
    have hl : i < ρ.length := by
      have := (List.getElem?_eq_some_iff.mp q).1; simpa using this
    rw [List.getElem?_set_self hl] at q
    cases q
    exact ⟨v, by rw [List.getElem?_set_self (by rw [h.len]; exact hl)], r⟩
  · rw [List.getElem?_set_ne e] at q ⊢
    exact h.at' j d' q
/-- forgetting what some names hold -/
theorem Slots.weak {K : PySem.W.Frag} {B : Hp} {σ : St} {ρ ρ' : Ro} (h : Slots K B σ ρ) (hl : ρ'.length = ρ.length) (w : ∀ (i : Nat) (d : D), ρ'[i]? = some (some d) → ρ[i]? = some (some d)) : Slots K B σ ρ' :=
  ⟨h.len.trans hl.symm, fun i d q => h.at' i d (w i d q)⟩
theorem Slots.wipe {K : PySem.W.Frag} {B : Hp} {σ : St} {ρ : Ro} (h : Slots K B σ ρ) : ∀ (vs : List Nat), Slots K B (L2.wipe σ vs) (vs.foldr (fun i r => r.set i none) ρ)
  | [] => h
  | v :: vs => by
    have ih := Slots.wipe h vs
    show Slots K B ((L2.wipe σ vs).set v none) ((vs.foldr (fun i r => r.set i none) ρ).set v none)
    refine ⟨by simp [ih.len], fun j d q => ?_⟩
    by_cases e : v = j
    · subst e
      have hl : v < (vs.foldr (fun i r => r.set i none) ρ).length := by
        have := (List.getElem?_eq_some_iff.mp q).1; simpa using this
      rw [List.getElem?_set_self hl] at q
      cases q
    · rw [List.getElem?_set_ne e] at q ⊢
      exact ih.at' j d q

/-! ### goals over the text itself -/
section
variable (X : Cx)
def wE (e : Expr) : TE := fun σ H Q => ∀ pins s, Inv X pins σ H s → wpAny (model X.prog X.w) X.A (eval e X.env) (EP X pins σ Q) X.xe s
def wT (e : Expr) : TT := fun σ H Q => ∀ pins s, Inv X pins σ H s → wpAny (model X.prog X.w) X.A (isTrue e X.env (eval e X.env)) (TP X pins σ Q) X.xe s
def wA (es : List Expr) : TA := fun σ H Q => ∀ (pos : Pos) pins s, Inv X pins σ H s → wpAny (model X.prog X.w) X.A (spliced (backTo pos (starEach es X.env))) (AP X pins σ Q) X.xe s
def wS (st : Stmt) : TS := fun D σ H => ∀ pins s, Inv X pins σ H s → wpAny (model X.prog X.w) X.A (exec st X.env) (SP X pins D) X.xe s
def wB (sts : List Stmt) : TS := fun D σ H => ∀ pins s, Inv X pins σ H s → wpAny (model X.prog X.w) X.A (execs sts X.env) (SP X pins D) X.xe s
end
section
variable {X : Cx} {e : Expr} {es : List Expr} {st : Stmt} {sts : List Stmt}
theorem pe_w : PE X e (wE X e) := ⟨fun pins s σ H Q I h => h pins s I⟩
theorem pt_w : PT X e (wT X e) := ⟨fun pins s σ H Q I h => h pins s I⟩
theorem pa_w : PA X es (wA X es) := ⟨fun pos pins s σ H Q I h => h pos pins s I⟩
theorem ps_w : PS X st (wS X st) := ⟨fun pins s σ H D I h => h pins s I⟩
theorem pb_w : PSs X sts (wB X sts) := ⟨fun pins s σ H D I h => h pins s I⟩
theorem w_pe {t : TE} (h : PE X e t) {σ : St} {H : Hp} {Q : VK} (q : t σ H Q) : wE X e σ H Q := fun pins s I => h.run pins s σ H Q I q
theorem w_pt {t : TT} (h : PT X e t) {σ : St} {H : Hp} {Q : Bool → Hp → Prop} (q : t σ H Q) : wT X e σ H Q := fun pins s I => h.run pins s σ H Q I q
theorem w_pa {t : TA} (h : PA X es t) {σ : St} {H : Hp} {Q : List V → Hp → Prop} (q : t σ H Q) : wA X es σ H Q := fun pos pins s I => h.run pos pins s σ H Q I q
theorem w_ps {t : TS} (h : PS X st t) {σ : St} {H : Hp} {D : Ends} (q : t D σ H) : wS X st D σ H := fun pins s I => h.run pins s σ H D I q
theorem w_pb {t : TS} (h : PSs X sts t) {σ : St} {H : Hp} {D : Ends} (q : t D σ H) : wB X sts D σ H := fun pins s I => h.run pins s σ H D I q
end

/-! ### judgements -/
/-- e evaluates to d; what is owned goes from O to O' -/
def Ev (X : Cx) (e : Expr) (ρ : Ro) (O : List Own) (d : D) (O' : List Own) : Prop :=
  ∀ (B H : Hp) (σ : St), OSt X.K O B H → Slots X.K B σ ρ → ∀ Q : VK, (∀ v B' H', Next X.K O B H O' B' H' → rep X.K B' v d → Q v H') → wE X e σ H Q
/-- e makes a new list, which is owned -/
def EvN (X : Cx) (e : Expr) (ρ : Ro) (O : List Own) (ds : List D) (O' : List Own) : Prop :=
  ∀ (B H : Hp) (σ : St), OSt X.K O B H → Slots X.K B σ ρ → ∀ Q : VK, (∀ a B' H', Next X.K O B H (Own.lst a ds :: O') B' H' → Q (.ref a) H') → wE X e σ H Q
/-- a test -/
def Et (X : Cx) (e : Expr) (ρ : Ro) (O : List Own) (b : Bool) (O' : List Own) : Prop :=
  ∀ (B H : Hp) (σ : St), OSt X.K O B H → Slots X.K B σ ρ → ∀ Q : Bool → Hp → Prop, (∀ B' H', Next X.K O B H O' B' H' → Q b H') → wT X e σ H Q
/-- arguments -/
def Ea (X : Cx) (es : List Expr) (ρ : Ro) (O : List Own) (ds : List D) (O' : List Own) : Prop :=
  ∀ (B H : Hp) (σ : St), OSt X.K O B H → Slots X.K B σ ρ → ∀ Q : List V → Hp → Prop, (∀ vs B' H', Next X.K O B H O' B' H' → reps X.K B' vs ds → Q vs H') → wA X es σ H Q
/-- how a block may end -/
structure Out where
  nx : Ro → List Own → Prop
  rt : D → List Own → Prop
  bk : Ro → List Own → Prop := fun _ _ => False
  ct : Ro → List Own → Prop := fun _ _ => False
structure Ends.Of (K : PySem.W.Frag) (O : List Own) (B H : Hp) (U : Out) (D : Ends) : Prop where
  nx : ∀ ρ' O' σ' B' H', U.nx ρ' O' → Next K O B H O' B' H' → Slots K B' σ' ρ' → D.nx σ' H'
  rt : ∀ d O' v B' H', U.rt d O' → Next K O B H O' B' H' → rep K B' v d → D.rt v H'
  bk : ∀ ρ' O' σ' B' H', U.bk ρ' O' → Next K O B H O' B' H' → Slots K B' σ' ρ' → D.bk σ' H'
  ct : ∀ ρ' O' σ' B' H', U.ct ρ' O' → Next K O B H O' B' H' → Slots K B' σ' ρ' → D.ct σ' H'
def Bl (X : Cx) (sts : List Stmt) (ρ : Ro) (O : List Own) (U : Out) : Prop :=
  ∀ (B H : Hp) (σ : St), OSt X.K O B H → Slots X.K B σ ρ → ∀ D : Ends, Ends.Of X.K O B H U D → wB X sts D σ H
theorem Ends.Of.from {K : PySem.W.Frag} {O O1 : List Own} {B H B1 H1 : Hp} {U : Out} {D : Ends} (h : Ends.Of K O B H U D) (n : Next K O B H O1 B1 H1) : Ends.Of K O1 B1 H1 U D :=
  ⟨fun ρ' O' σ' B' H' u m s => h.nx ρ' O' σ' B' H' u (n.trans m) s, fun d O' v B' H' u m r => h.rt d O' v B' H' u (n.trans m) r,
    fun ρ' O' σ' B' H' u m s => h.bk ρ' O' σ' B' H' u (n.trans m) s, fun ρ' O' σ' B' H' u m s => h.ct ρ' O' σ' B' H' u (n.trans m) s⟩
theorem Ends.Of.nxTo {K : PySem.W.Frag} {O : List Own} {B H : Hp} {U : Out} {D : Ends} {N : St → Hp → Prop} {P : Ro → List Own → Prop} (h : Ends.Of K O B H U D)
    (hn : ∀ ρ' O' σ' B' H', P ρ' O' → Next K O B H O' B' H' → Slots K B' σ' ρ' → N σ' H') : Ends.Of K O B H { U with nx := P } { D with nx := N } :=
  ⟨hn, h.rt, h.bk, h.ct⟩
end GL
namespace GL
open PySem L2

/-! ### small things about reps -/
theorem lim_line {n : Nat} (h : n ≤ lim) : n ≤ sizeLine := Nat.le_trans h (by decide)
theorem lim_lt {n : Nat} (h : n < lim) : n < sizeLine := Nat.lt_of_lt_of_le h (by decide)
theorem reps_map {α : Type} {K : PySem.W.Frag} {B : Hp} {f : α → D} {g : α → V} (h : ∀ x v, rep K B v (f x) → v = g x) : ∀ {xs : List α} {vs : List V}, reps K B vs (xs.map f) → vs = xs.map g
  | [], vs, r => by cases (show vs = [] from r); rfl
  | x :: xs, vs, r => by
    obtain ⟨v, t, rfl, h1, h2⟩ := (show ∃ v t, vs = v :: t ∧ rep K B v (f x) ∧ reps K B t (xs.map f) from r)
    rw [h x v h1, reps_map h h2]; rfl
theorem reps_ints {K : PySem.W.Frag} {B : Hp} {xs : List Int} {vs : List V} (r : reps K B vs (xs.map D.int)) : vs = xs.map V.int := reps_map (f := D.int) (g := V.int) (fun _ _ h => h) r
theorem reps_bls {K : PySem.W.Frag} {B : Hp} {xs : List Bool} {vs : List V} (r : reps K B vs (xs.map D.bl)) : vs = xs.map V.bl := reps_map (f := D.bl) (g := V.bl) (fun _ _ h => h) r
theorem reps_strs {K : PySem.W.Frag} {B : Hp} {xs : List Str} {vs : List V} (r : reps K B vs (xs.map D.str)) : vs = xs.map V.str := reps_map (f := D.str) (g := V.str) (fun _ _ h => h) r
theorem atI_rep {K : PySem.W.Frag} {B : Hp} {vs : List V} {ds : List D} {i : Int} {d : D} (r : reps K B vs ds) (h : atI ds i = some d) : ∃ v, atI vs i = some v ∧ rep K B v d := by
  unfold atI at h ⊢
  rw [r.length]
  cases e : ixN ds.length i with
  | none => rw [e] at h; cases h
  | some j =>
    rw [e] at h
    obtain ⟨v, h1, h2⟩ := r.get (show ds[j]? = some d from h)
    exact ⟨v, h1, h2⟩
theorem reps.take {K : PySem.W.Frag} {B : Hp} {vs : List V} {ds : List D} (n : Nat) (r : reps K B vs ds) : reps K B (vs.take n) (ds.take n) := by
  refine reps.of_get (by simp [r.length]) fun i v d e1 e2 => ?_
  rw [List.getElem?_take] at e1 e2
  split at e1
  · rename_i h
    rw [if_pos h] at e2
    obtain ⟨v', e3, r'⟩ := r.get e2
    rw [e1] at e3; cases e3; exact r'
  · cases e1
theorem reps.drop {K : PySem.W.Frag} {B : Hp} {vs : List V} {ds : List D} (n : Nat) (r : reps K B vs ds) : reps K B (vs.drop n) (ds.drop n) := by
  refine reps.of_get (by simp [r.length]) fun i v d e1 e2 => ?_
  rw [List.getElem?_drop] at e1 e2
  obtain ⟨v', e3, r'⟩ := r.get e2
  rw [e1] at e3; cases e3; exact r'
theorem reps.reverse {K : PySem.W.Frag} {B : Hp} : ∀ {vs : List V} {ds : List D}, reps K B vs ds → reps K B vs.reverse ds.reverse
  | _, [], r => by cases (show _ = [] from r); exact .nil
  | _, d :: ds, r => by
    obtain ⟨v, t, rfl, h1, h2⟩ := r
    rw [List.reverse_cons, List.reverse_cons]
    exact (reps.reverse h2).snoc h1
def cutD (xs : List D) (lo hi : Option Int) : List D := (xs.drop (HT.sIx xs.length 0 lo)).take (HT.sIx xs.length xs.length hi - HT.sIx xs.length 0 lo)
theorem reps.cut {K : PySem.W.Frag} {B : Hp} {vs : List V} {ds : List D} (lo hi : Option Int) (r : reps K B vs ds) : reps K B (cutV vs lo hi) (cutD ds lo hi) := by
  unfold cutV cutD
  rw [r.length]
  exact (r.drop _).take _
theorem cutD_len (xs : List D) (lo hi : Option Int) : (cutD xs lo hi).length ≤ xs.length := by
  unfold cutD
  rw [List.length_take, List.length_drop]
  omega

section
variable {X : Cx} {ρ : Ro} {O O1 O2 O3 : List Own} {a b c e : Expr} {es : List Expr} {d d1 d2 d3 : D} {ds : List D} {pos : Pos}

/-! ### turning judgements -/
theorem Ev.pure (h : Ev X e ρ [] d []) : Ev X e ρ O d O := fun B H σ hO hS Q k =>
  h B H σ hO.none hS Q fun v B' H' n r => k v B' H' (by simpa using n.pure hO) r
theorem Ev.eq (h : Ev X e ρ O d O1) (q : d = d1) : Ev X e ρ O d1 O1 := q ▸ h
theorem Ev.eqO (h : Ev X e ρ O d O1) (q : O1 = O2) : Ev X e ρ O d O2 := q ▸ h
theorem Ev.eq2 (h : Ev X e ρ O d O1) (q : d = d1) (q2 : O1 = O2) : Ev X e ρ O d1 O2 := q ▸ q2 ▸ h
theorem EvN.eq {xs ys : List D} (h : EvN X e ρ O xs O1) (q : xs = ys) : EvN X e ρ O ys O1 := q ▸ h
theorem EvN.eq2 {xs ys : List D} (h : EvN X e ρ O xs O1) (q : xs = ys) (q2 : O1 = O2) : EvN X e ρ O ys O2 := q ▸ q2 ▸ h
theorem Et.eq {p q : Bool} (h : Et X e ρ O p O1) (z : p = q) : Et X e ρ O q O1 := z ▸ h
theorem Et.eq2 {p q : Bool} (h : Et X e ρ O p O1) (z : p = q) (q2 : O1 = O2) : Et X e ρ O q O2 := z ▸ q2 ▸ h
/-- a new list that nobody will change -/
theorem EvN.ev (h : EvN X e ρ O ds O1) : Ev X e ρ O (.lst ds) O1 := fun B H σ hO hS Q k =>
  h B H σ hO hS Q fun p B' H' n => by
    obtain ⟨vs, h1, h2, h3⟩ := n.st.all (Own.lst p ds) (by simp)
    have f := Next.beside (O := [Own.lst p ds]) (R := O1) n.st (Next.freeze n.st.left rfl h1)
    exact k _ _ _ (n.trans f) ⟨p, vs, rfl, upd_same, h2, h3.mono f.base⟩

/-! ### names, constants -/
theorem ev_var (i : Nat) {x : Str} (hρ : ρ[i]? = some (some d) := by rfl) (hN : X.N[i]? = some x := by rfl) (hv : Vis X.env.scope x := by first | exact Or.inl rfl | exact Or.inr (Or.inl rfl) | exact Or.inr (Or.inr rfl))
    (hd : (x == ("__debug__" : Str)) = false := by decide) (hcd : (x == ("__classdict__" : Str)) = false := by decide) : Ev X (.Name x pos) ρ O d O := fun B H σ hO hS Q k => by
  obtain ⟨v, h1, h2⟩ := hS.at' i d hρ
  exact w_pe (pe_var hN hv hd hcd) ⟨v, h1, k v B H (.refl hO) h2⟩
theorem ev_c {v : V} {p : Bool} (h : PE X e (tC v)) (r : ∀ K B, rep K B v d) : Ev X e ρ O d O := fun B H σ hO hS Q k => w_pe h (k v B H (.refl hO) (r _ _))
theorem ev_int {i : Int} {j : Nat} : Ev X (.Constant (.int i) j pos) ρ O (.int i) O := ev_c (p := true) pe_int fun _ _ => rfl
theorem ev_bl {p : Bool} {j : Nat} : Ev X (.Constant (.bool p) j pos) ρ O (.bl p) O := ev_c (p := true) pe_bl fun _ _ => rfl
theorem ev_non {j : Nat} : Ev X (.Constant .none j pos) ρ O .non O := ev_c (p := true) pe_non fun _ _ => rfl
theorem ev_str {s : Str} {j : Nat} : Ev X (.Constant (.str s) j pos) ρ O (.str s) O := ev_c (p := true) pe_str fun _ _ => rfl
/-- a module's int, text -/
theorem ev_gint {x : Str} {i : Int} (hm : ∃ t, X.mg x = some (.int i t)) (hg : Gl X x := by rfl) (hd : (x == ("__debug__" : Str)) = false := by decide) : Ev X (.Name x pos) ρ O (.int i) O := by
  obtain ⟨t, ht⟩ := hm
  exact ev_c (v := .int i) (p := true) (pe_glob hg ht ⟨t, rfl⟩ hd) fun _ _ => rfl
theorem ev_gstr {x : Str} {z : Str} (hm : ∃ t, X.mg x = some (.str z t)) (hg : Gl X x := by rfl) (hd : (x == ("__debug__" : Str)) = false := by decide) : Ev X (.Name x pos) ρ O (.str z) O := by
  obtain ⟨t, ht⟩ := hm
  exact ev_c (v := .str z) (p := true) (pe_glob hg ht ⟨t, rfl⟩ hd) fun _ _ => rfl
/-- a built-in type as a value -/
theorem ev_gty {x : Str} {T : String} (hm : X.mg x = none) (hb : bootBuiltins x = some (.type T)) (hg : Gl X x := by rfl) (hn : x ≠ "__name__" := by decide) (hd : (x == ("__debug__" : Str)) = false := by decide) : Ev X (.Name x pos) ρ O (.raw (.ty T)) O :=
  ev_c (p := true) (pe_bltn hg hm hb (v := .ty T) rfl hn hd) fun _ _ => rfl

/-! ### two-place things -/
/-- the operation r on what represents d1 and d2 gives d -/
def Op2 (K : PySem.W.Frag) (r : R2) (O : List Own) (d1 d2 d : D) (O' : List Own) : Prop :=
  ∀ B H x y, OSt K O B H → rep K B x d1 → rep K B y d2 → ∀ Q : VK, (∀ v B' H', Next K O B H O' B' H' → rep K B' v d → Q v H') → r x y H Q
theorem ev_op {op : Operator} {r : R2} (ho : OpR X (binaryOp op) r) (ha : Ev X a ρ O d1 O1) (hb : Ev X b ρ O1 d2 O2) (h : Op2 X.K r O2 d1 d2 d O3) : Ev X (.BinOp a op b pos) ρ O d O3 := fun B H σ hO hS Q k =>
  w_pe (pe_op ho pe_w pe_w) (ha B H σ hO hS _ fun x B1 H1 n1 r1 => hb B1 H1 σ n1.st (hS.mono n1.base) _ fun y B2 H2 n2 r2 =>
    h B2 H2 x y n2.st (r1.mono n2.base) r2 Q fun v B3 H3 n3 r3 => k v B3 H3 ((n1.trans n2).trans n3) r3)
theorem op2_I0 {i j : Int} {g : Int → Int → Int} : Op2 X.K (rI0 fun i j => .int (g i j)) O (.int i) (.int j) (.int (g i j)) O := fun B H x y hO h1 h2 Q k =>
  ⟨i, j, h1, h2, k _ B H (.refl hO) rfl⟩
theorem op2_I {i j : Int} {C : Int → Int → Prop} {g : Int → Int → Int} (hc : C i j) : Op2 X.K (rI C fun i j => .int (g i j)) O (.int i) (.int j) (.int (g i j)) O := fun B H x y hO h1 h2 Q k =>
  ⟨i, j, h1, h2, hc, k _ B H (.refl hO) rfl⟩
theorem ev_add {i j : Int} (ha : Ev X a ρ O (.int i) O1) (hb : Ev X b ρ O1 (.int j) O2) : Ev X (.BinOp a .Add b pos) ρ O (.int (i + j)) O2 := ev_op op_add ha hb op2_I0
theorem ev_sub {i j : Int} (ha : Ev X a ρ O (.int i) O1) (hb : Ev X b ρ O1 (.int j) O2) : Ev X (.BinOp a .Sub b pos) ρ O (.int (i - j)) O2 := ev_op op_sub ha hb op2_I0
/-- two factors that together stay below the line of bits -/
def MulOk (i j : Int) : Prop := i.natAbs.log2 + j.natAbs.log2 < 134000000
theorem MulOk.ok {i j : Int} (h : MulOk i j) : IntMulOk i j := by
  have b : ∀ x : Int, Builtin.Int.intBits x ≤ x.natAbs.log2 + 1 := fun x => by
    unfold Builtin.Int.intBits
    split <;> omega
  have h1 := b i
  have h2 := b j
  have h3 : i.natAbs.log2 + j.natAbs.log2 < 134000000 := h
  have e : bitsLine = 134217728 := by decide
  intro z
  rw [Bool.and_eq_true] at z
  have z2 := z.2
  unfold Builtin.Int.intTooBig at z2
  have z3 := of_decide_eq_true z2
  rw [e] at z3
  omega
theorem op_mulG : OpR X (binaryOp .Mult) (rI MulOk fun i j => .int (i * j)) := opI fun _ _ _ _ _ _ _ hc q => PyProof.Rows.mul_int q hc.ok
theorem ev_mul {i j : Int} (ha : Ev X a ρ O (.int i) O1) (hb : Ev X b ρ O1 (.int j) O2) (hm : MulOk i j) : Ev X (.BinOp a .Mult b pos) ρ O (.int (i * j)) O2 := ev_op op_mulG ha hb (op2_I hm)
/-- // and % by a divisor that is not 0; for // below 9000 bits -/
def DivOk (_ j : Int) : Prop := j ≠ 0 ∧ j.natAbs.log2 < 9000
theorem op_fdivG : OpR X (binaryOp .FloorDiv) (rI DivOk fun i j => .int (i.fdiv j)) := opI fun i j _ _ _ _ _ hc q => PyProof.Rows.floordiv_int hc.1 q (.inl (PyProof.noPylong_of_log2 hc.2))
theorem ev_fdiv {i j : Int} (ha : Ev X a ρ O (.int i) O1) (hb : Ev X b ρ O1 (.int j) O2) (hm : DivOk i j) : Ev X (.BinOp a .FloorDiv b pos) ρ O (.int (i.fdiv j)) O2 := ev_op op_fdivG ha hb (op2_I hm)
theorem ev_mod {i j : Int} (ha : Ev X a ρ O (.int i) O1) (hb : Ev X b ρ O1 (.int j) O2) (hm : j ≠ 0) : Ev X (.BinOp a .Mod b pos) ρ O (.int (i.fmod j)) O2 := ev_op op_modN ha hb (op2_I hm)
theorem ev_pow {i j : Int} (ha : Ev X a ρ O (.int i) O1) (hb : Ev X b ρ O1 (.int j) O2) (hm : CPow i j) : Ev X (.BinOp a .Pow b pos) ρ O (.int (i ^ j.toNat)) O2 := ev_op op_pow ha hb (op2_I hm)
theorem ev_neg {i : Int} (ha : Ev X a ρ O (.int i) O1) : Ev X (.UnaryOp .USub a pos) ρ O (.int (-i)) O1 := fun B H σ hO hS Q k =>
  w_pe (pe_un un_neg pe_w) (ha B H σ hO hS _ fun x B1 H1 n1 r1 => ⟨i, r1, k _ B1 H1 n1 rfl⟩)
theorem ev_adds {s t : Str} (ha : Ev X a ρ O (.str s) O1) (hb : Ev X b ρ O1 (.str t) O2) (hl : s.length + t.length ≤ sizeLine) : Ev X (.BinOp a .Add b pos) ρ O (.str (s ++ t)) O2 :=
  ev_op op_add_str ha hb fun B H x y hO h1 h2 Q k => ⟨s, t, h1, h2, hl, k _ B H (.refl hO) rfl⟩
/-- a new list out of an operation -/
theorem evn_op {op : Operator} {r : R2} (ho : OpR X (binaryOp op) r) (ha : Ev X a ρ O d1 O1) (hb : Ev X b ρ O1 d2 O2)
    (h : ∀ B H x y, OSt X.K O2 B H → rep X.K B x d1 → rep X.K B y d2 → ∀ Q : VK, (∀ p B' H', Next X.K O2 B H (Own.lst p ds :: O3) B' H' → Q (.ref p) H') → r x y H Q) : EvN X (.BinOp a op b pos) ρ O ds O3 := fun B H σ hO hS Q k =>
  w_pe (pe_op ho pe_w pe_w) (ha B H σ hO hS _ fun x B1 H1 n1 r1 => hb B1 H1 σ n1.st (hS.mono n1.base) _ fun y B2 H2 n2 r2 =>
    h B2 H2 x y n2.st (r1.mono n2.base) r2 Q fun p B3 H3 n3 => k p B3 H3 ((n1.trans n2).trans n3))
theorem Next.newL {B H : Hp} {p : Addr} {vs : List V} (hO : OSt X.K O B H) (hp : H p = none) (hl : ds.length ≤ lim) (r : reps X.K B vs ds) : Next X.K O B H (Own.lst p ds :: O) B (upd H p (.lst vs)) := by
  have n := Next.own (K := X.K) (o := .lst vs) (w := Own.lst p ds) hO.ext hp rfl ⟨vs, upd_same, hl, r⟩
  exact n.pure hO
theorem evn_cat {xs ys : List D} (ha : Ev X a ρ O (.lst xs) O1) (hb : Ev X b ρ O1 (.lst ys) O2) (hl : xs.length + ys.length ≤ lim) : EvN X (.BinOp a .Add b pos) ρ O (xs ++ ys) O2 :=
  evn_op op_cat ha hb fun B H x y hO h1 h2 Q k => by
    obtain ⟨p, vs, rfl, e1, l1, r1⟩ := h1
    obtain ⟨q, ws, rfl, e2, l2, r2⟩ := h2
    refine ⟨p, q, vs, ws, rfl, rfl, hO.ext _ _ e1, hO.ext _ _ e2, by rw [r1.length, r2.length]; exact lim_line hl, fun z hz => k z B _ (Next.newL hO hz (by rw [List.length_append]; exact hl) (r1.append r2))⟩
theorem evn_rep {xs : List D} {j : Int} (ha : Ev X a ρ O (.lst xs) O1) (hb : Ev X b ρ O1 (.int j) O2) (h0 : -(2 ^ 63) ≤ j) (h1 : j < 2 ^ 63) (hl : xs.length * j.toNat ≤ lim) : EvN X (.BinOp a .Mult b pos) ρ O (List.replicate j.toNat xs).flatten O2 :=
  evn_op op_rep ha hb fun B H x y hO h1' h2 Q k => by
    obtain ⟨p, vs, rfl, e1, l1, r1⟩ := h1'
    have rr : ∀ m : Nat, reps X.K B (List.replicate m vs).flatten (List.replicate m xs).flatten := fun m => by
      induction m with
      | zero => exact .nil
      | succ m ih => rw [List.replicate_succ, List.replicate_succ, List.flatten_cons, List.flatten_cons]; exact r1.append ih
    refine ⟨p, j, vs, rfl, h2, hO.ext _ _ e1, h0, h1, by rw [r1.length]; exact lim_line hl, fun z hz => k z B _ (Next.newL hO hz ?_ (rr _))⟩
    have : ((List.replicate j.toNat xs).flatten).length = xs.length * j.toNat := by simp [List.length_flatten, Nat.mul_comm]
    rw [this]; exact hl

/-! ### comparisons -/
theorem ev_cmp {op : CmpOp} {r : R2} (ho : OpR X (compareOp op) r) (hm : behindInMarks op b = false) (ha : Ev X a ρ O d1 O1) (hb : Ev X b ρ O1 d2 O2) (h : Op2 X.K r O2 d1 d2 d O3) : Ev X (.Compare a [op] [b] pos) ρ O d O3 := fun B H σ hO hS Q k =>
  w_pe (pe_cmpR ho pe_w pe_w hm) (ha B H σ hO hS _ fun x B1 H1 n1 r1 => hb B1 H1 σ n1.st (hS.mono n1.base) _ fun y B2 H2 n2 r2 =>
    h B2 H2 x y n2.st (r1.mono n2.base) r2 Q fun v B3 H3 n3 r3 => k v B3 H3 ((n1.trans n2).trans n3) r3)
theorem et_cmp {op : CmpOp} {r : R2} {p : Bool} (ho : OpR X (compareOp op) r) (hm : behindInMarks op b = false) (ha : Ev X a ρ O d1 O1) (hb : Ev X b ρ O1 d2 O2) (h : Op2 X.K r O2 d1 d2 (.bl p) O3) : Et X (.Compare a [op] [b] pos) ρ O p O3 := fun B H σ hO hS Q k =>
  w_pt (pt_cmpR ho pe_w pe_w hm) (ha B H σ hO hS _ fun x B1 H1 n1 r1 => hb B1 H1 σ n1.st (hS.mono n1.base) _ fun y B2 H2 n2 r2 =>
    h B2 H2 x y n2.st (r1.mono n2.base) r2 _ fun v B3 H3 n3 r3 => ⟨p, r3, k B3 H3 ((n1.trans n2).trans n3)⟩)
theorem op2_B0 {i j : Int} {g : Int → Int → Bool} : Op2 X.K (rI0 fun i j => .bl (g i j)) O (.int i) (.int j) (.bl (g i j)) O := fun B H x y hO h1 h2 Q k =>
  ⟨i, j, h1, h2, k _ B H (.refl hO) rfl⟩
theorem op2_eqI {i j : Int} : Op2 X.K rEq O (.int i) (.int j) (.bl (decide (i = j))) O := fun B H x y hO h1 h2 Q k => by
  cases (show x = .int i from h1); cases (show y = .int j from h2)
  have : decide (V.int i = V.int j) = decide (i = j) := by simp
  exact ⟨rfl, this ▸ k _ B H (.refl hO) rfl⟩
theorem op2_neI {i j : Int} : Op2 X.K rNe O (.int i) (.int j) (.bl (!decide (i = j))) O := fun B H x y hO h1 h2 Q k => by
  cases (show x = .int i from h1); cases (show y = .int j from h2)
  have : decide (V.int i = V.int j) = decide (i = j) := by simp
  exact ⟨rfl, this ▸ k _ B H (.refl hO) rfl⟩
theorem op2_eqS {i j : Str} : Op2 X.K rEq O (.str i) (.str j) (.bl (decide (i = j))) O := fun B H x y hO h1 h2 Q k => by
  cases (show x = .str i from h1); cases (show y = .str j from h2)
  have : decide (V.str i = V.str j) = decide (i = j) := by simp
  exact ⟨rfl, this ▸ k _ B H (.refl hO) rfl⟩
theorem op2_neS {i j : Str} : Op2 X.K rNe O (.str i) (.str j) (.bl (!decide (i = j))) O := fun B H x y hO h1 h2 Q k => by
  cases (show x = .str i from h1); cases (show y = .str j from h2)
  have : decide (V.str i = V.str j) = decide (i = j) := by simp
  exact ⟨rfl, this ▸ k _ B H (.refl hO) rfl⟩
theorem op2_eqB {i j : Bool} : Op2 X.K rEq O (.bl i) (.bl j) (.bl (decide (i = j))) O := fun B H x y hO h1 h2 Q k => by
  cases (show x = .bl i from h1); cases (show y = .bl j from h2)
  have : decide (V.bl i = V.bl j) = decide (i = j) := by simp
  exact ⟨rfl, this ▸ k _ B H (.refl hO) rfl⟩
theorem op2_neB {i j : Bool} : Op2 X.K rNe O (.bl i) (.bl j) (.bl (!decide (i = j))) O := fun B H x y hO h1 h2 Q k => by
  cases (show x = .bl i from h1); cases (show y = .bl j from h2)
  have : decide (V.bl i = V.bl j) = decide (i = j) := by simp
  exact ⟨rfl, this ▸ k _ B H (.refl hO) rfl⟩
section
variable {i j : Int} (ha : Ev X a ρ O (.int i) O1) (hb : Ev X b ρ O1 (.int j) O2)
include ha hb
theorem et_lt : Et X (.Compare a [.Lt] [b] pos) ρ O (decide (i < j)) O2 := et_cmp op_lt (nomark _) ha hb op2_B0
theorem et_le : Et X (.Compare a [.LtE] [b] pos) ρ O (decide (i ≤ j)) O2 := et_cmp op_le (nomark _) ha hb op2_B0
theorem et_gt : Et X (.Compare a [.Gt] [b] pos) ρ O (decide (j < i)) O2 := et_cmp op_gt (nomark _) ha hb op2_B0
theorem et_ge : Et X (.Compare a [.GtE] [b] pos) ρ O (decide (j ≤ i)) O2 := et_cmp op_ge (nomark _) ha hb op2_B0
theorem et_eqI : Et X (.Compare a [.Eq] [b] pos) ρ O (decide (i = j)) O2 := et_cmp op_eq (nomark _) ha hb op2_eqI
theorem et_neI : Et X (.Compare a [.NotEq] [b] pos) ρ O (!decide (i = j)) O2 := et_cmp op_ne (nomark _) ha hb op2_neI
theorem ev_lt : Ev X (.Compare a [.Lt] [b] pos) ρ O (.bl (decide (i < j))) O2 := ev_cmp op_lt (nomark _) ha hb op2_B0
theorem ev_le : Ev X (.Compare a [.LtE] [b] pos) ρ O (.bl (decide (i ≤ j))) O2 := ev_cmp op_le (nomark _) ha hb op2_B0
theorem ev_gt : Ev X (.Compare a [.Gt] [b] pos) ρ O (.bl (decide (j < i))) O2 := ev_cmp op_gt (nomark _) ha hb op2_B0
theorem ev_ge : Ev X (.Compare a [.GtE] [b] pos) ρ O (.bl (decide (j ≤ i))) O2 := ev_cmp op_ge (nomark _) ha hb op2_B0
theorem ev_eqI : Ev X (.Compare a [.Eq] [b] pos) ρ O (.bl (decide (i = j))) O2 := ev_cmp op_eq (nomark _) ha hb op2_eqI
theorem ev_neI : Ev X (.Compare a [.NotEq] [b] pos) ρ O (.bl (!decide (i = j))) O2 := ev_cmp op_ne (nomark _) ha hb op2_neI
end
/-- is None, whatever the left one -/
def isNon : D → Bool
  | .non => true
  | .raw .non => true
  | _ => false
theorem rep_non {K : PySem.W.Frag} {B : Hp} {v : V} {d : D} (r : rep K B v d) : decide (v = .non) = isNon d := by
  cases d with
  | non => cases (show v = .non from r); rfl
  | bl b => cases (show v = .bl b from r); rfl
  | int i => cases (show v = .int i from r); rfl
  | str s => cases (show v = .str s from r); rfl
  | raw u =>
    have e : v = u := r
    subst e
    cases v <;> rfl
  | lst ds => obtain ⟨a, vs, rfl, _⟩ := r; rfl
  | tup ds => obtain ⟨a, vs, rfl, _⟩ := r; rfl
theorem op2_isN : Op2 X.K (fun x y H Q => y = .non ∧ Q (.bl (decide (x = .non))) H) O d .non (.bl (isNon d)) O := fun B H x y hO h1 h2 Q k => ⟨h2, by rw [rep_non h1]; exact k _ B H (.refl hO) rfl⟩
theorem op2_notN : Op2 X.K (fun x y H Q => y = .non ∧ Q (.bl (!decide (x = .non))) H) O d .non (.bl (!isNon d)) O := fun B H x y hO h1 h2 Q k => ⟨h2, by rw [rep_non h1]; exact k _ B H (.refl hO) rfl⟩
theorem et_isN {j : Nat} {p2 : Pos} (ha : Ev X a ρ O d O1) : Et X (.Compare a [.Is] [.Constant .none j p2] pos) ρ O (isNon d) O1 := et_cmp op_isN (nomark _) ha ev_non op2_isN
theorem et_notN {j : Nat} {p2 : Pos} (ha : Ev X a ρ O d O1) : Et X (.Compare a [.IsNot] [.Constant .none j p2] pos) ρ O (!isNon d) O1 := et_cmp op_notN (nomark _) ha ev_non op2_notN
theorem ev_isN {j : Nat} {p2 : Pos} (ha : Ev X a ρ O d O1) : Ev X (.Compare a [.Is] [.Constant .none j p2] pos) ρ O (.bl (isNon d)) O1 := ev_cmp op_isN (nomark _) ha ev_non op2_isN
theorem ev_notN {j : Nat} {p2 : Pos} (ha : Ev X a ρ O d O1) : Ev X (.Compare a [.IsNot] [.Constant .none j p2] pos) ρ O (.bl (!isNon d)) O1 := ev_cmp op_notN (nomark _) ha ev_non op2_notN
/-- a op b op' c, b and c without an effect on what is owned where it matters -/
theorem ev_chain {op op' : CmpOp} {r r' : R2} {p q : Bool} (ho : OpR X (compareOp op) r) (ho' : OpR X (compareOp op') r') (hm : lastMarks [op, op'] [b, c] = false) (ha : Ev X a ρ O d1 O) (hb : Ev X b ρ O d2 O) (hc : Ev X c ρ O d3 O)
    (h1 : Op2 X.K r O d1 d2 (.bl p) O) (h2 : Op2 X.K r' O d2 d3 (.bl q) O) : Ev X (.Compare a [op, op'] [b, c] pos) ρ O (.bl (p && q)) O := fun B H σ hO hS Q k =>
  w_pe (pe_chain ho ho' pe_w pe_w pe_w hm) (ha B H σ hO hS _ fun x B1 H1 n1 r1 => hb B1 H1 σ n1.st (hS.mono n1.base) _ fun y B2 H2 n2 r2 =>
    h1 B2 H2 x y n2.st (r1.mono n2.base) r2 _ fun v B3 H3 n3 r3 => ⟨p, r3, by
      cases p with
      | true =>
        refine iteT ?_
        exact hc B3 H3 σ n3.st (hS.mono ((n1.trans n2).trans n3).base) _ fun z B4 H4 n4 r4 => h2 B4 H4 y z n4.st (r2.mono (n3.trans n4).base) r4 _ fun v5 B5 H5 n5 r5 => k v5 B5 H5 ((((n1.trans n2).trans n3).trans n4).trans n5) r5
      | false =>
        refine iteF ?_
        exact k _ B3 H3 ((n1.trans n2).trans n3) rfl⟩)
theorem et_chain {op op' : CmpOp} {r r' : R2} {p q : Bool} (ho : OpR X (compareOp op) r) (ho' : OpR X (compareOp op') r') (hm : lastMarks [op, op'] [b, c] = false) (ha : Ev X a ρ O d1 O) (hb : Ev X b ρ O d2 O) (hc : Ev X c ρ O d3 O)
    (h1 : Op2 X.K r O d1 d2 (.bl p) O) (h2 : Op2 X.K r' O d2 d3 (.bl q) O) : Et X (.Compare a [op, op'] [b, c] pos) ρ O (p && q) O := fun B H σ hO hS Q k =>
  w_pt (pt_chain ho ho' pe_w pe_w pe_w hm) (ha B H σ hO hS _ fun x B1 H1 n1 r1 => hb B1 H1 σ n1.st (hS.mono n1.base) _ fun y B2 H2 n2 r2 =>
    h1 B2 H2 x y n2.st (r1.mono n2.base) r2 _ fun v B3 H3 n3 r3 => ⟨p, r3, by
      cases p with
      | true =>
        refine iteT ?_
        exact hc B3 H3 σ n3.st (hS.mono ((n1.trans n2).trans n3).base) _ fun z B4 H4 n4 r4 => h2 B4 H4 y z n4.st (r2.mono (n3.trans n4).base) r4 _ fun v5 B5 H5 n5 r5 => ⟨q, r5, k B5 H5 ((((n1.trans n2).trans n3).trans n4).trans n5)⟩
      | false =>
        refine iteF ?_
        exact ⟨false, rfl, k B3 H3 ((n1.trans n2).trans n3)⟩⟩)
/-- 0 <= i < n and its like -/
theorem ev_leLt {i j l : Int} (hm : lastMarks [.LtE, .Lt] [b, c] = false := by with_unfolding_all rfl) (ha : Ev X a ρ O (.int i) O) (hb : Ev X b ρ O (.int j) O) (hc : Ev X c ρ O (.int l) O) : Ev X (.Compare a [.LtE, .Lt] [b, c] pos) ρ O (.bl (decide (i ≤ j) && decide (j < l))) O :=
  ev_chain op_le op_lt hm ha hb hc op2_B0 op2_B0
theorem et_leLt {i j l : Int} (hm : lastMarks [.LtE, .Lt] [b, c] = false := by with_unfolding_all rfl) (ha : Ev X a ρ O (.int i) O) (hb : Ev X b ρ O (.int j) O) (hc : Ev X c ρ O (.int l) O) : Et X (.Compare a [.LtE, .Lt] [b, c] pos) ρ O (decide (i ≤ j) && decide (j < l)) O :=
  et_chain op_le op_lt hm ha hb hc op2_B0 op2_B0
theorem ev_leLe {i j l : Int} (hm : lastMarks [.LtE, .LtE] [b, c] = false := by with_unfolding_all rfl) (ha : Ev X a ρ O (.int i) O) (hb : Ev X b ρ O (.int j) O) (hc : Ev X c ρ O (.int l) O) : Ev X (.Compare a [.LtE, .LtE] [b, c] pos) ρ O (.bl (decide (i ≤ j) && decide (j ≤ l))) O :=
  ev_chain op_le op_le hm ha hb hc op2_B0 op2_B0
theorem et_leLe {i j l : Int} (hm : lastMarks [.LtE, .LtE] [b, c] = false := by with_unfolding_all rfl) (ha : Ev X a ρ O (.int i) O) (hb : Ev X b ρ O (.int j) O) (hc : Ev X c ρ O (.int l) O) : Et X (.Compare a [.LtE, .LtE] [b, c] pos) ρ O (decide (i ≤ j) && decide (j ≤ l)) O :=
  et_chain op_le op_le hm ha hb hc op2_B0 op2_B0

/-! ### and, or, not, if -/
/-- a bool's value as a test -/
theorem Ev.et {p : Bool} (h : Ev X e ρ O (.bl p) O1) (he : ∀ whole, isTrue e X.env whole = (do let v ← whole; standAt e.pos; holding [v] (truthy v)) := by intro _; rfl) : Et X e ρ O p O1 := fun B H σ hO hS Q k =>
  w_pt (pt_val pe_w he) (h B H σ hO hS _ fun v B1 H1 n1 r1 => ⟨p, r1, k B1 H1 n1⟩)
theorem et_not {p : Bool} (h : Et X a ρ O p O1) : Et X (.UnaryOp .Not a pos) ρ O (!p) O1 := fun B H σ hO hS Q k => w_pt (pt_not pt_w) (h B H σ hO hS _ fun B1 H1 n1 => k B1 H1 n1)
theorem ev_not {p : Bool} (h : Ev X a ρ O (.bl p) O1) : Ev X (.UnaryOp .Not a pos) ρ O (.bl (!p)) O1 := fun B H σ hO hS Q k =>
  w_pe (pe_not pe_w) (h B H σ hO hS _ fun v B1 H1 n1 r1 => ⟨p, r1, k _ B1 H1 n1 rfl⟩)
/-- the rest of an and, an or (tests) -/
def Ew (X : Cx) (e : Expr) (ρ : Ro) (O : List Own) (b : Bool) (O' : List Own) : Prop :=
  ∃ t : TT, PW X e t ∧ ∀ (B H : Hp) (σ : L2.St), OSt X.K O B H → Slots X.K B σ ρ → ∀ Q : Bool → Hp → Prop, (∀ B' H', Next X.K O B H O' B' H' → Q b H') → t σ H Q
theorem Ew.et {p : Bool} (h : Ew X e ρ O p O1) : Et X e ρ O p O1 := by
  obtain ⟨t, h1, h2⟩ := h
  exact fun B H σ hO hS Q k => w_pt h1.pt (h2 B H σ hO hS Q k)
theorem ew_and1 {p : Bool} (h : Et X a ρ O p O1) : Ew X (.BoolOp .And [a] pos) ρ O p O1 := ⟨wT X a, pw_and1 pt_w, h⟩
theorem ew_or1 {p : Bool} (h : Et X a ρ O p O1) : Ew X (.BoolOp .Or [a] pos) ρ O p O1 := ⟨wT X a, pw_or1 pt_w, h⟩
theorem ew_and {p q : Bool} (h : Et X a ρ O p O) (h2 : p = true → Ew X (.BoolOp .And (b :: es) pos) ρ O q O) : Ew X (.BoolOp .And (a :: b :: es) pos) ρ O (p && q) O := by
  cases p with
  | true =>
    obtain ⟨t, h3, h4⟩ := h2 rfl
    exact ⟨_, pw_and pt_w h3, fun B H σ hO hS Q k => h B H σ hO hS _ fun B1 H1 n1 => iteT (h4 B1 H1 σ n1.st (hS.mono n1.base) Q fun B2 H2 n2 => k B2 H2 (n1.trans n2))⟩
  | false =>
    refine ⟨_, pw_and pt_w (tB' := fun σ H Q => ∀ wh pins s, Inv X pins σ H s → wpAny (model X.prog X.w) X.A (isTrue (.BoolOp .And (b :: es) pos) X.env wh) (TP X pins σ Q) X.xe s) ⟨fun wh pins s σ H Q I h => h wh pins s I⟩, fun B H σ hO hS Q k => h B H σ hO hS _ fun B1 H1 n1 => iteF (k B1 H1 n1)⟩
theorem ew_or {p q : Bool} (h : Et X a ρ O p O) (h2 : p = false → Ew X (.BoolOp .Or (b :: es) pos) ρ O q O) : Ew X (.BoolOp .Or (a :: b :: es) pos) ρ O (p || q) O := by
  cases p with
  | false =>
    obtain ⟨t, h3, h4⟩ := h2 rfl
    exact ⟨_, pw_or pt_w h3, fun B H σ hO hS Q k => h B H σ hO hS _ fun B1 H1 n1 => iteF (h4 B1 H1 σ n1.st (hS.mono n1.base) Q fun B2 H2 n2 => k B2 H2 (n1.trans n2))⟩
  | true =>
    refine ⟨_, pw_or pt_w (tB' := fun σ H Q => ∀ wh pins s, Inv X pins σ H s → wpAny (model X.prog X.w) X.A (isTrue (.BoolOp .Or (b :: es) pos) X.env wh) (TP X pins σ Q) X.xe s) ⟨fun wh pins s σ H Q I h => h wh pins s I⟩, fun B H σ hO hS Q k => h B H σ hO hS _ fun B1 H1 n1 => iteT (k B1 H1 n1)⟩
theorem et_and2 {p q : Bool} (h : Et X a ρ O p O) (h2 : p = true → Et X b ρ O q O) : Et X (.BoolOp .And [a, b] pos) ρ O (p && q) O := (ew_and h fun z => ew_and1 (h2 z)).et
theorem et_or2 {p q : Bool} (h : Et X a ρ O p O) (h2 : p = false → Et X b ρ O q O) : Et X (.BoolOp .Or [a, b] pos) ρ O (p || q) O := (ew_or h fun z => ew_or1 (h2 z)).et
/-- .. as values -/
theorem ev_and2 {p q : Bool} (h : Ev X a ρ O (.bl p) O) (h2 : p = true → Ev X b ρ O (.bl q) O) : Ev X (.BoolOp .And [a, b] pos) ρ O (.bl (p && q)) O := fun B H σ hO hS Q k =>
  w_pe (pe_and pe_w (pe_one pe_w)) (h B H σ hO hS _ fun v B1 H1 n1 r1 => ⟨p, r1, by
    cases p with
    | true => exact iteT (h2 rfl B1 H1 σ n1.st (hS.mono n1.base) Q fun v B2 H2 n2 r2 => k v B2 H2 (n1.trans n2) r2)
    | false => exact iteF (k _ B1 H1 n1 rfl)⟩)
theorem ev_or2 {p q : Bool} (h : Ev X a ρ O (.bl p) O) (h2 : p = false → Ev X b ρ O (.bl q) O) : Ev X (.BoolOp .Or [a, b] pos) ρ O (.bl (p || q)) O := fun B H σ hO hS Q k =>
  w_pe (pe_or pe_w (pe_one pe_w)) (h B H σ hO hS _ fun v B1 H1 n1 r1 => ⟨p, r1, by
    cases p with
    | false => exact iteF (h2 rfl B1 H1 σ n1.st (hS.mono n1.base) Q fun v B2 H2 n2 r2 => k v B2 H2 (n1.trans n2) r2)
    | true => exact iteT (k _ B1 H1 n1 rfl)⟩)
theorem ev_if {p : Bool} {O1 O2 O3 : List Own} (hc : Et X c ρ O p O1) (h1 : p = true → Ev X a ρ O1 d1 O2) (h2 : p = false → Ev X b ρ O1 d2 O3) : Ev X (.IfExp c a b pos) ρ O (if p then d1 else d2) (if p then O2 else O3) := fun B H σ hO hS Q k =>
  w_pe (pe_ifExp pt_w pe_w pe_w) (hc B H σ hO hS _ fun B1 H1 n1 => by
    cases p with
    | true => exact iteT (h1 rfl B1 H1 σ n1.st (hS.mono n1.base) Q fun v B2 H2 n2 r2 => k v B2 H2 (n1.trans n2) r2)
    | false => exact iteF (h2 rfl B1 H1 σ n1.st (hS.mono n1.base) Q fun v B2 H2 n2 r2 => k v B2 H2 (n1.trans n2) r2))

/-! ### arguments, displays -/
theorem ea_nil : Ea X [] ρ O [] O := fun B H σ hO hS Q k => w_pa pa_nil (k [] B H (.refl hO) .nil)
theorem ea_cons (h : Ev X a ρ O d O1) (t : Ea X es ρ O1 ds O2) (hs : starEach (a :: es) X.env = (false, eval a X.env) :: starEach es X.env := by rfl) : Ea X (a :: es) ρ O (d :: ds) O2 := fun B H σ hO hS Q k =>
  w_pa (pa_cons pe_w pa_w hs) (h B H σ hO hS _ fun v B1 H1 n1 r1 => t B1 H1 σ n1.st (hS.mono n1.base) _ fun vs B2 H2 n2 r2 => k _ B2 H2 (n1.trans n2) (.cons (r1.mono n2.base) r2))
theorem ev_tup {x1 : Nat} (h : Ea X es ρ O ds O1) (hl : ds.length ≤ lim := by exact Nat.le_of_ble_eq_true rfl) : Ev X (.Tuple es x1 pos) ρ O (.tup ds) O1 := fun B H σ hO hS Q k =>
  w_pe (pe_tup pa_w) (h B H σ hO hS _ fun vs B1 H1 n1 r1 => ⟨by rw [r1.length]; exact lim_line hl, fun p hp => by
    have n := (Next.cell (K := X.K) (o := .tup vs) n1.st.ext hp).pure n1.st
    exact k _ _ _ (n1.trans n) ⟨p, vs, rfl, upd_same, hl, r1.mono n.base⟩⟩)
theorem evn_lst (h : Ea X es ρ O ds O1) (hl : ds.length ≤ lim := by exact Nat.le_of_ble_eq_true rfl) : EvN X (.List es pos) ρ O ds O1 := fun B H σ hO hS Q k =>
  w_pe (pe_lst pa_w) (h B H σ hO hS _ fun vs B1 H1 n1 r1 => ⟨by rw [r1.length]; exact lim_line hl, fun p hp => by
    exact k p _ _ (n1.trans (Next.newL n1.st hp hl r1))⟩)

/-! ### items -/
theorem ev_ixL {xs : List D} {i : Int} (ha : Ev X a ρ O (.lst xs) O1) (hb : Ev X b ρ O1 (.int i) O2) (hi : atI xs i = some d) (hs : PlainIx b := by exact fun _ _ => rfl) : Ev X (.Subscript a b pos) ρ O d O2 := fun B H σ hO hS Q k =>
  w_pe (pe_ix ix_list pe_w pe_w hs) (ha B H σ hO hS _ fun x B1 H1 n1 r1 => hb B1 H1 σ n1.st (hS.mono n1.base) _ fun y B2 H2 n2 r2 => by
    obtain ⟨p, vs, rfl, e1, l1, rr⟩ := r1.mono n2.base
    obtain ⟨v, h1, h2⟩ := atI_rep rr hi
    exact ⟨p, vs, i, v, rfl, r2, SqL.of (n2.st.ext _ _ e1), h1, k v B2 H2 (n1.trans n2) h2⟩)
theorem ev_ixT {xs : List D} {i : Int} (ha : Ev X a ρ O (.tup xs) O1) (hb : Ev X b ρ O1 (.int i) O2) (hi : atI xs i = some d) (hs : PlainIx b := by exact fun _ _ => rfl) : Ev X (.Subscript a b pos) ρ O d O2 := fun B H σ hO hS Q k =>
  w_pe (pe_ix ix_tup pe_w pe_w hs) (ha B H σ hO hS _ fun x B1 H1 n1 r1 => hb B1 H1 σ n1.st (hS.mono n1.base) _ fun y B2 H2 n2 r2 => by
    obtain ⟨p, vs, rfl, e1, l1, rr⟩ := r1.mono n2.base
    obtain ⟨v, h1, h2⟩ := atI_rep rr hi
    exact ⟨p, vs, i, v, rfl, r2, SqT.of (n2.st.ext _ _ e1), h1, k v B2 H2 (n1.trans n2) h2⟩)
/-- .. of an owned list -/
theorem ev_ixO {xs : List D} {p : Addr} {i : Int} (k : Nat) (ha : Ev X a ρ O (.raw (.ref p)) O1) (hb : Ev X b ρ O1 (.int i) O2) (hk : O2[k]? = some (Own.lst p xs)) (hi : atI xs i = some d) (hs : PlainIx b := by exact fun _ _ => rfl) :
    Ev X (.Subscript a b pos) ρ O d O2 := fun B H σ hO hS Q kk =>
  w_pe (pe_ix ix_list pe_w pe_w hs) (ha B H σ hO hS _ fun x B1 H1 n1 r1 => hb B1 H1 σ n1.st (hS.mono n1.base) _ fun y B2 H2 n2 r2 => by
    cases (show x = .ref p from r1)
    obtain ⟨vs, e1, l1, rr⟩ := n2.st.all _ (List.mem_of_getElem? hk)
    obtain ⟨v, h1, h2⟩ := atI_rep rr hi
    exact ⟨p, vs, i, v, rfl, r2, SqL.of e1, h1, kk v B2 H2 (n1.trans n2) h2⟩)
/-- .. of the script, a list of the module -/
theorem ev_ixS {xs : List V} {p : Addr} {i : Int} {v : V} (ha : Ev X a ρ O (.raw (.ref p)) O1) (hb : Ev X b ρ O1 (.int i) O2) (hk : ∀ B H, OSt X.K O2 B H → SqL X.K H p xs) (hi : atI xs i = some v) (hs : PlainIx b := by exact fun _ _ => rfl) :
    Ev X (.Subscript a b pos) ρ O (.raw v) O2 := fun B H σ hO hS Q kk =>
  w_pe (pe_ix ix_list pe_w pe_w hs) (ha B H σ hO hS _ fun x B1 H1 n1 r1 => hb B1 H1 σ n1.st (hS.mono n1.base) _ fun y B2 H2 n2 r2 => by
    cases (show x = .ref p from r1)
    exact ⟨p, xs, i, v, rfl, r2, hk B2 H2 n2.st, hi, kk v B2 H2 (n1.trans n2) rfl⟩)
/-- slices of a list that stands: a new list -/
def Eo (X : Cx) (e : Option Expr) (ρ : Ro) (O : List Own) (i : Option Int) (O' : List Own) : Prop :=
  ∃ t : TO, PO X e t ∧ ∀ (B H : Hp) (σ : L2.St), OSt X.K O B H → Slots X.K B σ ρ → ∀ Q : Option Int → Hp → Prop, (∀ B' H', Next X.K O B H O' B' H' → Q i H') → t σ H Q
theorem eo_none : Eo X none ρ O none O := ⟨_, po_none, fun B H σ hO hS Q k => k B H (.refl hO)⟩
theorem eo_some {i : Int} (h : Ev X e ρ O (.int i) O1) : Eo X (some e) ρ O (some i) O1 := ⟨_, po_some pe_w, fun B H σ hO hS Q k => h B H σ hO hS _ fun v B1 H1 n1 r1 => ⟨i, r1, k B1 H1 n1⟩⟩
theorem evn_slice {xs : List D} {lo hi : Option Expr} {i j : Option Int} {p2 : Pos} (ha : Ev X a ρ O (.lst xs) O1) (hl : Eo X lo ρ O1 i O2) (hh : Eo X hi ρ O2 j O3) : EvN X (.Subscript a (.Slice lo hi none p2) pos) ρ O (cutD xs i j) O3 := fun B H σ hO hS Q k => by
  obtain ⟨tl, pl, hl⟩ := hl
  obtain ⟨th, ph, hh⟩ := hh
  refine w_pe (pe_slice sl_list pe_w pl ph) (ha B H σ hO hS _ fun x B1 H1 n1 r1 => hl B1 H1 σ n1.st (hS.mono n1.base) _ fun B2 H2 n2 => hh B2 H2 σ n2.st (hS.mono (n1.trans n2).base) _ fun B3 H3 n3 => ?_)
  obtain ⟨p, vs, rfl, e1, l1, rr⟩ := r1.mono (n2.trans n3).base
  refine ⟨p, vs, rfl, SqL.of (n3.st.ext _ _ e1), fun z hz => ?_⟩
  exact k z B3 _ (((n1.trans n2).trans n3).trans (Next.newL n3.st hz (Nat.le_trans (cutD_len _ _ _) l1) (rr.cut i j)))

/-! ### built-ins by their names -/
def CallG (X : Cx) (r : List V → Hp → VK → Prop) (O : List Own) (ds : List D) (d : D) (O' : List Own) : Prop :=
  ∀ B H vs, OSt X.K O B H → reps X.K B vs ds → ∀ Q : VK, (∀ v B' H', Next X.K O B H O' B' H' → rep X.K B' v d → Q v H') → r vs H Q
theorem ev_bcall {x : Str} {id : String} {r : List V → Hp → VK → Prop} {p : Pos} (hc : CallR X (.builtin id) r) (hm : X.mg x = none) (hv : bootBuiltins x = some (.builtin id)) (ha : Ea X (e :: es) ρ O ds O1) (h : CallG X r O1 ds d O2)
    (hg : Gl X x := by rfl) (hn : x ≠ "__name__" := by decide) (hdb : (x == ("__debug__" : Str)) = false := by decide)
    (he : starEach (e :: es) X.env = (false, eval e X.env) :: starEach es X.env := by rfl) (hpl : (backTo pos (starEach es X.env)).any (·.1) = false := by rfl) : Ev X (.Call (.Name x p) (e :: es) [] pos) ρ O d O2 := fun B H σ hO hS Q k =>
  w_pe (pe_callB hc hg hm hv pa_w hn hdb he hpl) (ha B H σ hO hS _ fun vs B1 H1 n1 r1 => h B1 H1 vs n1.st r1 Q fun v B2 H2 n2 r2 => k v B2 H2 (n1.trans n2) r2)
theorem ev_tcall {x : Str} {T : String} {r : List V → Hp → VK → Prop} {p : Pos} (hc : CallR X (.type T) r) (hm : X.mg x = none) (hv : bootBuiltins x = some (.type T)) (ha : Ea X (e :: es) ρ O ds O1) (h : CallG X r O1 ds d O2)
    (hg : Gl X x := by rfl) (hn : x ≠ "__name__" := by decide) (hdb : (x == ("__debug__" : Str)) = false := by decide)
    (he : starEach (e :: es) X.env = (false, eval e X.env) :: starEach es X.env := by rfl) (hpl : (backTo pos (starEach es X.env)).any (·.1) = false := by rfl) : Ev X (.Call (.Name x p) (e :: es) [] pos) ρ O d O2 := fun B H σ hO hS Q k =>
  w_pe (pe_callTy hc hg hm hv pa_w hn hdb he hpl) (ha B H σ hO hS _ fun vs B1 H1 n1 r1 => h B1 H1 vs n1.st r1 Q fun v B2 H2 n2 r2 => k v B2 H2 (n1.trans n2) r2)
theorem evn_tcall {x : Str} {T : String} {r : List V → Hp → VK → Prop} {p : Pos} {xs : List D} (hc : CallR X (.type T) r) (hm : X.mg x = none) (hv : bootBuiltins x = some (.type T)) (ha : Ea X (e :: es) ρ O ds O1)
    (h : ∀ B H vs, OSt X.K O1 B H → reps X.K B vs ds → ∀ Q : VK, (∀ p B' H', Next X.K O1 B H (Own.lst p xs :: O2) B' H' → Q (.ref p) H') → r vs H Q)
    (hg : Gl X x := by rfl) (hn : x ≠ "__name__" := by decide) (hdb : (x == ("__debug__" : Str)) = false := by decide)
    (he : starEach (e :: es) X.env = (false, eval e X.env) :: starEach es X.env := by rfl) (hpl : (backTo pos (starEach es X.env)).any (·.1) = false := by rfl) : EvN X (.Call (.Name x p) (e :: es) [] pos) ρ O xs O2 := fun B H σ hO hS Q k =>
  w_pe (pe_callTy hc hg hm hv pa_w hn hdb he hpl) (ha B H σ hO hS _ fun vs B1 H1 n1 r1 => h B1 H1 vs n1.st r1 Q fun p B2 H2 n2 => k p B2 H2 (n1.trans n2))
theorem one {K : PySem.W.Frag} {B : Hp} {vs : List V} {d : D} (r : reps K B vs [d]) : ∃ v, vs = [v] ∧ rep K B v d := by
  obtain ⟨v, t, rfl, h1, h2⟩ := r
  cases (show t = [] from h2)
  exact ⟨v, rfl, h1⟩
theorem two {K : PySem.W.Frag} {B : Hp} {vs : List V} {d e : D} (r : reps K B vs [d, e]) : ∃ v w, vs = [v, w] ∧ rep K B v d ∧ rep K B w e := by
  obtain ⟨v, t, rfl, h1, h2⟩ := r
  obtain ⟨w, rfl, h3⟩ := one h2
  exact ⟨v, w, rfl, h1, h3⟩
section
variable {p : Pos} (T : X.mg "len" = none)
include T
theorem ev_lenL {xs : List D} (ha : Ev X a ρ O (.lst xs) O1) (hg : Gl X "len" := by rfl) (he : starEach [a] X.env = [(false, eval a X.env)] := by rfl) : Ev X (.Call (.Name "len" p) [a] [] pos) ρ O (.int xs.length) O1 :=
  ev_bcall call_len_seq T PySem.boot_len (ea_cons ha ea_nil (by rw [he] <;> rfl)) (fun B H vs hO r Q k => by
    obtain ⟨v, rfl, q, ws, rfl, e1, l1, rr⟩ := one r
    refine ⟨q, ws, rfl, .inl (SqL.of (hO.ext _ _ e1)), ?_⟩
    rw [rr.length]
    exact k _ B H (.refl hO) rfl) hg (by decide) (by decide) (by rw [he] <;> rfl)
theorem ev_lenT {xs : List D} (ha : Ev X a ρ O (.tup xs) O1) (hg : Gl X "len" := by rfl) (he : starEach [a] X.env = [(false, eval a X.env)] := by rfl) : Ev X (.Call (.Name "len" p) [a] [] pos) ρ O (.int xs.length) O1 :=
  ev_bcall call_len_seq T PySem.boot_len (ea_cons ha ea_nil (by rw [he] <;> rfl)) (fun B H vs hO r Q k => by
    obtain ⟨v, rfl, q, ws, rfl, e1, l1, rr⟩ := one r
    refine ⟨q, ws, rfl, .inr (SqT.of (hO.ext _ _ e1)), ?_⟩
    rw [rr.length]
    exact k _ B H (.refl hO) rfl) hg (by decide) (by decide) (by rw [he] <;> rfl)
theorem ev_lenO {xs : List D} {q : Addr} (k : Nat) (ha : Ev X a ρ O (.raw (.ref q)) O1) (hk : O1[k]? = some (Own.lst q xs)) (hg : Gl X "len" := by rfl) (he : starEach [a] X.env = [(false, eval a X.env)] := by rfl) : Ev X (.Call (.Name "len" p) [a] [] pos) ρ O (.int xs.length) O1 :=
  ev_bcall call_len_seq T PySem.boot_len (ea_cons ha ea_nil (by rw [he] <;> rfl)) (fun B H vs hO r Q kk => by
    obtain ⟨v, rfl, e⟩ := one r
    cases (show v = .ref q from e)
    obtain ⟨ws, e1, l1, rr⟩ := hO.all _ (List.mem_of_getElem? hk)
    refine ⟨q, ws, rfl, .inl (SqL.of e1), ?_⟩
    rw [rr.length]
    exact kk _ B H (.refl hO) rfl) hg (by decide) (by decide) (by rw [he] <;> rfl)
theorem ev_lenS {xs : List V} {q : Addr} (ha : Ev X a ρ O (.raw (.ref q)) O1) (hk : ∀ B H, OSt X.K O1 B H → SqL X.K H q xs) (hg : Gl X "len" := by rfl) (he : starEach [a] X.env = [(false, eval a X.env)] := by rfl) : Ev X (.Call (.Name "len" p) [a] [] pos) ρ O (.int xs.length) O1 :=
  ev_bcall call_len_seq T PySem.boot_len (ea_cons ha ea_nil (by rw [he] <;> rfl)) (fun B H vs hO r Q kk => by
    obtain ⟨v, rfl, e⟩ := one r
    cases (show v = .ref q from e)
    exact ⟨q, xs, rfl, .inl (hk B H hO), kk _ B H (.refl hO) rfl⟩) hg (by decide) (by decide) (by rw [he] <;> rfl)
end
theorem ev_sum {p : Pos} {xs : List Int} (T : X.mg "sum" = none) (ha : Ev X a ρ O (.lst (xs.map D.int)) O1) (hc : X.calm = true := by rfl) (hg : Gl X "sum" := by rfl) (he : starEach [a] X.env = [(false, eval a X.env)] := by rfl) : Ev X (.Call (.Name "sum" p) [a] [] pos) ρ O (.int xs.sum) O1 :=
  ev_bcall (cr_sum hc) T (by decide +kernel) (ea_cons ha ea_nil (by rw [he] <;> rfl)) (fun B H vs hO r Q k => by
    obtain ⟨v, rfl, q, ws, rfl, e1, l1, rr⟩ := one r
    rw [reps_ints rr] at e1
    exact ⟨q, xs, rfl, SqL.of (hO.ext _ _ e1), k _ B H (.refl hO) rfl⟩) hg (by decide) (by decide) (by rw [he] <;> rfl)
theorem ev_all {p : Pos} {xs : List Bool} (T : X.mg "all" = none) (ha : Ev X a ρ O (.lst (xs.map D.bl)) O1) (hc : X.calm = true := by rfl) (hg : Gl X "all" := by rfl) (he : starEach [a] X.env = [(false, eval a X.env)] := by rfl) : Ev X (.Call (.Name "all" p) [a] [] pos) ρ O (.bl (xs.all id)) O1 :=
  ev_bcall (cr_all hc) T (by decide +kernel) (ea_cons ha ea_nil (by rw [he] <;> rfl)) (fun B H vs hO r Q k => by
    obtain ⟨v, rfl, q, ws, rfl, e1, l1, rr⟩ := one r
    rw [reps_bls rr] at e1
    exact ⟨q, xs, rfl, SqL.of (hO.ext _ _ e1), k _ B H (.refl hO) rfl⟩) hg (by decide) (by decide) (by rw [he] <;> rfl)
theorem ev_any {p : Pos} {xs : List Bool} (T : X.mg "any" = none) (ha : Ev X a ρ O (.lst (xs.map D.bl)) O1) (hc : X.calm = true := by rfl) (hg : Gl X "any" := by rfl) (he : starEach [a] X.env = [(false, eval a X.env)] := by rfl) : Ev X (.Call (.Name "any" p) [a] [] pos) ρ O (.bl (xs.any id)) O1 :=
  ev_bcall (cr_any hc) T (by decide +kernel) (ea_cons ha ea_nil (by rw [he] <;> rfl)) (fun B H vs hO r Q k => by
    obtain ⟨v, rfl, q, ws, rfl, e1, l1, rr⟩ := one r
    rw [reps_bls rr] at e1
    exact ⟨q, xs, rfl, SqL.of (hO.ext _ _ e1), k _ B H (.refl hO) rfl⟩) hg (by decide) (by decide) (by rw [he] <;> rfl)
theorem ev_abs {p : Pos} {i : Int} (T : X.mg "abs" = none) (ha : Ev X a ρ O (.int i) O1) (hg : Gl X "abs" := by rfl) (he : starEach [a] X.env = [(false, eval a X.env)] := by rfl) : Ev X (.Call (.Name "abs" p) [a] [] pos) ρ O (.int (if i < 0 then -i else i)) O1 :=
  ev_bcall call_abs T (by decide +kernel) (ea_cons ha ea_nil (by rw [he] <;> rfl)) (fun B H vs hO r Q k => by
    obtain ⟨v, rfl, e⟩ := one r
    cases (show v = .int i from e)
    exact ⟨i, rfl, k _ B H (.refl hO) rfl⟩) hg (by decide) (by decide) (by rw [he] <;> rfl)
theorem ev_max2 {p : Pos} {i j : Int} (T : X.mg "max" = none) (ha : Ea X [a, b] ρ O [.int i, .int j] O1) (hc : X.calm = true := by rfl) (hg : Gl X "max" := by rfl) (he : starEach [a, b] X.env = (false, eval a X.env) :: starEach [b] X.env := by rfl) (he2 : (backTo pos (starEach [b] X.env)).any (·.1) = false := by rfl) :
    Ev X (.Call (.Name "max" p) [a, b] [] pos) ρ O (.int (if j > i then j else i)) O1 :=
  ev_bcall (call_max2 hc) T (by decide +kernel) ha (fun B H vs hO r Q k => by
    obtain ⟨v, w, rfl, e, e'⟩ := two r
    cases (show v = .int i from e); cases (show w = .int j from e')
    exact ⟨i, j, rfl, k _ B H (.refl hO) rfl⟩) hg (by decide) (by decide) he he2
theorem ev_min2 {p : Pos} {i j : Int} (T : X.mg "min" = none) (ha : Ea X [a, b] ρ O [.int i, .int j] O1) (hc : X.calm = true := by rfl) (hg : Gl X "min" := by rfl) (he : starEach [a, b] X.env = (false, eval a X.env) :: starEach [b] X.env := by rfl) (he2 : (backTo pos (starEach [b] X.env)).any (·.1) = false := by rfl) :
    Ev X (.Call (.Name "min" p) [a, b] [] pos) ρ O (.int (if j < i then j else i)) O1 :=
  ev_bcall (call_min2 hc) T (by decide +kernel) ha (fun B H vs hO r Q k => by
    obtain ⟨v, w, rfl, e, e'⟩ := two r
    cases (show v = .int i from e); cases (show w = .int j from e')
    exact ⟨i, j, rfl, k _ B H (.refl hO) rfl⟩) hg (by decide) (by decide) he he2
theorem ev_intB {p : Pos} {i : Bool} (T : X.mg "int" = none) (ha : Ev X a ρ O (.bl i) O1) (hg : Gl X "int" := by rfl) (he : starEach [a] X.env = [(false, eval a X.env)] := by rfl) : Ev X (.Call (.Name "int" p) [a] [] pos) ρ O (.int (if i then 1 else 0)) O1 :=
  ev_tcall call_int1 T (by decide +kernel) (ea_cons ha ea_nil (by rw [he] <;> rfl)) (fun B H vs hO r Q k => by
    obtain ⟨v, rfl, e⟩ := one r
    cases (show v = .bl i from e)
    exact .inr ⟨i, rfl, k _ B H (.refl hO) rfl⟩) hg (by decide) (by decide) (by rw [he] <;> rfl)
theorem ev_divmod {p : Pos} {i j : Int} (T : X.mg "divmod" = none) (ha : Ea X [a, b] ρ O [.int i, .int j] O1) (hd : 0 < j ∧ j < 1073741824) (hg : Gl X "divmod" := by rfl) (he : starEach [a, b] X.env = (false, eval a X.env) :: starEach [b] X.env := by rfl) (he2 : (backTo pos (starEach [b] X.env)).any (·.1) = false := by rfl) :
    Ev X (.Call (.Name "divmod" p) [a, b] [] pos) ρ O (.tup [.int (i / j), .int (i % j)]) O1 :=
  ev_bcall call_divmod T (by decide +kernel) ha (fun B H vs hO r Q k => by
    obtain ⟨v, w, rfl, e, e'⟩ := two r
    cases (show v = .int i from e); cases (show w = .int j from e')
    refine ⟨i, j, rfl, hd, fun z hz => ?_⟩
    have n := (Next.cell (K := X.K) (o := .tup [.int (i / j), .int (i % j)]) hO.ext hz).pure hO
    exact k _ _ _ n ⟨z, _, rfl, upd_same, (by show 2 ≤ 1000000; decide), .cons rfl (.cons rfl .nil)⟩) hg (by decide) (by decide) he he2
/-- list(xs), list(t) -/
theorem evn_listL {p : Pos} {xs : List D} (T : X.mg "list" = none) (ha : Ev X a ρ O (.lst xs) O1) (hg : Gl X "list" := by rfl) (he : starEach [a] X.env = [(false, eval a X.env)] := by rfl) : EvN X (.Call (.Name "list" p) [a] [] pos) ρ O xs O1 :=
  evn_tcall call_list_of T (by decide +kernel) (ea_cons ha ea_nil (by rw [he] <;> rfl)) (fun B H vs hO r Q k => by
    obtain ⟨v, rfl, q, ws, rfl, e1, l1, rr⟩ := one r
    exact ⟨q, ws, rfl, .inl (SqL.of (hO.ext _ _ e1)), fun z hz => k z B _ (Next.newL hO hz l1 rr)⟩) hg (by decide) (by decide) (by rw [he] <;> rfl)
theorem evn_listT {p : Pos} {xs : List D} (T : X.mg "list" = none) (ha : Ev X a ρ O (.tup xs) O1) (hg : Gl X "list" := by rfl) (he : starEach [a] X.env = [(false, eval a X.env)] := by rfl) : EvN X (.Call (.Name "list" p) [a] [] pos) ρ O xs O1 :=
  evn_tcall call_list_of T (by decide +kernel) (ea_cons ha ea_nil (by rw [he] <;> rfl)) (fun B H vs hO r Q k => by
    obtain ⟨v, rfl, q, ws, rfl, e1, l1, rr⟩ := one r
    exact ⟨q, ws, rfl, .inr (SqT.of (hO.ext _ _ e1)), fun z hz => k z B _ (Next.newL hO hz l1 rr)⟩) hg (by decide) (by decide) (by rw [he] <;> rfl)
theorem ev_tupleL {p : Pos} {xs : List D} (T : X.mg "tuple" = none) (ha : Ev X a ρ O (.lst xs) O1) (hg : Gl X "tuple" := by rfl) (he : starEach [a] X.env = [(false, eval a X.env)] := by rfl) : Ev X (.Call (.Name "tuple" p) [a] [] pos) ρ O (.tup xs) O1 :=
  ev_tcall call_tuple_of T (by decide +kernel) (ea_cons ha ea_nil (by rw [he] <;> rfl)) (fun B H vs hO r Q k => by
    obtain ⟨v, rfl, q, ws, rfl, e1, l1, rr⟩ := one r
    refine ⟨q, ws, rfl, .inl ⟨SqL.of (hO.ext _ _ e1), fun z hz => ?_⟩⟩
    have n := (Next.cell (K := X.K) (o := .tup ws) hO.ext hz).pure hO
    exact k _ _ _ n ⟨z, ws, rfl, upd_same, l1, rr.mono n.base⟩) hg (by decide) (by decide) (by rw [he] <;> rfl)
end
end GL
namespace GL
open PySem L2

theorem free_of {K : PySem.W.Frag} {O O' : List Own} {B H B' H' : Hp} (n : Next K O B H O' B' H') {p : Addr} (hp : H' p = none) : H p = none := by
  cases q : H p with
  | none => rfl
  | some o => exact absurd hp (n.keep p (by rw [q]; simp))

/-! ### what is walked -/
structure Src (K : PySem.W.Frag) (B : Hp) (J : It) (ds : List D) : Prop where
  le : ds.length ≤ lim
  go : ∀ i H, i < ds.length → Same B H → J.go i H
  yld : ∀ i H x H' Bi, i < ds.length → Same B Bi → Same Bi H → J.yld i H x H' → ∃ Bi' d, ds[i]? = some d ∧ Next K [] Bi H [] Bi' H' ∧ rep K Bi' x d
  stop : ∀ H, Same B H → J.stop ds.length H
theorem Src.mono {K : PySem.W.Frag} {B B' : Hp} {J : It} {ds : List D} (s : Src K B J ds) (e : Same B B') : Src K B' J ds :=
  ⟨s.le, fun i H h k => s.go i H h (e.trans k), fun i H x H' Bi h k l y => s.yld i H x H' Bi h (e.trans k) l y, fun H k => s.stop H (e.trans k)⟩
def Ei (X : Cx) (tg it : Expr) (ρ : Ro) (O : List Own) (ds : List D) (O' : List Own) : Prop :=
  ∃ wi : TI, PI X tg it wi ∧ ∀ (B H : Hp) (σ : L2.St), OSt X.K O B H → Slots X.K B σ ρ → ∀ R : It → Hp → Prop, (∀ J B' H', Next X.K O B H O' B' H' → Src X.K B' J ds → R J H') → wi σ H R
theorem Next.same {K : PySem.W.Frag} {B H : Hp} (e : Same B H) : Next K [] B H [] B H := Next.refl ⟨e, by simp [GL.foot], fun a m => absurd m (by simp [GL.foot]), fun w m => absurd m (by simp)⟩
section
variable {K : PySem.W.Frag} {B : Hp} {a b : Addr} {vs ws : List V} {ds es : List D}
theorem src_list (h : B a = some (.lst vs)) (hl : ds.length ≤ lim) (r : reps K B vs ds) : Src K B (Itl K a) ds where
  le := hl
  go := fun i H hi e => walk_list.goes i H (by rw [r.length]; exact hi) (SqL.of (e _ _ h))
  yld := fun i H x H' Bi hi e e2 y => by
    obtain ⟨q1, q2⟩ := walk_list.yields i H x H' (by rw [r.length]; exact hi) (SqL.of (e2 _ _ (e _ _ h))) y
    subst q1
    obtain ⟨d, h1, h2⟩ := r.getV q2
    exact ⟨Bi, d, h1, .same e2, h2.mono e⟩
  stop := fun H e => by
    have := (walk_list (K := K) (a := a) (xs := vs)).stops H (SqL.of (e _ _ h))
    rw [r.length] at this; exact this
theorem src_tup (h : B a = some (.tup vs)) (hl : ds.length ≤ lim) (r : reps K B vs ds) : Src K B (Itt K a) ds where
  le := hl
  go := fun i H hi e => walk_tup.goes i H (by rw [r.length]; exact hi) (SqT.of (e _ _ h))
  yld := fun i H x H' Bi hi e e2 y => by
    obtain ⟨q1, q2⟩ := walk_tup.yields i H x H' (by rw [r.length]; exact hi) (SqT.of (e2 _ _ (e _ _ h))) y
    subst q1
    obtain ⟨d, h1, h2⟩ := r.getV q2
    exact ⟨Bi, d, h1, .same e2, h2.mono e⟩
  stop := fun H e => by
    have := (walk_tup (K := K) (a := a) (xs := vs)).stops H (SqT.of (e _ _ h))
    rw [r.length] at this; exact this
def rangeD (lo : Int) (n : Nat) : List D := (List.range n).map fun i => D.int (lo + (i : Nat))
theorem rangeD_len (lo : Int) (n : Nat) : (rangeD lo n).length = n := by simp [rangeD]
theorem rangeD_get {lo : Int} {n i : Nat} (h : i < n) : (rangeD lo n)[i]? = some (D.int (lo + (i : Nat))) := by simp [rangeD, h]
theorem src_range {lo : Int} {n : Nat} (hl : n ≤ lim) : Src K B (Itr lo n) (rangeD lo n) where
  le := by rw [rangeD_len]; exact hl
  go := fun i H hi _ => by rw [rangeD_len] at hi; exact hi
  yld := fun i H x H' Bi hi e e2 y => by
    rw [rangeD_len] at hi
    obtain ⟨q1, q2⟩ := walk_range.yields i H x H' hi trivial y
    subst q1
    exact ⟨Bi, _, rangeD_get hi, .same e2, q2⟩
  stop := fun H _ => by rw [rangeD_len]; exact Nat.le_refl _
/-- pairs -/
theorem src_pair {J : It} {n : Nat} {G : Hp → Prop} {f g : Nat → Option V} {fd gd : Nat → D} (w : Walk J n G (YPair f g)) (hG : ∀ H, Same B H → G H) (hn : n ≤ lim)
    (hf : ∀ i x, i < n → f i = some x → rep K B x (fd i)) (hg : ∀ i x, i < n → g i = some x → rep K B x (gd i)) : Src K B J ((List.range n).map fun i => D.tup [fd i, gd i]) where
  le := by simp; exact hn
  go := fun i H hi e => w.goes i H (by simpa using hi) (hG H e)
  yld := fun i H x H' Bi hi e e2 y => by
    have hi : i < n := by simpa using hi
    obtain ⟨T, u, v, rfl, hT, rfl, h1, h2⟩ := w.yields i H x H' hi (hG H (e.trans e2)) y
    have nx := Next.cell (K := K) (o := .tup [u, v]) e2 hT
    exact ⟨_, .tup [fd i, gd i], by simp [hi], nx, T, [u, v], rfl, upd_same, (by show 2 ≤ 1000000; decide), .cons ((hf i u hi h1).mono (e.trans nx.base)) (.cons ((hg i v hi h2).mono (e.trans nx.base)) .nil)⟩
  stop := fun H e => by
    have := w.stops H (hG H e)
    simpa using this
end
section
variable {X : Cx} {ρ : Ro} {O O1 O2 O3 : List Own} {a b e tg : Expr} {d : D} {xs ys : List D} {pos p : Pos}
theorem ei_list (h : Ev X e ρ O (.lst xs) O1) : Ei X tg e ρ O xs O1 := ⟨_, pi_list pe_w, fun B H σ hO hS R k => h B H σ hO hS _ fun v B1 H1 n1 r1 => by
  obtain ⟨q, vs, rfl, e1, l1, rr⟩ := r1
  exact ⟨q, rfl, ⟨vs, SqL.of (n1.st.ext _ _ e1)⟩, k _ B1 H1 n1 (src_list e1 l1 rr)⟩⟩
theorem ei_tup (h : Ev X e ρ O (.tup xs) O1) : Ei X tg e ρ O xs O1 := ⟨_, pi_tup pe_w, fun B H σ hO hS R k => h B H σ hO hS _ fun v B1 H1 n1 r1 => by
  obtain ⟨q, vs, rfl, e1, l1, rr⟩ := r1
  exact ⟨q, rfl, ⟨vs, SqT.of (n1.st.ext _ _ e1)⟩, k _ B1 H1 n1 (src_tup e1 l1 rr)⟩⟩
theorem ei_range1 {n : Int} (T : X.mg "range" = none) (h : Ev X e ρ O (.int n) O1) (hn : n ≤ 1000000) (hn0 : -1000000 ≤ n) (hg : Gl X "range" := by rfl) (hs : starEach [e] X.env = [(false, eval e X.env)] := by rfl) :
    Ei X tg (.Call (.Name "range" p) [e] [] pos) ρ O (rangeD 0 n.toNat) O1 := ⟨_, pi_range1 hg T pa_w hs, fun B H σ hO hS R k => ea_cons h ea_nil (by rw [hs] <;> rfl) B H σ hO hS _ fun vs B1 H1 n1 r1 => by
  obtain ⟨v, rfl, r⟩ := one r1
  cases (show v = .int n from r)
  exact ⟨n, rfl, by omega, by omega, k _ B1 H1 n1 (src_range (by show n.toNat ≤ 1000000; omega))⟩⟩
theorem ei_range2 {lo n : Int} (T : X.mg "range" = none) (h : Ea X [a, e] ρ O [.int lo, .int n] O1) (h1 : -1000000 ≤ lo) (h2 : lo ≤ 1000000) (h3 : -1000000 ≤ n) (h4 : n ≤ 1000000) (h5 : (n - lo).toNat ≤ 1000000) (hg : Gl X "range" := by rfl)
    (hs : starEach [a, e] X.env = [(false, eval a X.env), (false, eval e X.env)] := by rfl) (hs2 : starEach [e] X.env = [(false, eval e X.env)] := by rfl) :
    Ei X tg (.Call (.Name "range" p) [a, e] [] pos) ρ O (rangeD lo (n - lo).toNat) O1 := ⟨_, pi_range2 hg T pa_w hs hs2, fun B H σ hO hS R k => h B H σ hO hS _ fun vs B1 H1 n1 r1 => by
  obtain ⟨v, w, rfl, r, r'⟩ := two r1
  cases (show v = .int lo from r); cases (show w = .int n from r')
  exact ⟨lo, n, rfl, ⟨by omega, by omega, by omega, by omega⟩, k _ B1 H1 n1 (src_range (by show (n - lo).toNat ≤ 1000000; exact h5))⟩⟩
/-- zip of two lists, enumerate of a list -/
def zipD (xs ys : List D) : List D := (xs.zip ys).map fun p => D.tup [p.1, p.2]
theorem zipD_eq (xs ys : List D) : ((List.range (min xs.length ys.length)).map fun i => D.tup [xs.getD i .non, ys.getD i .non]) = zipD xs ys := by
  refine List.ext_getElem (by simp [zipD, List.length_zip]) fun i h1 h2 => ?_
  have hi : i < xs.length ∧ i < ys.length := by simp at h1; omega
  simp [zipD, hi.1, hi.2]
def enumD (xs : List D) : List D := (List.range xs.length).map fun i => D.tup [D.int (i : Nat), xs.getD i .non]
section
variable {elts : List Expr} {kk : Nat} {tpos : Pos}
theorem ei_zip (T : X.mg "zip" = none) (h : Ea X [a, b] ρ O [.lst xs, .lst ys] O1) (hg : Gl X "zip" := by rfl) (hs : starEach [a, b] X.env = [(false, eval a X.env), (false, eval b X.env)] := by rfl) (hs2 : starEach [b] X.env = [(false, eval b X.env)] := by rfl) :
    Ei X (.Tuple elts kk tpos) (.Call (.Name "zip" p) [a, b] [] pos) ρ O (zipD xs ys) O1 := ⟨_, pi_zip hg T pa_w (by rw [hs, hs2]) (by rw [hs2] <;> rfl), fun B H σ hO hS R k => h B H σ hO hS _ fun vs B1 H1 n1 r1 => by
  obtain ⟨v, w, rfl, r, r'⟩ := two r1
  obtain ⟨q, us, rfl, e1, l1, rr⟩ := r
  obtain ⟨q', us', rfl, e1', l1', rr'⟩ := r'
  refine ⟨q, q', us, us', rfl, SqL.of (n1.st.ext _ _ e1), SqL.of (n1.st.ext _ _ e1'), k _ B1 H1 n1 ?_⟩
  rw [← zipD_eq]
  refine src_pair (walk_zip (K := X.K) (a := q) (b := q') (xs := us) (ys := us') (by rw [rr.length, rr'.length])) (fun H e => ⟨SqL.of (e _ _ e1), SqL.of (e _ _ e1')⟩) (by omega) (fun i x hi hx => ?_) (fun i x hi hx => ?_)
  · obtain ⟨d, h1, h2⟩ := rr.getV hx
    rw [List.getD_eq_getElem?_getD, h1]; exact h2
  · obtain ⟨d, h1, h2⟩ := rr'.getV hx
    rw [List.getD_eq_getElem?_getD, h1]; exact h2⟩
theorem ei_enum (T : X.mg "enumerate" = none) (h : Ev X a ρ O (.lst xs) O1) (hg : Gl X "enumerate" := by rfl) (hs : starEach [a] X.env = [(false, eval a X.env)] := by rfl) :
    Ei X (.Tuple elts kk tpos) (.Call (.Name "enumerate" p) [a] [] pos) ρ O (enumD xs) O1 := ⟨_, pi_enum hg T pa_w hs, fun B H σ hO hS R k => ea_cons h ea_nil (by rw [hs] <;> rfl) B H σ hO hS _ fun vs B1 H1 n1 r1 => by
  obtain ⟨v, rfl, r⟩ := one r1
  obtain ⟨q, us, rfl, e1, l1, rr⟩ := r
  refine ⟨q, us, rfl, SqL.of (n1.st.ext _ _ e1), k _ B1 H1 n1 ?_⟩
  have w := walk_enum (K := X.K) (a := q) (xs := us)
  rw [rr.length] at w
  refine src_pair w (fun H e => SqL.of (e _ _ e1)) l1 (fun i x hi hx => ?_) (fun i x hi hx => ?_)
  · cases hx; rfl
  · obtain ⟨d, h1, h2⟩ := rr.getV hx
    rw [List.getD_eq_getElem?_getD, h1]; exact h2⟩
end
end

/-! ### targets -/
/-- what is given to the target makes ρ to ρ'; the slots is are written -/
def GOk (K : PySem.W.Frag) (g : TG) (d : D) (ρ ρ' : Ro) (is : List Nat) : Prop := ∀ (B : Hp) (v : V) (σ : L2.St) (H : Hp) (Q : L2.St → Hp → Prop), rep K B v d → Same B H → Slots K B σ ρ →
  (∀ σ', Slots K B σ' ρ' → (∀ vs : List Nat, (∀ i ∈ is, i ∈ vs) → wipe σ' vs = wipe σ vs) → Q σ' H) → g v σ H Q
theorem wipe_set {σ : L2.St} {i : Nat} {x : Option V} : ∀ {vs : List Nat}, i ∈ vs → wipe (σ.set i x) vs = wipe σ vs
  | v :: vs, h => by
    show (wipe (σ.set i x) vs).set v none = (wipe σ vs).set v none
    by_cases hm : i ∈ vs
    · rw [wipe_set hm]
    · have e : i = v := (List.mem_cons.mp h).resolve_right hm
      subst e
      have key : ∀ (ws : List Nat) (τ : L2.St), i ∉ ws → wipe (τ.set i x) ws = (wipe τ ws).set i x := fun ws => by
        induction ws with
        | nil => intro τ _; rfl
        | cons w ws ih =>
          intro τ hn
          have h1 : i ≠ w := fun z => hn (z ▸ List.mem_cons_self)
          show (wipe (τ.set i x) ws).set w none = ((wipe τ ws).set w none).set i x
          rw [ih τ fun z => hn (List.mem_cons_of_mem _ z), List.set_comm _ _ h1]
      rw [key vs σ hm, List.set_set]
theorem wipe_wipe (σ : L2.St) (vs : List Nat) : wipe (wipe σ vs) vs = wipe σ vs := by
  have key : ∀ (ws us : List Nat) (τ : L2.St), (∀ w ∈ ws, w ∈ us) → wipe (wipe τ ws) us = wipe τ us := fun ws => by
    induction ws with
    | nil => intro us τ _; rfl
    | cons w ws ih =>
      intro us τ h
      show wipe ((wipe τ ws).set w none) us = _
      rw [wipe_set (h w List.mem_cons_self), ih us τ fun z hz => h z (List.mem_cons_of_mem _ hz)]
  exact key vs vs σ fun _ h => h
section
variable {K : PySem.W.Frag} {d d1 d2 d3 : D} {ρ ρ1 ρ2 : Ro} {is js : List Nat}
theorem gok_name (i : Nat) : GOk K (gName i) d ρ (ρ.set i (some d)) [i] := fun B v σ H Q r e s k =>
  k _ (s.set i r) fun vs h => wipe_set (h i List.mem_cons_self)
def GsOk (K : PySem.W.Frag) (g : TGs) (ds : List D) (ρ ρ' : Ro) (is : List Nat) : Prop := ∀ (B : Hp) (vs : List V) (σ : L2.St) (H : Hp) (Q : L2.St → Hp → Prop), reps K B vs ds → Same B H → Slots K B σ ρ →
  (∀ σ', Slots K B σ' ρ' → (∀ vs : List Nat, (∀ i ∈ is, i ∈ vs) → wipe σ' vs = wipe σ vs) → Q σ' H) → g vs σ H Q
theorem gsok_nil : GsOk K gNil [] ρ ρ [] := fun B vs σ H Q r e s k => ⟨r, k σ s fun _ _ => rfl⟩
theorem gsok_cons {g : TG} {gs : TGs} {ds : List D} (h : GOk K g d ρ ρ1 is) (t : GsOk K gs ds ρ1 ρ2 js) : GsOk K (gCons g gs) (d :: ds) ρ ρ2 (is ++ js) := fun B vs σ H Q r e s k => by
  obtain ⟨v, w, rfl, r1, r2⟩ := r
  refine ⟨v, w, rfl, h B v σ H _ r1 e s fun σ1 s1 w1 => t B w σ1 H _ r2 e s1 fun σ2 s2 w2 => k σ2 s2 fun us hu => ?_⟩
  rw [w2 us fun i m => hu i (List.mem_append_right _ m), w1 us fun i m => hu i (List.mem_append_left _ m)]
theorem gok_tup {n : Nat} {gs : TGs} {ds : List D} (h : GsOk K gs ds ρ ρ1 is) (hn : ds.length = n := by rfl) : GOk K (gTup K n gs) (.tup ds) ρ ρ1 is := fun B v σ H Q r e s k => by
  obtain ⟨a, vs, rfl, e1, l1, rr⟩ := r
  exact ⟨a, vs, rfl, SqT.of (e _ _ e1), by rw [rr.length, hn], h B vs σ H Q rr e s k⟩
end

/-! ### list comprehensions -/
section
variable {X : Cx} {ρ : Ro} {O O1 O2 O3 : List Own} {a b e : Expr} {d : D} {pos p : Pos}
/-- the slots of a comprehension's own names forgotten -/
def wipeR (ρ : Ro) (vs : List Nat) : Ro := vs.foldr (fun i r => r.set i none) ρ
/-- for every context of a comprehension's block -/
def InBlk (X : Cx) (scope : Scope) (P : Cx → Prop) : Prop := ∀ (s : Shared) (H : Hp) (C : Addr) (cl : List (Str × Addr)) (fp : List Addr), P (X.blk s H scope (compEnvC scope cl C X.env) fp)
def tYesE : TT := fun _ H Q => Q true H
theorem evn_lcG {elt tg iter : Expr} {ifs : List Expr} {scope : Scope} {own : List (Str × Nat)} {ds : List D} {g : TG} {is : List Nat} {tt : TT} {out : Nat → List D} {keep : Nat → Bool} {y : Nat → D} {OO : Nat → List Own} {ρt : Nat → Ro}
    (hc : X.calm = true) (hN : X.N.Nodup) (hi : Ei X tg iter ρ O ds O1) (ok : BlkOk X.N X.env.scope scope own)
    (hg : InBlk X scope fun Y => PG Y tg g) (ht : InBlk X scope fun Y => PTs Y ifs tt) (his : ∀ i ∈ is, i ∈ own.map (·.2))
    (hO : OO 0 = O1) (h0 : out 0 = [])
    (hgo : ∀ i d, ds[i]? = some d → GOk X.K g d (wipeR ρ (own.map (·.2))) (ρt i) is)
    (htt : ∀ i d, ds[i]? = some d → ∀ (B H : Hp) (σ : L2.St), OSt X.K (OO i) B H → Slots X.K B σ (ρt i) → ∀ Q : Bool → Hp → Prop, (∀ B' H', Next X.K (OO i) B H (OO i) B' H' → Q (keep i) H') → tt σ H Q)
    (hy : ∀ i d, ds[i]? = some d → keep i = true → InBlk X scope fun Y => Ev Y elt (ρt i) (OO i) (y i) (OO (i + 1)))
    (hn : ∀ i d, ds[i]? = some d → keep i = false → OO (i + 1) = OO i)
    (hout : ∀ i d, ds[i]? = some d → out (i + 1) = if keep i then out i ++ [y i] else out i)
    (hs : ∀ x, foldedSetIterable iter X.env x = pure x := by intro _; rfl) :
    EvN X (.ListComp elt [⟨tg, iter, ifs, 0⟩] scope pos) ρ O (out ds.length) (OO ds.length) := fun B H σ hO' hS Q k => by
  obtain ⟨wi, hpi, hit⟩ := hi
  have hlen : ∀ i, i ≤ ds.length → (out i).length ≤ i := fun i => by
    induction i with
    | zero => intro _; rw [h0]; exact Nat.le_refl _
    | succ i ih =>
      intro hi
      rw [hout i ds[i] (by simp [show i < ds.length by omega])]
      have := ih (by omega)
      split
      · rw [List.length_append]; simp; omega
      · omega
  refine w_pe (pe_lc (te := fun σ' H' Q' => InBlk X scope fun Y => wE Y elt σ' H' Q') hc hN hpi ok hg ht (fun s H0 C cl fp => ⟨fun pins s' σ' H' Q' I h => h s H0 C cl fp pins s' I⟩) hs) ?_
  refine hit B H σ hO' hS _ fun J B1 H1 n1 src => fun Dl hD => ?_
  have n0 := n1.trans (Next.newL n1.st hD (ds := []) (vs := []) (by show 0 ≤ 1000000; decide) .nil)
  refine ⟨fun i m H' => m = ds.length - i ∧ i ≤ ds.length ∧ ∃ Bi, Same B1 Bi ∧ Next X.K O B H (Own.lst Dl (out i) :: OO i) Bi H', ⟨ds.length, by simp, Nat.zero_le _, B1, fun _ _ h => h, by rw [h0, hO]; exact n0⟩, ?_⟩
  rintro i m Hi ⟨rfl, hle, Bi, sB, ni⟩
  by_cases hlt : i < ds.length
  · refine .inr ⟨src.go i Hi hlt (sB.trans ni.st.ext), fun H' => i + 1 ≤ ds.length ∧ ∃ Bj, Same B1 Bj ∧ Next X.K O B H (Own.lst Dl (out (i + 1)) :: OO (i + 1)) Bj H', fun H' ⟨h1, h2⟩ => ⟨ds.length - (i + 1), by omega, rfl, h1, h2⟩, fun x H' yy => ?_⟩
    obtain ⟨Bi', d, hd, nx, rx⟩ := src.yld i Hi x H' Bi hlt sB ni.st.ext yy
    have ny := ni.trans (nx.pure ni.st)
    have sB' := sB.trans nx.base
    refine hgo i d hd Bi' x _ H' _ rx ny.st.ext ((hS.mono ny.base).wipe _) fun σ2 s2 w2 => ⟨?_, ?_⟩
    · have := w2 (own.map (·.2)) his
      rw [this, wipe_wipe]
    · have st0 : OSt X.K (OO i) Bi' H' := (ny.st.perm (O' := OO i ++ [Own.lst Dl (out i)]) (List.perm_append_comm (l₁ := [Own.lst Dl (out i)]))).left
      refine htt i d hd Bi' H' σ2 st0 s2 _ fun B3 H3 n3 => ?_
      have m3 : Next X.K O B H (Own.lst Dl (out i) :: OO i) B3 H3 := ny.trans ((Next.beside (R := [Own.lst Dl (out i)]) (ny.st.perm (List.perm_append_comm (l₁ := [Own.lst Dl (out i)]))) n3).perm (List.perm_append_comm (l₂ := [Own.lst Dl (out i)])) (List.perm_append_comm (l₂ := [Own.lst Dl (out i)])))
      cases hk : keep i with
      | true =>
        refine iteT ?_
        have st3 : OSt X.K (OO i) B3 H3 := n3.st
        intro s H0 C cl fp
        refine hy i d hd hk s H0 C cl fp B3 H3 σ2 st3 (s2.mono n3.base) _ fun v B4 H4 n4 r4 => ?_
        have m4 : Next X.K O B H (Own.lst Dl (out i) :: OO (i + 1)) B4 H4 := m3.trans ((Next.beside (R := [Own.lst Dl (out i)]) (m3.st.perm (List.perm_append_comm (l₁ := [Own.lst Dl (out i)]))) n4).perm (List.perm_append_comm (l₂ := [Own.lst Dl (out i)])) (List.perm_append_comm (l₂ := [Own.lst Dl (out i)])))
        obtain ⟨acc, ha, hl, hr⟩ := m4.st.all (Own.lst Dl (out i)) List.mem_cons_self
        have hli := hlen i (by omega)
        have hds := src.le
        refine ⟨acc, ha, by rw [hr.length]; exact lim_lt (by omega), by omega, B4, (sB'.trans n3.base).trans n4.base, ?_⟩
        have nw := Next.write (K := X.K) (B := B4) (H := H4) (p := Dl) (o := .lst (acc ++ [v])) (w := Own.lst Dl (out i)) (w' := Own.lst Dl (out i ++ [y i])) (m4.st.left (O := [_])) List.mem_cons_self rfl ⟨_, upd_same, by rw [List.length_append]; simp; omega, hr.snoc r4⟩
        have e := hout i d hd
        rw [hk, if_pos rfl] at e
        rw [e]
        exact m4.trans (Next.beside (O := [_]) (R := OO (i + 1)) m4.st nw)
      | false =>
        refine iteF ⟨by omega, B3, sB'.trans n3.base, ?_⟩
        have e := hout i d hd
        rw [hk, if_neg (by decide)] at e
        rw [e, hn i d hd hk]
        exact m3
  · have e : i = ds.length := by omega
    subst e
    exact .inl ⟨src.stop Hi (sB.trans ni.st.ext), k Dl Bi Hi ni⟩
end
end GL
namespace GL
open PySem L2

section
variable {X : Cx} {ρ : Ro} {O O1 O2 O3 : List Own} {a b c e iter : Expr} {es : List Expr} {d : D} {pos p : Pos} {rest body orelse : List Stmt} {U : Out}
/-! ### comprehensions: the forms one uses -/
theorem evn_map1 {α : Type} {xs : List α} {gD f : α → D} {n : Str} {pn : Pos} {elt : Expr} {scope : Scope} (i : Nat) (hN : X.N.Nodup) (hi : Ei X (.Name n pn) iter ρ O (xs.map gD) O1)
    (ok : BlkOk X.N X.env.scope scope [(n, i)]) (hg : InBlk X scope fun Y => PG Y (.Name n pn) (gName i)) (hy : ∀ x, x ∈ xs → InBlk X scope fun Y => Ev Y elt ((ρ.set i none).set i (some (gD x))) O1 (f x) O1)
    (hc : X.calm = true := by rfl) (hs : ∀ x, foldedSetIterable iter X.env x = pure x := by intro _; rfl) : EvN X (.ListComp elt [⟨.Name n pn, iter, [], 0⟩] scope pos) ρ O (xs.map f) O1 := by
  have h := evn_lcG (X := X) (ρ := ρ) (O := O) (elt := elt) (pos := pos) (own := [(n, i)]) (is := [i]) (tt := tYes) (out := fun j => (xs.take j).map f) (keep := fun _ => true) (y := fun j => (xs[j]?.map f).getD .non) (OO := fun _ => O1)
    (ρt := fun j => (ρ.set i none).set i (some ((xs[j]?.map gD).getD .non))) hc hN hi ok hg (fun _ _ _ _ _ => pts_nil) (by simp) rfl (by simp) (fun j d hd => ?_) (fun j d hd B H σ hO hS Q k => k B H (.refl hO)) (fun j d hd _ => ?_) (fun j d hd z => by cases z) (fun j d hd => ?_) hs
  · simp only [List.length_map, List.take_length] at h; exact h
  · rw [List.getElem?_map] at hd
    cases e : xs[j]? with
    | none => rw [e] at hd; cases hd
    | some x =>
      rw [e] at hd; cases hd
      simp only [Option.map_some, Option.getD_some]
      exact gok_name i
  · rw [List.getElem?_map] at hd
    cases e : xs[j]? with
    | none => rw [e] at hd; cases hd
    | some x =>
      simp only [Option.map_some, Option.getD_some]
      exact hy x (List.mem_of_getElem? e)
  · rw [List.getElem?_map] at hd
    cases e : xs[j]? with
    | none => rw [e] at hd; cases hd
    | some x =>
      rw [if_pos rfl]
      have hj := (List.getElem?_eq_some_iff.mp e).1
      have he := (List.getElem?_eq_some_iff.mp e).2
      rw [List.take_succ, e]
      simp
/-- with a test -/
theorem evn_filter1 {α : Type} {xs : List α} {gD f : α → D} {q : α → Bool} {n : Str} {pn : Pos} {elt cond : Expr} {scope : Scope} (i : Nat) (hN : X.N.Nodup) (hi : Ei X (.Name n pn) iter ρ O (xs.map gD) O1)
    (ok : BlkOk X.N X.env.scope scope [(n, i)]) (hg : InBlk X scope fun Y => PG Y (.Name n pn) (gName i)) (ht : ∀ x, x ∈ xs → InBlk X scope fun Y => Et Y cond ((ρ.set i none).set i (some (gD x))) O1 (q x) O1)
    (hy : ∀ x, x ∈ xs → q x = true → InBlk X scope fun Y => Ev Y elt ((ρ.set i none).set i (some (gD x))) O1 (f x) O1)
    (hc : X.calm = true := by rfl) (hs : ∀ x, foldedSetIterable iter X.env x = pure x := by intro _; rfl) : EvN X (.ListComp elt [⟨.Name n pn, iter, [cond], 0⟩] scope pos) ρ O ((xs.filter q).map f) O1 := by
  have h := evn_lcG (X := X) (ρ := ρ) (O := O) (elt := elt) (pos := pos) (own := [(n, i)]) (is := [i]) (tt := fun σ' H' Q' => InBlk X scope fun Y => wT Y cond σ' H' Q') (out := fun j => ((xs.take j).filter q).map f) (keep := fun j => (xs[j]?.map q).getD false) (y := fun j => (xs[j]?.map f).getD .non) (OO := fun _ => O1)
    (ρt := fun j => (ρ.set i none).set i (some ((xs[j]?.map gD).getD .non))) hc hN hi ok hg (fun s H0 C cl fp => pts_one ⟨fun pins s' σ' H' Q' I h => h s H0 C cl fp pins s' I⟩) (by simp) rfl (by simp) (fun j d hd => ?_) (fun j d hd B H σ hO hS Q k => ?_) (fun j d hd z => ?_) (fun j d hd z => rfl) (fun j d hd => ?_) hs
  · simp only [List.length_map, List.take_length] at h; exact h
  · rw [List.getElem?_map] at hd
    cases e : xs[j]? with
    | none => rw [e] at hd; cases hd
    | some x =>
      rw [e] at hd; cases hd
      simp only [Option.map_some, Option.getD_some]
      exact gok_name i
  · rw [List.getElem?_map] at hd
    cases e : xs[j]? with
    | none => rw [e] at hd; cases hd
    | some x =>
      simp only [e, Option.map_some, Option.getD_some] at hS k
      exact fun s H0 C cl fp => ht x (List.mem_of_getElem? e) s H0 C cl fp B H σ hO hS Q k
  · rw [List.getElem?_map] at hd
    cases e : xs[j]? with
    | none => rw [e] at hd; cases hd
    | some x =>
      simp only [e, Option.map_some, Option.getD_some] at z ⊢
      exact hy x (List.mem_of_getElem? e) z
  · rw [List.getElem?_map] at hd
    cases e : xs[j]? with
    | none => rw [e] at hd; cases hd
    | some x =>
      simp only [Option.map_some, Option.getD_some]
      rw [List.take_succ, e, List.filter_append]
      cases hq : q x <;> simp [hq]
/-- a pair's target -/
theorem evn_map2 {α : Type} {xs : List α} {g1 g2 f : α → D} {n m : Str} {pn pm pt : Pos} {kt : Nat} {elt : Expr} {scope : Scope} (i j : Nat) (hN : X.N.Nodup) (hi : Ei X (.Tuple [.Name n pn, .Name m pm] kt pt) iter ρ O (xs.map fun x => D.tup [g1 x, g2 x]) O1)
    (ok : BlkOk X.N X.env.scope scope [(n, i), (m, j)]) (hg : InBlk X scope fun Y => PG Y (.Tuple [.Name n pn, .Name m pm] kt pt) (gTup X.K 2 (gCons (gName i) (gCons (gName j) gNil))))
    (hy : ∀ x, x ∈ xs → InBlk X scope fun Y => Ev Y elt ((((ρ.set j none).set i none).set i (some (g1 x))).set j (some (g2 x))) O1 (f x) O1)
    (hc : X.calm = true := by rfl) (hs : ∀ x, foldedSetIterable iter X.env x = pure x := by intro _; rfl) : EvN X (.ListComp elt [⟨.Tuple [.Name n pn, .Name m pm] kt pt, iter, [], 0⟩] scope pos) ρ O (xs.map f) O1 := by
  have h := evn_lcG (X := X) (ρ := ρ) (O := O) (elt := elt) (pos := pos) (own := [(n, i), (m, j)]) (is := [i, j]) (tt := tYes) (out := fun j => (xs.take j).map f) (keep := fun _ => true) (y := fun j => (xs[j]?.map f).getD .non) (OO := fun _ => O1)
    (ρt := fun l => (((ρ.set j none).set i none).set i (some ((xs[l]?.map g1).getD .non))).set j (some ((xs[l]?.map g2).getD .non))) hc hN hi ok hg (fun _ _ _ _ _ => pts_nil) (by simp) rfl (by simp) (fun l d hd => ?_) (fun l d hd B H σ hO hS Q k => k B H (.refl hO)) (fun l d hd _ => ?_) (fun l d hd z => by cases z) (fun l d hd => ?_) hs
  · simp only [List.length_map, List.take_length] at h; exact h
  · rw [List.getElem?_map] at hd
    cases e : xs[l]? with
    | none => rw [e] at hd; cases hd
    | some x =>
      rw [e] at hd; cases hd
      simp only [Option.map_some, Option.getD_some]
      exact gok_tup (gsok_cons (is := [i]) (gok_name i) (gsok_cons (is := [j]) (gok_name j) gsok_nil))
  · rw [List.getElem?_map] at hd
    cases e : xs[l]? with
    | none => rw [e] at hd; cases hd
    | some x =>
      simp only [Option.map_some, Option.getD_some]
      exact hy x (List.mem_of_getElem? e)
  · rw [List.getElem?_map] at hd
    cases e : xs[l]? with
    | none => rw [e] at hd; cases hd
    | some x =>
      rw [if_pos rfl, List.take_succ, e]
      simp
/-- an element that changes what is owned: the states one after another -/
theorem evn_mapS {α S : Type} {xs : List α} {gD : α → D} {step : S → α → D × S} {OS : S → List Own} {s0 : S} {n : Str} {pn : Pos} {elt : Expr} {scope : Scope} (i : Nat) (hN : X.N.Nodup) (hi : Ei X (.Name n pn) iter ρ O (xs.map gD) (OS s0))
    (ok : BlkOk X.N X.env.scope scope [(n, i)]) (hg : InBlk X scope fun Y => PG Y (.Name n pn) (gName i)) (hy : ∀ x s, x ∈ xs → InBlk X scope fun Y => Ev Y elt ((ρ.set i none).set i (some (gD x))) (OS s) (step s x).1 (OS (step s x).2))
    (hc : X.calm = true := by rfl) (hs : ∀ x, foldedSetIterable iter X.env x = pure x := by intro _; rfl) :
    EvN X (.ListComp elt [⟨.Name n pn, iter, [], 0⟩] scope pos) ρ O (xs.foldl (fun (p : List D × S) x => (p.1 ++ [(step p.2 x).1], (step p.2 x).2)) ([], s0)).1 (OS (xs.foldl (fun (p : List D × S) x => (p.1 ++ [(step p.2 x).1], (step p.2 x).2)) ([], s0)).2) := by
  let F : Nat → List D × S := fun j => (xs.take j).foldl (fun (p : List D × S) x => (p.1 ++ [(step p.2 x).1], (step p.2 x).2)) ([], s0)
  have h := evn_lcG (X := X) (ρ := ρ) (O := O) (elt := elt) (pos := pos) (own := [(n, i)]) (is := [i]) (tt := tYes) (out := fun j => (F j).1) (keep := fun _ => true) (y := fun j => (xs[j]?.map fun x => (step (F j).2 x).1).getD .non) (OO := fun j => OS (F j).2)
    (ρt := fun j => (ρ.set i none).set i (some ((xs[j]?.map gD).getD .non))) hc hN hi ok hg (fun _ _ _ _ _ => pts_nil) (by simp) (by simp [F]) (by simp [F]) (fun j d hd => ?_) (fun j d hd B H σ hO hS Q k => k B H (.refl hO)) (fun j d hd _ => ?_) (fun j d hd z => by cases z) (fun j d hd => ?_) hs
  · simp only [List.length_map] at h
    have e : F xs.length = xs.foldl (fun (p : List D × S) x => (p.1 ++ [(step p.2 x).1], (step p.2 x).2)) ([], s0) := by show (xs.take xs.length).foldl _ _ = _; rw [List.take_length]
    rw [e] at h
    exact h
  · rw [List.getElem?_map] at hd
    cases e : xs[j]? with
    | none => rw [e] at hd; cases hd
    | some x =>
      rw [e] at hd; cases hd
      simp only [Option.map_some, Option.getD_some]
      exact gok_name i
  · rw [List.getElem?_map] at hd
    cases e : xs[j]? with
    | none => rw [e] at hd; cases hd
    | some x =>
      have es : F (j + 1) = ((F j).1 ++ [(step (F j).2 x).1], (step (F j).2 x).2) := by
        show (xs.take (j + 1)).foldl _ _ = _
        rw [List.take_succ, e, Option.toList_some, List.foldl_append]
        rfl
      simp only [Option.map_some, Option.getD_some, es]
      exact hy x (F j).2 (List.mem_of_getElem? e)
  · rw [List.getElem?_map] at hd
    cases e : xs[j]? with
    | none => rw [e] at hd; cases hd
    | some x =>
      have es : F (j + 1) = ((F j).1 ++ [(step (F j).2 x).1], (step (F j).2 x).2) := by
        show (xs.take (j + 1)).foldl _ _ = _
        rw [List.take_succ, e, Option.toList_some, List.foldl_append]
        rfl
      simp only [Option.map_some, Option.getD_some, es]
      rfl
/-- zip, enumerate, range over typed lists -/
theorem ei_zipT {α β : Type} {xs : List α} {ys : List β} {gx : α → D} {gy : β → D} {elts : List Expr} {kk : Nat} {tpos : Pos} (T : X.mg "zip" = none) (h : Ea X [a, b] ρ O [.lst (xs.map gx), .lst (ys.map gy)] O1) (hg : Gl X "zip" := by rfl)
    (hs : starEach [a, b] X.env = [(false, eval a X.env), (false, eval b X.env)] := by rfl) (hs2 : starEach [b] X.env = [(false, eval b X.env)] := by rfl) :
    Ei X (.Tuple elts kk tpos) (.Call (.Name "zip" p) [a, b] [] pos) ρ O ((xs.zip ys).map fun q => D.tup [gx q.1, gy q.2]) O1 := by
  have e : ((xs.zip ys).map fun q => D.tup [gx q.1, gy q.2]) = zipD (xs.map gx) (ys.map gy) := by
    unfold zipD
    rw [List.zip_map, List.map_map]
    rfl
  rw [e]
  exact ei_zip T h hg hs hs2
theorem ei_enumT {α : Type} {xs : List α} {gx : α → D} {elts : List Expr} {kk : Nat} {tpos : Pos} (T : X.mg "enumerate" = none) (h : Ev X a ρ O (.lst (xs.map gx)) O1) (hg : Gl X "enumerate" := by rfl) (hs : starEach [a] X.env = [(false, eval a X.env)] := by rfl) :
    Ei X (.Tuple elts kk tpos) (.Call (.Name "enumerate" p) [a] [] pos) ρ O (xs.zipIdx.map fun q => D.tup [D.int (q.2 : Nat), gx q.1]) O1 := by
  have e : (xs.zipIdx.map fun q => D.tup [D.int (q.2 : Nat), gx q.1]) = enumD (xs.map gx) := by
    unfold enumD
    refine List.ext_getElem (by simp) fun i h1 h2 => ?_
    have hi : i < xs.length := by simpa using h1
    simp [hi]
  rw [e]
  exact ei_enum T h hg hs

theorem ev_sumM {α : Type} {xs : List α} {f : α → Int} (T : X.mg "sum" = none) (ha : Ev X a ρ O (.lst (xs.map fun x => D.int (f x))) O1) (hc : X.calm = true := by rfl) (hg : Gl X "sum" := by rfl) (he : starEach [a] X.env = [(false, eval a X.env)] := by rfl) :
    Ev X (.Call (.Name "sum" p) [a] [] pos) ρ O (.int (xs.map f).sum) O1 := ev_sum T (ha.eq (by rw [List.map_map]; rfl)) hc hg he
theorem ev_allM {α : Type} {xs : List α} {f : α → Bool} (T : X.mg "all" = none) (ha : Ev X a ρ O (.lst (xs.map fun x => D.bl (f x))) O1) (hc : X.calm = true := by rfl) (hg : Gl X "all" := by rfl) (he : starEach [a] X.env = [(false, eval a X.env)] := by rfl) :
    Ev X (.Call (.Name "all" p) [a] [] pos) ρ O (.bl (xs.all f)) O1 := (ev_all T (ha.eq (show D.lst (xs.map fun x => D.bl (f x)) = D.lst ((xs.map f).map D.bl) by rw [List.map_map]; rfl)) hc hg he).eq (by rw [List.all_map]; rfl)
theorem ev_anyM {α : Type} {xs : List α} {f : α → Bool} (T : X.mg "any" = none) (ha : Ev X a ρ O (.lst (xs.map fun x => D.bl (f x))) O1) (hc : X.calm = true := by rfl) (hg : Gl X "any" := by rfl) (he : starEach [a] X.env = [(false, eval a X.env)] := by rfl) :
    Ev X (.Call (.Name "any" p) [a] [] pos) ρ O (.bl (xs.any f)) O1 := (ev_any T (ha.eq (show D.lst (xs.map fun x => D.bl (f x)) = D.lst ((xs.map f).map D.bl) by rw [List.map_map]; rfl)) hc hg he).eq (by rw [List.any_map]; rfl)
/-! ### blocks -/
theorem Bl.mono {V : Out} (h : Bl X body ρ O U) (h1 : ∀ r o, U.nx r o → V.nx r o) (h2 : ∀ d o, U.rt d o → V.rt d o) (h3 : ∀ r o, U.bk r o → V.bk r o) (h4 : ∀ r o, U.ct r o → V.ct r o) : Bl X body ρ O V := fun B H σ hO hS D hD =>
  h B H σ hO hS D ⟨fun r o σ' B' H' u => hD.nx r o σ' B' H' (h1 r o u), fun d o v B' H' u => hD.rt d o v B' H' (h2 d o u), fun r o σ' B' H' u => hD.bk r o σ' B' H' (h3 r o u), fun r o σ' B' H' u => hD.ct r o σ' B' H' (h4 r o u)⟩
theorem bl_nil (h : U.nx ρ O) : Bl X [] ρ O U := fun B H σ hO hS D hD => w_pb pss_nil (hD.nx ρ O σ B H h (.refl hO) hS)
theorem bl_pass (h : Bl X rest ρ O U) : Bl X (.Pass pos :: rest) ρ O U := fun B H σ hO hS D hD => w_pb (pss_cons ps_pass pb_w) (h B H σ hO hS D hD)
theorem bl_brk (h : U.bk ρ O) : Bl X (.Break pos :: rest) ρ O U := fun B H σ hO hS D hD => w_pb (pss_cons ps_break pb_w) (hD.bk ρ O σ B H h (.refl hO) hS)
theorem bl_cont (h : U.ct ρ O) : Bl X (.Continue pos :: rest) ρ O U := fun B H σ hO hS D hD => w_pb (pss_cons ps_continue pb_w) (hD.ct ρ O σ B H h (.refl hO) hS)
theorem bl_ret (h : Ev X e ρ O d O1) (k : U.rt d O1) : Bl X (.Return (some e) pos :: rest) ρ O U := fun B H σ hO hS D hD =>
  w_pb (pss_cons (ps_ret pe_w) pb_w) (h B H σ hO hS _ fun v B1 H1 n1 r1 => hD.rt d O1 v B1 H1 k n1 r1)
theorem bl_retN {xs : List D} (h : EvN X e ρ O xs O1) (k : ∀ q, U.rt (.raw (.ref q)) (Own.lst q xs :: O1)) : Bl X (.Return (some e) pos :: rest) ρ O U := fun B H σ hO hS D hD =>
  w_pb (pss_cons (ps_ret pe_w) pb_w) (h B H σ hO hS _ fun q B1 H1 n1 => hD.rt _ _ _ B1 H1 (k q) n1 rfl)
theorem bl_ret0 (k : U.rt .non O) : Bl X (.Return none pos :: rest) ρ O U := fun B H σ hO hS D hD =>
  w_pb (pss_cons ps_retN pb_w) (hD.rt .non O .non B H k (.refl hO) rfl)
theorem bl_set (i : Nat) {x : Str} {p' : Pos} (hN : X.N.Nodup) (h : Ev X e ρ O d O1) (k : Bl X rest (ρ.set i (some d)) O1 U) (hi : X.N[i]? = some x := by rfl) (hx : Loc X.env.scope x := by first | exact Or.inl rfl | exact Or.inr rfl)
    (hs : swapsWith e (some (.Name x p')) pos.line X.env = pure false := by rfl) (hf : X.fn x = true ∨ X.env.scope.names.lookup x = some .local := by first | exact .inl rfl | exact .inr rfl) : Bl X (.Assign [.Name x p'] e pos :: rest) ρ O U := fun B H σ hO hS D hD =>
  w_pb (pss_cons (ps_set hN hi hx pe_w hs hf) pb_w) (h B H σ hO hS _ fun v B1 H1 n1 r1 => k B1 H1 _ n1.st ((hS.mono n1.base).set i r1) D (hD.from n1))
theorem bl_setN (i : Nat) {x : Str} {p' : Pos} {xs : List D} (hN : X.N.Nodup) (h : EvN X e ρ O xs O1) (k : ∀ q, Bl X rest (ρ.set i (some (.raw (.ref q)))) (Own.lst q xs :: O1) U) (hi : X.N[i]? = some x := by rfl) (hx : Loc X.env.scope x := by first | exact Or.inl rfl | exact Or.inr rfl)
    (hs : swapsWith e (some (.Name x p')) pos.line X.env = pure false := by rfl) (hf : X.fn x = true ∨ X.env.scope.names.lookup x = some .local := by first | exact .inl rfl | exact .inr rfl) : Bl X (.Assign [.Name x p'] e pos :: rest) ρ O U := fun B H σ hO hS D hD =>
  w_pb (pss_cons (ps_set hN hi hx pe_w hs hf) pb_w) (h B H σ hO hS _ fun q B1 H1 n1 => k q B1 H1 _ n1.st ((hS.mono n1.base).set (d := .raw (.ref q)) i rfl) D (hD.from n1))
theorem bl_expr (h : Ev X e ρ O d O1) (k : Bl X rest ρ O1 U) (hs : swapsWith e none pos.line X.env = pure false := by rfl) : Bl X (.Expr e pos :: rest) ρ O U := fun B H σ hO hS D hD =>
  w_pb (pss_cons (ps_expr pe_w hs) pb_w) (h B H σ hO hS _ fun v B1 H1 n1 r1 => k B1 H1 σ n1.st (hS.mono n1.base) D (hD.from n1))
theorem bl_if {q : Bool} (h : Et X c ρ O q O1) (h1 : q = true → Bl X body ρ O1 { U with nx := fun r o => Bl X rest r o U }) (h2 : q = false → Bl X orelse ρ O1 { U with nx := fun r o => Bl X rest r o U }) : Bl X (.If c body orelse pos :: rest) ρ O U := fun B H σ hO hS D hD =>
  w_pb (pss_cons (ps_if pt_w pb_w pb_w) pb_w) (h B H σ hO hS _ fun B1 H1 n1 => by
    have hD1 : Ends.Of X.K O1 B1 H1 { U with nx := fun r o => Bl X rest r o U } { D with nx := wB X rest D } := (hD.from n1).nxTo fun r o σ' B' H' u m s => u B' H' σ' m.st s D ((hD.from n1).from m)
    cases q with
    | true => exact iteT (h1 rfl B1 H1 σ n1.st (hS.mono n1.base) _ hD1)
    | false => exact iteF (h2 rfl B1 H1 σ n1.st (hS.mono n1.base) _ hD1))
/-- a test whose answer is known -/
theorem bl_ifT (h : Et X c ρ O true O1) (h1 : Bl X body ρ O1 { U with nx := fun r o => Bl X rest r o U }) : Bl X (.If c body orelse pos :: rest) ρ O U := bl_if h (fun _ => h1) fun z => by cases z
theorem bl_ifF (h : Et X c ρ O false O1) (h1 : Bl X orelse ρ O1 { U with nx := fun r o => Bl X rest r o U }) : Bl X (.If c body orelse pos :: rest) ρ O U := bl_if h (fun z => by cases z) fun _ => h1
theorem bl_for {tg : Expr} {ds : List D} {g : TG} (I : Nat → Ro → List Own → Prop) (hp : PassesOwn (model X.prog X.w) X.A X.env X.xe) (hc : X.calm = true) (hi : Ei X tg iter ρ O ds O1) (hg : PG X tg g) (h0 : I 0 ρ O1)
    (turn : ∀ i d r o, ds[i]? = some d → I i r o → ∃ r' is, GOk X.K g d r r' is ∧ Bl X body r' o { U with nx := I (i + 1), ct := I (i + 1), bk := fun r o => Bl X rest r o U })
    (hd : ∀ r o, I ds.length r o → Bl X rest r o U) (hs : ∀ x, foldedSetIterable iter X.env x = pure x := by intro _; rfl) : Bl X (.For tg iter body [] pos :: rest) ρ O U := fun B H σ hO hS D hD => by
  obtain ⟨wi, hpi, hit⟩ := hi
  refine w_pb (pss_cons (ps_for hp hc hpi hg pb_w hs) pb_w) ?_
  refine hit B H σ hO hS _ fun J B1 H1 n1 src => ?_
  have hrest : ∀ r o σ' B' H', Bl X rest r o U → Next X.K O B H o B' H' → Slots X.K B' σ' r → wB X rest D σ' H' := fun r o σ' B' H' u m s => u B' H' σ' m.st s D (hD.from m)
  refine ⟨fun i m σ' H' => m = ds.length - i ∧ i ≤ ds.length ∧ ∃ r o Bi, I i r o ∧ Same B1 Bi ∧ Next X.K O B H o Bi H' ∧ Slots X.K Bi σ' r, ⟨ds.length, by simp, Nat.zero_le _, ρ, O1, B1, h0, fun _ _ h => h, n1, hS.mono n1.base⟩, ?_⟩
  rintro i m σi Hi ⟨rfl, hle, r, o, Bi, hI, sB, ni, si⟩
  by_cases hlt : i < ds.length
  · refine .inr ⟨src.go i Hi hlt (sB.trans ni.st.ext), fun σ' H' => ∃ r o Bj, I (i + 1) r o ∧ Same B1 Bj ∧ Next X.K O B H o Bj H' ∧ Slots X.K Bj σ' r, fun σ' H' q => ⟨ds.length - (i + 1), by omega, rfl, by omega, q⟩, fun x H' yy => ?_⟩
    obtain ⟨Bi', d, hd', nx, rx⟩ := src.yld i Hi x H' Bi hlt sB ni.st.ext yy
    have ny := ni.trans (nx.pure ni.st)
    have sB' := sB.trans nx.base
    obtain ⟨r', is, gk, hb⟩ := turn i d r o hd' hI
    refine gk Bi' x σi H' _ rx ny.st.ext (si.mono nx.base) fun σ2 s2 _ => ?_
    refine hb Bi' H' σ2 ny.st s2 _ ⟨fun r o σ' B' H' u m s => ⟨r, o, B', u, sB'.trans m.base, ny.trans m, s⟩, fun d o v B' H' u m s => hD.rt d o v B' H' u (ny.trans m) s, fun r o σ' B' H' u m s => hrest r o σ' B' H' u (ny.trans m) s, fun r o σ' B' H' u m s => ⟨r, o, B', u, sB'.trans m.base, ny.trans m, s⟩⟩
  · have e : i = ds.length := by omega
    subst e
    exact .inl ⟨src.stop Hi (sB.trans ni.st.ext), hrest r o σi Bi Hi (hd r o hI) ni si⟩
/-- for x in .., over a typed list -/
theorem bl_for1 {α : Type} {xs : List α} {gD : α → D} {n : Str} {pn : Pos} (j : Nat) (I : Nat → Ro → List Own → Prop) (hp : PassesOwn (model X.prog X.w) X.A X.env X.xe) (hN : X.N.Nodup) (hi : Ei X (.Name n pn) iter ρ O (xs.map gD) O1) (h0 : I 0 ρ O1)
    (turn : ∀ i x r o, xs[i]? = some x → I i r o → Bl X body (r.set j (some (gD x))) o { U with nx := I (i + 1), ct := I (i + 1), bk := fun r o => Bl X rest r o U })
    (hd : ∀ r o, I xs.length r o → Bl X rest r o U) (hj : X.N[j]? = some n := by rfl) (hx : Loc X.env.scope n := by first | exact Or.inl rfl | exact Or.inr rfl) (hf : X.fn n = true ∨ X.env.scope.names.lookup n = some .local := by first | exact .inl rfl | exact .inr rfl)
    (hc : X.calm = true := by rfl) (hs : ∀ x, foldedSetIterable iter X.env x = pure x := by intro _; rfl) : Bl X (.For (.Name n pn) iter body [] pos :: rest) ρ O U :=
  bl_for I hp hc hi (pg_name hN hj hx hf) h0 (fun i d r o hd' hI => by
    rw [List.getElem?_map] at hd'
    cases e : xs[i]? with
    | none => rw [e] at hd'; cases hd'
    | some x =>
      rw [e] at hd'; cases hd'
      exact ⟨_, _, gok_name j, turn i x r o e hI⟩) (by rw [List.length_map]; exact hd) hs
theorem bl_for2 {α : Type} {xs : List α} {g1 g2 : α → D} {n m : Str} {pn pm pt : Pos} {kt : Nat} (j l : Nat) (I : Nat → Ro → List Own → Prop) (hp : PassesOwn (model X.prog X.w) X.A X.env X.xe) (hN : X.N.Nodup) (hi : Ei X (.Tuple [.Name n pn, .Name m pm] kt pt) iter ρ O (xs.map fun x => D.tup [g1 x, g2 x]) O1) (h0 : I 0 ρ O1)
    (turn : ∀ i x r o, xs[i]? = some x → I i r o → Bl X body ((r.set j (some (g1 x))).set l (some (g2 x))) o { U with nx := I (i + 1), ct := I (i + 1), bk := fun r o => Bl X rest r o U })
    (hd : ∀ r o, I xs.length r o → Bl X rest r o U) (hg : PG X (.Tuple [.Name n pn, .Name m pm] kt pt) (gTup X.K 2 (gCons (gName j) (gCons (gName l) gNil))))
    (hc : X.calm = true := by rfl) (hs : ∀ x, foldedSetIterable iter X.env x = pure x := by intro _; rfl) : Bl X (.For (.Tuple [.Name n pn, .Name m pm] kt pt) iter body [] pos :: rest) ρ O U :=
  bl_for I hp hc hi hg h0 (fun i d r o hd' hI => by
    rw [List.getElem?_map] at hd'
    cases e : xs[i]? with
    | none => rw [e] at hd'; cases hd'
    | some x =>
      rw [e] at hd'; cases hd'
      exact ⟨_, _, gok_tup (gsok_cons (is := [j]) (gok_name j) (gsok_cons (is := [l]) (gok_name l) gsok_nil)), turn i x r o e hI⟩) (by rw [List.length_map]; exact hd) hs
theorem bl_while (W : Nat → Ro → List Own → Prop) (hp : PassesOwn (model X.prog X.w) X.A X.env X.xe) (m0 : Nat) (h0 : W m0 ρ O)
    (turn : ∀ m r o, W m r o → ∃ q o2, Et X c r o q o2 ∧ (q = true → Bl X body r o2 { U with nx := fun r' o' => ∃ m', m' < m ∧ W m' r' o', ct := fun r' o' => ∃ m', m' < m ∧ W m' r' o', bk := fun r o => Bl X rest r o U }) ∧ (q = false → Bl X rest r o2 U)) :
    Bl X (.While c body [] pos :: rest) ρ O U := fun B H σ hO hS D hD => by
  refine w_pb (pss_cons (ps_while hp pt_w pb_w) pb_w) ?_
  have hrest : ∀ r o σ' B' H', Bl X rest r o U → Next X.K O B H o B' H' → Slots X.K B' σ' r → wB X rest D σ' H' := fun r o σ' B' H' u m s => u B' H' σ' m.st s D (hD.from m)
  refine ⟨fun m σ' H' => ∃ r o Bi, W m r o ∧ Next X.K O B H o Bi H' ∧ Slots X.K Bi σ' r, ⟨m0, ρ, O, B, h0, .refl hO, hS⟩, ?_⟩
  rintro m σi Hi ⟨r, o, Bi, hW, ni, si⟩
  obtain ⟨q, o2, ht, h1, h2⟩ := turn m r o hW
  refine ht Bi Hi σi ni.st si _ fun B2 H2 n2 => ?_
  have ny := ni.trans n2
  cases q with
  | true =>
    refine iteT ⟨fun σ' H' => ∃ m', m' < m ∧ ∃ r o Bj, W m' r o ∧ Next X.K O B H o Bj H' ∧ Slots X.K Bj σ' r, fun σ' H' ⟨m', h, z⟩ => ⟨m', h, z⟩, ?_⟩
    refine h1 rfl B2 H2 σi ny.st (si.mono n2.base) _ ⟨fun r o σ' B' H' ⟨m', hm, u⟩ mm s => ⟨m', hm, r, o, B', u, ny.trans mm, s⟩, fun d o v B' H' u m s => hD.rt d o v B' H' u (ny.trans m) s, fun r o σ' B' H' u m s => hrest r o σ' B' H' u (ny.trans m) s, fun r o σ' B' H' ⟨m', hm, u⟩ mm s => ⟨m', hm, r, o, B', u, ny.trans mm, s⟩⟩
  | false => exact iteF (hrest r o2 σi B2 H2 (h2 rfl) ny (si.mono n2.base))
/-- a, b = x, y (plain names) -/
theorem bl_par {d1 d2 : D} {x y : Str} {px py pt : Pos} {kt k2 : Nat} {pt2 : Pos} (i j : Nat) (hN : X.N.Nodup) (h : Ea X [a, b] ρ O [d1, d2] O1) (k : Bl X rest ((ρ.set i (some d1)).set j (some d2)) O1 U)
    (hw : swappedStores [.Tuple [.Name x px, .Name y py] kt pt] (.Tuple [a, b] k2 pt2) X.env = pure (some [x, y])) (hi : X.N[i]? = some x := by rfl) (hj : X.N[j]? = some y := by rfl) (hij : i ≠ j := by decide)
    (hx : X.env.scope.names.lookup x = some .local := by rfl) (hy : X.env.scope.names.lookup y = some .local := by rfl) (hc : X.calm = true := by rfl)
    (hs : swapsWithSole [.Tuple [.Name x px, .Name y py] kt pt] (.Tuple [a, b] k2 pt2) pos.line X.env = pure false := by rfl) : Bl X (.Assign [.Tuple [.Name x px, .Name y py] kt pt] (.Tuple [a, b] k2 pt2) pos :: rest) ρ O U := fun B H σ hO hS D hD =>
  w_pb (pss_cons (ps_par hc hN hi hj hij hx hy pa_w hw hs) pb_w) (h B H σ hO hS _ fun vs B1 H1 n1 r1 => by
    obtain ⟨v, w, rfl, e1, e2⟩ := two r1
    exact ⟨v, w, rfl, k B1 H1 _ n1.st (((hS.mono n1.base).set i e1).set j e2) D (hD.from n1)⟩)
/-- target = e -/
theorem bl_asg {tg : Expr} {g : TG} {r' : Ro} {is : List Nat} (hg : PG X tg g) (h : Ev X e ρ O d O1) (gk : GOk X.K g d ρ r' is) (k : Bl X rest r' O1 U) (hs : swapsWithSole [tg] e pos.line X.env = pure false := by rfl) (hw : swappedStores [tg] e X.env = pure none := by rfl)
    (h1 : (assignEach [tg] X.env).map (·.2) = [assign tg X.env] := by rfl) : Bl X (.Assign [tg] e pos :: rest) ρ O U := fun B H σ hO hS D hD =>
  w_pb (pss_cons (ps_asg pe_w hg hs hw h1) pb_w) (h B H σ hO hS _ fun v B1 H1 n1 r1 => gk B1 v σ H1 _ r1 n1.st.ext (hS.mono n1.base) fun σ' s' _ => k B1 H1 σ' n1.st s' D (hD.from n1))
/-- x += n -/
theorem bl_aug {x : Str} {p' : Pos} {op : Operator} {f : Int → Int → Int} {m n : Int} (i : Nat) (hN : X.N.Nodup) (ho : PIp X op (ipI f)) (hx0 : ρ[i]? = some (some (.int m))) (h : Ev X e ρ O (.int n) O1) (k : Bl X rest (ρ.set i (some (.int (f m n)))) O1 U) (hi : X.N[i]? = some x := by rfl)
    (hx : Loc X.env.scope x := by first | exact Or.inl rfl | exact Or.inr rfl) (hf : X.fn x = true ∨ X.env.scope.names.lookup x = some .local := by first | exact .inl rfl | exact .inr rfl) : Bl X (.AugAssign (.Name x p') op e pos :: rest) ρ O U := fun B H σ hO hS D hD =>
  w_pb (pss_cons (ps_aug hN hi hx pe_w ho hf) pb_w) (by
    obtain ⟨v, e1, e2⟩ := hS.at' i _ hx0
    cases (show v = .int m from e2)
    exact ⟨.int m, e1, h B H σ hO hS _ fun w B1 H1 n1 r1 => ⟨m, n, rfl, r1, k B1 H1 _ n1.st ((hS.mono n1.base).set (d := .int (f m n)) i rfl) D (hD.from n1)⟩⟩)

/-! ### owned lists change -/
/-- xs.append(e) -/
theorem tyv_list {K : PySem.W.Frag} {H : Hp} {q : Addr} {vs : List V} (h : H q = some (.lst vs)) : tyV K "list" (.ref q) H := .inl ⟨rfl, vs, SqL.of h⟩
theorem own_list {K : PySem.W.Frag} {B H : Hp} {k : Nat} {q : Addr} {xs : List D} (hO : OSt K O B H) (hk : O[k]? = some (Own.lst q xs)) : ∃ vs, H q = some (.lst vs) ∧ xs.length ≤ lim ∧ reps K B vs xs := hO.all _ (List.mem_of_getElem? hk)
/-- an owned list gets other items -/
theorem own_put {K : PySem.W.Frag} {B H : Hp} {k : Nat} {q : Addr} {xs ys : List D} {ws : List V} (hO : OSt K O B H) (hk : O[k]? = some (Own.lst q xs)) (hl : ys.length ≤ lim) (r : reps K B ws ys) : Next K O B H (O.set k (Own.lst q ys)) B (upd H q (.lst ws)) :=
  Next.at hk hO (Next.write (hO.at hk) (by exact List.mem_cons_self) rfl ⟨_, upd_same, hl, r⟩)
theorem bl_app {xs ys : List D} {q : Addr} {apos : Pos} (k : Nat) (ha : Ev X a ρ O (.raw (.ref q)) O1) (hk0 : O1[k]? = some (Own.lst q ys)) (h : Ev X e ρ O1 d O2) (hk : O2[k]? = some (Own.lst q xs)) (hl : xs.length < lim) (kk : Bl X rest ρ (O2.set k (Own.lst q (xs ++ [d]))) U)
    (hpe : ∀ {ta te : TE}, PE X a ta → PE X e te → PE X (.Call (.Attribute a "append" apos) [e] [] p) (tBM X.K "list" rAppend ta (tCons te tNil)) := by intro _ _ h1 h2; exact pe_bm PySem.F.plainAttrs_list PySem.F.slot_list_append PySem.F.type_list_append mt_append h1 (pa_cons h2 pa_nil))
    (hs : swapsWith (.Call (.Attribute a "append" apos) [e] [] p) none pos.line X.env = pure false := by rfl) : Bl X (.Expr (.Call (.Attribute a "append" apos) [e] [] p) pos :: rest) ρ O U := fun B H σ hO hS D hD =>
  w_pb (pss_cons (ps_expr (hpe pe_w pe_w) hs) pb_w) (ha B H σ hO hS _ fun x B1 H1 n1 r1 => by
    cases (show x = .ref q from r1)
    obtain ⟨vs0, e0, _⟩ := own_list n1.st hk0
    refine ⟨tyv_list e0, h B1 H1 σ n1.st (hS.mono n1.base) _ fun v B2 H2 n2 r2 => ?_⟩
    obtain ⟨vs, e1, l1, rr⟩ := own_list n2.st hk
    refine ⟨q, vs, v, rfl, rfl, e1, by rw [rr.length]; exact lim_lt hl, ?_⟩
    have nn := (n1.trans n2).trans (own_put n2.st hk (ys := xs ++ [d]) (by rw [List.length_append]; exact hl) (rr.snoc r2))
    exact kk B2 _ σ nn.st (hS.mono nn.base) D (hD.from nn))
/-- xs.reverse() -/
theorem bl_rev {xs : List D} {q : Addr} {apos : Pos} (k : Nat) (ha : Ev X a ρ O (.raw (.ref q)) O1) (hk : O1[k]? = some (Own.lst q xs)) (kk : Bl X rest ρ (O1.set k (Own.lst q xs.reverse)) U)
    (hpe : ∀ {ta : TE}, PE X a ta → PE X (.Call (.Attribute a "reverse" apos) [] [] p) (tBM0 X.K "list" rReverse ta) := by intro _ h1; exact pe_bm0 PySem.F.plainAttrs_list PySem.F.slot_list_reverse PySem.F.type_list_reverse mt_reverse h1)
    (hs : swapsWith (.Call (.Attribute a "reverse" apos) [] [] p) none pos.line X.env = pure false := by rfl) : Bl X (.Expr (.Call (.Attribute a "reverse" apos) [] [] p) pos :: rest) ρ O U := fun B H σ hO hS D hD =>
  w_pb (pss_cons (ps_expr (hpe pe_w) hs) pb_w) (ha B H σ hO hS _ fun x B1 H1 n1 r1 => by
    cases (show x = .ref q from r1)
    obtain ⟨vs, e1, l1, rr⟩ := own_list n1.st hk
    refine ⟨tyv_list e1, q, vs, rfl, rfl, e1, ?_⟩
    have nn := n1.trans (own_put n1.st hk (ys := xs.reverse) (by rw [List.length_reverse]; exact l1) rr.reverse)
    exact kk B1 _ σ nn.st (hS.mono nn.base) D (hD.from nn))
theorem ixN_lt {n : Nat} {i : Int} {j : Nat} (h : ixN n i = some j) : j < n := (ixN_seq h).2.1
/-- xs[i] = e, the target and the index plain -/
theorem bl_put {xs : List D} {q : Addr} {i : Int} {j : Nat} {spos : Pos} (k : Nat) (h : Ev X e ρ O d O1) (ha : Ev X a ρ O1 (.raw (.ref q)) O2) (hi : Ev X b ρ O2 (.int i) O3) (hk : O3[k]? = some (Own.lst q xs)) (hj : ixN xs.length i = some j) (kk : Bl X rest ρ (O3.set k (Own.lst q (xs.set j d))) U)
    (hst : ∀ v, assign (.Subscript a b spos) X.env v = (do
      let ov ← holding [v] (eval a X.env)
      let iv ← holding [v, ov] (eval b X.env)
      standAt spos
      holding [v, ov, iv] (setItem ov iv v)
      release [v, ov, iv] []) := by intro _; rfl)
    (hs : swapsWithSole [.Subscript a b spos] e pos.line X.env = pure false := by rfl) (hw : swappedStores [.Subscript a b spos] e X.env = pure none := by rfl)
    (h1 : (assignEach [.Subscript a b spos] X.env).map (·.2) = [assign (.Subscript a b spos) X.env] := by rfl) : Bl X (.Assign [.Subscript a b spos] e pos :: rest) ρ O U := fun B H σ hO hS D hD =>
  w_pb (pss_cons (ps_asg pe_w (pg_sub pe_w pe_w set_list hst) hs hw h1) pb_w) (h B H σ hO hS _ fun v B1 H1 n1 r1 => ha B1 H1 σ n1.st (hS.mono n1.base) _ fun x B2 H2 n2 r2 => hi B2 H2 σ n2.st (hS.mono (n1.trans n2).base) _ fun y B3 H3 n3 r3 => by
    cases (show x = .ref q from r2)
    obtain ⟨vs, e1, l1, rr⟩ := own_list n3.st hk
    refine ⟨q, vs, i, j, rfl, r3, e1, by rw [rr.length]; exact hj, ?_⟩
    have nn := ((n1.trans n2).trans n3).trans (own_put n3.st hk (ys := xs.set j d) (by rw [List.length_set]; exact l1) (rr.set j (r1.mono (n2.trans n3).base)))
    exact kk B3 _ σ nn.st (hS.mono nn.base) D (hD.from nn))
/-- an owned list is given to the base: from now on it is a value -/
theorem bl_freeze {xs : List D} {q : Addr} (k i : Nat) (hk : O[k]? = some (Own.lst q xs)) (hi : ρ[i]? = some (some (.raw (.ref q)))) (kk : Bl X body (ρ.set i (some (.lst xs))) (O.eraseIdx k) U) : Bl X body ρ O U := fun B H σ hO hS D hD => by
  obtain ⟨vs, e1, l1, rr⟩ := own_list hO hk
  have f := (Next.beside (O := [Own.lst q xs]) (R := O.eraseIdx k) (hO.perm (perm_at hk)) (Next.freeze ((hO.perm (perm_at hk)).left (O := [_])) rfl e1)).perm (perm_at hk).symm (.refl _)
  obtain ⟨v, e2, e3⟩ := hS.at' i _ hi
  cases (show v = .ref q from e3)
  have hS' := ((hS.mono f.base).set (v := .ref q) (d := .lst xs) i ⟨q, vs, rfl, upd_same, l1, rr.mono f.base⟩)
  have es : σ.set i (some (V.ref q)) = σ := by
    refine List.ext_getElem? fun j => ?_
    by_cases hj : i = j
    · subst hj
      rw [List.getElem?_set_self (List.getElem?_eq_some_iff.mp e2).1, e2]
    · rw [List.getElem?_set_ne hj]
  rw [es] at hS'
  exact kk _ _ σ f.st hS' D (hD.from f)
/-- an owned thing is forgotten -/
theorem bl_drop {w : Own} (k : Nat) (hk : O[k]? = some w) (kk : Bl X body ρ (O.eraseIdx k) U) : Bl X body ρ O U := fun B H σ hO hS D hD => by
  have st : OSt X.K (O.eraseIdx k) B H := ((hO.perm (perm_at hk)).perm (List.perm_append_comm (l₁ := [w]) (l₂ := O.eraseIdx k))).left
  have sub : ∀ a, a ∈ foot (O.eraseIdx k) → a ∈ foot O := fun a m => (foot_perm (perm_at hk)).mem_iff.mpr (by rw [show w :: O.eraseIdx k = [w] ++ O.eraseIdx k from rfl, foot_append]; exact List.mem_append_right _ m)
  have n : Next X.K O B H (O.eraseIdx k) B H := ⟨fun _ _ h => h, fun _ _ h _ => h, fun _ _ h _ => h, fun a m => .inl (sub a m), fun _ h => h, st⟩
  exact kk B H σ st hS D (hD.from n)
/-- names are forgotten -/
theorem bl_weak {ρ' : Ro} (hl : ρ'.length = ρ.length) (w : ∀ (i : Nat) (d : D), ρ'[i]? = some (some d) → ρ[i]? = some (some d)) (kk : Bl X body ρ' O U) : Bl X body ρ O U := fun B H σ hO hS D hD => kk B H σ hO (hS.weak hl w) D hD
end

/-! ### what a def promises -/
section
variable (K : PySem.W.Frag) {ι : Type} (pre : ι → Prop) (ds : ι → List D)
/-- R: which results -/
def spG (O : ι → List Own) (R : ι → D → List Own → Prop) : Sp := fun vs H Q _ => ∃ i B, pre i ∧ OSt K (O i) B H ∧ reps K B vs (ds i) ∧ ∀ d O' v B' H', R i d O' → Next K (O i) B H O' B' H' → rep K B' v d → Q v H'
/-- a value, nothing owned -/
def spV (val : ι → D) : Sp := spG K pre ds (fun _ => []) fun i d O' => d = val i ∧ O' = []
/-- a new list -/
def spN (xs : ι → List D) : Sp := spG K pre ds (fun _ => []) fun i d O' => ∃ q, d = .raw (.ref q) ∧ O' = [Own.lst q (xs i)]
/-- one owned thing is changed -/
def spW (w : ι → Own) (val : ι → D) (w' : ι → Own) : Sp := spG K pre ds (fun i => [w i]) fun i d O' => d = val i ∧ O' = [w' i]
def spWN (w : ι → Own) (xs : ι → List D) (w' : ι → Own) : Sp := spG K pre ds (fun i => [w i]) fun i d O' => ∃ q, d = .raw (.ref q) ∧ O' = [Own.lst q (xs i), w' i]
end
end GL
namespace GL
open PySem L2

/-! ### defs that are called where nothing is being shown (no repr is under way) -/
structure Rm (k : Nat) (A : Around) : Prop where
  room : Room k A
  quiet : A.guards = some []
theorem Rm.mono {j k : Nat} {A : Around} (r : Rm k A) (h : j ≤ k) : Rm j A := ⟨r.room.mono h, r.quiet⟩
theorem Rm.deeper {k : Nat} {A : Around} (r : Rm (k + 1) A) (env : Env) : Rm k (A.deeper env) := ⟨r.room.deeper env, r.quiet⟩
theorem Rm.make {k : Nat} {A : Around} (r : Rm (k + 1) A) (C : Addr) (us : List Value) (kw : List (Str × Value)) : Rm k (A.under (.builtin "type.__call__" ⟨.ref C :: us, kw⟩)) :=
  ⟨r.room.make C us kw, by
    show pushGuards (Code.guards (.builtin "type.__call__" ⟨.ref C :: us, kw⟩)) A.guards = some []
    rw [r.quiet]
    rfl⟩
structure FnG (P : Program) (w : World) (K : PySem.W.Frag) (mg : Str → Option Value) (base : Heap) (CX : CXT) (k : Nat) (f : Addr) (fd : FuncData) (ps : List Str) (sp : Sp) : Prop where
  len : ∀ vs H Q E, sp vs H Q E → vs.length = ps.length
  run : ∀ (A : Around) (outer : List Env) (s : Shared) (H : Hp) (args : Args) (us : List Value) (vs : List V) (Q : VK) (E : XK), Rm k A → Env0 P w K mg base A outer s H → BindsTo s fd args (ps.zip us) → Vals vs us → sp vs H Q E →
    codeAny (model P w) A (.call (.ref f) args) (CR CX outer P w H s Q E) s
section
variable {P : Program} {w : World} {K : PySem.W.Frag} {mg : Str → Option Value} {base : Heap} {CX : CXT} {x qual : Str} {params : Arguments} {body : List Stmt} {scope : Scope} {dvs : List V} {kws : List (Str × V)} {f : Addr} {fd : FuncData} {N ps : List Str} {k : Nat} {sp : Sp}
/-- a def's body, walked where nothing is being shown -/
theorem okG (F : FunD K x qual params body scope dvs kws f fd) (S : FnScope N ps scope) (len : ∀ vs H Q E, sp vs H Q E → vs.length = ps.length)
    (hbody : ∀ (cdv : Value) (A : Around) (outer : List Env) (s : Shared) (H : Hp) (vs : List V) (Q : VK) (E : XK), Rm k (A.deeper (PyProof.Rows.envOfC qual scope s.heap.objs.size f cdv)) → sp vs H Q E →
      ∃ t, PSs (cxOf CX P w K mg base N qual scope f cdv A outer s H E) body t ∧ t { nx := fun _ H' => Q .non H', rt := Q } (L2.start N vs) H) : FnG P w K mg base CX (k + 1) f fd ps sp := by
  obtain ⟨oc, od, dV, kV, doc, pm, an, cdv, ct, osl, rfl, lk, hcd, _, _⟩ := F.ex
  refine ⟨len, fun A outer s H args us vs Q E hr e0 hb r hsp => ?_⟩
  have kn := e0.mod.kin.keeps fun b o e => (e0.bs b o e).1
  have places : ∀ y ∈ ps.zip us, scope.names.lookup y.1 = some .local ∨ (scope.names.lookup y.1 = some .cell ∧ ((cellsFrom (s.heap.objs.size + 1) scope.names []).lookup y.1).isSome = true) := fun y hy =>
    (S.par y.1 (List.of_mem_zip (a := y.1) (b := y.2) hy).1).imp id fun q => ⟨q, PySem.W.cellsFrom_some _ _ _ (.inl q)⟩
  refine codeAny_call_function hr.room.depth (kn _ _ lk) rfl S.co S.gen rfl (PySem.W.codeRec_of kn hcd) (hb _ _ _ _ ?_)
  refine wpAny_newFunctionEnv_cells S.kind places fun env he s1 x => ?_
  cases he
  refine ⟨(e0.mod.nolimit.keeps fun b o e => (e0.bs b o e).1).keeps x.toInCall.keep, codeAny_func ?_⟩
  obtain ⟨t, ht, hq⟩ := hbody cdv A outer s H vs Q E (hr.deeper _) hsp
  refine wpAny_mono (ht.run [] s1 (L2.start N vs) H _ (inv_start S hr.room.hd e0 (len _ _ _ _ hsp) r x) hq) (fun fl s' hs => ?_) fun e s' hs => hs
  cases fl with
  | ret u => exact let ⟨v, _, H', J, rv, q⟩ := hs; ⟨v, H', J.os, J.bare, J.base, J.hok, rv, q⟩
  | next => exact let ⟨_, H', J, q⟩ := hs; ⟨.non, H', J.os, J.bare, J.base, J.hok, rfl, q⟩
  | brk => exact let ⟨_, _, _, q⟩ := hs; q.elim
  | cont => exact let ⟨_, _, _, q⟩ := hs; q.elim
end
section
variable {X : Cx} {CX : CXT} {E : XK} {k n : Nat} {f : Addr} {fd : FuncData} {ps ks : List Str} {sp : Sp} {pins : List (Addr × Obj)} {σ : L2.St} {H : Hp} {s : Shared} {Q : VK}
theorem fin_call {r : Result} {s' : Shared} (hx : Passes CX X E) (I : Inv X pins σ H s) (hq : CR CX X.stack X.prog X.w H s Q E r s') : match r with | .ok (.ret v) => EP X pins σ Q v s' | .ok _ => False | .error e => X.xe e s' := by
  cases r with
  | error e => exact hx pins σ H s e s' I hq
  | ok fl =>
    cases fl with
    | ret u => exact I.after hq
    | next => exact False.elim hq
    | brk => exact False.elim hq
    | cont => exact False.elim hq
theorem runG {us : List Value} {vs : List V} (F : FnG X.prog X.w X.K X.mg X.base CX k f fd ps sp) (hr : Rm k X.A) (hb : Binds X.K fd ps []) (hx : Passes CX X E) (I : Inv X pins σ H s) (r : Vals vs us) (h : sp vs H Q E) :
    wpAny (model X.prog X.w) X.A (call (.ref f) us) (EP X pins σ Q) X.xe s := by
  have hl : (us ++ []).length = ps.length := by rw [List.append_nil, ← r.length]; exact F.len _ _ _ _ h
  have hb' := hb s us I.kIn hl
  rw [List.append_nil] at hb'
  exact wpAny_call (codeAny_mono (F.run X.A X.stack s H ⟨us, []⟩ us vs Q E hr I.env0 hb' r h) fun r s' hq => by
    have z := fin_call hx I hq
    cases r with
    | error e => exact z
    | ok fl => cases fl <;> exact z)
theorem runGK {us ws : List Value} {vs zs : List V} {g : List Value → List Value → List Value} {gV : List V → List V → List V} (F : FnG X.prog X.w X.K X.mg X.base CX k f fd ps sp) (hr : Rm k X.A) (hb : KBn X.K fd ps n ks g gV) (hx : Passes CX X E)
    (I : Inv X pins σ H s) (r : Vals vs us) (rz : Vals zs ws) (l1 : vs.length = n) (l2 : zs.length = ks.length) (h : sp (gV vs zs) H Q E) : wpAny (model X.prog X.w) X.A (call (.ref f) us (ks.zip ws)) (EP X pins σ Q) X.xe s :=
  wpAny_call (codeAny_mono (F.run X.A X.stack s H ⟨us, ks.zip ws⟩ (g us ws) (gV vs zs) Q E hr I.env0 (hb.to s us ws I.kIn (r.length.symm.trans l1) (rz.length.symm.trans l2)) (hb.rel r rz) h) fun r s' hq => by
    have z := fin_call hx I hq
    cases r with
    | error e => exact z
    | ok fl => cases fl <;> exact z)
end
/-- a def that can be called by its name with all its parameters -/
structure CalP (P : Program) (w : World) (K : PySem.W.Frag) (mg : Str → Option Value) (base : Heap) (x : Str) (k : Nat) (ps : List Str) (sp : Sp) : Prop where
  ex : ∃ (f : Addr) (fd : FuncData), mg x = some (.ref f) ∧ PySem.W.keepIn K (.ref f) = true ∧ FnG P w K mg base CX0 k f fd ps sp ∧ Binds K fd ps []
/-- .. with n values and the keywords ks -/
structure CalK (P : Program) (w : World) (K : PySem.W.Frag) (mg : Str → Option Value) (base : Heap) (x : Str) (k : Nat) (ps : List Str) (n : Nat) (ks : List Str) (gV : List V → List V → List V) (sp : Sp) : Prop where
  ex : ∃ (f : Addr) (fd : FuncData) (g : List Value → List Value → List Value), mg x = some (.ref f) ∧ PySem.W.keepIn K (.ref f) = true ∧ FnG P w K mg base CX0 k f fd ps sp ∧ KBn K fd ps n ks g gV
/-- keywords' values -/
def wK (X : Cx) (kws : List Keyword) : TA := fun σ H Q => ∀ (pos : Pos) pins s, Inv X pins σ H s → wpAny (model X.prog X.w) X.A (evalAll ((backToKw pos (keywordEach kws X.env)).map (·.2))) (AP X pins σ Q) X.xe s
theorem pk_w {X : Cx} {kws : List Keyword} : PK X kws (wK X kws) := ⟨fun pos pins s σ H Q I h => h pos pins s I⟩
theorem w_pk {X : Cx} {kws : List Keyword} {t : TA} (h : PK X kws t) {σ : L2.St} {H : Hp} {Q : List V → Hp → Prop} (q : t σ H Q) : wK X kws σ H Q := fun pos pins s I => h.run pos pins s σ H Q I q
def Ek (X : Cx) (kws : List Keyword) (ρ : Ro) (O : List Own) (ds : List D) (O' : List Own) : Prop :=
  ∀ (B H : Hp) (σ : L2.St), OSt X.K O B H → Slots X.K B σ ρ → ∀ Q : List V → Hp → Prop, (∀ vs B' H', Next X.K O B H O' B' H' → reps X.K B' vs ds → Q vs H') → wK X kws σ H Q
section
variable {X : Cx} {ρ : Ro} {O O1 O2 : List Own} {a e : Expr} {es : List Expr} {d : D} {ds zs : List D} {kws : List Keyword} {nm : Option Str} {kpos p pos : Pos} {x : Str} {k n : Nat} {ps ks : List Str} {gV : List V → List V → List V} {sp : Sp}
theorem ek_nil : Ek X [] ρ O [] O := fun B H σ hO hS Q k => w_pk pk_nil (k [] B H (.refl hO) .nil)
theorem ek_cons (h : Ev X a ρ O d O1) (t : Ek X kws ρ O1 ds O2) : Ek X (⟨nm, a, kpos⟩ :: kws) ρ O (d :: ds) O2 := fun B H σ hO hS Q k =>
  w_pk (pk_cons pe_w pk_w) (h B H σ hO hS _ fun v B1 H1 n1 r1 => t B1 H1 σ n1.st (hS.mono n1.base) _ fun vs B2 H2 n2 r2 => k _ B2 H2 (n1.trans n2) (.cons (r1.mono n2.base) r2))
/-- a call's rule over any promise -/
theorem w_call (F : CalP X.prog X.w X.K X.mg X.base x k ps sp) (hr : Rm k X.A) (ha : Ea X (e :: es) ρ O ds O1)
    {B H : Hp} {σ : L2.St} {Q : VK} (hO : OSt X.K O B H) (hS : Slots X.K B σ ρ) (h : ∀ vs B1 H1, Next X.K O B H O1 B1 H1 → reps X.K B1 vs ds → sp vs H1 Q E0)
    (hg : Gl X x := by rfl) (hdb : (x == ("__debug__" : Str)) = false := by decide) (he : starEach (e :: es) X.env = (false, eval e X.env) :: starEach es X.env := by rfl) (hpl : (backTo pos (starEach es X.env)).any (·.1) = false := by rfl) :
    wE X (.Call (.Name x p) (e :: es) [] pos) σ H Q := by
  obtain ⟨f, fd, gl, kp, ok, bi⟩ := F.ex
  intro pins s I
  refine wpAny_Call_Name_kw (ld_glob I hg gl ?_ hdb)
  refine PySem.W.callWith_K (h₀ := X.base) I.ok.mod.kin kp (thn (ha B H σ hO hS (fun vs H' => sp vs H' Q E0) (fun vs B1 H1 n1 r1 => h vs B1 H1 n1 r1) pos pins s I) fun us s1 ⟨vs, H1, I1, r, q⟩ => ⟨I1.kIn, ?_⟩) he hpl
  exact runG ok hr bi pass0 I1 r q
theorem w_call0 (F : CalP X.prog X.w X.K X.mg X.base x k ps sp) (hr : Rm k X.A) {H : Hp} {σ : L2.St} {Q : VK} (h : sp [] H Q E0)
    (hg : Gl X x := by rfl) (hdb : (x == ("__debug__" : Str)) = false := by decide) : wE X (.Call (.Name x p) [] [] pos) σ H Q := by
  obtain ⟨f, fd, gl, kp, ok, bi⟩ := F.ex
  intro pins s I
  refine wpAny_Call_Name_kw (ld_glob I hg gl ?_ hdb)
  exact PySem.W.callWith_K0 I.kIn kp (runG (us := []) ok hr bi pass0 I .nil h)
theorem w_callK (F : CalK X.prog X.w X.K X.mg X.base x k ps n ks gV sp) (hr : Rm k X.A) (ha : Ea X (e :: es) ρ O ds O1) (hkw : Ek X kws ρ O1 zs O2) (hn : ds.length = n) (hm : zs.length = ks.length)
    {B H : Hp} {σ : L2.St} {Q : VK} (hO : OSt X.K O B H) (hS : Slots X.K B σ ρ) (h : ∀ vs us B1 H1, Next X.K O B H O2 B1 H1 → reps X.K B1 vs ds → reps X.K B1 us zs → sp (gV vs us) H1 Q E0)
    (hg : Gl X x := by rfl) (hall : (backToKw pos (keywordEach kws X.env)).all (·.1.isSome) = true := by rfl) (hks : (backToKw pos (keywordEach kws X.env)).filterMap (·.1) = ks := by rfl) (hdb : (x == ("__debug__" : Str)) = false := by decide)
    (he : starEach (e :: es) X.env = (false, eval e X.env) :: starEach es X.env := by rfl) (hpl : ((backTo pos (starEach (e :: es) X.env)).any (·.1) || (backToKw pos (keywordEach kws X.env)).any (·.1.isNone)) = false := by rfl) :
    wE X (.Call (.Name x p) (e :: es) kws pos) σ H Q := by
  obtain ⟨f, fd, g, gl, kp, ok, bi⟩ := F.ex
  intro pins s I
  refine wpAny_Call_Name_kw (ld_glob I hg gl ?_ hdb)
  refine PySem.W.callWith_KW (h₀ := X.base) I.ok.mod.kin kp hall (thn (ha B H σ hO hS (fun vs H' => vs.length = n ∧ wK X kws σ H' fun us H'' => us.length = ks.length ∧ sp (gV vs us) H'' Q E0) (fun vs B1 H1 n1 r1 => ⟨r1.length.trans hn, hkw B1 H1 σ n1.st (hS.mono n1.base) _ fun us B2 H2 n2 r2 =>
    ⟨r2.length.trans hm, h vs us B2 H2 (n1.trans n2) (r1.mono n2.base) r2⟩⟩) pos pins s I) fun us s1 ⟨vs, H1, I1, r, l1, q⟩ => ?_) hpl he
  refine thn (q pos pins s1 I1) fun ws s2 ⟨zs', H2, I2, rz, l2, q2⟩ => ⟨I2.kIn, ?_⟩
  rw [hks]
  exact runGK ok hr bi pass0 I2 r rz l1 l2 q2
end
section
variable {X : Cx} {x : Str} {k n : Nat} {ps ks : List Str} {p pos : Pos} {e : Expr} {es : List Expr} {ρ : Ro} {O O1 O2 : List Own} {ι : Type} {pre : ι → Prop} {ds : ι → List D} {val : ι → D} {xs : ι → List D} {w w' : ι → Own} {kws : List Keyword} {gV : List V → List V → List V} {as zs : List D}
section
variable {gD : List D → List D → List D}
theorem nextV {K : PySem.W.Frag} {B H B' H' : Hp} (h : OSt K O B H) (n : Next K [] B H [] B' H') : Next K O B H O B' H' := by simpa using n.pure h
theorem ev_callV (i : ι) (F : CalP X.prog X.w X.K X.mg X.base x k ps (spV X.K pre ds val)) (hr : Rm k X.A) (hp : pre i) (ha : Ea X (e :: es) ρ O (ds i) O1)
    (hg : Gl X x := by rfl) (hdb : (x == ("__debug__" : Str)) = false := by decide) (he : starEach (e :: es) X.env = (false, eval e X.env) :: starEach es X.env := by rfl) (hpl : (backTo pos (starEach es X.env)).any (·.1) = false := by rfl) :
    Ev X (.Call (.Name x p) (e :: es) [] pos) ρ O (val i) O1 := fun B H σ hO hS Q kk =>
  w_call F hr ha hO hS (fun vs B1 H1 n1 r1 => ⟨i, B1, hp, n1.st.none, r1, fun d O' v B' H' ⟨hd, hO'⟩ n2 r2 => by
    subst hd hO'
    exact kk v B' H' (n1.trans (nextV n1.st n2)) r2⟩) hg hdb he hpl
theorem evn_callN (i : ι) (F : CalP X.prog X.w X.K X.mg X.base x k ps (spN X.K pre ds xs)) (hr : Rm k X.A) (hp : pre i) (ha : Ea X (e :: es) ρ O (ds i) O1)
    (hg : Gl X x := by rfl) (hdb : (x == ("__debug__" : Str)) = false := by decide) (he : starEach (e :: es) X.env = (false, eval e X.env) :: starEach es X.env := by rfl) (hpl : (backTo pos (starEach es X.env)).any (·.1) = false := by rfl) :
    EvN X (.Call (.Name x p) (e :: es) [] pos) ρ O (xs i) O1 := fun B H σ hO hS Q kk =>
  w_call F hr ha hO hS (fun vs B1 H1 n1 r1 => ⟨i, B1, hp, n1.st.none, r1, fun d O' v B' H' ⟨q, hd, hO'⟩ n2 r2 => by
    subst hd hO'
    cases (show v = .ref q from r2)
    exact kk q B' H' (n1.trans (by simpa using n2.pure n1.st))⟩) hg hdb he hpl
theorem ev_callW (i : ι) (j : Nat) (F : CalP X.prog X.w X.K X.mg X.base x k ps (spW X.K pre ds w val w')) (hr : Rm k X.A) (hp : pre i) (ha : Ea X (e :: es) ρ O (ds i) O1) (hj : O1[j]? = some (w i))
    (hg : Gl X x := by rfl) (hdb : (x == ("__debug__" : Str)) = false := by decide) (he : starEach (e :: es) X.env = (false, eval e X.env) :: starEach es X.env := by rfl) (hpl : (backTo pos (starEach es X.env)).any (·.1) = false := by rfl) :
    Ev X (.Call (.Name x p) (e :: es) [] pos) ρ O (val i) (O1.set j (w' i)) := fun B H σ hO hS Q kk =>
  w_call F hr ha hO hS (fun vs B1 H1 n1 r1 => ⟨i, B1, hp, n1.st.at hj, r1, fun d O' v B' H' ⟨hd, hO'⟩ n2 r2 => by
    subst hd hO'
    exact kk v B' H' (n1.trans (Next.at hj n1.st n2)) r2⟩) hg hdb he hpl
theorem next_WN {K : PySem.W.Frag} {B H B' H' : Hp} {u u' : Own} {q : Addr} {ys : List D} {j : Nat} (hj : O[j]? = some u) (h : OSt K O B H) (n : Next K [u] B H [Own.lst q ys, u'] B' H') : Next K O B H (Own.lst q ys :: O.set j u') B' H' :=
  (Next.beside (O := [u]) (R := O.eraseIdx j) (h.perm (perm_at hj)) n).perm (perm_at hj).symm (Q' := Own.lst q ys :: O.set j u') ((perm_set hj).cons _)
theorem evn_callWN (i : ι) (j : Nat) (F : CalP X.prog X.w X.K X.mg X.base x k ps (spWN X.K pre ds w xs w')) (hr : Rm k X.A) (hp : pre i) (ha : Ea X (e :: es) ρ O (ds i) O1) (hj : O1[j]? = some (w i))
    (hg : Gl X x := by rfl) (hdb : (x == ("__debug__" : Str)) = false := by decide) (he : starEach (e :: es) X.env = (false, eval e X.env) :: starEach es X.env := by rfl) (hpl : (backTo pos (starEach es X.env)).any (·.1) = false := by rfl) :
    EvN X (.Call (.Name x p) (e :: es) [] pos) ρ O (xs i) (O1.set j (w' i)) := fun B H σ hO hS Q kk =>
  w_call F hr ha hO hS (fun vs B1 H1 n1 r1 => ⟨i, B1, hp, n1.st.at hj, r1, fun d O' v B' H' ⟨q, hd, hO'⟩ n2 r2 => by
    subst hd hO'
    cases (show v = .ref q from r2)
    exact kk q B' H' (n1.trans (next_WN hj n1.st n2))⟩) hg hdb he hpl
/-- with keywords; the parameters in the def's order are the values, then the keywords' -/
theorem ev_callKV (i : ι) (F : CalK X.prog X.w X.K X.mg X.base x k ps n ks (fun a b => a ++ b) (spV X.K pre ds val)) (hr : Rm k X.A) (hp : pre i) (ha : Ea X (e :: es) ρ O as O1) (hk : Ek X kws ρ O1 zs O2) (hd : ds i = as ++ zs) (hn : as.length = n := by rfl) (hm : zs.length = ks.length := by rfl)
    (hg : Gl X x := by rfl) (hall : (backToKw pos (keywordEach kws X.env)).all (·.1.isSome) = true := by rfl) (hks : (backToKw pos (keywordEach kws X.env)).filterMap (·.1) = ks := by rfl) (hdb : (x == ("__debug__" : Str)) = false := by decide)
    (he : starEach (e :: es) X.env = (false, eval e X.env) :: starEach es X.env := by rfl) (hpl : ((backTo pos (starEach (e :: es) X.env)).any (·.1) || (backToKw pos (keywordEach kws X.env)).any (·.1.isNone)) = false := by rfl) :
    Ev X (.Call (.Name x p) (e :: es) kws pos) ρ O (val i) O2 := fun B H σ hO hS Q kk =>
  w_callK F hr ha hk hn hm hO hS (fun vs us B1 H1 n1 r1 r2 => ⟨i, B1, hp, n1.st.none, by rw [hd]; exact r1.append r2, fun d O' v B' H' ⟨hd, hO'⟩ n2 r2 => by
    subst hd hO'
    exact kk v B' H' (n1.trans (nextV n1.st n2)) r2⟩) hg hall hks hdb he hpl
theorem evn_callKN (i : ι) (F : CalK X.prog X.w X.K X.mg X.base x k ps n ks (fun a b => a ++ b) (spN X.K pre ds xs)) (hr : Rm k X.A) (hp : pre i) (ha : Ea X (e :: es) ρ O as O1) (hk : Ek X kws ρ O1 zs O2) (hd : ds i = as ++ zs) (hn : as.length = n := by rfl) (hm : zs.length = ks.length := by rfl)
    (hg : Gl X x := by rfl) (hall : (backToKw pos (keywordEach kws X.env)).all (·.1.isSome) = true := by rfl) (hks : (backToKw pos (keywordEach kws X.env)).filterMap (·.1) = ks := by rfl) (hdb : (x == ("__debug__" : Str)) = false := by decide)
    (he : starEach (e :: es) X.env = (false, eval e X.env) :: starEach es X.env := by rfl) (hpl : ((backTo pos (starEach (e :: es) X.env)).any (·.1) || (backToKw pos (keywordEach kws X.env)).any (·.1.isNone)) = false := by rfl) :
    EvN X (.Call (.Name x p) (e :: es) kws pos) ρ O (xs i) O2 := fun B H σ hO hS Q kk =>
  w_callK F hr ha hk hn hm hO hS (fun vs us B1 H1 n1 r1 r2 => ⟨i, B1, hp, n1.st.none, by rw [hd]; exact r1.append r2, fun d O' v B' H' ⟨q, hd, hO'⟩ n2 r2 => by
    subst hd hO'
    cases (show v = .ref q from r2)
    exact kk q B' H' (n1.trans (by simpa using n2.pure n1.st))⟩) hg hall hks hdb he hpl
end
end

/-- a def's body keeps such a promise -/
theorem fn_G {P : Program} {w : World} {K : PySem.W.Frag} {mg : Str → Option Value} {base : Heap} {x qual : Str} {params : Arguments} {body : List Stmt} {scope : Scope} {dvs : List V} {kws : List (Str × V)} {f : Addr} {fd : FuncData} {N ps : List Str} {k : Nat}
    {ι : Type} {pre : ι → Prop} {ds : ι → List D} {O : ι → List Own} {R : ι → D → List Own → Prop} (F : FunD K x qual params body scope dvs kws f fd) (S : FnScope N ps scope) (hl : ∀ i, (ds i).length = ps.length)
    (hb : ∀ i, pre i → ∀ (cdv : Value) (A : Around) (outer : List Env) (s : Shared) (H : Hp), Rm k (A.deeper (PyProof.Rows.envOfC qual scope s.heap.objs.size f cdv)) →
      Bl (cxOf CX0 P w K mg base N qual scope f cdv A outer s H E0).nox body ((ds i).map some ++ List.replicate (N.length - (ds i).length) none) (O i) { nx := fun _ o => R i .non o, rt := R i }) :
    FnG P w K mg base CX0 (k + 1) f fd ps (spG K pre ds O R) :=
  okG F S (fun vs H Q E ⟨i, B, _, _, r, _⟩ => by rw [r.length, hl i]) fun cdv A outer s H vs Q E hr ⟨i, B, hp, hO, r, hq⟩ => by
    have hbl := hb i hp cdv A outer s H hr
    refine ⟨_, PSs.nox (t := wB (cxOf CX0 P w K mg base N qual scope f cdv A outer s H E0).nox body) ⟨fun pins s' σ' H' D I h => ?_⟩, hbl B H (L2.start N vs) hO ?_ _ ?_⟩
    · exact h pins s' I
    · refine ⟨by unfold L2.start; simp [r.length], fun j d hj => ?_⟩
      by_cases hjl : j < (ds i).length
      · rw [List.getElem?_append_left (by simpa using hjl), List.getElem?_map] at hj
        cases e : (ds i)[j]? with
        | none => rw [e] at hj; cases hj
        | some d' =>
          rw [e] at hj
          cases hj
          obtain ⟨v, e1, e2⟩ := r.get e
          refine ⟨v, ?_, e2⟩
          unfold L2.start
          rw [List.getElem?_append_left (by simpa [r.length] using hjl), List.getElem?_map, e1]
          rfl
      · rw [List.getElem?_append_right (by simpa using hjl), List.getElem?_replicate] at hj
        split at hj <;> cases hj
    · exact ⟨fun r' o σ' B' H' u m s' => hq .non o .non B' H' u m rfl, fun d o v B' H' u m r' => hq d o v B' H' u m r', fun _ _ _ _ _ u => u.elim, fun _ _ _ _ _ u => u.elim⟩

/-! ### // and % of any size -/
section
variable {X : Cx} {ρ : Ro} {O O1 O2 : List Own} {a b : Expr} {pos p : Pos}
theorem op_divPG : OpR X (binaryOp .FloorDiv) (rI (fun _ j => 0 < j ∧ j.natAbs.log2 < 9000) fun i j => .int (i / j)) := opI fun i j _ _ _ _ _ hc q => by
  have h1 : (0 : Int) < j := hc.1
  exact PyProof.Rows.floordiv_int (by omega) (by rw [Int.fdiv_eq_ediv_of_nonneg i (by omega)]; exact q) (.inl (PyProof.noPylong_of_log2 hc.2))
theorem ev_divP {i j : Int} (ha : Ev X a ρ O (.int i) O1) (hb : Ev X b ρ O1 (.int j) O2) (hm : 0 < j ∧ j.natAbs.log2 < 9000) : Ev X (.BinOp a .FloorDiv b pos) ρ O (.int (i / j)) O2 := ev_op op_divPG ha hb (op2_I hm)
theorem ev_modP {i j : Int} (ha : Ev X a ρ O (.int i) O1) (hb : Ev X b ρ O1 (.int j) O2) (hm : 0 < j) : Ev X (.BinOp a .Mod b pos) ρ O (.int (i % j)) O2 := ev_op op_mod ha hb (op2_I (C := fun _ j => 0 < j) hm)
/-- where the library's own division may be asked for: nobody has laid its module -/
structure Seer (X : Cx) : Prop where
  base : X.base.NoSeer
  tree : X.prog.given.tree = none
  fr : ∃ env l, X.stack = env :: l ∧ env.scope.isGenerator = false ∧ env.scope.isCoroutine = false ∧ env.builtins = builtinsNs ∧ env.globals = mainGlobals
  dep : X.A.depth + Builtin.pylongFrames < recursionLimit
theorem op_fdivA (S : Seer X) : OpR X (binaryOp .FloorDiv) (rI (fun _ j => j ≠ 0) fun i j => .int (i.fdiv j)) := by
  intro pins s σ H x y v u Q I rx ry h
  obtain ⟨i, j, rfl, rfl, hc, q⟩ := h
  obtain ⟨t, rfl⟩ := rx
  obtain ⟨t', rfl⟩ := ry
  obtain ⟨env, l, e, h1, h2, h3, h4⟩ := S.fr
  have hs : SeerAt (model X.prog X.w) X.A s.heap := SeerAt.of (S.base.keeps I.bk) S.tree (by rw [I.ok.frames, e]) h1 h2 h3 h4
  exact PyProof.Rows.floordiv_int hc ⟨.int _, H, I.tok _, ⟨_, rfl⟩, q⟩ (.inr (PylongRoom.of I.nolimit S.dep hs))
theorem ev_fdivA {i j : Int} (S : Seer X) (ha : Ev X a ρ O (.int i) O1) (hb : Ev X b ρ O1 (.int j) O2) (hm : j ≠ 0) : Ev X (.BinOp a .FloorDiv b pos) ρ O (.int (i.fdiv j)) O2 := ev_op (op_fdivA S) ha hb (op2_I (C := fun _ j => j ≠ 0) hm)
theorem ev_divmodW {i j : Int} (T : X.mg "divmod" = none) (ha : Ea X [a, b] ρ O [.int i, .int j] O1) (hd : 0 < j ∧ j.natAbs.log2 < 9000) (hg : Gl X "divmod" := by rfl) (he : starEach [a, b] X.env = (false, eval a X.env) :: starEach [b] X.env := by rfl) (he2 : (backTo pos (starEach [b] X.env)).any (·.1) = false := by rfl) :
    Ev X (.Call (.Name "divmod" p) [a, b] [] pos) ρ O (.tup [.int (i / j), .int (i % j)]) O1 :=
  ev_bcall call_divmodW T (by decide +kernel) ha (fun B H vs hO r Q k => by
    obtain ⟨v, w, rfl, e, e'⟩ := two r
    cases (show v = .int i from e); cases (show w = .int j from e')
    refine ⟨i, j, rfl, ⟨hd.1, PyProof.noPylong_of_log2 hd.2⟩, fun z hz => ?_⟩
    have n := (Next.cell (K := X.K) (o := .tup [.int (i / j), .int (i % j)]) hO.ext hz).pure hO
    exact k _ _ _ n ⟨z, _, rfl, upd_same, (by show 2 ≤ 1000000; decide), .cons rfl (.cons rfl .nil)⟩) hg (by decide) (by decide) he he2
/-- an item of a typed list -/
theorem atI_map {α : Type} {xs : List α} {g : α → D} {i : Int} {x : α} (h : atI xs i = some x) : atI (xs.map g) i = some (g x) := by
  unfold atI at h ⊢
  rw [List.length_map]
  cases e : ixN xs.length i with
  | none => rw [e] at h; cases h
  | some j =>
    rw [e] at h
    show (xs.map g)[j]? = _
    rw [List.getElem?_map, show xs[j]? = some x from h]
    rfl
theorem atI_in {α : Type} {xs : List α} {i : Int} {d : α} (h0 : 0 ≤ i) (h1 : i < xs.length) : atI xs i = some (xs.getD i.toNat d) := by
  obtain ⟨j, rfl⟩ : ∃ j : Nat, i = j := ⟨i.toNat, by omega⟩
  have hj : j < xs.length := by omega
  rw [atI_nat (v := xs[j]) (by simp [hj])]
  simp [hj]
theorem ev_ixM {α : Type} {xs : List α} {g : α → D} {i : Int} {x : α} (ha : Ev X a ρ O (.lst (xs.map g)) O1) (hb : Ev X b ρ O1 (.int i) O2) (hi : atI xs i = some x) (hs : PlainIx b := by exact fun _ _ => rfl) : Ev X (.Subscript a b pos) ρ O (g x) O2 := ev_ixL ha hb (atI_map hi) hs
end

/-! ### data as the model's own: ==, repr -/
mutual
def pyD : D → PyData
  | .non => .none
  | .bl b => .bool b
  | .int i => .int i
  | .str s => .str s
  | .lst xs => .list (pyDs xs)
  | .tup xs => .tuple (pyDs xs)
  | .raw _ => .none
def pyDs : List D → List PyData
  | [] => []
  | x :: xs => pyD x :: pyDs xs
end
mutual
/-- no raw value within -/
def deep : D → Bool
  | .raw _ => false
  | .lst xs => deeps xs
  | .tup xs => deeps xs
  | _ => true
def deeps : List D → Bool
  | [] => true
  | x :: xs => deep x && deeps xs
end
mutual
theorem dp_of {K : PySem.W.Frag} {B H : Hp} (e : Same B H) : ∀ {d : D} {v : V}, deep d = true → rep K B v d → Dp K H v (pyD d)
  | .non, v, _, r => by cases (show v = .non from r); exact .non
  | .bl b, v, _, r => by cases (show v = .bl b from r); exact .bl b
  | .int i, v, _, r => by cases (show v = .int i from r); exact .int i
  | .str s, v, _, r => by cases (show v = .str s from r); exact .str s
  | .lst xs, v, h, r => by
    obtain ⟨a, vs, rfl, e1, _, rr⟩ := r
    exact .lst (SqL.of (e _ _ e1)) (dps_of e (show deeps xs = true from h) rr)
  | .tup xs, v, h, r => by
    obtain ⟨a, vs, rfl, e1, _, rr⟩ := r
    exact .tup (SqT.of (e _ _ e1)) (dps_of e (show deeps xs = true from h) rr)
  | .raw _, v, h, _ => by cases h
theorem dps_of {K : PySem.W.Frag} {B H : Hp} (e : Same B H) : ∀ {ds : List D} {vs : List V}, deeps ds = true → reps K B vs ds → DpAll K H vs (pyDs ds)
  | [], vs, _, r => by cases (show vs = [] from r); exact .nil
  | d :: ds, vs, h, r => by
    obtain ⟨v, t, rfl, r1, r2⟩ := r
    obtain ⟨h1, h2⟩ := Bool.and_eq_true_iff.mp (show (deep d && deeps ds) = true from h)
    exact .cons (dp_of e h1 r1) (dps_of e h2 r2)
end
section
variable {X : Cx} {ρ : Ro} {O O1 O2 : List Own} {a b : Expr} {pos p : Pos} {d1 d2 d : D}
theorem op2_eqD (h1 : deep d1 = true) (h2 : deep d2 = true) (s1 : SeqAt.shaped (pyD d1) = true) (s2 : SeqAt.shaped (pyD d2) = true) : Op2 X.K (rEqD X.K) O d1 d2 (.bl (PyData.eqv (pyD d1) (pyD d2))) O := fun B H x y hO r1 r2 Q k =>
  ⟨_, _, dp_of hO.ext h1 r1, dp_of hO.ext h2 r2, s1, s2, k _ B H (.refl hO) rfl⟩
theorem op2_neD (h1 : deep d1 = true) (h2 : deep d2 = true) (s1 : SeqAt.shaped (pyD d1) = true) (s2 : SeqAt.shaped (pyD d2) = true) : Op2 X.K (rNeD X.K) O d1 d2 (.bl (!PyData.eqv (pyD d1) (pyD d2))) O := fun B H x y hO r1 r2 Q k =>
  ⟨_, _, dp_of hO.ext h1 r1, dp_of hO.ext h2 r2, s1, s2, k _ B H (.refl hO) rfl⟩
section
variable {k : Nat} (hr : Rm k X.A) (ha : Ev X a ρ O d1 O1) (hb : Ev X b ρ O1 d2 O2) (h1 : deep d1 = true) (h2 : deep d2 = true) (s1 : SeqAt.shaped (pyD d1) = true) (s2 : SeqAt.shaped (pyD d2) = true)
include hr ha hb h1 h2 s1 s2
theorem ev_eqD : Ev X (.Compare a [.Eq] [b] pos) ρ O (.bl (PyData.eqv (pyD d1) (pyD d2))) O2 := ev_cmp (op_eqD hr.room.units) (nomark _) ha hb (op2_eqD h1 h2 s1 s2)
theorem et_eqD : Et X (.Compare a [.Eq] [b] pos) ρ O (PyData.eqv (pyD d1) (pyD d2)) O2 := et_cmp (op_eqD hr.room.units) (nomark _) ha hb (op2_eqD h1 h2 s1 s2)
theorem ev_neD : Ev X (.Compare a [.NotEq] [b] pos) ρ O (.bl (!PyData.eqv (pyD d1) (pyD d2))) O2 := ev_cmp (op_neD hr.room.units) (nomark _) ha hb (op2_neD h1 h2 s1 s2)
theorem et_neD : Et X (.Compare a [.NotEq] [b] pos) ρ O (!PyData.eqv (pyD d1) (pyD d2)) O2 := et_cmp (op_neD hr.room.units) (nomark _) ha hb (op2_neD h1 h2 s1 s2)
end
/-- repr of a list, a tuple -/
theorem call_reprD {k : Nat} (hr : Rm k X.A) : CallR X (.builtin "repr") (fun xs H Q => ∃ q d, xs = [.ref q] ∧ Dp X.K H (.ref q) d ∧ d.showable = true ∧ d.hasDict = false ∧ d.depth ≤ 60 ∧ d.shown.length ≤ sizeLine ∧ Q (.str d.shown) H) := by
  intro pins s σ H xs us Q I r h
  obtain ⟨q, d, rfl, hd, hs, hn, hp, hz, q⟩ := h
  obtain ⟨u, rfl, ru⟩ := vals1 r
  cases ru
  obtain ⟨as, rd⟩ := Dp.reads I d _ _ hd rfl
  have hu := hr.room.units
  exact repr_of_reads' rd hs (PySem.PyData.noDict_hsm hn) hr.quiet (by omega) (fun _ _ e => e) (fun h' u tk hk => ⟨.str _, H, I.kept hk, ⟨_, rfl⟩, q⟩) hz
end
end GL
namespace GL
open PySem L2

section
variable {X : Cx} {ρ : Ro} {O O1 O2 O3 : List Own} {a b e i : Expr} {es : List Expr} {d : D} {ds : List D} {pos p apos pos' : Pos} {U : Out} {rest : List Stmt} {f m : Str}
/-! ### fields -/
/-- what an instance's field holds, told of every heap that bears what is owned -/
def Fld (K : PySem.W.Frag) (O : List Own) (q : Addr) (f : Str) (d : D) : Prop := ∀ B H, OSt K O B H → ∃ C dx fs v, H q = some (.ins C dx fs) ∧ Cls K C ∧ NoAttr K C f ∧ fs.lookup f = some v ∧ rep K B v d
theorem ev_fld {q : Addr} (h : Ev X e ρ O (.raw (.ref q)) O1) (hf : Fld X.K O1 q f d) (hb : attributeBase e f X.env (eval e X.env) = eval e X.env := by rfl) : Ev X (.Attribute e f pos) ρ O d O1 := fun B H σ hO hS Q k =>
  w_pe (pe_fld pe_w hb) (h B H σ hO hS _ fun x B1 H1 n1 r1 => by
    cases (show x = .ref q from r1)
    obtain ⟨C, dx, fs, v, e1, e2, e3, e4, e5⟩ := hf B1 H1 n1.st
    exact ⟨q, C, dx, fs, v, rfl, e1, e2, e3, e4, k v B1 H1 n1 e5⟩)
/-- o.f = e: O2 to O3 by the field's new value -/
def SetFld (K : PySem.W.Frag) (O : List Own) (q : Addr) (f : Str) (d : D) (O' : List Own) : Prop := ∀ B H v, OSt K O B H → rep K B v d → ∃ C dx fs, H q = some (.ins C dx fs) ∧ Cls K C ∧ NoAttr K C f ∧ fs.length < 1000 ∧ ∃ B', Next K O B H O' B' (upd H q (.ins C dx (putF f v fs)))
theorem bl_fld {q : Addr} (h : Ev X e ρ O d O1) (ho : Ev X a ρ O1 (.raw (.ref q)) O2) (hf : SetFld X.K O2 q f d O3) (kk : Bl X rest ρ O3 U) (hs : swapsWith e (some (.Attribute a f pos')) pos.line X.env = pure false := by rfl) : Bl X (.Assign [.Attribute a f pos'] e pos :: rest) ρ O U := fun B H σ hO hS D hD =>
  w_pb (pss_cons (ps_fld pe_w pe_w hs) pb_w) (h B H σ hO hS _ fun v B1 H1 n1 r1 => ho B1 H1 σ n1.st (hS.mono n1.base) _ fun x B2 H2 n2 r2 => by
    cases (show x = .ref q from r2)
    obtain ⟨C, dx, fs, e1, e2, e3, e4, B3, n3⟩ := hf B2 H2 v n2.st (r1.mono n2.base)
    have nn := (n1.trans n2).trans n3
    exact ⟨q, C, dx, fs, rfl, e1, e2, e3, e4, kk B3 _ σ nn.st (hS.mono nn.base) D (hD.from nn)⟩)
/-- .. where a new list goes into the field and is owned from then on -/
theorem bl_fldN {q : Addr} {xs : List D} {O3' : Addr → List Own} (h : EvN X e ρ O xs O1) (ho : ∀ l, Ev X a ρ (Own.lst l xs :: O1) (.raw (.ref q)) (O2)) (hf : ∀ l, SetFld X.K O2 q f (.raw (.ref l)) (O3' l)) (kk : ∀ l, Bl X rest ρ (O3' l) U) (hs : swapsWith e (some (.Attribute a f pos')) pos.line X.env = pure false := by rfl) :
    Bl X (.Assign [.Attribute a f pos'] e pos :: rest) ρ O U := fun B H σ hO hS D hD =>
  w_pb (pss_cons (ps_fld pe_w pe_w hs) pb_w) (h B H σ hO hS _ fun l B1 H1 n1 => ho l B1 H1 σ n1.st (hS.mono n1.base) _ fun x B2 H2 n2 r2 => by
    cases (show x = .ref q from r2)
    obtain ⟨C, dx, fs, e1, e2, e3, e4, B3, n3⟩ := hf l B2 H2 (.ref l) n2.st rfl
    have nn := (n1.trans n2).trans n3
    exact ⟨q, C, dx, fs, rfl, e1, e2, e3, e4, kk l B3 _ σ nn.st (hS.mono nn.base) D (hD.from nn)⟩)

/-! ### dicts -/
/-- what a dict's key holds -/
def DHas (K : PySem.W.Frag) (O : List Own) (q : Addr) (k : Key) (d : Option D) : Prop := ∀ B H, OSt K O B H → ∃ kvs, H q = some (.dK kvs) ∧ (match d with | some d => ∃ v, valV kvs k = some v ∧ rep K B v d | none => valV kvs k = none)
def kD : Key → D
  | .inl i => .int i
  | .inr x => .str x
theorem rep_key {K : PySem.W.Frag} {B : Hp} {k : Key} {v : V} (r : rep K B v (kD k)) : v = kV k := by cases k <;> exact r
theorem et_din {q : Addr} {n : Nat} {k : Key} {o : Option D} (hr : Rm n X.A) (hi : Ev X i ρ O (kD k) O1) (ho : Ev X e ρ O1 (.raw (.ref q)) O2) (hd : DHas X.K O2 q k o) (hm : behindInMarks .In e = false := by rfl) : Et X (.Compare i [.In] [e] pos) ρ O o.isSome O2 := fun B H σ hO hS Q kk =>
  w_pt (pt_cmp (pc_din (by have := hr.room.units; omega) pe_w pe_w) hm) (hi B H σ hO hS _ fun y B1 H1 n1 r1 => ho B1 H1 σ n1.st (hS.mono n1.base) _ fun x B2 H2 n2 r2 => by
    cases (show x = .ref q from r2)
    cases rep_key r1
    obtain ⟨kvs, e1, e2⟩ := hd B2 H2 n2.st
    refine ⟨q, valV kvs k, rfl, DGet.k e1, _, rfl, ?_⟩
    have : (valV kvs k).isSome = o.isSome := by
      cases o with
      | none => rw [show valV kvs k = none from e2]; rfl
      | some d => obtain ⟨v, e3, _⟩ := e2; rw [e3]; rfl
    rw [this]
    exact kk B2 H2 (n1.trans n2))
theorem ev_dget {q : Addr} {n : Nat} {k : Key} (hr : Rm n X.A) (ho : Ev X e ρ O (.raw (.ref q)) O1) (hi : Ev X i ρ O1 (kD k) O2) (hd : DHas X.K O2 q k (some d)) (hs : NoSl i := by exact fun _ _ => rfl) : Ev X (.Subscript e i pos) ρ O d O2 := fun B H σ hO hS Q kk =>
  w_pe (pe_dget (by have := hr.room.units; omega) pe_w pe_w hs) (ho B H σ hO hS _ fun x B1 H1 n1 r1 => hi B1 H1 σ n1.st (hS.mono n1.base) _ fun y B2 H2 n2 r2 => by
    cases (show x = .ref q from r1)
    cases rep_key r2
    obtain ⟨kvs, e1, v, e2, e3⟩ := hd B2 H2 n2.st
    have g := DGet.k (H := H2) (a := q) (kvs := kvs) (k := k) e1
    rw [e2] at g
    exact ⟨q, v, rfl, g, kk v B2 H2 (n1.trans n2) e3⟩)
def DPutTo (K : PySem.W.Frag) (O : List Own) (q : Addr) (k : Key) (d : D) (O' : List Own) : Prop := ∀ B H v, OSt K O B H → rep K B v d → ∃ kvs, H q = some (.dK kvs) ∧ kvs.length < sizeLine ∧ ∃ B', Next K O B H O' B' (upd H q (.dK (putK kvs k v)))
theorem bl_dput {q : Addr} {n : Nat} {k : Key} (hr : Rm n X.A) (h : Ev X e ρ O d O1) (ho : Ev X a ρ O1 (.raw (.ref q)) O2) (hi : Ev X i ρ O2 (kD k) O2) (hf : DPutTo X.K O2 q k d O3) (kk : Bl X rest ρ O3 U)
    (hs : swapsWith e (some (.Subscript a i pos')) pos.line X.env = pure false := by rfl) : Bl X (.Assign [.Subscript a i pos'] e pos :: rest) ρ O U := fun B H σ hO hS D hD =>
  w_pb (pss_cons (ps_dput (by have := hr.room.units; omega) pe_w pe_w pe_w hs) pb_w) (h B H σ hO hS _ fun v B1 H1 n1 r1 => ho B1 H1 σ n1.st (hS.mono n1.base) _ fun x B2 H2 n2 r2 => hi B2 H2 σ n2.st (hS.mono (n1.trans n2).base) _ fun y B3 H3 n3 r3 => by
    cases (show x = .ref q from r2)
    cases rep_key r3
    obtain ⟨kvs, e1, e2, B4, n4⟩ := hf B3 H3 v n3.st (r1.mono (n2.trans n3).base)
    have nn := ((n1.trans n2).trans n3).trans n4
    exact ⟨q, _, rfl, DPut.k e1 e2, kk B4 _ σ nn.st (hS.mono nn.base) D (hD.from nn)⟩)

/-! ### sorted(d), keys ints -/
theorem ints_at : ∀ {us : List Value} {ks : List Int}, us.length = ks.length → (∀ (j : Nat) (v : Value), us[j]? = some v → ∃ (x : Int) (t : Tok), ks[j]? = some x ∧ v = Value.int x t) → PyProof.Rows.IntsAre us ks
  | [], [], _, _ => .nil
  | u :: us, k :: ks, hl, h => by
    obtain ⟨x, t, e1, rfl⟩ := h 0 u rfl
    cases (show k = x from Option.some.inj e1)
    exact .cons _ _ (ints_at (by simpa using hl) fun j v e => by
      obtain ⟨x, t, a, b⟩ := h (j + 1) v (by simpa using e)
      exact ⟨x, t, by simpa using a, b⟩)
  | [], _ :: _, hl, _ => by simp at hl
  | _ :: _, [], hl, _ => by simp at hl
theorem call_sortedDI (hcalm : X.calm = true) : CallR X (.builtin "sorted") (fun xs H Q => ∃ (a : Addr) (kvs : List (Key × V)) (ks : List Int), xs = [.ref a] ∧ Rd H a (.dK kvs) ∧ kvs.map (·.1) = ks.map Sum.inl ∧ ks.length < 64 ∧
    ∀ (ys : List Int) p, ys.Perm ks → ys.Pairwise (· ≤ ·) → H p = none → Q (.ref p) (upd H p (.lst (ys.map V.int)))) := by
  intro pins s σ H xs us Q I r q
  obtain ⟨a, kvs, ks, rfl, hd, hks, h64, q⟩ := q
  obtain ⟨u, rfl, rx⟩ := vals1 r
  cases rx
  obtain ⟨z, lo, vs, rel, dd⟩ := dk_rd I.hok hd
  obtain ⟨ep, hat⟩ := dd.dictAt
  have hkeys : vs.map (·.1) = ks.map Sum.inl := rel.keys.symm.trans hks
  have hl : vs.length = ks.length := by simpa using congrArg List.length hkeys
  refine Calls.call_function_entry PyProof.Rows.kind_sorted PyProof.Rows.plain_sorted PyProof.Rows.entry_sorted (PyProof.Rows.args_sorted1 _) ?_
  unfold Builtin.«sorted»
  refine wpAny_bind (m := checkCount "sorted" 1 1 _) (wpAny_pure ?_)
  refine wpAny_bind (PySem.W.kdu_collect (A := X.A.in1) (PySem.W.kdl_dict (knd := mixKind X.prog X.w) (kvs := vs) (ep := ep) lo) (I.ok.hd hcalm) hat (by rw [hl, sizeLine_eq]; omega) fun h' tk acc hk hacc => ?_)
  have hal : acc.toList.length = ks.length := by rw [Array.length_toList, hacc.1, hl]
  have hS : PyProof.Rows.IntsAre acc.toList ks := ints_at hal fun j v e => by
    obtain ⟨k, x, e1, e2⟩ := hacc.2 j v (by rw [← Array.getElem?_toList]; exact e)
    have e3 : (ks.map (Sum.inl : Int → Key))[j]? = some k := by rw [← hkeys, List.getElem?_map, e1]; rfl
    rw [List.getElem?_map] at e3
    cases e4 : ks[j]? with
    | none => rw [e4] at e3; cases e3
    | some y =>
      rw [e4] at e3
      cases (show (Sum.inl y : Key) = k from Option.some.inj e3)
      obtain ⟨t, ev⟩ := Value.isInt_shape (k := y) (v := v) e2
      exact ⟨y, t, rfl, ev⟩
  have I1 : Inv X pins σ H { s with heap := h', toks := tk } := I.kept hk
  refine wpAny_bind (wpAny_newList ?_ (by rw [hal, sizeLine_eq]; omega))
  have hoL : (h'.push (PyProof.Rows.seqObj "list" acc.toList.toArray 0)).get? h'.objs.size = some (PyProof.Rows.seqObj "list" acc.toList.toArray 0) := Heap.get?_push_size _ rfl
  show wpAny _ _ _ _ _ { s with heap := h'.push (PyProof.Rows.seqObj "list" acc.toList.toArray 0), toks := tk }
  refine wpAny_bind (wpAny_holding (wpAny_call_entry PyProof.Rows.slot_list_sort ⟨_, hoL, rfl⟩ PyProof.Rows.entry_list_sort
    (PyProof.Rows.list_sort_tree (s := { s with heap := h'.push (PyProof.Rows.seqObj "list" acc.toList.toArray 0), toks := tk }) hoL hS (by rw [hal]; exact h64) fun out ns' a1 a2 a3 => ⟨_, rfl, ?_⟩) (PyProof.Rows.args_list_sort _)))
  obtain ⟨e', he'⟩ := PyProof.Rows.sortedHeap_at (vs := acc.toList) (out := out) hoL
  have hlen : (ns'.map V.int).length ≤ sizeLine := by rw [List.length_map, a2.length_eq]; exact small64 h64
  refine wpAny_pure ⟨_, rfl, .ref h'.objs.size, upd H h'.objs.size (.lst (ns'.map V.int)), I1.laid (t' := tk) (fun b u e => ?_) (Nat.le_refl _) ⟨hlen, out.toList, e', vals_of_ints a1, he'⟩, rfl, q ns' _ a2 a3 (I1.hok.fresh (Nat.le_refl _))⟩
  rw [PyProof.Rows.sortedHeap_old (Nat.ne_of_lt (Heap.lt_size e)) (by rw [Heap.size_push]; exact Nat.lt_succ_of_lt (Heap.lt_size e))]
  exact Heap.get?_push_of_some _ e
/-- an increasing list is the only sorted one of its items -/
theorem sorted_one : ∀ {xs ys : List Int}, xs.Pairwise (· < ·) → ys.Perm xs → ys.Pairwise (· ≤ ·) → ys = xs
  | [], ys, _, p, _ => p.eq_nil
  | x :: xs, [], _, p, _ => absurd p.length_eq (by simp)
  | x :: xs, y :: ys, h1, p, h2 => by
    obtain ⟨a1, a2⟩ := List.pairwise_cons.mp h1
    obtain ⟨b1, b2⟩ := List.pairwise_cons.mp h2
    have e : y = x := by
      rcases List.mem_cons.mp (p.mem_iff.mp List.mem_cons_self) with q | q
      · exact q
      · have l1 := a1 y q
        rcases List.mem_cons.mp (p.mem_iff.mpr (List.mem_cons_self (a := x) (l := xs))) with z | z
        · omega
        · have := b1 x z; omega
    subst e
    rw [sorted_one a2 ((List.perm_cons _).mp p) b2]
/-- .. of a dict with its keys at hand: DKeys: its keys as a sorted list in some order -/
def DKeys (K : PySem.W.Frag) (O : List Own) (q : Addr) (ks : List Int) : Prop := ∀ B H, OSt K O B H → ∃ (kvs : List (Key × V)) (js : List Int), H q = some (.dK kvs) ∧ kvs.map (·.1) = js.map Sum.inl ∧ js.Perm ks
theorem evn_sortedD {q : Addr} {ks : List Int} (T : X.mg "sorted" = none) (h : Ev X e ρ O (.raw (.ref q)) O1) (hd : DKeys X.K O1 q ks) (hk : ks.Pairwise (· < ·)) (hl : ks.length < 64) (hc : X.calm = true := by rfl) (hg : Gl X "sorted" := by rfl)
    (he : starEach [e] X.env = [(false, eval e X.env)] := by rfl) : EvN X (.Call (.Name "sorted" p) [e] [] pos) ρ O (ks.map D.int) O1 := fun B H σ hO hS Q kk =>
  w_pe (pe_callB (call_sortedDI hc) hg T (by decide +kernel) pa_w (by decide) (by decide) (by rw [he] <;> rfl)) (ea_cons h ea_nil (by rw [he] <;> rfl) B H σ hO hS _ fun vs B1 H1 n1 r1 => by
    obtain ⟨v, rfl, r⟩ := one r1
    cases (show v = .ref q from r)
    obtain ⟨kvs, js, e1, e2, e3⟩ := hd B1 H1 n1.st
    refine ⟨q, kvs, js, rfl, .inl e1, e2, by rw [e3.length_eq]; exact hl, fun ys z h1 h2 hz => ?_⟩
    have := sorted_one hk (h1.trans e3) h2
    subst this
    refine kk z B1 _ (n1.trans (Next.newL n1.st hz (by rw [List.length_map]; exact Nat.le_trans (Nat.le_of_lt hl) (by decide)) (reps.of_get (by simp) fun i v d a1 a2 => ?_)))
    rw [List.getElem?_map] at a1 a2
    cases q : ys[i]? with
    | none => rw [q] at a1; cases a1
    | some y => rw [q] at a1 a2; cases a1; cases a2; rfl)

/-! ### methods, instances -/
/-- a method that can be called on an instance of the class at C -/
structure CalM (P : Program) (w : World) (K : PySem.W.Frag) (mg : Str → Option Value) (base : Heap) (C : Addr) (m : Str) (k : Nat) (ps : List Str) (sp : Sp) : Prop where
  ex : ∃ (f : Addr) (fd : FuncData), Meth K C m f ∧ Cls K C ∧ FnG P w K mg base CX0 k f fd ps sp ∧ Binds K fd ps []
/-- an instance whose fields do not hide the method -/
def IsIns (K : PySem.W.Frag) (O : List Own) (C q : Addr) (m : Str) : Prop := ∀ B H, OSt K O B H → ∃ dx fs, H q = some (.ins C dx fs) ∧ fs.lookup m = none
section
variable {C q : Addr} {k : Nat} {ps : List Str} {sp : Sp} {pl : Sem Bool}
theorem w_meth (F : CalM X.prog X.w X.K X.mg X.base C m k ps sp) (hr : Rm k X.A) (ho : Ev X a ρ O (.raw (.ref q)) O1) (hq : IsIns X.K O1 C q m) (ha : Ea X (e :: es) ρ O1 ds O2)
    {B H : Hp} {σ : L2.St} {Q : VK} (hO : OSt X.K O B H) (hS : Slots X.K B σ ρ) (h : ∀ vs B1 H1, Next X.K O B H O2 B1 H1 → reps X.K B1 vs ds → sp (.ref q :: vs) H1 Q E0)
    (hst : starEach (e :: es) X.env = (false, eval e X.env) :: starEach es X.env := by rfl) (hpl : (backTo pos (starEach es X.env)).any (·.1) = false := by rfl)
    (ht : eval (.Call (.Attribute a m apos) (e :: es) [] pos) X.env = (do
      let ov ← eval a X.env
      standAt apos.atName
      let (f, first) ← holding [ov] (getMethod ov m pl)
      callWith pos f first (backTo pos (starEach (e :: es) X.env)) (backToKw pos (keywordEach [] X.env))) := by rfl) :
    wE X (.Call (.Attribute a m apos) (e :: es) [] pos) σ H Q := by
  obtain ⟨f, fd, me, cl, ok, bi⟩ := F.ex
  intro pins s I
  refine PySem.W.methodCall_KW (pl := pl) (thn (ho B H σ hO hS (fun x H' => x = .ref q ∧ (∃ dx fs, H' q = some (.ins C dx fs) ∧ fs.lookup m = none) ∧ wA X (e :: es) σ H' fun vs H'' => sp (.ref q :: vs) H'' Q E0) (fun v B1 H1 n1 r1 =>
    ⟨r1, hq B1 H1 n1.st, ha B1 H1 σ n1.st (hS.mono n1.base) _ fun vs B2 H2 n2 r2 => h vs B2 H2 (n1.trans n2) r2⟩) pins s I) fun u s1 ⟨x, H1, I1, rx, ex, ⟨dx, fs, e1, e2⟩, qa⟩ => ?_) ht
  subst ex
  cases rx
  refine getmeth_ok I1 e1 cl me e2 ?_
  refine PySem.W.callWith_K (first := [.ref q]) (h₀ := X.base) I.ok.mod.kin me.kp (thn (qa pos pins s1 I1) fun us s2 ⟨vs, H2, I2, r, q2⟩ => ⟨I2.kIn, ?_⟩) hst hpl
  exact runG (us := .ref q :: us) ok hr bi pass0 I2 (.cons (show RelV (.ref q) (Value.ref q) from rfl) r) q2
theorem w_meth0 (F : CalM X.prog X.w X.K X.mg X.base C m k ps sp) (hr : Rm k X.A) (ho : Ev X a ρ O (.raw (.ref q)) O1) (hq : IsIns X.K O1 C q m)
    {B H : Hp} {σ : L2.St} {Q : VK} (hO : OSt X.K O B H) (hS : Slots X.K B σ ρ) (h : ∀ B1 H1, Next X.K O B H O1 B1 H1 → sp [.ref q] H1 Q E0)
    (ht : eval (.Call (.Attribute a m apos) [] [] pos) X.env = (do
      let ov ← eval a X.env
      standAt apos.atName
      let (f, first) ← holding [ov] (getMethod ov m pl)
      callWith pos f first (backTo pos (starEach [] X.env)) (backToKw pos (keywordEach [] X.env))) := by rfl) :
    wE X (.Call (.Attribute a m apos) [] [] pos) σ H Q := by
  obtain ⟨f, fd, me, cl, ok, bi⟩ := F.ex
  intro pins s I
  refine PySem.W.methodCall_KW (pl := pl) (thn (ho B H σ hO hS (fun x H' => x = .ref q ∧ (∃ dx fs, H' q = some (.ins C dx fs) ∧ fs.lookup m = none) ∧ sp [.ref q] H' Q E0) (fun v B1 H1 n1 r1 =>
    ⟨r1, hq B1 H1 n1.st, h B1 H1 n1⟩) pins s I) fun u s1 ⟨x, H1, I1, rx, ex, ⟨dx, fs, e1, e2⟩, q2⟩ => ?_) ht
  subst ex
  cases rx
  refine getmeth_ok I1 e1 cl me e2 ?_
  exact PySem.W.callWith_K0 (first := [.ref q]) I1.kIn me.kp (runG (us := [.ref q]) ok hr bi pass0 I1 (.cons (show RelV (.ref q) (Value.ref q) from rfl) .nil) q2)
/-- C(e, ..) by its own __init__ -/
structure CalC (P : Program) (w : World) (K : PySem.W.Frag) (mg : Str → Option Value) (base : Heap) (x : Str) (C : Addr) (k : Nat) (ps : List Str) (sp : Sp) : Prop where
  ex : ∃ (f : Addr) (fd : FuncData), mg x = some (.ref C) ∧ Mk K C f ∧ FnG P w K mg base CX0 k f fd ps sp ∧ Binds K fd ps []
theorem w_make {x : Str} (F : CalC X.prog X.w X.K X.mg X.base x C k ps sp) (hr : Rm (k + 1) X.A) (ha : Ea X (e :: es) ρ O ds O1)
    {B H : Hp} {σ : L2.St} {Q : VK} (hO : OSt X.K O B H) (hS : Slots X.K B σ ρ)
    (h : ∀ vs B1 H1, Next X.K O B H O1 B1 H1 → reps X.K B1 vs ds → ∀ x dx, H1 x = none → H1 dx = none → dx ≠ x → sp (.ref x :: vs) (upd (upd H1 dx (.own x)) x (.ins C dx [])) (fun v H2 => v = .non ∧ Q (.ref x) H2) E0)
    (hg : Gl X x := by rfl) (hdb : (x == ("__debug__" : Str)) = false := by decide) (he : starEach (e :: es) X.env = (false, eval e X.env) :: starEach es X.env := by rfl) (hpl : (backTo pos (starEach es X.env)).any (·.1) = false := by rfl) :
    wE X (.Call (.Name x p) (e :: es) [] pos) σ H Q := by
  obtain ⟨f, fd, gl, mk, ok, bi⟩ := F.ex
  intro pins s I
  refine wpAny_Call_Name_kw (ld_glob I hg gl ?_ hdb)
  refine PySem.W.callWith_K (h₀ := X.base) I.ok.mod.kin mk.kp (thn (ha B H σ hO hS (fun vs H' => ∀ x dx, H' x = none → H' dx = none → dx ≠ x → sp (.ref x :: vs) (upd (upd H' dx (.own x)) x (.ins C dx [])) (fun v H2 => v = .non ∧ Q (.ref x) H2) E0) (fun vs B1 H1 n1 r1 => h vs B1 H1 n1 r1) pos pins s I)
    fun us s1 ⟨vs, H1, I1, r, q⟩ => ⟨I1.kIn, ?_⟩) he hpl
  have hq := q (s1.heap.objs.size + 1) s1.heap.objs.size (I1.hok.fresh (Nat.le_succ _)) (I1.hok.fresh (Nat.le_refl _)) (Nat.ne_of_lt (Nat.lt_succ_self _))
  have I2 := Inv.made (C := C) I1
  have r2 : Vals (V.ref (s1.heap.objs.size + 1) :: vs) (Value.ref (s1.heap.objs.size + 1) :: us) := .cons (show RelV (.ref _) (Value.ref _) from rfl) r
  have hl : ((Value.ref (s1.heap.objs.size + 1) :: us) ++ []).length = ps.length := by rw [List.append_nil, ← r2.length]; exact ok.len _ _ _ _ hq
  have hb := bi _ _ I2.kIn hl
  rw [List.append_nil] at hb
  refine wpAny_call (make_map (f := f) I1.kIn mk.makes mk.init (beq_iff_eq.mp mk.fn) (codeAny_mono (ok.run _ X.stack _ _ ⟨Value.ref (s1.heap.objs.size + 1) :: us, []⟩ (Value.ref (s1.heap.objs.size + 1) :: us) _ _ E0 (hr.make C us [])
    (I2.env0.make C us []) hb r2 hq) fun r s' hq' => ?_))
  cases r with
  | error e => exact pass0 pins σ _ _ e s' I2 hq'
  | ok fl =>
    cases fl with
    | ret u =>
      obtain ⟨v, H', I3, rv, ev, q3⟩ := I2.after hq'
      subst ev
      exact ⟨rv, ⟨V.ref (s1.heap.objs.size + 1), H', I3, rfl, q3⟩⟩
    | next => exact False.elim hq'
    | brk => exact False.elim hq'
    | cont => exact False.elim hq'
end
end
end GL
namespace GL
open PySem L2

/-! ### results told by a relation -/
def EvR (X : Cx) (e : Expr) (ρ : Ro) (O : List Own) (R : D → List Own → Prop) : Prop :=
  ∀ (B H : Hp) (σ : L2.St), OSt X.K O B H → Slots X.K B σ ρ → ∀ Q : VK, (∀ d O' v B' H', R d O' → Next X.K O B H O' B' H' → rep X.K B' v d → Q v H') → wE X e σ H Q
section
variable {X : Cx} {ρ : Ro} {O O1 O2 O3 : List Own} {a b e i : Expr} {es : List Expr} {d : D} {ds : List D} {pos p apos pos' : Pos} {U : Out} {rest body : List Stmt} {f m : Str} {R R' : D → List Own → Prop}
theorem Ev.r (h : Ev X e ρ O d O1) : EvR X e ρ O fun d' O' => d' = d ∧ O' = O1 := fun B H σ hO hS Q k => h B H σ hO hS Q fun v B' H' n r => k d O1 v B' H' ⟨rfl, rfl⟩ n r
theorem EvN.r {xs : List D} (h : EvN X e ρ O xs O1) : EvR X e ρ O fun d' O' => ∃ q, d' = .raw (.ref q) ∧ O' = Own.lst q xs :: O1 := fun B H σ hO hS Q k => h B H σ hO hS Q fun q B' H' n => k _ _ _ B' H' ⟨q, rfl, rfl⟩ n rfl
theorem EvR.mono (h : EvR X e ρ O R) (hr : ∀ d o, R d o → R' d o) : EvR X e ρ O R' := fun B H σ hO hS Q k => h B H σ hO hS Q fun d O' v B' H' r n q => k d O' v B' H' (hr d O' r) n q
theorem EvR.ev (h : EvR X e ρ O fun d' O' => d' = d ∧ O' = O1) : Ev X e ρ O d O1 := fun B H σ hO hS Q k => h B H σ hO hS Q fun d' O' v B' H' ⟨h1, h2⟩ n r => by subst h1 h2; exact k v B' H' n r
/-- the frame, and the order -/
theorem Next.swap {K : PySem.W.Frag} {O Oi Oj R : List Own} {B H B' H' : Hp} (p : O.Perm (Oi ++ R)) (h : OSt K O B H) (n : Next K Oi B H Oj B' H') : Next K O B H (Oj ++ R) B' H' :=
  (Next.beside (h.perm p) n).perm p.symm (.refl _)
theorem OSt.part {K : PySem.W.Frag} {O Oi R : List Own} {B H : Hp} (p : O.Perm (Oi ++ R)) (h : OSt K O B H) : OSt K Oi B H := (h.perm p).left
theorem bl_perm (p : O.Perm O1) (kk : Bl X body ρ O1 U) : Bl X body ρ O U := fun B H σ hO hS D hD =>
  kk B H σ (hO.perm p) hS D ⟨fun ρ' O' σ' B' H' u n s => hD.nx ρ' O' σ' B' H' u (n.perm p.symm (.refl _)) s, fun d O' v B' H' u n s => hD.rt d O' v B' H' u (n.perm p.symm (.refl _)) s,
    fun ρ' O' σ' B' H' u n s => hD.bk ρ' O' σ' B' H' u (n.perm p.symm (.refl _)) s, fun ρ' O' σ' B' H' u n s => hD.ct ρ' O' σ' B' H' u (n.perm p.symm (.refl _)) s⟩
theorem Next.lose {K : PySem.W.Frag} {O R : List Own} {B H : Hp} (h : OSt K (O ++ R) B H) : Next K (O ++ R) B H O B H :=
  ⟨fun _ _ h => h, fun _ _ h _ => h, fun _ _ h _ => h, fun a m => .inl (by rw [foot_append]; exact List.mem_append_left _ m), fun _ h => h, h.left⟩
theorem bl_lose {R : List Own} (p : O.Perm (O1 ++ R)) (kk : Bl X body ρ O1 U) : Bl X body ρ O U := bl_perm p fun B H σ hO hS D hD => kk B H σ hO.left hS D (hD.from (Next.lose hO))
/-- results' relation under another order, with losses -/
theorem EvR.lose {Rx : List Own} (h : EvR X e ρ O1 R) (p : O.Perm (O1 ++ Rx)) : EvR X e ρ O R := fun B H σ hO hS Q k =>
  h B H σ (hO.part p) hS Q fun d O' v B' H' r n q => k d O' v B' H' r (((Next.lose (hO.perm p)).trans n).perm p.symm (.refl _)) q
/-- the frame for what is evaluated -/
theorem EvR.frame {Rx : List Own} (h : EvR X e ρ O1 R) (p : O.Perm (O1 ++ Rx)) : EvR X e ρ O fun d O' => ∃ o, R d o ∧ O' = o ++ Rx := fun B H σ hO hS Q k =>
  h B H σ (hO.part p) hS Q fun d O' v B' H' r n q => k d _ v B' H' ⟨O', r, rfl⟩ (Next.swap p hO n) q

/-! ### what is owned, lent as values for the time of one evaluation -/
def flat : D → Bool
  | .non => true
  | .bl _ => true
  | .int _ => true
  | .str _ => true
  | _ => false
theorem rep_flat {K : PySem.W.Frag} {B B' : Hp} {v : V} {d : D} (h : flat d = true) (r : rep K B v d) : rep K B' v d := by
  cases d <;> first | exact r | cases h
theorem reps_flat {K : PySem.W.Frag} {B B' : Hp} : ∀ {ds : List D} {vs : List V}, ds.all flat = true → reps K B vs ds → reps K B' vs ds
  | [], _, _, r => r
  | d :: ds, _, h, r => by
    obtain ⟨v, t, rfl, r1, r2⟩ := r
    rw [List.all_cons, Bool.and_eq_true] at h
    exact ⟨v, t, rfl, rep_flat h.1 r1, reps_flat h.2 r2⟩
/-- the names told anew, with all that stands as the base -/
def Lent (K : PySem.W.Frag) (O : List Own) (ρ ρ' : Ro) : Prop := ∀ B H σ, OSt K O B H → Slots K B σ ρ → Slots K H σ ρ'
theorem ost_all {K : PySem.W.Frag} {H : Hp} : OSt K [] H H := ⟨fun _ _ h => h, by simp [GL.foot], fun a m => absurd m (by simp [GL.foot]), fun w m => absurd m (by simp)⟩
theorem Next.unlend {K : PySem.W.Frag} {O : List Own} {B H B' H' : Hp} (hO : OSt K O B H) (n : Next K [] H H [] B' H') : Next K O B H O B H' := by
  have fr : ∀ a o, H a = some o → H' a = some o := fun a o h => n.frame a o h (by simp [GL.foot])
  refine ⟨fun _ _ h => h, fun _ _ h _ => h, fun a o h _ => fr a o h, fun a m => .inl m, n.keep, ⟨fun a o h => fr a o (hO.ext a o h), hO.nd, hO.out, fun w m => w.mono (fun _ _ h => h) (fun a ha => ?_) (hO.all w m)⟩⟩
  cases q : H a with
  | none => exact absurd q (w.dom (hO.all w m) a ha)
  | some o => exact fr a o q
theorem Ev.lend {ρ' : Ro} (h : Ev X e ρ' [] d []) (hl : Lent X.K O ρ ρ') (hf : flat d = true) : Ev X e ρ O d O := fun B H σ hO hS Q k =>
  h H H σ ost_all (hl B H σ hO hS) Q fun v B' H' n r => k v B H' (n.unlend hO) (rep_flat hf r)
theorem Et.lend {ρ' : Ro} {q : Bool} (h : Et X e ρ' [] q []) (hl : Lent X.K O ρ ρ') : Et X e ρ O q O := fun B H σ hO hS Q k =>
  h H H σ ost_all (hl B H σ hO hS) Q fun B' H' n => k B H' (n.unlend hO)
theorem EvN.lend {ρ' : Ro} {xs : List D} (h : EvN X e ρ' [] xs []) (hl : Lent X.K O ρ ρ') (hf : xs.all flat = true) : EvN X e ρ O xs O := fun B H σ hO hS Q k =>
  h H H σ ost_all (hl B H σ hO hS) Q fun q B' H' n => by
    have fr : ∀ a o, H a = some o → H' a = some o := fun a o h => n.frame a o h (by simp [GL.foot])
    have hq : H q = none := by
      rcases n.foot q (by simp [GL.foot, Own.lst]) with z | z
      · simp [GL.foot] at z
      · exact z
    obtain ⟨vs, e1, e2, e3⟩ := n.st.all _ List.mem_cons_self
    have hqO : q ∉ GL.foot O := fun m => hO.dom m hq
    refine k q B H' ⟨fun _ _ h => h, fun _ _ h _ => h, fun a o h _ => fr a o h, fun a m => ?_, n.keep, ⟨fun a o h => fr a o (hO.ext a o h), ?_, fun a m => ?_, fun w m => ?_⟩⟩
    · rcases List.mem_append.mp (show a ∈ [q] ++ GL.foot O from m) with m | m
      · cases List.mem_singleton.mp m; exact .inr hq
      · exact .inl m
    · exact List.nodup_cons.mpr ⟨hqO, hO.nd⟩
    · rcases List.mem_append.mp (show a ∈ [q] ++ GL.foot O from m) with m | m
      · cases List.mem_singleton.mp m
        exact hO.ext.free hq
      · exact hO.out a m
    · rcases List.mem_cons.mp m with rfl | m
      · exact ⟨vs, e1, e2, reps_flat hf e3⟩
      · refine w.mono (fun _ _ h => h) (fun a ha => ?_) (hO.all w m)
        cases q : H a with
        | none => exact absurd q (w.dom (hO.all w m) a ha)
        | some o => exact fr a o q
/-- builders -/
theorem Lent.refl : Lent X.K O ρ ρ := fun B H σ hO hS => hS.mono hO.ext
theorem Slots.tell {K : PySem.W.Frag} {B : Hp} {σ : L2.St} {ρ : Ro} {d0 d : D} (i : Nat) (h : Slots K B σ ρ) (hi : ρ[i]? = some (some d0)) (r : ∀ v, rep K B v d0 → rep K B v d) : Slots K B σ (ρ.set i (some d)) := by
  refine ⟨by simp [h.len], fun j d' q => ?_⟩
  by_cases e : i = j
  · subst e
    rw [List.getElem?_set_self (List.getElem?_eq_some_iff.mp hi).1] at q
    cases q
    obtain ⟨v, e1, e2⟩ := h.at' i _ hi
    exact ⟨v, e1, r v e2⟩
  · rw [List.getElem?_set_ne e] at q
    exact h.at' j d' q
theorem own_rep {K : PySem.W.Frag} {B H : Hp} {q : Addr} {xs : List D} (hO : OSt K O B H) (hm : Own.lst q xs ∈ O) : rep K H (.ref q) (.lst xs) := by
  obtain ⟨vs, e1, e2, e3⟩ := hO.all _ hm
  exact ⟨q, vs, rfl, e1, e2, e3.mono hO.ext⟩
theorem Lent.own {ρ' : Ro} {q : Addr} {xs : List D} (i : Nat) (h : Lent X.K O ρ ρ') (hi : ρ'[i]? = some (some (.raw (.ref q)))) (hm : Own.lst q xs ∈ O) : Lent X.K O ρ (ρ'.set i (some (.lst xs))) := fun B H σ hO hS =>
  Slots.tell i (h B H σ hO hS) hi fun v r => by cases (show v = .ref q from r); exact own_rep hO hm

/-! ### a list of lists, all owned -/
def rows (as : List Addr) (xss : List (List D)) : List Own := (as.zip xss).map fun p => Own.lst p.1 p.2
def refs (as : List Addr) : List D := as.map fun a => D.raw (.ref a)
theorem rows_mem {as : List Addr} {xss : List (List D)} {a : Addr} {xs : List D} (h : (a, xs) ∈ as.zip xss) : Own.lst a xs ∈ rows as xss := List.mem_map.mpr ⟨(a, xs), h, rfl⟩
theorem reps_refs {K : PySem.W.Frag} {B H : Hp} : ∀ {as : List Addr} {xss : List (List D)} {vs : List V}, as.length = xss.length → (∀ w ∈ rows as xss, w.P K B H) → Same B H → reps K B vs (refs as) → reps K H vs (xss.map D.lst)
  | [], [], _, _, _, _, r => r
  | a :: as, xs :: xss, vs, hl, h, e, r => by
    obtain ⟨v, t, rfl, r1, r2⟩ := r
    cases (show v = .ref a from r1)
    obtain ⟨us, e1, e2, e3⟩ := h (Own.lst a xs) (by simp [rows])
    exact ⟨_, t, rfl, ⟨a, us, rfl, e1, e2, e3.mono e⟩, reps_refs (by simpa using hl) (fun w m => h w (by simp only [rows] at m ⊢; simp [m])) e r2⟩
  | [], _ :: _, _, hl, _, _, _ => by simp at hl
  | _ :: _, [], _, hl, _, _, _ => by simp at hl
theorem own_rep2 {K : PySem.W.Frag} {B H : Hp} {q : Addr} {as : List Addr} {xss : List (List D)} (hO : OSt K O B H) (hm : Own.lst q (refs as) ∈ O) (hl : as.length = xss.length) (hr : ∀ w ∈ rows as xss, w ∈ O) : rep K H (.ref q) (.lst (xss.map D.lst)) := by
  obtain ⟨vs, e1, e2, e3⟩ := hO.all _ hm
  exact ⟨q, vs, rfl, e1, by simpa [refs, hl] using e2, reps_refs hl (fun w m => hO.all w (hr w m)) hO.ext e3⟩
theorem Lent.own2 {ρ' : Ro} {q : Addr} {as : List Addr} {xss : List (List D)} (i : Nat) (h : Lent X.K O ρ ρ') (hi : ρ'[i]? = some (some (.raw (.ref q)))) (hm : Own.lst q (refs as) ∈ O) (hl : as.length = xss.length) (hr : ∀ w ∈ rows as xss, w ∈ O) : Lent X.K O ρ (ρ'.set i (some (.lst (xss.map D.lst)))) := fun B H σ hO hS =>
  Slots.tell i (h B H σ hO hS) hi fun v r => by cases (show v = .ref q from r); exact own_rep2 hO hm hl hr
/-- some of what is owned is given to the base -/
theorem Next.freezes {K : PySem.W.Frag} {H : Hp} : ∀ {L R : List Own} {B : Hp}, OSt K (L ++ R) B H → ∃ B', Same B B' ∧ Next K (L ++ R) B H R B' H ∧ ∀ a ∈ GL.foot L, B' a = H a
  | [], R, B, h => ⟨B, fun _ _ h => h, .refl h, fun a m => absurd m (by simp [GL.foot])⟩
  | w :: L, R, B, h => by
    -- all of w's cells at once
    let B1 : Hp := fun a => if a ∈ w.as then H a else B a
    have hnd := h.nd
    rw [show w :: L ++ R = [w] ++ (L ++ R) from rfl, foot_append] at hnd
    obtain ⟨n1, n2, n3⟩ := List.nodup_append.mp hnd
    have hw : ∀ a, a ∈ GL.foot [w] ↔ a ∈ w.as := fun a => by simp [GL.foot]
    have ho : ∀ a ∈ w.as, B a = none := fun a m => h.out a (mem_foot.mpr ⟨w, by simp, m⟩)
    have s1 : Same B B1 := fun a o e => by
      by_cases m : a ∈ w.as
      · rw [ho a m] at e; cases e
      · simp only [B1, if_neg m]; exact e
    have e1 : Same B1 H := fun a o e => by
      by_cases m : a ∈ w.as
      · simp only [B1, if_pos m] at e; exact e
      · simp only [B1, if_neg m] at e; exact h.ext a o e
    have st1 : OSt K (L ++ R) B1 H := ⟨e1, n2, fun a m => by
        have : a ∉ w.as := fun z => n3 a ((hw a).mpr z) a m rfl
        simp only [B1, if_neg this]
        exact h.out a (by rw [show w :: L ++ R = [w] ++ (L ++ R) from rfl, foot_append]; exact List.mem_append_right _ m),
      fun x m => x.mono s1 (fun _ _ => rfl) (h.all x (List.mem_cons_of_mem _ m))⟩
    have nx : Next K (w :: L ++ R) B H (L ++ R) B1 H := ⟨s1, fun a x y z => by
        have : a ∉ w.as := fun m => z (mem_foot.mpr ⟨w, by simp, m⟩)
        simp only [B1, if_neg this]; exact y, fun _ _ h _ => h, fun a m => .inl (by rw [show w :: L ++ R = [w] ++ (L ++ R) from rfl, foot_append]; exact List.mem_append_right _ m), fun _ h => h, st1⟩
    obtain ⟨B', s2, nn, f⟩ := Next.freezes (L := L) (R := R) st1
    refine ⟨B', s1.trans s2, nx.trans nn, fun a m => ?_⟩
    rw [show w :: L = [w] ++ L from rfl, foot_append] at m
    rcases List.mem_append.mp m with m | m
    · have hm := (hw a).mp m
      have : B1 a = H a := by simp only [B1, if_pos hm]
      cases q : H a with
      | none => exact absurd q (w.dom (h.all w (by simp)) a hm)
      | some o => exact s2 a o (this.trans q)
    · exact f a m
/-- a list is given to the base -/
theorem bl_freezeL {q : Addr} {xs : List D} {Rx : List Own} (i : Nat) (p : O.Perm (Own.lst q xs :: Rx)) (hi : ρ[i]? = some (some (.raw (.ref q)))) (kk : Bl X body (ρ.set i (some (.lst xs))) Rx U) : Bl X body ρ O U := bl_perm p fun B H σ hO hS Z hZ => by
  obtain ⟨B', s1, n1, f⟩ := Next.freezes (L := [Own.lst q xs]) (R := Rx) hO
  refine kk B' H σ n1.st (Slots.tell i (hS.mono s1) hi fun v r => ?_) Z (hZ.from n1)
  cases (show v = .ref q from r)
  obtain ⟨vs, e1, e2, e3⟩ := hO.all (Own.lst q xs) (by simp)
  exact ⟨q, vs, rfl, by rw [f q (by simp [GL.foot, Own.lst]), e1], e2, e3.mono s1⟩
/-- a list of lists is -/
theorem bl_freezeT {q : Addr} {as : List Addr} {xss : List (List D)} {Rx : List Own} (i : Nat) (hl : as.length = xss.length) (p : O.Perm (Own.lst q (refs as) :: rows as xss ++ Rx)) (hi : ρ[i]? = some (some (.raw (.ref q)))) (kk : Bl X body (ρ.set i (some (.lst (xss.map D.lst)))) Rx U) : Bl X body ρ O U := bl_perm p fun B H σ hO hS Z hZ => by
  obtain ⟨B', s1, n1, f⟩ := Next.freezes (L := Own.lst q (refs as) :: rows as xss) (R := Rx) hO
  refine kk B' H σ n1.st (Slots.tell i (hS.mono s1) hi fun v r => ?_) Z (hZ.from n1)
  cases (show v = .ref q from r)
  obtain ⟨vs, e1, e2, e3⟩ := hO.all (Own.lst q (refs as)) (by simp)
  refine ⟨q, vs, rfl, by rw [f q (by simp [GL.foot, Own.lst]), e1], by simpa [refs, hl] using e2, ?_⟩
  have key : ∀ (bs : List Addr) (yss : List (List D)) (us : List V), bs.length = yss.length → (∀ a ∈ bs, a ∈ as) → (∀ w ∈ rows bs yss, w ∈ rows as xss) → reps X.K B us (refs bs) → reps X.K B' us (yss.map D.lst) := fun bs => by
    induction bs with
    | nil => intro yss us h1 _ _ r; cases yss with
      | nil => exact r
      | cons _ _ => simp at h1
    | cons b bs ih =>
      intro yss us h1 h2 h3 r
      cases yss with
      | nil => simp at h1
      | cons ys yss =>
        obtain ⟨v, t, rfl, r1, r2⟩ := r
        cases (show v = .ref b from r1)
        have hm := h3 (Own.lst b ys) (by simp [rows])
        obtain ⟨ws, g1, g2, g3⟩ := hO.all (Own.lst b ys) (by simp [hm])
        exact ⟨_, t, rfl, ⟨b, ws, rfl, by rw [f b (mem_foot.mpr ⟨_, List.mem_cons_of_mem _ hm, by simp [Own.lst]⟩), g1], g2, g3.mono s1⟩, ih yss t (by simpa using h1) (fun a m => h2 a (List.mem_cons_of_mem _ m)) (fun w m => h3 w (by simp only [rows] at m ⊢; simp [m])) r2⟩
  exact key as xss vs hl (fun a m => m) (fun w m => m) e3
end
end GL
namespace GL
open PySem L2

section
variable {X : Cx} {ρ : Ro} {O O1 O2 O3 : List Own} {a b e : Expr} {d : D} {pos p : Pos} {rest : List Stmt} {U : Out}
/-- a comprehension: a value, or what is assigned on its line -/
def EvL (X : Cx) (e : Expr) (ρ : Ro) (O : List Own) (R : List D → List Own → Prop) : Prop :=
  ∃ t : TE, PE X e t ∧ (∀ (i : Nat) (y : Str) (py spos : Pos), X.N[i]? = some y → X.env.scope.names.lookup y = some .local → swapsWith e (some (.Name y py)) spos.line X.env = pure true → PS X (.Assign [.Name y py] e spos) (tAsg t (gName i))) ∧
    ∀ (B H : Hp) (σ : L2.St), OSt X.K O B H → Slots X.K B σ ρ → ∀ Q : VK, (∀ a xs O' B' H', R xs O' → Next X.K O B H (Own.lst a xs :: O') B' H' → Q (.ref a) H') → t σ H Q
theorem EvL.r {R : List D → List Own → Prop} (h : EvL X e ρ O R) : EvR X e ρ O fun d O' => ∃ a xs o, R xs o ∧ d = .raw (.ref a) ∧ O' = Own.lst a xs :: o := by
  obtain ⟨t, h1, _, h3⟩ := h
  exact fun B H σ hO hS Q k => w_pe h1 (h3 B H σ hO hS Q fun a xs O' B' H' r n => k _ _ _ B' H' ⟨a, xs, O', r, rfl, rfl⟩ n rfl)
theorem EvL.evn {xs : List D} (h : EvL X e ρ O fun ys o => ys = xs ∧ o = O1) : EvN X e ρ O xs O1 := by
  obtain ⟨t, h1, _, h3⟩ := h
  exact fun B H σ hO hS Q k => w_pe h1 (h3 B H σ hO hS Q fun a ys O' B' H' ⟨r1, r2⟩ n => by subst r1 r2; exact k a B' H' n)
theorem EvL.ev {xs : List D} (h : EvL X e ρ O fun ys o => ys = xs ∧ o = O1) : Ev X e ρ O (.lst xs) O1 := h.evn.ev
theorem EvL.mono {R R' : List D → List Own → Prop} (h : EvL X e ρ O R) (hr : ∀ x o, R x o → R' x o) : EvL X e ρ O R' := by
  obtain ⟨t, h1, h2, h3⟩ := h
  exact ⟨t, h1, h2, fun B H σ hO hS Q k => h3 B H σ hO hS Q fun a ys O' B' H' r n => k a ys O' B' H' (hr _ _ r) n⟩
/-- x = [..] on one line -/
theorem bl_setL (i : Nat) {x : Str} {p' : Pos} {R : List D → List Own → Prop} (h : EvL X e ρ O R) (k : ∀ q xs o, R xs o → Bl X rest (ρ.set i (some (.raw (.ref q)))) (Own.lst q xs :: o) U) (hi : X.N[i]? = some x := by rfl) (hx : X.env.scope.names.lookup x = some .local := by rfl)
    (hs : swapsWith e (some (.Name x p')) pos.line X.env = pure true := by rfl) : Bl X (.Assign [.Name x p'] e pos :: rest) ρ O U := fun B H σ hO hS D hD => by
  obtain ⟨t, h1, h2, h3⟩ := h
  exact w_pb (pss_cons (h2 i x p' pos hi hx hs) pb_w) (h3 B H σ hO hS _ fun q xs o B1 H1 r n1 => k q xs o r B1 H1 _ n1.st ((hS.mono n1.base).set (d := .raw (.ref q)) i rfl) D (hD.from n1))
/-- .. which nobody will change -/
theorem bl_setLV (i : Nat) {x : Str} {p' : Pos} {xs : List D} (h : EvL X e ρ O fun ys o => ys = xs ∧ o = O1) (k : Bl X rest (ρ.set i (some (.lst xs))) O1 U) (hi : X.N[i]? = some x := by rfl) (hx : X.env.scope.names.lookup x = some .local := by rfl)
    (hs : swapsWith e (some (.Name x p')) pos.line X.env = pure true := by rfl) (hl : i < ρ.length := by decide) : Bl X (.Assign [.Name x p'] e pos :: rest) ρ O U :=
  bl_setL i h (fun q ys o ⟨r1, r2⟩ => by
    subst r1 r2
    exact bl_freezeL i (.refl _) (List.getElem?_set_self hl) (by rw [List.set_set]; exact k)) hi hx hs
theorem evl_I {elt tg iter : Expr} {ifs : List Expr} {scope : Scope} {own : List (Str × Nat)} {ds : List D} {g : TG} {is : List Nat} {tt : TT} {I : Nat → List D → List Own → Prop} {keep : Nat → Bool} {ρt : Nat → Ro}
    (hc : X.calm = true) (hN : X.N.Nodup) (hi : Ei X tg iter ρ O ds O1) (ok : BlkOk X.N X.env.scope scope own)
    (hg : InBlk X scope fun Y => PG Y tg g) (ht : InBlk X scope fun Y => PTs Y ifs tt) (his : ∀ i ∈ is, i ∈ own.map (·.2))
    (h0 : I 0 [] O1)
    (hgo : ∀ i d, ds[i]? = some d → GOk X.K g d (wipeR ρ (own.map (·.2))) (ρt i) is)
    (htt : ∀ i d acc Oi, ds[i]? = some d → I i acc Oi → ∀ (B H : Hp) (σ : L2.St), OSt X.K Oi B H → Slots X.K B σ (ρt i) → ∀ Q : Bool → Hp → Prop, (∀ B' H', Next X.K Oi B H Oi B' H' → Q (keep i) H') → tt σ H Q)
    (hy : ∀ i d acc Oi, ds[i]? = some d → keep i = true → I i acc Oi → InBlk X scope fun Y => EvR Y elt (ρt i) Oi fun y O' => I (i + 1) (acc ++ [y]) O')
    (hn : ∀ i d acc Oi, ds[i]? = some d → keep i = false → I i acc Oi → I (i + 1) acc Oi)
    (hs : ∀ x, foldedSetIterable iter X.env x = pure x := by intro _; rfl) :
    EvL X (.ListComp elt [⟨tg, iter, ifs, 0⟩] scope pos) ρ O (I ds.length) := by
  obtain ⟨wi, hpi, hit⟩ := hi
  have hte : ∀ (s : Shared) (H : Hp) (C : Addr) (cl : List (Str × Addr)) (fp : List Addr), PE (X.blk s H scope (compEnvC scope cl C X.env) fp) elt (fun σ' H' Q' => InBlk X scope fun Y => wE Y elt σ' H' Q') := fun s H0 C cl fp => ⟨fun pins s' σ' H' Q' I h => h s H0 C cl fp pins s' I⟩
  refine ⟨tLc wi g tt (fun σ' H' Q' => InBlk X scope fun Y => wE Y elt σ' H' Q') (own.map (·.2)), pe_lc hc hN hpi ok hg ht hte hs, fun i y py spos hy hyl hsw => ps_setLc hc hN hy hyl hsw hpi ok hg ht hte hs, fun B H σ hO' hS Q k => ?_⟩
  refine hit B H σ hO' hS _ fun J B1 H1 n1 src => fun Dl hD => ?_
  have n0 := n1.trans (Next.newL n1.st hD (ds := []) (vs := []) (by show 0 ≤ 1000000; decide) .nil)
  refine ⟨fun i m H' => m = ds.length - i ∧ i ≤ ds.length ∧ ∃ Bi acc Oi, I i acc Oi ∧ acc.length ≤ i ∧ Same B1 Bi ∧ Next X.K O B H (Own.lst Dl acc :: Oi) Bi H', ⟨ds.length, by simp, Nat.zero_le _, B1, [], O1, h0, Nat.le_refl _, fun _ _ h => h, n0⟩, ?_⟩
  rintro i m Hi ⟨rfl, hle, Bi, acc, Oi, hI, hli, sB, ni⟩
  by_cases hlt : i < ds.length
  · refine .inr ⟨src.go i Hi hlt (sB.trans ni.st.ext), fun H' => i + 1 ≤ ds.length ∧ ∃ Bj acc' Oj, I (i + 1) acc' Oj ∧ acc'.length ≤ i + 1 ∧ Same B1 Bj ∧ Next X.K O B H (Own.lst Dl acc' :: Oj) Bj H', fun H' ⟨h1, h2⟩ => ⟨ds.length - (i + 1), by omega, rfl, h1, h2⟩, fun x H' yy => ?_⟩
    obtain ⟨Bi', d, hd, nx, rx⟩ := src.yld i Hi x H' Bi hlt sB ni.st.ext yy
    have ny := ni.trans (nx.pure ni.st)
    have sB' := sB.trans nx.base
    refine hgo i d hd Bi' x _ H' _ rx ny.st.ext ((hS.mono ny.base).wipe _) fun σ2 s2 w2 => ⟨?_, ?_⟩
    · have := w2 (own.map (·.2)) his
      rw [this, wipe_wipe]
    · have st0 : OSt X.K Oi Bi' H' := (ny.st.perm (O' := Oi ++ [Own.lst Dl acc]) (List.perm_append_comm (l₁ := [Own.lst Dl acc]))).left
      refine htt i d acc Oi hd hI Bi' H' σ2 st0 s2 _ fun B3 H3 n3 => ?_
      have m3 : Next X.K O B H (Own.lst Dl acc :: Oi) B3 H3 := ny.trans ((Next.beside (R := [Own.lst Dl acc]) (ny.st.perm (List.perm_append_comm (l₁ := [Own.lst Dl acc]))) n3).perm (List.perm_append_comm (l₂ := [Own.lst Dl acc])) (List.perm_append_comm (l₂ := [Own.lst Dl acc])))
      cases hk : keep i with
      | true =>
        refine iteT ?_
        intro s H0 C cl fp
        refine hy i d acc Oi hd hk hI s H0 C cl fp B3 H3 σ2 n3.st (s2.mono n3.base) _ fun y O' v B4 H4 hI' n4 r4 => ?_
        have m4 : Next X.K O B H (Own.lst Dl acc :: O') B4 H4 := m3.trans ((Next.beside (R := [Own.lst Dl acc]) (m3.st.perm (List.perm_append_comm (l₁ := [Own.lst Dl acc]))) n4).perm (List.perm_append_comm (l₂ := [Own.lst Dl acc])) (List.perm_append_comm (l₂ := [Own.lst Dl acc])))
        obtain ⟨us, ha, hl, hr⟩ := m4.st.all (Own.lst Dl acc) List.mem_cons_self
        have hds := src.le
        refine ⟨us, ha, by rw [hr.length]; exact lim_lt (by omega), by omega, B4, _, _, hI', by rw [List.length_append]; simp; omega, (sB'.trans n3.base).trans n4.base, ?_⟩
        have nw := Next.write (K := X.K) (B := B4) (H := H4) (p := Dl) (o := .lst (us ++ [v])) (w := Own.lst Dl acc) (w' := Own.lst Dl (acc ++ [y])) (m4.st.left (O := [_])) List.mem_cons_self rfl ⟨_, upd_same, by rw [List.length_append]; simp; omega, hr.snoc r4⟩
        exact m4.trans (Next.beside (O := [_]) (R := O') m4.st nw)
      | false => exact iteF ⟨by omega, B3, acc, Oi, hn i d acc Oi hd hk hI, by omega, sB'.trans n3.base, m3⟩
  · have e : i = ds.length := by omega
    subst e
    exact .inl ⟨src.stop Hi (sB.trans ni.st.ext), k Dl acc Oi Bi Hi hI ni⟩

/-! ### the forms one uses -/
section
variable {iter elt cond : Expr} {scope : Scope} {α : Type} {xs : List α} {gD : α → D} {n m : Str} {pn pm pt : Pos} {kt : Nat}
/-- the general one, one name -/
theorem evl_one {I : Nat → List D → List Own → Prop} (i : Nat) (hN : X.N.Nodup) (hi : Ei X (.Name n pn) iter ρ O (xs.map gD) O1)
    (ok : BlkOk X.N X.env.scope scope [(n, i)]) (hg : InBlk X scope fun Y => PG Y (.Name n pn) (gName i)) (h0 : I 0 [] O1)
    (hy : ∀ j x acc Oj, xs[j]? = some x → I j acc Oj → InBlk X scope fun Y => EvR Y elt ((ρ.set i none).set i (some (gD x))) Oj fun y O' => I (j + 1) (acc ++ [y]) O')
    (hc : X.calm = true := by rfl) (hs : ∀ x, foldedSetIterable iter X.env x = pure x := by intro _; rfl) : EvL X (.ListComp elt [⟨.Name n pn, iter, [], 0⟩] scope pos) ρ O (I xs.length) := by
  have h := evl_I (X := X) (ρ := ρ) (O := O) (elt := elt) (pos := pos) (own := [(n, i)]) (is := [i]) (tt := tYes) (I := I) (keep := fun _ => true)
    (ρt := fun j => (ρ.set i none).set i (some ((xs[j]?.map gD).getD .non))) hc hN hi ok hg (fun _ _ _ _ _ => pts_nil) (by simp) h0 (fun j d hd => ?_) (fun j d acc Oi hd hI B H σ hO hS Q k => k B H (.refl hO)) (fun j d acc Oi hd _ hI => ?_) (fun j d acc Oi hd z => by cases z) hs
  · rw [List.length_map] at h; exact h
  · rw [List.getElem?_map] at hd
    cases e : xs[j]? with
    | none => rw [e] at hd; cases hd
    | some x =>
      rw [e] at hd; cases hd
      simp only [Option.map_some, Option.getD_some]
      exact gok_name i
  · rw [List.getElem?_map] at hd
    cases e : xs[j]? with
    | none => rw [e] at hd; cases hd
    | some x =>
      simp only [Option.map_some, Option.getD_some]
      exact hy j x acc Oi e hI
theorem evl_map1 {f : α → D} (i : Nat) (hN : X.N.Nodup) (hi : Ei X (.Name n pn) iter ρ O (xs.map gD) O1)
    (ok : BlkOk X.N X.env.scope scope [(n, i)]) (hg : InBlk X scope fun Y => PG Y (.Name n pn) (gName i)) (hy : ∀ x, x ∈ xs → InBlk X scope fun Y => Ev Y elt ((ρ.set i none).set i (some (gD x))) O1 (f x) O1)
    (hc : X.calm = true := by rfl) (hs : ∀ x, foldedSetIterable iter X.env x = pure x := by intro _; rfl) : EvL X (.ListComp elt [⟨.Name n pn, iter, [], 0⟩] scope pos) ρ O fun ys o => ys = xs.map f ∧ o = O1 :=
  (evl_one (I := fun j acc o => acc = (xs.take j).map f ∧ o = O1) i hN hi ok hg ⟨by simp, rfl⟩ (fun j x acc Oj hx ⟨h1, h2⟩ s H C cl fp => by
    subst h1 h2
    refine ((hy x (List.mem_of_getElem? hx) s H C cl fp).r).mono fun d o ⟨q1, q2⟩ => ?_
    subst q1 q2
    refine ⟨?_, rfl⟩
    rw [List.take_succ, hx]; simp) hc hs).mono fun ys o ⟨h1, h2⟩ => ⟨by rw [h1, List.take_length], h2⟩
/-- with a test -/
theorem evl_filter1 {f : α → D} {q : α → Bool} (i : Nat) (hN : X.N.Nodup) (hi : Ei X (.Name n pn) iter ρ O (xs.map gD) O1)
    (ok : BlkOk X.N X.env.scope scope [(n, i)]) (hg : InBlk X scope fun Y => PG Y (.Name n pn) (gName i)) (ht : ∀ x, x ∈ xs → InBlk X scope fun Y => Et Y cond ((ρ.set i none).set i (some (gD x))) O1 (q x) O1)
    (hy : ∀ x, x ∈ xs → q x = true → InBlk X scope fun Y => Ev Y elt ((ρ.set i none).set i (some (gD x))) O1 (f x) O1)
    (hc : X.calm = true := by rfl) (hs : ∀ x, foldedSetIterable iter X.env x = pure x := by intro _; rfl) : EvL X (.ListComp elt [⟨.Name n pn, iter, [cond], 0⟩] scope pos) ρ O fun ys o => ys = (xs.filter q).map f ∧ o = O1 := by
  have h := evl_I (X := X) (ρ := ρ) (O := O) (elt := elt) (pos := pos) (own := [(n, i)]) (is := [i]) (tt := fun σ' H' Q' => InBlk X scope fun Y => wT Y cond σ' H' Q') (I := fun j acc o => acc = ((xs.take j).filter q).map f ∧ o = O1) (keep := fun j => (xs[j]?.map q).getD false)
    (ρt := fun j => (ρ.set i none).set i (some ((xs[j]?.map gD).getD .non))) hc hN hi ok hg (fun s H0 C cl fp => pts_one ⟨fun pins s' σ' H' Q' I h => h s H0 C cl fp pins s' I⟩) (by simp) ⟨by simp, rfl⟩ (fun j d hd => ?_) (fun j d acc Oi hd hI B H σ hO hS Q k => ?_) (fun j d acc Oi hd z hI => ?_) (fun j d acc Oi hd z hI => ?_) hs
  · exact h.mono fun ys o ⟨h1, h2⟩ => ⟨by rw [h1, List.length_map, List.take_length], h2⟩
  · rw [List.getElem?_map] at hd
    cases e : xs[j]? with
    | none => rw [e] at hd; cases hd
    | some x =>
      rw [e] at hd; cases hd
      simp only [Option.map_some, Option.getD_some]
      exact gok_name i
  · rw [List.getElem?_map] at hd
    cases e : xs[j]? with
    | none => rw [e] at hd; cases hd
    | some x =>
      simp only [e, Option.map_some, Option.getD_some] at hS k
      obtain ⟨_, rfl⟩ := hI
      exact fun s H0 C cl fp => ht x (List.mem_of_getElem? e) s H0 C cl fp B H σ hO hS Q k
  · rw [List.getElem?_map] at hd
    cases e : xs[j]? with
    | none => rw [e] at hd; cases hd
    | some x =>
      simp only [e, Option.map_some, Option.getD_some] at z ⊢
      obtain ⟨rfl, rfl⟩ := hI
      refine fun s H C cl fp => ((hy x (List.mem_of_getElem? e) z s H C cl fp).r).mono fun d o ⟨q1, q2⟩ => ?_
      subst q1 q2
      refine ⟨?_, rfl⟩
      rw [List.take_succ, e, List.filter_append]
      simp [z]
  · rw [List.getElem?_map] at hd
    cases e : xs[j]? with
    | none => rw [e] at hd; cases hd
    | some x =>
      simp only [e, Option.map_some, Option.getD_some] at z
      obtain ⟨rfl, rfl⟩ := hI
      refine ⟨?_, rfl⟩
      rw [List.take_succ, e, List.filter_append]
      simp [z]
/-- a pair's target -/
theorem evl_two {g1 g2 : α → D} {I : Nat → List D → List Own → Prop} (i j : Nat) (hN : X.N.Nodup) (hi : Ei X (.Tuple [.Name n pn, .Name m pm] kt pt) iter ρ O (xs.map fun x => D.tup [g1 x, g2 x]) O1)
    (ok : BlkOk X.N X.env.scope scope [(n, i), (m, j)]) (hg : InBlk X scope fun Y => PG Y (.Tuple [.Name n pn, .Name m pm] kt pt) (gTup X.K 2 (gCons (gName i) (gCons (gName j) gNil)))) (h0 : I 0 [] O1)
    (hy : ∀ l x acc Ol, xs[l]? = some x → I l acc Ol → InBlk X scope fun Y => EvR Y elt ((((ρ.set j none).set i none).set i (some (g1 x))).set j (some (g2 x))) Ol fun y O' => I (l + 1) (acc ++ [y]) O')
    (hc : X.calm = true := by rfl) (hs : ∀ x, foldedSetIterable iter X.env x = pure x := by intro _; rfl) : EvL X (.ListComp elt [⟨.Tuple [.Name n pn, .Name m pm] kt pt, iter, [], 0⟩] scope pos) ρ O (I xs.length) := by
  have h := evl_I (X := X) (ρ := ρ) (O := O) (elt := elt) (pos := pos) (own := [(n, i), (m, j)]) (is := [i, j]) (tt := tYes) (I := I) (keep := fun _ => true)
    (ρt := fun l => (((ρ.set j none).set i none).set i (some ((xs[l]?.map g1).getD .non))).set j (some ((xs[l]?.map g2).getD .non))) hc hN hi ok hg (fun _ _ _ _ _ => pts_nil) (by simp) h0 (fun l d hd => ?_) (fun l d acc Oi hd hI B H σ hO hS Q k => k B H (.refl hO)) (fun l d acc Oi hd _ hI => ?_) (fun l d acc Oi hd z => by cases z) hs
  · rw [List.length_map] at h; exact h
  · rw [List.getElem?_map] at hd
    cases e : xs[l]? with
    | none => rw [e] at hd; cases hd
    | some x =>
      rw [e] at hd; cases hd
      simp only [Option.map_some, Option.getD_some]
      exact gok_tup (gsok_cons (is := [i]) (gok_name i) (gsok_cons (is := [j]) (gok_name j) gsok_nil))
  · rw [List.getElem?_map] at hd
    cases e : xs[l]? with
    | none => rw [e] at hd; cases hd
    | some x =>
      simp only [Option.map_some, Option.getD_some]
      exact hy l x acc Oi e hI
theorem evl_map2 {g1 g2 f : α → D} (i j : Nat) (hN : X.N.Nodup) (hi : Ei X (.Tuple [.Name n pn, .Name m pm] kt pt) iter ρ O (xs.map fun x => D.tup [g1 x, g2 x]) O1)
    (ok : BlkOk X.N X.env.scope scope [(n, i), (m, j)]) (hg : InBlk X scope fun Y => PG Y (.Tuple [.Name n pn, .Name m pm] kt pt) (gTup X.K 2 (gCons (gName i) (gCons (gName j) gNil))))
    (hy : ∀ x, x ∈ xs → InBlk X scope fun Y => Ev Y elt ((((ρ.set j none).set i none).set i (some (g1 x))).set j (some (g2 x))) O1 (f x) O1)
    (hc : X.calm = true := by rfl) (hs : ∀ x, foldedSetIterable iter X.env x = pure x := by intro _; rfl) : EvL X (.ListComp elt [⟨.Tuple [.Name n pn, .Name m pm] kt pt, iter, [], 0⟩] scope pos) ρ O fun ys o => ys = xs.map f ∧ o = O1 :=
  (evl_two (I := fun j acc o => acc = (xs.take j).map f ∧ o = O1) i j hN hi ok hg ⟨by simp, rfl⟩ (fun l x acc Oj hx ⟨h1, h2⟩ s H C cl fp => by
    subst h1 h2
    refine ((hy x (List.mem_of_getElem? hx) s H C cl fp).r).mono fun d o ⟨q1, q2⟩ => ?_
    subst q1 q2
    refine ⟨?_, rfl⟩
    rw [List.take_succ, hx]; simp) hc hs).mono fun ys o ⟨h1, h2⟩ => ⟨by rw [h1, List.take_length], h2⟩
end
end
end GL
namespace GL
open PySem L2

/-! ### enumerate(tuple) -/
set_option maxHeartbeats 1000000 in
theorem meets_enumT {v : Value} {o : Obj} {H : Heap → Prop} (B : Begins v o H) :
    Meets (Builtin.«enumerate.__new__» ⟨[.type "enumerate", v], []⟩) (fun _ R s => H s.heap ∧
      R (.ok (.ret (.ref (s.heap.push o).objs.size))) { s with heap := (s.heap.push o).push { cls := .type "enumerate", data := .fields #[.none, .bool false, .ref s.heap.objs.size, rawInt 0, .none, .none] } }) :=
  .of_wp fun prog w A R s h => by
    obtain ⟨hp, g, d, tk, os⟩ := s; obtain ⟨h1, h⟩ := h
    have hsub := sub_enumerate
    have q1 : ∀ {A' : Around} {E : Value → Shared → Prop} {Q : Value → Shared → Prop}, Q (.ref hp.objs.size) ⟨hp.push o, g, d, tk, os⟩ → wpAny (model prog w) A' (pyIter v) Q E ⟨hp, g, d, tk, os⟩ :=
      fun q => B.iter prog w _ _ ⟨hp, g, d, tk, os⟩ _ h1 q
    wp_walk using q1
    refine wpAny_stack_any fun st => wpAny_pure ?_
    split
    · rename_i c _ _ _ _ _
      cases (c == Value.type "enumerate")
      · wp_walk using q1
        exact ⟨_, rfl, h⟩
      · wp_walk using q1
        exact ⟨_, rfl, h⟩
    · wp_walk using q1
      exact ⟨_, rfl, h⟩
section
variable {prog : Program} {w : World} {A : Around} {E : Value → Shared → Prop} {s : Shared}
theorem call_enumT {v : Value} {o : Obj} {H : Heap → Prop} {Q : Value → Shared → Prop} (B : Begins v o H) (h1 : H s.heap)
    (h : ∀ h', IsEnum h' (s.heap.objs.size + 1) s.heap.objs.size 0 .none → h'.get? s.heap.objs.size = some o → h'.objs.size = s.heap.objs.size + 2 →
      (∀ b o, s.heap.get? b = some o → h'.get? b = some o) → Q (.ref (s.heap.objs.size + 1)) { s with heap := h' }) :
    wpAny (model prog w) A (call (.type "enumerate") [v]) Q E s := by
  refine callType_new F.called_enumerate (by decide) (F.typeCall_enumerate_1 v) (F.newCall_enumerate_1 v) (fun obj => F.args_object_init_2 obj _) F.entry_enumerate_new
    (meets_enumT B) ⟨h1, ?_⟩
  have hz : (s.heap.push o).objs.size = s.heap.objs.size + 1 := Heap.size_push ..
  show _ ∧ _
  rw [hz]
  have he : IsEnum ((s.heap.push o).push { cls := .type "enumerate", data := .fields #[.none, .bool false, .ref s.heap.objs.size, rawInt 0, .none, .none] }) (s.heap.objs.size + 1) s.heap.objs.size 0 .none := by
    have := Heap.get?_push_size (s.heap.push o) (o := { cls := .type "enumerate", data := .fields #[.none, .bool false, .ref s.heap.objs.size, rawInt 0, .none, .none] }) rfl
    rw [hz] at this; exact this
  refine ⟨⟨_, he, rfl⟩, h _ he (Heap.get?_push_of_some _ (Heap.get?_push_size _ B.free)) (by rw [Heap.size_push, hz]) fun b o x => Heap.get?_push_of_some _ (Heap.get?_push_of_some _ x)⟩
end

/-- the tuple at a as it stands at each turn, each item in a new pair -/
def IteT (K : PySem.W.Frag) (a : Addr) : It :=
  ⟨fun i H => ∃ (xs : List V) (x : V), SqT K H a xs ∧ xs[i]? = some x, fun i H v H' => ∃ T x, v = .ref T ∧ H T = none ∧ H' = upd H T (.tup [.int (i : Nat), x]) ∧ ∀ xs, SqT K H a xs → xs[i]? = some x, fun i H => ∃ xs : List V, SqT K H a xs ∧ xs.length ≤ i⟩
theorem turn_enumT {P : Program} {w : World} {K : PySem.W.Frag} {elts : List Expr} {kk : Nat} {tpos : Pos} (a e it : Addr) :
    Turn P w K (.Tuple elts kk tpos) (IteT K a) [e, it] e (fun i h => (∃ old, IsEnum h e it ((i : Nat) : Int) old) ∧ h.IsTupleIter it a i ∧ e ≠ it ∧ a ≠ it ∧ a ≠ e) where
  mem := by simp
  obj := fun i h st b hb => by
    obtain ⟨⟨old, he⟩, ⟨o, ho, hc, hd⟩, _⟩ := st
    have e' : b = e ∨ b = it := by simpa using hb
    rcases e' with z | z
    · rw [z]; exact ⟨_, he, fun v q => nomatch q⟩
    · rw [z]; exact ⟨o, ho, fun v q => by rw [hd] at q; cases q⟩
  keep := fun i h h' st k => let ⟨⟨old, he⟩, hi, hne⟩ := st; ⟨⟨old, k e (by simp) _ he⟩, hi.at fun o q => k it (by simp) o q, hne⟩
  item := by
    intro X hP hw hK hc i pins s σ H E I hf st hg
    subst hP hw hK
    obtain ⟨⟨old, he⟩, hit, hne, hai, hae⟩ := st
    obtain ⟨xs, x, hq, hx⟩ := hg
    obtain ⟨its, rv, p, hz⟩ := I.tuple hq
    obtain ⟨u, hu, ru⟩ := rv.get hx
    have hel : e < s.heap.objs.size := Heap.lt_size he
    have hil : it < s.heap.objs.size := by obtain ⟨_, q, _⟩ := hit; exact Heap.lt_size q
    have hin : i < its.toArray.size := by
      have := (List.getElem?_eq_some_iff.mp hu).1
      simpa using this
    refine wpAny_pyNext_enum_itemD (Draws.tuple (A := X.A.in1) (prog := X.prog) (w := X.w) (show X.A.in1.handled = none from I.ok.hd hc) it a hai its.toArray) he ⟨hit, p⟩ hin hne (by simp [hne, Ne.symm hae]) fun x' h' tk hP ho hst hT hsz hk => ?_
    have ex : x' = u := by
      have e1 : its[i]? = some x' := by simpa using hP
      rw [hu] at e1; exact (Option.some.inj e1).symm
    subst ex
    refine ⟨_, rfl, wpAny_letOwnedTupleGo_enum (s := { s with heap := h', toks := tk + 1 }) ho fun h'' he' sb => ?_⟩
    have hT2 : h''.get? s.heap.objs.size = some { cls := .type "tuple", data := .seq #[.int i tk, x'] } := (sb.2 _ (Nat.ne_of_gt hel)).trans hT
    have new : ObjOk X.prog X.w (upd H s.heap.objs.size (.tup [.int (i : Nat), x])) h'' s.heap.objs.size (.tup [.int (i : Nat), x]) :=
      ⟨by show 2 ≤ sizeLine; decide, [.int i tk, x'], .cons ⟨_, rfl⟩ (.cons ru .nil), ⟨_, hT2, rfl, _, rfl⟩⟩
    have I1 : Inv X pins σ (upd H s.heap.objs.size (.tup [.int (i : Nat), x])) { s with heap := h'', toks := tk + 1 } :=
      I.turnedNew (ch := [e, it]) (fun b ob hb q => (sb.2 b (fun z => hb (by simp [z]))).trans (hk b ob (fun z => hb (by simp [z])) (fun z => hb (by simp [z])) q)) hf (Nat.le_refl _) new
    refine ⟨.ref s.heap.objs.size, _, I1, rfl, ⟨_, x, rfl, I.hok.fresh (Nat.le_refl _), rfl, fun ys hy => by rw [I.tuple_inj hy hq]; exact hx⟩, ⟨⟨x', ?_⟩, hst.1.at fun o q => (sb.2 it (Ne.symm hne)).trans q, hne, hai, hae⟩, fun b hb => ?_⟩
    · have e1 : ((i + 1 : Nat) : Int) = (i : Int) + 1 := by omega
      rw [e1]; exact he'
    · have hb' : b < s.heap.objs.size := by
        have e' : b = e ∨ b = it := by simpa using hb
        rcases e' with z | z
        · rw [z]; exact hel
        · rw [z]; exact hil
      rw [upd_ne (Nat.ne_of_lt hb')]
      exact (hf b hb).1
  done := by
    intro X hP hw hK hc i pins s σ H E I hf st hg
    subst hP hw hK
    obtain ⟨⟨old, he⟩, hit, hne, hai, hae⟩ := st
    obtain ⟨xs, hq, hx⟩ := hg
    obtain ⟨its, rv, p, hz⟩ := I.tuple hq
    obtain ⟨f0, f1, f2, f3, f4, f5⟩ := hf it (by simp)
    have hl := rv.length
    refine wpAny_pyNext_enum_endD (n := i) (St := fun j h => j = i ∧ h.IsTupleIter it a i ∧ h.IsTuple a its.toArray) (P := fun _ _ => True) (fp := [it, a]) ?_ he ⟨rfl, hit, p⟩ fun h' eb => ⟨rfl, I.turned (t' := s.toks) (fun b o hb q => eb b o hb q) f0 f1 f3 f4 f5⟩
    exact { live := fun _ _ st => let ⟨o, ho, _⟩ := st.2.1; ⟨o, ho⟩
            frame := fun _ _ _ st hk => ⟨st.1, st.2.1.at fun o e => hk it (by simp) o e, st.2.2.at fun o e => hk a (by simp) o e⟩
            item := fun j s Q E hj st hQ => False.elim (Nat.lt_irrefl _ (st.1 ▸ hj))
            done := fun s Q E st hE => wpAny_nextOf_tuple_end (show X.A.in1.handled = none from I.ok.hd hc) st.2.1 st.2.2 (by simp; omega) hE }
  self := fun A i s Q E st h => let ⟨⟨_, he⟩, _⟩ := st; wpAny_pyIter_enum he h
def iEnumT (K : PySem.W.Frag) (ta : TA) : TI := fun σ H R => ta σ H fun vs H1 => ∃ a xs, vs = [.ref a] ∧ SqT K H1 a xs ∧ R (IteT K a) H1
theorem pi_enumT {X : Cx} {e : Expr} {ta : TA} {p pos tpos : Pos} {elts : List Expr} {kk : Nat} (hg : Gl X "enumerate") (hm : X.mg "enumerate" = none) (ha : PA X [e] ta) (hs : starEach [e] X.env = [(false, eval e X.env)] := by rfl) :
    PI X (.Tuple elts kk tpos) (.Call (.Name "enumerate" p) [e] [] pos) (iEnumT X.K ta) := by
  refine ⟨fun pins s σ H R I h => ?_⟩
  refine PyProof.Rows.Call_ (ld_blt I hg hm PyProof.Rows.boot_enumerate (PyProof.Rows.callWith_type1 (thn (ha.run pos pins s σ H _ I h) fun us s1 ⟨vs, H1, I1, r1, q1⟩ => ?_) hs rfl))
  obtain ⟨a, xs, ex, hq, q⟩ := q1
  subst ex
  cases r1 with
  | cons r rr =>
    cases rr
    cases r
    obtain ⟨its, rv, p', hz⟩ := I1.tuple hq
    have hal : a < s1.heap.objs.size := by obtain ⟨o, q, _⟩ := p'; exact Heap.lt_size q
    refine call_enumT (begins_tuple a its.toArray) p' fun h' he hit hsz hk => wpAny_pyIter_enum he ?_
    have I2 : Inv X pins σ H1 { s1 with heap := h' } := I1.kept (t' := s1.toks) hk
    refine ⟨s1.heap.objs.size + 1, [s1.heap.objs.size + 1, s1.heap.objs.size], _, _, H1, rfl, I2, turn_enumT a (s1.heap.objs.size + 1) s1.heap.objs.size, ⟨⟨.none, he⟩, ⟨_, hit, rfl, rfl⟩, Nat.succ_ne_self _, Nat.ne_of_lt hal, Nat.ne_of_lt (Nat.lt_succ_of_lt hal)⟩, fun b hb => ?_, q⟩
    have e' : b = s1.heap.objs.size + 1 ∨ b = s1.heap.objs.size := by simpa using hb
    have hle : s1.heap.objs.size ≤ b := by
      rcases e' with z | z
      · rw [z]; exact Nat.le_add_right _ _
      · rw [z]; exact Nat.le_refl _
    exact I1.fpOk hle (I1.hok.fresh hle)
theorem walk_enumT {K : PySem.W.Frag} {a : Addr} {xs : List V} : Walk (IteT K a) xs.length (fun H => SqT K H a xs) (YPair (fun i => some (.int (i : Nat))) (fun i => xs[i]?)) where
  goes := fun i H hi h => ⟨xs, xs[i], h, by simp [hi]⟩
  yields := fun i H x H' hi h ⟨T, y, e1, e2, e3, e4⟩ => ⟨T, .int (i : Nat), y, e1, e2, e3, rfl, e4 xs h⟩
  stops := fun H h => ⟨xs, h, Nat.le_refl _⟩
section
variable {X : Cx} {ρ : Ro} {O O1 O2 O3 : List Own} {a b e : Expr} {d : D} {pos p : Pos} {rest : List Stmt} {U : Out} {xs : List D}
theorem ei_enumTup {elts : List Expr} {kk : Nat} {tpos : Pos} (T : X.mg "enumerate" = none) (h : Ev X a ρ O (.tup xs) O1) (hg : Gl X "enumerate" := by rfl) (hs : starEach [a] X.env = [(false, eval a X.env)] := by rfl) :
    Ei X (.Tuple elts kk tpos) (.Call (.Name "enumerate" p) [a] [] pos) ρ O (enumD xs) O1 := ⟨_, pi_enumT hg T pa_w hs, fun B H σ hO hS R k => ea_cons h ea_nil (by rw [hs] <;> rfl) B H σ hO hS _ fun vs B1 H1 n1 r1 => by
  obtain ⟨v, rfl, r⟩ := one r1
  obtain ⟨q, us, rfl, e1, l1, rr⟩ := r
  refine ⟨q, us, rfl, SqT.of (n1.st.ext _ _ e1), k _ B1 H1 n1 ?_⟩
  have w := walk_enumT (K := X.K) (a := q) (xs := us)
  rw [rr.length] at w
  refine src_pair w (fun H e => SqT.of (e _ _ e1)) l1 (fun i x hi hx => ?_) (fun i x hi hx => ?_)
  · cases hx; rfl
  · obtain ⟨d, h1, h2⟩ := rr.getV hx
    rw [List.getD_eq_getElem?_getD, h1]; exact h2⟩
theorem enumD_map {α : Type} {xs : List α} {gx : α → D} : enumD (xs.map gx) = xs.zipIdx.map fun q => D.tup [D.int (q.2 : Nat), gx q.1] := by
  unfold enumD
  refine List.ext_getElem (by simp) fun i h1 h2 => ?_
  have hi : i < xs.length := by simpa using h1
  simp [hi]

/-! ### isinstance -/
def tyD : D → Option String
  | .non => some "NoneType"
  | .bl _ => some "bool"
  | .int _ => some "int"
  | .str _ => some "str"
  | .lst _ => some "list"
  | .tup _ => some "tuple"
  | .raw _ => none
theorem tyx_of {K : PySem.W.Frag} {B H : Hp} {v : V} {d : D} {T : String} (e : Same B H) (ht : tyD d = some T) (r : rep K B v d) : TyX K H v (.type T) := by
  cases d with
  | non => cases (show v = .non from r); cases ht; exact .base .non
  | bl b => cases (show v = .bl b from r); cases ht; exact .base (.bl b)
  | int i => cases (show v = .int i from r); cases ht; exact .base (.int i)
  | str i => cases (show v = .str i from r); cases ht; exact .base (.str i)
  | lst xs =>
    obtain ⟨a, vs, rfl, e1, _, _⟩ := r
    cases ht
    exact .base (.lst (e _ _ e1))
  | tup xs =>
    obtain ⟨a, vs, rfl, e1, _, _⟩ := r
    cases ht
    exact .base (.tup (e _ _ e1))
  | raw u => cases ht
theorem ev_isi {T C : String} {q : Bool} {pc : Pos} {cn : Str} (M : X.mg "isinstance" = none) (Mc : X.mg cn = none) (hcn : bootBuiltins cn = some (.type C)) (ha : Ev X a ρ O d O1) (ht : tyD d = some T) (hk : kitB T C = some q) (hg : Gl X "isinstance" := by rfl) (hgc : Gl X cn := by rfl)
    (hn : cn ≠ "__name__" := by decide) (hd : (cn == ("__debug__" : Str)) = false := by decide)
    (he : starEach [a, .Name cn pc] X.env = (false, eval a X.env) :: starEach [.Name cn pc] X.env := by rfl) (he2 : starEach [.Name cn pc] X.env = [(false, eval (.Name cn pc) X.env)] := by rfl) :
    Ev X (.Call (.Name "isinstance" p) [a, .Name cn pc] [] pos) ρ O (.bl q) O1 :=
  ev_bcall call_isi M PyProof.Rows.boot_isinstance (ea_cons ha (ea_cons (ev_gty Mc hcn hgc hn hd) ea_nil (by rw [he2] <;> rfl)) he) (fun B H vs hO r Q k => by
    obtain ⟨v, w, rfl, e, e'⟩ := two r
    cases (show w = .ty C from e')
    exact ⟨v, _, _, _, q, rfl, .ty C, tyx_of hO.ext ht e, kit_ty hk, k _ B H (.refl hO) rfl⟩) hg (by decide) (by decide) he (by rw [he2] <;> rfl)
/-- isinstance(x, (C1, C2)) -/
theorem ev_isi2 {T C1 C2 : String} {q1 q2 : Bool} {p1 p2 pt : Pos} {kt : Nat} {c1 c2 : Str} (M : X.mg "isinstance" = none) (M1 : X.mg c1 = none) (M2 : X.mg c2 = none) (h1 : bootBuiltins c1 = some (.type C1)) (h2 : bootBuiltins c2 = some (.type C2)) (ha : Ev X a ρ O d O1) (ht : tyD d = some T) (hk1 : kitB T C1 = some q1) (hk2 : kitB T C2 = some q2)
    (hg : Gl X "isinstance" := by rfl) (hg1 : Gl X c1 := by rfl) (hg2 : Gl X c2 := by rfl)
    (hn1 : c1 ≠ "__name__" := by decide) (hd1 : (c1 == ("__debug__" : Str)) = false := by decide) (hn2 : c2 ≠ "__name__" := by decide) (hd2 : (c2 == ("__debug__" : Str)) = false := by decide)
    (hs1 : starEach [.Name c1 p1, .Name c2 p2] X.env = (false, eval (.Name c1 p1) X.env) :: starEach [.Name c2 p2] X.env := by rfl) (hs2 : starEach [.Name c2 p2] X.env = [(false, eval (.Name c2 p2) X.env)] := by rfl)
    (he : starEach [a, .Tuple [.Name c1 p1, .Name c2 p2] kt pt] X.env = (false, eval a X.env) :: starEach [.Tuple [.Name c1 p1, .Name c2 p2] kt pt] X.env := by rfl) (he2 : starEach [.Tuple [.Name c1 p1, .Name c2 p2] kt pt] X.env = [(false, eval (.Tuple [.Name c1 p1, .Name c2 p2] kt pt) X.env)] := by rfl) :
    Ev X (.Call (.Name "isinstance" p) [a, .Tuple [.Name c1 p1, .Name c2 p2] kt pt] [] pos) ρ O (.bl (q1 || q2)) O1 :=
  ev_bcall call_isiT M PyProof.Rows.boot_isinstance (ea_cons ha (ea_cons (ev_tup (ea_cons (ev_gty M1 h1 hg1 hn1 hd1) (ea_cons (ev_gty M2 h2 hg2 hn2 hd2) ea_nil (by rw [hs2] <;> rfl)) hs1) (by show 2 ≤ 1000000; decide)) ea_nil (by rw [he2] <;> rfl)) he) (fun B H vs hO r Q k => by
    obtain ⟨v, w, rfl, e, e'⟩ := two r
    obtain ⟨z, us, rfl, f1, _, f2⟩ := e'
    obtain ⟨u1, u2, rfl, g1, g2⟩ := two f2
    cases (show u1 = .ty C1 from g1)
    cases (show u2 = .ty C2 from g2)
    refine ⟨v, z, [.ty C1, .ty C2], .type T, [.type C1, .type C2], (q1 || q2), rfl, hO.ext _ _ f1, .cons (.ty C1) (.cons (.ty C2) .nil), tyx_of hO.ext ht e, ?_, k _ B H (.refl hO) rfl⟩
    refine kitAny_cons (kit_ty hk1) (fun z => ?_) (fun z => by rw [z]; rfl)
    refine kitAny_cons (kit_ty hk2) (fun z2 => ?_) (fun z2 => by rw [z2, Bool.or_true])
    rw [z, z2]
    exact kitAny_nil) hg (by decide) (by decide) he (by rw [he2] <;> rfl)
end
end GL
namespace GL
open PySem L2

section
variable {X : Cx} {ρ : Ro} {O O1 O2 O3 : List Own} {a b c e i iter : Expr} {es : List Expr} {d : D} {ds : List D} {pos p apos pos' : Pos} {U : Out} {rest body : List Stmt} {f m : Str} {R R' R1 : D → List Own → Prop}
/-! ### blocks over relations -/
theorem bl_setR (j : Nat) {x : Str} {p' : Pos} (hN : X.N.Nodup) (h : EvR X e ρ O R) (k : ∀ d o, R d o → Bl X rest (ρ.set j (some d)) o U) (hi : X.N[j]? = some x := by rfl) (hx : Loc X.env.scope x := by first | exact Or.inl rfl | exact Or.inr rfl)
    (hs : swapsWith e (some (.Name x p')) pos.line X.env = pure false := by rfl) (hf : X.fn x = true ∨ X.env.scope.names.lookup x = some .local := by first | exact .inl rfl | exact .inr rfl) : Bl X (.Assign [.Name x p'] e pos :: rest) ρ O U := fun B H σ hO hS D hD =>
  w_pb (pss_cons (ps_set hN hi hx pe_w hs hf) pb_w) (h B H σ hO hS _ fun d o v B1 H1 r n1 r1 => k d o r B1 H1 _ n1.st ((hS.mono n1.base).set j r1) D (hD.from n1))
theorem bl_retR (h : EvR X e ρ O R) (k : ∀ d o, R d o → U.rt d o) : Bl X (.Return (some e) pos :: rest) ρ O U := fun B H σ hO hS D hD =>
  w_pb (pss_cons (ps_ret pe_w) pb_w) (h B H σ hO hS _ fun d o v B1 H1 r n1 r1 => hD.rt d o v B1 H1 (k d o r) n1 r1)
theorem bl_exprR (h : EvR X e ρ O R) (k : ∀ d o, R d o → Bl X rest ρ o U) (hs : swapsWith e none pos.line X.env = pure false := by rfl) : Bl X (.Expr e pos :: rest) ρ O U := fun B H σ hO hS D hD =>
  w_pb (pss_cons (ps_expr pe_w hs) pb_w) (h B H σ hO hS _ fun d o v B1 H1 r n1 r1 => k d o r B1 H1 σ n1.st (hS.mono n1.base) D (hD.from n1))
/-! ### arguments over relations -/
def EaR (X : Cx) (es : List Expr) (ρ : Ro) (O : List Own) (R : List D → List Own → Prop) : Prop :=
  ∀ (B H : Hp) (σ : L2.St), OSt X.K O B H → Slots X.K B σ ρ → ∀ Q : List V → Hp → Prop, (∀ ds O' vs B' H', R ds O' → Next X.K O B H O' B' H' → reps X.K B' vs ds → Q vs H') → wA X es σ H Q
theorem Ea.r (h : Ea X es ρ O ds O1) : EaR X es ρ O fun x o => x = ds ∧ o = O1 := fun B H σ hO hS Q k => h B H σ hO hS Q fun vs B' H' n r => k ds O1 vs B' H' ⟨rfl, rfl⟩ n r
theorem ear_cons {Rs : List D → List Own → Prop} (h : EvR X e ρ O R) (t : ∀ d o, R d o → EaR X es ρ o fun ds o' => Rs (d :: ds) o') (hs : starEach (e :: es) X.env = (false, eval e X.env) :: starEach es X.env := by rfl) : EaR X (e :: es) ρ O Rs := fun B H σ hO hS Q k =>
  w_pa (pa_cons pe_w pa_w hs) (h B H σ hO hS _ fun d o v B1 H1 r n1 r1 => t d o r B1 H1 σ n1.st (hS.mono n1.base) _ fun ds o' vs B2 H2 r' n2 r2 => k (d :: ds) o' _ B2 H2 r' (n1.trans n2) (.cons (r1.mono n2.base) r2))
theorem evr_lst {Rs : List D → List Own → Prop} (h : EaR X es ρ O Rs) (hl : ∀ ds o, Rs ds o → ds.length ≤ lim) : EvR X (.List es pos) ρ O fun d o => ∃ q ds o', Rs ds o' ∧ d = .raw (.ref q) ∧ o = Own.lst q ds :: o' := fun B H σ hO hS Q k =>
  w_pe (pe_lst pa_w) (h B H σ hO hS _ fun ds o' vs B1 H1 r n1 r1 => ⟨by rw [r1.length]; exact lim_line (hl ds o' r), fun z hz => k _ _ _ B1 _ ⟨z, ds, o', r, rfl, rfl⟩ (n1.trans (Next.newL n1.st hz (hl ds o' r) r1)) rfl⟩)
/-- a, b = x, y (plain names), over relations -/
theorem bl_parR {Rs : List D → List Own → Prop} {x y : Str} {px py pt : Pos} {kt k2 : Nat} {pt2 : Pos} (i j : Nat) (hN : X.N.Nodup) (h : EaR X [a, b] ρ O Rs) (hr : ∀ ds o, Rs ds o → ∃ d1 d2, ds = [d1, d2] ∧ Bl X rest ((ρ.set i (some d1)).set j (some d2)) o U)
    (hw : swappedStores [.Tuple [.Name x px, .Name y py] kt pt] (.Tuple [a, b] k2 pt2) X.env = pure (some [x, y]) := by rfl) (hi : X.N[i]? = some x := by rfl) (hj : X.N[j]? = some y := by rfl) (hij : i ≠ j := by decide)
    (hx : X.env.scope.names.lookup x = some .local := by rfl) (hy : X.env.scope.names.lookup y = some .local := by rfl) (hc : X.calm = true := by rfl)
    (hs : swapsWithSole [.Tuple [.Name x px, .Name y py] kt pt] (.Tuple [a, b] k2 pt2) pos.line X.env = pure false := by rfl) : Bl X (.Assign [.Tuple [.Name x px, .Name y py] kt pt] (.Tuple [a, b] k2 pt2) pos :: rest) ρ O U := fun B H σ hO hS D hD =>
  w_pb (pss_cons (ps_par hc hN hi hj hij hx hy pa_w hw hs) pb_w) (h B H σ hO hS _ fun ds o vs B1 H1 r n1 r1 => by
    obtain ⟨d1, d2, rfl, k⟩ := hr ds o r
    obtain ⟨v, w, rfl, e1, e2⟩ := two r1
    exact ⟨v, w, rfl, k B1 H1 _ n1.st (((hS.mono n1.base).set i e1).set j e2) D (hD.from n1)⟩)
theorem bl_par3R {Rs : List D → List Own → Prop} {x y z : Str} {px py pz pt : Pos} {kt k2 : Nat} {pt2 : Pos} (i j l : Nat) (hN : X.N.Nodup) (h : EaR X [a, b, c] ρ O Rs) (hr : ∀ ds o, Rs ds o → ∃ d1 d2 d3, ds = [d1, d2, d3] ∧ Bl X rest (((ρ.set i (some d1)).set j (some d2)).set l (some d3)) o U)
    (hw : swappedStores [.Tuple [.Name x px, .Name y py, .Name z pz] kt pt] (.Tuple [a, b, c] k2 pt2) X.env = pure (some [x, y, z]) := by rfl) (hi : X.N[i]? = some x := by rfl) (hj : X.N[j]? = some y := by rfl) (hl : X.N[l]? = some z := by rfl) (hij : i ≠ j := by decide) (hil : i ≠ l := by decide) (hjl : j ≠ l := by decide)
    (hx : X.env.scope.names.lookup x = some .local := by rfl) (hy : X.env.scope.names.lookup y = some .local := by rfl) (hz : X.env.scope.names.lookup z = some .local := by rfl) (hc : X.calm = true := by rfl)
    (hs : swapsWithSole [.Tuple [.Name x px, .Name y py, .Name z pz] kt pt] (.Tuple [a, b, c] k2 pt2) pos.line X.env = pure false := by rfl) : Bl X (.Assign [.Tuple [.Name x px, .Name y py, .Name z pz] kt pt] (.Tuple [a, b, c] k2 pt2) pos :: rest) ρ O U := fun B H σ hO hS D hD =>
  w_pb (pss_cons (ps_par3 hc hN hi hj hl hij hil hjl hx hy hz pa_w hw hs) pb_w) (h B H σ hO hS _ fun ds o vs B1 H1 r n1 r1 => by
    obtain ⟨d1, d2, d3, rfl, k⟩ := hr ds o r
    obtain ⟨v, t, rfl, e1, r2⟩ := r1
    obtain ⟨w, u, rfl, e2, e3⟩ := two r2
    exact ⟨v, w, u, rfl, k B1 H1 _ n1.st ((((hS.mono n1.base).set i e1).set j e2).set l e3) D (hD.from n1)⟩)
/-! ### loops over relations -/
def EiR (X : Cx) (tg it : Expr) (ρ : Ro) (O : List Own) (R : List D → List Own → Prop) : Prop :=
  ∃ wi : TI, PI X tg it wi ∧ ∀ (B H : Hp) (σ : L2.St), OSt X.K O B H → Slots X.K B σ ρ → ∀ Rk : It → Hp → Prop, (∀ J ds O' B' H', R ds O' → Next X.K O B H O' B' H' → Src X.K B' J ds → Rk J H') → wi σ H Rk
theorem eir_list {tg : Expr} (h : EvR X e ρ O R) {Rs : List D → List Own → Prop} (hr : ∀ d o, R d o → ∃ q xs o', d = .raw (.ref q) ∧ o.Perm (Own.lst q xs :: o') ∧ Rs xs o') : EiR X tg e ρ O Rs := ⟨_, pi_list pe_w, fun B H σ hO hS Rk k => h B H σ hO hS _ fun d o v B1 H1 r n1 r1 => by
  obtain ⟨q, xs, o', rfl, p, r'⟩ := hr d o r
  cases (show v = .ref q from r1)
  have st := n1.st.perm p
  obtain ⟨vs, e1, l1, rr⟩ := st.all (Own.lst q xs) (by simp)
  obtain ⟨B', s1, n2, f⟩ := Next.freezes (L := [Own.lst q xs]) (R := o') st
  have n3 := n1.trans (n2.perm p.symm (.refl _))
  have eB : B' q = some (.lst vs) := by rw [f q (by simp [GL.foot, Own.lst]), e1]
  exact ⟨q, rfl, ⟨vs, SqL.of e1⟩, k _ xs o' B' H1 r' n3 (src_list eB l1 (rr.mono s1))⟩⟩
theorem bl_forR {tg : Expr} {g : TG} {Rs : List D → List Own → Prop} (hp : PassesOwn (model X.prog X.w) X.A X.env X.xe) (hc : X.calm = true) (hi : EiR X tg iter ρ O Rs) (hg : PG X tg g)
    (kk : ∀ ds O1, Rs ds O1 → ∃ I : Nat → Ro → List Own → Prop, I 0 ρ O1 ∧ (∀ i d r o, ds[i]? = some d → I i r o → ∃ r' is, GOk X.K g d r r' is ∧ Bl X body r' o { U with nx := I (i + 1), ct := I (i + 1), bk := fun r o => Bl X rest r o U }) ∧ ∀ r o, I ds.length r o → Bl X rest r o U)
    (hs : ∀ x, foldedSetIterable iter X.env x = pure x := by intro _; rfl) : Bl X (.For tg iter body [] pos :: rest) ρ O U := fun B H σ hO hS D hD => by
  obtain ⟨wi, hpi, hit⟩ := hi
  refine w_pb (pss_cons (ps_for hp hc hpi hg pb_w hs) pb_w) ?_
  refine hit B H σ hO hS _ fun J ds O1 B1 H1 rr n1 src => ?_
  obtain ⟨I, h0, turn, hd⟩ := kk ds O1 rr
  have hrest : ∀ r o σ' B' H', Bl X rest r o U → Next X.K O B H o B' H' → Slots X.K B' σ' r → wB X rest D σ' H' := fun r o σ' B' H' u m s => u B' H' σ' m.st s D (hD.from m)
  refine ⟨fun i m σ' H' => m = ds.length - i ∧ i ≤ ds.length ∧ ∃ r o Bi, I i r o ∧ Same B1 Bi ∧ Next X.K O B H o Bi H' ∧ Slots X.K Bi σ' r, ⟨ds.length, by simp, Nat.zero_le _, ρ, O1, B1, h0, fun _ _ h => h, n1, hS.mono n1.base⟩, ?_⟩
  rintro i m σi Hi ⟨rfl, hle, r, o, Bi, hI, sB, ni, si⟩
  by_cases hlt : i < ds.length
  · refine .inr ⟨src.go i Hi hlt (sB.trans ni.st.ext), fun σ' H' => ∃ r o Bj, I (i + 1) r o ∧ Same B1 Bj ∧ Next X.K O B H o Bj H' ∧ Slots X.K Bj σ' r, fun σ' H' q => ⟨ds.length - (i + 1), by omega, rfl, by omega, q⟩, fun x H' yy => ?_⟩
    obtain ⟨Bi', d, hd', nx, rx⟩ := src.yld i Hi x H' Bi hlt sB ni.st.ext yy
    have ny := ni.trans (nx.pure ni.st)
    have sB' := sB.trans nx.base
    obtain ⟨r', is, gk, hb⟩ := turn i d r o hd' hI
    refine gk Bi' x σi H' _ rx ny.st.ext (si.mono nx.base) fun σ2 s2 _ => ?_
    refine hb Bi' H' σ2 ny.st s2 _ ⟨fun r o σ' B' H' u m s => ⟨r, o, B', u, sB'.trans m.base, ny.trans m, s⟩, fun d o v B' H' u m s => hD.rt d o v B' H' u (ny.trans m) s, fun r o σ' B' H' u m s => hrest r o σ' B' H' u (ny.trans m) s, fun r o σ' B' H' u m s => ⟨r, o, B', u, sB'.trans m.base, ny.trans m, s⟩⟩
  · have e : i = ds.length := by omega
    subst e
    exact .inl ⟨src.stop Hi (sB.trans ni.st.ext), hrest r o σi Bi Hi (hd r o hI) ni si⟩
/-! ### calls over relations -/
section
variable {ι : Type} {pre : ι → Prop} {dI : ι → List D} {OI : ι → List Own} {RI : ι → D → List Own → Prop} {x : Str} {k n : Nat} {ps ks : List Str} {Rx : List Own} {kws : List Keyword} {as zs : List D} {C q : Addr}
theorem evr_call (ix : ι) (F : CalP X.prog X.w X.K X.mg X.base x k ps (spG X.K pre dI OI RI)) (hr : Rm k X.A) (hp : pre ix) (ha : Ea X (e :: es) ρ O (dI ix) O1) (pm : O1.Perm (OI ix ++ Rx))
    (hg : Gl X x := by rfl) (hdb : (x == ("__debug__" : Str)) = false := by decide) (he : starEach (e :: es) X.env = (false, eval e X.env) :: starEach es X.env := by rfl) (hpl : (backTo pos (starEach es X.env)).any (·.1) = false := by rfl) :
    EvR X (.Call (.Name x p) (e :: es) [] pos) ρ O fun d o => ∃ o', RI ix d o' ∧ o = o' ++ Rx := fun B H σ hO hS Q kk =>
  w_call F hr ha hO hS (fun vs B1 H1 n1 r1 => ⟨ix, B1, hp, n1.st.part pm, r1, fun d O' v B' H' hd n2 r2 => kk d _ v B' H' ⟨O', hd, rfl⟩ (n1.trans (Next.swap pm n1.st n2)) r2⟩) hg hdb he hpl
theorem evr_callK (ix : ι) (F : CalK X.prog X.w X.K X.mg X.base x k ps n ks (fun a b => a ++ b) (spG X.K pre dI OI RI)) (hr : Rm k X.A) (hp : pre ix) (ha : Ea X (e :: es) ρ O as O1) (hk : Ek X kws ρ O1 zs O2) (hd : dI ix = as ++ zs) (pm : O2.Perm (OI ix ++ Rx)) (hn : as.length = n := by rfl) (hm : zs.length = ks.length := by rfl)
    (hg : Gl X x := by rfl) (hall : (backToKw pos (keywordEach kws X.env)).all (·.1.isSome) = true := by rfl) (hks : (backToKw pos (keywordEach kws X.env)).filterMap (·.1) = ks := by rfl) (hdb : (x == ("__debug__" : Str)) = false := by decide)
    (he : starEach (e :: es) X.env = (false, eval e X.env) :: starEach es X.env := by rfl) (hpl : ((backTo pos (starEach (e :: es) X.env)).any (·.1) || (backToKw pos (keywordEach kws X.env)).any (·.1.isNone)) = false := by rfl) :
    EvR X (.Call (.Name x p) (e :: es) kws pos) ρ O fun d o => ∃ o', RI ix d o' ∧ o = o' ++ Rx := fun B H σ hO hS Q kk =>
  w_callK F hr ha hk hn hm hO hS (fun vs us B1 H1 n1 r1 r2 => ⟨ix, B1, hp, n1.st.part pm, by rw [hd]; exact r1.append r2, fun d O' v B' H' hd n2 r2 => kk d _ v B' H' ⟨O', hd, rfl⟩ (n1.trans (Next.swap pm n1.st n2)) r2⟩) hg hall hks hdb he hpl
/-- a method with arguments -/
theorem evr_meth {pl : Sem Bool} (ix : ι) (F : CalM X.prog X.w X.K X.mg X.base C m k ps (spG X.K pre dI OI RI)) (hr : Rm k X.A) (hp : pre ix) (ho : Ev X a ρ O (.raw (.ref q)) O1) (hq : IsIns X.K O1 C q m) (ha : Ea X (e :: es) ρ O1 as O2) (hd : dI ix = .raw (.ref q) :: as) (pm : O2.Perm (OI ix ++ Rx))
    (hst : starEach (e :: es) X.env = (false, eval e X.env) :: starEach es X.env := by rfl) (hpl : (backTo pos (starEach es X.env)).any (·.1) = false := by rfl)
    (ht : eval (.Call (.Attribute a m apos) (e :: es) [] pos) X.env = (do
      let ov ← eval a X.env
      standAt apos.atName
      let (f, first) ← holding [ov] (getMethod ov m pl)
      callWith pos f first (backTo pos (starEach (e :: es) X.env)) (backToKw pos (keywordEach [] X.env))) := by rfl) :
    EvR X (.Call (.Attribute a m apos) (e :: es) [] pos) ρ O fun d o => ∃ o', RI ix d o' ∧ o = o' ++ Rx := fun B H σ hO hS Q kk =>
  w_meth F hr ho hq ha hO hS (fun vs B1 H1 n1 r1 => ⟨ix, B1, hp, n1.st.part pm, by rw [hd]; exact .cons rfl r1, fun d O' v B' H' hd n2 r2 => kk d _ v B' H' ⟨O', hd, rfl⟩ (n1.trans (Next.swap pm n1.st n2)) r2⟩) hst hpl ht
theorem evr_meth0 {pl : Sem Bool} (ix : ι) (F : CalM X.prog X.w X.K X.mg X.base C m k ps (spG X.K pre dI OI RI)) (hr : Rm k X.A) (hp : pre ix) (ho : Ev X a ρ O (.raw (.ref q)) O1) (hq : IsIns X.K O1 C q m) (hd : dI ix = [.raw (.ref q)]) (pm : O1.Perm (OI ix ++ Rx))
    (ht : eval (.Call (.Attribute a m apos) [] [] pos) X.env = (do
      let ov ← eval a X.env
      standAt apos.atName
      let (f, first) ← holding [ov] (getMethod ov m pl)
      callWith pos f first (backTo pos (starEach [] X.env)) (backToKw pos (keywordEach [] X.env))) := by rfl) :
    EvR X (.Call (.Attribute a m apos) [] [] pos) ρ O fun d o => ∃ o', RI ix d o' ∧ o = o' ++ Rx := fun B H σ hO hS Q kk =>
  w_meth0 F hr ho hq hO hS (fun B1 H1 n1 => ⟨ix, B1, hp, n1.st.part pm, by rw [hd]; exact .cons rfl .nil, fun d O' v B' H' hd n2 r2 => kk d _ v B' H' ⟨O', hd, rfl⟩ (n1.trans (Next.swap pm n1.st n2)) r2⟩) ht
end
end
end GL
namespace GL
open PySem L2

/-! ### owned instances -/
def Own.ins (C q dx : Addr) (fs : List (Str × D)) : Own where
  as := [q, dx]
  P := fun K B H => ∃ vs : List (Str × V), H q = some (.ins C dx vs) ∧ H dx = some (.own q) ∧ vs.map (·.1) = fs.map (·.1) ∧ reps K B (vs.map (·.2)) (fs.map (·.2))
  mono := by
    intro K B B' H H' e k h
    obtain ⟨vs, h1, h2, h3, h4⟩ := h
    exact ⟨vs, (k q (by simp)).trans h1, (k dx (by simp)).trans h2, h3, h4.mono e⟩
  dom := fun ⟨vs, h1, h2, _⟩ a m => by
    rcases List.mem_cons.mp m with rfl | m
    · rw [h1]; simp
    · have : a = dx := by simpa using m
      subst this; rw [h2]; simp
theorem lookup_rep {K : PySem.W.Frag} {B : Hp} {f : Str} : ∀ {vs : List (Str × V)} {fs : List (Str × D)}, vs.map (·.1) = fs.map (·.1) → reps K B (vs.map (·.2)) (fs.map (·.2)) → ∀ {d : D}, fs.lookup f = some d → ∃ v, vs.lookup f = some v ∧ rep K B v d
  | [], [], _, _, d, h => by cases h
  | (g, v) :: vs, (g', d') :: fs, h, r, d, e => by
    have hg : g = g' := by simpa using (List.cons.inj h).1
    subst hg
    obtain ⟨v', t, e1, r1, r2⟩ := r
    cases e1
    rw [List.lookup_cons] at e ⊢
    cases hb : f == g with
    | true => rw [hb] at e; cases e; exact ⟨v, rfl, r1⟩
    | false => rw [hb] at e; exact lookup_rep (List.cons.inj h).2 r2 e
  | [], _ :: _, h, _, _, _ => by simp at h
  | _ :: _, [], h, _, _, _ => by simp at h
theorem lookup_none {f : Str} : ∀ {vs : List (Str × V)} {fs : List (Str × D)}, vs.map (·.1) = fs.map (·.1) → fs.lookup f = none → vs.lookup f = none
  | [], [], _, _ => rfl
  | (g, v) :: vs, (g', d') :: fs, h, e => by
    have hg : g = g' := by simpa using (List.cons.inj h).1
    subst hg
    rw [List.lookup_cons] at e ⊢
    cases hb : f == g with
    | true => rw [hb] at e; cases e
    | false => rw [hb] at e; exact lookup_none (List.cons.inj h).2 e
  | [], _ :: _, h, _ => by simp at h
  | _ :: _, [], h, _ => by simp at h
def putD (f : Str) (d : D) : List (Str × D) → List (Str × D)
  | [] => [(f, d)]
  | (g, x) :: r => if g = f then (g, d) :: r else (g, x) :: putD f d r
theorem putD_rep {K : PySem.W.Frag} {B : Hp} {f : Str} {v : V} {d : D} (rv : rep K B v d) : ∀ {vs : List (Str × V)} {fs : List (Str × D)}, vs.map (·.1) = fs.map (·.1) → reps K B (vs.map (·.2)) (fs.map (·.2)) →
    (putF f v vs).map (·.1) = (putD f d fs).map (·.1) ∧ reps K B ((putF f v vs).map (·.2)) ((putD f d fs).map (·.2))
  | [], [], _, _ => ⟨rfl, .cons rv .nil⟩
  | (g, x) :: vs, (g', y) :: fs, h, r => by
    have hg : g = g' := by simpa using (List.cons.inj h).1
    subst hg
    obtain ⟨v', t, e1, r1, r2⟩ := r
    cases e1
    unfold putF putD
    by_cases hf : g = f
    · rw [if_pos hf, if_pos hf]
      exact ⟨h, .cons rv r2⟩
    · rw [if_neg hf, if_neg hf]
      obtain ⟨a, b⟩ := putD_rep rv (List.cons.inj h).2 r2
      exact ⟨by simp [a], .cons r1 b⟩
  | [], _ :: _, h, _ => by simp at h
  | _ :: _, [], h, _ => by simp at h
section
variable {K : PySem.W.Frag} {O : List Own} {C q dx : Addr} {fs : List (Str × D)} {f m : Str} {d : D}
theorem own_ins {B H : Hp} (hO : OSt K O B H) (hm : Own.ins C q dx fs ∈ O) : ∃ vs : List (Str × V), H q = some (.ins C dx vs) ∧ H dx = some (.own q) ∧ vs.map (·.1) = fs.map (·.1) ∧ reps K B (vs.map (·.2)) (fs.map (·.2)) := hO.all _ hm
theorem fld_ins (hm : Own.ins C q dx fs ∈ O) (hc : Cls K C) (hn : NoAttr K C f) (hf : fs.lookup f = some d) : Fld K O q f d := fun B H hO => by
  obtain ⟨vs, e1, e2, e3, e4⟩ := own_ins hO hm
  obtain ⟨v, g1, g2⟩ := lookup_rep e3 e4 hf
  exact ⟨C, dx, vs, v, e1, hc, hn, g1, g2⟩
theorem isins (hm : Own.ins C q dx fs ∈ O) (hf : fs.lookup m = none) : IsIns K O C q m := fun B H hO => by
  obtain ⟨vs, e1, e2, e3, e4⟩ := own_ins hO hm
  exact ⟨dx, vs, e1, lookup_none e3 hf⟩
theorem putF_len {v : V} : ∀ {vs : List (Str × V)}, (putF f v vs).length ≤ vs.length + 1
  | [] => Nat.le_refl _
  | (g, x) :: r => by
    unfold putF
    split
    · simp
    · simp only [List.length_cons]
      have := putF_len (v := v) (vs := r)
      omega
theorem setfld_ins {k : Nat} (hk : O[k]? = some (Own.ins C q dx fs)) (hc : Cls K C) (hn : NoAttr K C f) (hl : fs.length < 1000) : SetFld K O q f d (O.set k (Own.ins C q dx (putD f d fs))) := fun B H v hO rv => by
  obtain ⟨vs, e1, e2, e3, e4⟩ := own_ins hO (List.mem_of_getElem? hk)
  have hlv : vs.length = fs.length := by simpa using congrArg List.length e3
  refine ⟨C, dx, vs, e1, hc, hn, by omega, B, Next.at hk hO (Next.write (hO.at hk) (by exact List.mem_cons_self) rfl ?_)⟩
  obtain ⟨p1, p2⟩ := putD_rep (f := f) rv e3 e4
  have hne : q ≠ dx := fun z => by subst z; rw [e1] at e2; cases e2
  exact ⟨_, upd_same, by rw [upd_ne (Ne.symm hne)]; exact e2, p1, p2⟩
end

/-! ### owned dicts -/
def Own.dct (q : Addr) (kvs : List (Key × D)) : Own where
  as := [q]
  P := fun K B H => ∃ vs : List (Key × V), H q = some (.dK vs) ∧ kvs.length ≤ lim ∧ vs.map (·.1) = kvs.map (·.1) ∧ reps K B (vs.map (·.2)) (kvs.map (·.2))
  mono := by
    intro K B B' H H' e k h
    obtain ⟨vs, h1, h2, h3, h4⟩ := h
    exact ⟨vs, (k q (by simp)).trans h1, h2, h3, h4.mono e⟩
  dom := fun ⟨vs, h1, _⟩ a m => by
    have : a = q := by simpa using m
    subst this; rw [h1]; simp
def valD (kvs : List (Key × D)) (k : Key) : Option D := (kvs.find? fun kv => decide (kv.1 = k)).map (·.2)
def dputD (kvs : List (Key × D)) (k : Key) (d : D) : List (Key × D) :=
  if (kvs.any fun kv => decide (kv.1 = k)) = true then kvs.map (fun kv => if kv.1 = k then (kv.1, d) else kv) else kvs ++ [(k, d)]
theorem valD_cons {k' k : Key} {d : D} {r : List (Key × D)} : valD ((k', d) :: r) k = if k' = k then some d else valD r k := by
  unfold valD
  by_cases h : k' = k
  · simp [h]
  · simp [h]
theorem valV_cons {k' k : Key} {d : V} {r : List (Key × V)} : valV ((k', d) :: r) k = if k' = k then some d else valV r k := by
  by_cases h : k' = k
  · rw [valV_pos (p := (k', d)) h, if_pos h]
  · rw [valV_neg (p := (k', d)) h, if_neg h]
theorem valV_rep {K : PySem.W.Frag} {B : Hp} {k : Key} : ∀ {vs : List (Key × V)} {kvs : List (Key × D)}, vs.map (·.1) = kvs.map (·.1) → reps K B (vs.map (·.2)) (kvs.map (·.2)) →
    (match valD kvs k with | some d => ∃ v, valV vs k = some v ∧ rep K B v d | none => valV vs k = none)
  | [], [], _, _ => rfl
  | (g, v) :: vs, (g', d') :: fs, h, r => by
    have hg : g = g' := by simpa using (List.cons.inj h).1
    subst hg
    obtain ⟨v', t, e1, r1, r2⟩ := r
    cases e1
    rw [valD_cons, valV_cons]
    by_cases hk : g = k
    · rw [if_pos hk, if_pos hk]; exact ⟨v, rfl, r1⟩
    · rw [if_neg hk, if_neg hk]; exact valV_rep (List.cons.inj h).2 r2
  | [], _ :: _, h, _ => by simp at h
  | _ :: _, [], h, _ => by simp at h
theorem any_keys {k : Key} {α β : Type} : ∀ {vs : List (Key × α)} {kvs : List (Key × β)}, vs.map (·.1) = kvs.map (·.1) → (vs.any fun kv => decide (kv.1 = k)) = kvs.any fun kv => decide (kv.1 = k)
  | [], [], _ => rfl
  | (g, v) :: vs, (g', d') :: fs, h => by
    have hg : g = g' := by simpa using (List.cons.inj h).1
    subst hg
    rw [List.any_cons, List.any_cons, any_keys (List.cons.inj h).2]
  | [], _ :: _, h => by simp at h
  | _ :: _, [], h => by simp at h
theorem put_rep {K : PySem.W.Frag} {B : Hp} {k : Key} {v : V} {d : D} (rv : rep K B v d) {vs : List (Key × V)} {kvs : List (Key × D)} (h : vs.map (·.1) = kvs.map (·.1)) (r : reps K B (vs.map (·.2)) (kvs.map (·.2))) :
    (putK vs k v).map (·.1) = (dputD kvs k d).map (·.1) ∧ reps K B ((putK vs k v).map (·.2)) ((dputD kvs k d).map (·.2)) := by
  unfold putK dputD
  rw [any_keys h]
  split
  · have key : ∀ {vs : List (Key × V)} {kvs : List (Key × D)}, vs.map (·.1) = kvs.map (·.1) → reps K B (vs.map (·.2)) (kvs.map (·.2)) →
        (vs.map (fun kv => if kv.1 = k then (kv.1, v) else kv)).map (·.1) = (kvs.map (fun kv => if kv.1 = k then (kv.1, d) else kv)).map (·.1) ∧ reps K B ((vs.map (fun kv => if kv.1 = k then (kv.1, v) else kv)).map (·.2)) ((kvs.map (fun kv => if kv.1 = k then (kv.1, d) else kv)).map (·.2)) := fun {vs} => by
      induction vs with
      | nil => intro kvs h r; cases kvs with
        | nil => exact ⟨rfl, .nil⟩
        | cons _ _ => simp at h
      | cons x vs ih =>
        intro kvs h r
        cases kvs with
        | nil => simp at h
        | cons y kvs =>
          obtain ⟨g, x⟩ := x
          obtain ⟨g', y⟩ := y
          have hg : g = g' := by simpa using (List.cons.inj h).1
          subst hg
          obtain ⟨v', t, e1, r1, r2⟩ := r
          cases e1
          obtain ⟨a, b⟩ := ih (List.cons.inj h).2 r2
          simp only [List.map_cons]
          refine ⟨by rw [a]; split <;> rfl, .cons ?_ b⟩
          split
          · exact rv
          · exact r1
    exact key h r
  · refine ⟨by simp [h], ?_⟩
    rw [List.map_append, List.map_append]
    exact r.snoc rv
section
variable {K : PySem.W.Frag} {O : List Own} {q : Addr} {kvs : List (Key × D)} {k : Key} {d : D}
theorem own_dct {B H : Hp} (hO : OSt K O B H) (hm : Own.dct q kvs ∈ O) : ∃ vs : List (Key × V), H q = some (.dK vs) ∧ kvs.length ≤ lim ∧ vs.map (·.1) = kvs.map (·.1) ∧ reps K B (vs.map (·.2)) (kvs.map (·.2)) := hO.all _ hm
theorem dhas_dct (hm : Own.dct q kvs ∈ O) : DHas K O q k (valD kvs k) := fun B H hO => by
  obtain ⟨vs, e1, e2, e3, e4⟩ := own_dct hO hm
  exact ⟨vs, e1, valV_rep e3 e4⟩
theorem dput_len : (dputD kvs k d).length ≤ kvs.length + 1 := by
  unfold dputD
  split <;> simp
theorem dput_dct {j : Nat} (hk : O[j]? = some (Own.dct q kvs)) (hl : kvs.length < lim) : DPutTo K O q k d (O.set j (Own.dct q (dputD kvs k d))) := fun B H v hO rv => by
  obtain ⟨vs, e1, e2, e3, e4⟩ := own_dct hO (List.mem_of_getElem? hk)
  have hlv : vs.length = kvs.length := by simpa using congrArg List.length e3
  refine ⟨vs, e1, by rw [hlv]; exact lim_lt hl, B, Next.at hk hO (Next.write (hO.at hk) (by exact List.mem_cons_self) rfl ?_)⟩
  obtain ⟨p1, p2⟩ := put_rep (k := k) rv e3 e4
  exact ⟨_, upd_same, Nat.le_trans dput_len hl, p1, p2⟩
theorem dkeys_dct {ks js : List Int} (hm : Own.dct q kvs ∈ O) (h : kvs.map (·.1) = js.map Sum.inl) (p : js.Perm ks) : DKeys K O q ks := fun B H hO => by
  obtain ⟨vs, e1, e2, e3, e4⟩ := own_dct hO hm
  exact ⟨vs, js, e1, e3.trans h, p⟩
end
section
variable {X : Cx} {ρ : Ro} {O O1 O2 O3 : List Own} {a b c e i iter : Expr} {es : List Expr} {d : D} {ds : List D} {pos p apos pos' : Pos} {U : Out} {rest body : List Stmt} {f m : Str} {R R' R1 : D → List Own → Prop}
/-- {} -/
theorem evr_dict : EvR X (.Dict [] [] pos) ρ O fun d o => ∃ q, d = .raw (.ref q) ∧ o = Own.dct q [] :: O := fun B H σ hO hS Q k => w_pe pe_dnewK fun z hz =>
  k _ _ _ B _ ⟨z, rfl, rfl⟩ (by simpa using Next.pure hO (Next.own (w := Own.dct z []) hO.ext hz rfl ⟨[], upd_same, Nat.zero_le _, rfl, .nil⟩)) rfl
/-! ### repr, in, a[0], x = .. -/
theorem ev_reprD {k : Nat} (hr : Rm k X.A) (M : X.mg "repr" = none) (ha : Ev X a ρ O d O1) (hd : deep d = true) (hs : (pyD d).showable = true) (hn : (pyD d).hasDict = false) (hp : (pyD d).depth ≤ 60) (hz : (pyD d).shown.length ≤ sizeLine) (hl : ∃ xs, d = .lst xs)
    (hg : Gl X "repr" := by rfl) (he : starEach [a] X.env = [(false, eval a X.env)] := by rfl) : Ev X (.Call (.Name "repr" p) [a] [] pos) ρ O (.str (pyD d).shown) O1 :=
  ev_bcall (call_reprD hr) M (by decide +kernel) (ea_cons ha ea_nil (by rw [he] <;> rfl)) (fun B H vs hO r Q kk => by
    obtain ⟨v, rfl, r1⟩ := one r
    obtain ⟨xs, rfl⟩ := hl
    have dp := dp_of hO.ext hd r1
    obtain ⟨q, ws, rfl, _⟩ := r1
    exact ⟨q, _, rfl, dp, hs, hn, hp, hz, kk _ B H (.refl hO) rfl⟩) hg (by decide) (by decide) (by rw [he] <;> rfl)
theorem reps_flatV {K : PySem.W.Frag} {B : Hp} {xs : List Str} {vs : List V} (r : reps K B vs (xs.map D.str)) : vs.all flatV = true := by
  rw [reps_strs r]
  simp [flatV]
theorem inV_str {z : Str} {xs : List Str} : inV (.str z) (xs.map V.str) = xs.contains z := by
  unfold inV
  rw [List.any_map]
  show (xs.any fun y => y == z) = _
  exact List.any_beq'
theorem op2_notInS {z : Str} {xs : List Str} : Op2 X.K (rIn X.K true) O (.str z) (.lst (xs.map D.str)) (.bl (!xs.contains z)) O := fun B H x y hO r1 r2 Q k => by
  cases (show x = .str z from r1)
  obtain ⟨q, vs, rfl, e1, _, rr⟩ := r2
  refine ⟨q, vs, rfl, .inl (SqL.of (hO.ext _ _ e1)), rfl, reps_flatV rr, ?_⟩
  rw [if_pos rfl, reps_strs rr, inV_str]
  exact k _ B H (.refl hO) rfl
theorem op2_inS {z : Str} {xs : List Str} : Op2 X.K (rIn X.K false) O (.str z) (.lst (xs.map D.str)) (.bl (xs.contains z)) O := fun B H x y hO r1 r2 Q k => by
  cases (show x = .str z from r1)
  obtain ⟨q, vs, rfl, e1, _, rr⟩ := r2
  refine ⟨q, vs, rfl, .inl (SqL.of (hO.ext _ _ e1)), rfl, reps_flatV rr, ?_⟩
  rw [if_neg (by decide), reps_strs rr, inV_str]
  exact k _ B H (.refl hO) rfl
theorem et_notInS {z : Str} {xs : List Str} (ha : Ev X a ρ O (.str z) O1) (hb : Ev X b ρ O1 (.lst (xs.map D.str)) O2) (hm : behindInMarks .NotIn b = false := by rfl) : Et X (.Compare a [.NotIn] [b] pos) ρ O (!xs.contains z) O2 := et_cmp op_notIn_seq hm ha hb op2_notInS
theorem ev_notInS {z : Str} {xs : List Str} (ha : Ev X a ρ O (.str z) O1) (hb : Ev X b ρ O1 (.lst (xs.map D.str)) O2) (hm : behindInMarks .NotIn b = false := by rfl) : Ev X (.Compare a [.NotIn] [b] pos) ρ O (.bl (!xs.contains z)) O2 := ev_cmp op_notIn_seq hm ha hb op2_notInS
theorem et_inS {z : Str} {xs : List Str} (ha : Ev X a ρ O (.str z) O1) (hb : Ev X b ρ O1 (.lst (xs.map D.str)) O2) (hm : behindInMarks .In b = false := by rfl) : Et X (.Compare a [.In] [b] pos) ρ O (xs.contains z) O2 := et_cmp op_in_seq hm ha hb op2_inS
/-- xs[i], y = e -/
theorem bl_unpS {d1 d2 : D} {xs : List D} {q : Addr} {z : Int} {j : Nat} {y : Str} {spos py pt : Pos} {kt : Nat} (k l : Nat) (hN : X.N.Nodup) (h : Ev X e ρ O (.tup [d1, d2]) O1) (ha : Ev X a ρ O1 (.raw (.ref q)) O1) (hi : Ev X b ρ O1 (.int z) O1) (hk : O1[k]? = some (Own.lst q xs)) (hj : ixN xs.length z = some j)
    (kk : Bl X rest (ρ.set l (some d2)) (O1.set k (Own.lst q (xs.set j d1))) U) (hl : X.N[l]? = some y := by rfl) (hx : Loc X.env.scope y := by first | exact Or.inl rfl | exact Or.inr rfl) (hf : X.fn y = true ∨ X.env.scope.names.lookup y = some .local := by first | exact .inl rfl | exact .inr rfl) (hc : X.calm = true := by rfl)
    (hst : ∀ v, assign (.Subscript a b spos) X.env v = (do
      let ov ← holding [v] (eval a X.env)
      let iv ← holding [v, ov] (eval b X.env)
      standAt spos
      holding [v, ov, iv] (setItem ov iv v)
      release [v, ov, iv] []) := by intro _; rfl)
    (he1 : (assignEach [.Subscript a b spos, .Name y py] X.env).map (·.2) = assign (.Subscript a b spos) X.env :: (assignEach [.Name y py] X.env).map (·.2) := by rfl) (he2 : (assignEach [.Name y py] X.env).map (·.2) = assign (.Name y py) X.env :: (assignEach [] X.env).map (·.2) := by rfl)
    (hn : (assignEach [.Subscript a b spos, .Name y py] X.env).length = 2 := by rfl) (hidx : (assignEach [.Subscript a b spos, .Name y py] X.env).findIdx? (·.1) = none := by rfl)
    (hs : swapsWithSole [.Tuple [.Subscript a b spos, .Name y py] kt pt] e pos.line X.env = pure false := by rfl) (hw : swappedStores [.Tuple [.Subscript a b spos, .Name y py] kt pt] e X.env = pure none := by rfl)
    (h1 : (assignEach [.Tuple [.Subscript a b spos, .Name y py] kt pt] X.env).map (·.2) = [assign (.Tuple [.Subscript a b spos, .Name y py] kt pt) X.env] := by rfl) : Bl X (.Assign [.Tuple [.Subscript a b spos, .Name y py] kt pt] e pos :: rest) ρ O U := fun B H σ hO hS D hD =>
  w_pb (pss_cons (ps_asg pe_w (pg_tup hc (pgs_cons (pg_sub pe_w pe_w set_list hst) (pgs_cons (pg_name hN hl hx hf) pgs_nil he2) he1) hn hidx) hs hw h1) pb_w) (h B H σ hO hS _ fun v B1 H1 n1 r1 => by
    obtain ⟨w, vs, rfl, e1, _, rr⟩ := r1
    obtain ⟨v1, v2, rfl, r1, r2⟩ := two rr
    refine ⟨w, _, rfl, SqT.of (n1.st.ext _ _ e1), rfl, v1, _, rfl, ?_⟩
    refine ha B1 H1 σ n1.st (hS.mono n1.base) _ fun x B2 H2 n2 r3 => hi B2 H2 σ n2.st (hS.mono (n1.trans n2).base) _ fun y B3 H3 n3 r4 => ?_
    cases (show x = .ref q from r3)
    obtain ⟨us, e2, l1, rr⟩ := own_list n3.st hk
    refine ⟨q, us, z, j, rfl, r4, e2, by rw [rr.length]; exact hj, v2, [], rfl, rfl, ?_⟩
    have b3 := (n2.trans n3).base
    have nn := ((n1.trans n2).trans n3).trans (own_put n3.st hk (ys := xs.set j d1) (by rw [List.length_set]; exact l1) (rr.set j (r1.mono b3)))
    exact kk B3 _ _ nn.st ((hS.mono nn.base).set l (r2.mono b3)) D (hD.from nn))
end
end GL
namespace GL
open PySem L2
theorem kbindsN {K : PySem.W.Frag} {x qual : Str} {params : Arguments} {body : List Stmt} {scope : Scope} {kws : List (Str × V)} {f : Addr} {fd : FuncData} {ps : List Str} (F : FunD K x qual params body scope [] kws f fd) (n : Nat) (ks : List Str)
    (h : ∀ (kV doc pm : Value) (an : Option Addr) (cdv ct : Value) (us ws : List Value), us.length = n → ws.length = ks.length → bindArgs (PySem.W.fnOf x qual params body scope .none kV doc pm an cdv ct) ⟨us, ks.zip ws⟩ = pure (ps.zip (us ++ ws))) :
    KBn K fd ps n ks (fun us ws => us ++ ws) (fun vs zs => vs ++ zs) := by
  obtain ⟨oc, od, dV, kV, doc, pm, an, cdv, ct, osl, rfl, lk, hcd, hD, hK⟩ := F.ex
  rcases hD with ⟨_, rfl⟩ | ⟨e, _⟩
  · refine ⟨fun s us ws X l1 l2 => .of_eq (h kV doc pm an cdv ct us ws l1 l2), fun {vs us zs ws} r1 r2 => ?_⟩
    induction r1 with
    | nil => exact r2
    | cons a _ ih => exact .cons a ih
  · exact absurd rfl e
end GL
namespace GL
open PySem L2
section
variable {X : Cx} {ρ : Ro} {O O1 O2 O3 : List Own} {a b c e i iter : Expr} {es : List Expr} {d : D} {ds : List D} {pos p apos pos' : Pos} {U : Out} {rest body : List Stmt} {f m : Str} {R R' R1 : D → List Own → Prop}
/-- part of what is owned is forgotten -/
theorem EvR.drop (h : EvR X e ρ O R) (hr : ∀ d o, R d o → ∃ o1 o2, o.Perm (o1 ++ o2) ∧ R' d o1) : EvR X e ρ O R' := fun B H σ hO hS Q k =>
  h B H σ hO hS Q fun d o v B' H' r n q => by
    obtain ⟨o1, o2, p, r'⟩ := hr d o r
    have n2 := n.perm (.refl _) p
    exact k d o1 v B' H' r' (n2.trans (Next.lose n2.st)) q
/-- target = e, e by a relation -/
theorem bl_asgR {tg : Expr} {g : TG} (hg : PG X tg g) (h : EvR X e ρ O R) (hr : ∀ d o, R d o → ∃ r' is, GOk X.K g d ρ r' is ∧ Bl X rest r' o U) (hs : swapsWithSole [tg] e pos.line X.env = pure false := by rfl) (hw : swappedStores [tg] e X.env = pure none := by rfl)
    (h1 : (assignEach [tg] X.env).map (·.2) = [assign tg X.env] := by rfl) : Bl X (.Assign [tg] e pos :: rest) ρ O U := fun B H σ hO hS D hD =>
  w_pb (pss_cons (ps_asg pe_w hg hs hw h1) pb_w) (h B H σ hO hS _ fun d o v B1 H1 r n1 r1 => by
    obtain ⟨r', is, gk, k⟩ := hr d o r
    exact gk B1 v σ H1 _ r1 n1.st.ext (hS.mono n1.base) fun σ' s' _ => k B1 H1 σ' n1.st s' D (hD.from n1))
/-- o.f = e, e by a relation -/
theorem bl_fldR {O3 : D → List Own → List Own} {q : Addr} (h : EvR X e ρ O R) (ho : ∀ d o, R d o → Ev X a ρ o (.raw (.ref q)) o) (hf : ∀ d o, R d o → SetFld X.K o q f d (O3 d o)) (kk : ∀ d o, R d o → Bl X rest ρ (O3 d o) U)
    (hs : swapsWith e (some (.Attribute a f pos')) pos.line X.env = pure false := by rfl) : Bl X (.Assign [.Attribute a f pos'] e pos :: rest) ρ O U := fun B H σ hO hS D hD =>
  w_pb (pss_cons (ps_fld pe_w pe_w hs) pb_w) (h B H σ hO hS _ fun d o v B1 H1 r n1 r1 => ho d o r B1 H1 σ n1.st (hS.mono n1.base) _ fun x B2 H2 n2 r2 => by
    cases (show x = .ref q from r2)
    obtain ⟨C, dx, fs, e1, e2, e3, e4, B3, n3⟩ := hf d o r B2 H2 v n2.st (r1.mono n2.base)
    have nn := (n1.trans n2).trans n3
    exact ⟨q, C, dx, fs, rfl, e1, e2, e3, e4, kk d o r B3 _ σ nn.st (hS.mono nn.base) D (hD.from nn)⟩)
/-- d[k] = e, e by a relation -/
theorem bl_dputR {O3 : D → List Own → List Own} {q : Addr} {n : Nat} {k : Key} (hr : Rm n X.A) (h : EvR X e ρ O R) (ho : ∀ d o, R d o → Ev X a ρ o (.raw (.ref q)) o) (hi : ∀ d o, R d o → Ev X i ρ o (kD k) o) (hf : ∀ d o, R d o → DPutTo X.K o q k d (O3 d o)) (kk : ∀ d o, R d o → Bl X rest ρ (O3 d o) U)
    (hs : swapsWith e (some (.Subscript a i pos')) pos.line X.env = pure false := by rfl) : Bl X (.Assign [.Subscript a i pos'] e pos :: rest) ρ O U := fun B H σ hO hS D hD =>
  w_pb (pss_cons (ps_dput (by have := hr.room.units; omega) pe_w pe_w pe_w hs) pb_w) (h B H σ hO hS _ fun d o v B1 H1 r n1 r1 => ho d o r B1 H1 σ n1.st (hS.mono n1.base) _ fun x B2 H2 n2 r2 => hi d o r B2 H2 σ n2.st (hS.mono (n1.trans n2).base) _ fun y B3 H3 n3 r3 => by
    cases (show x = .ref q from r2)
    cases rep_key r3
    obtain ⟨kvs, e1, e2, B4, n4⟩ := hf d o r B3 H3 v n3.st (r1.mono (n2.trans n3).base)
    have nn := ((n1.trans n2).trans n3).trans n4
    exact ⟨q, _, rfl, DPut.k e1 e2, kk d o r B4 _ σ nn.st (hS.mono nn.base) D (hD.from nn)⟩)
/-- a new instance -/
theorem Next.inst {K : PySem.W.Frag} {O : List Own} {B H : Hp} {C x dx : Addr} (h : OSt K O B H) (hx : H x = none) (hd : H dx = none) (hne : dx ≠ x) : Next K O B H (Own.ins C x dx [] :: O) B (upd (upd H dx (.own x)) x (.ins C dx [])) := by
  have hx' : upd H dx (.own x) x = none := by rw [upd_ne (Ne.symm hne)]; exact hx
  have fr : ∀ a o, H a = some o → upd (upd H dx (.own x)) x (.ins C dx []) a = some o := fun a o e => by rw [upd_ne (ne_of_none e hx), upd_ne (ne_of_none e hd)]; exact e
  have n : Next K [] B H [Own.ins C x dx []] B (upd (upd H dx (.own x)) x (.ins C dx [])) := by
    refine ⟨fun _ _ h => h, fun _ _ b _ => b, fun a o e _ => fr a o e, fun a m => .inr ?_, fun a e => ?_, ⟨fun a o e => fr a o (h.ext a o e), ?_, fun a m => ?_, fun w m => ?_⟩⟩
    · have : a = x ∨ a = dx := by simpa [GL.foot, Own.ins] using m
      rcases this with rfl | rfl <;> assumption
    · cases q : H a with
      | none => exact absurd q e
      | some o => rw [fr a o q]; simp
    · simp [GL.foot, Own.ins, Ne.symm hne]
    · have : a = x ∨ a = dx := by simpa [GL.foot, Own.ins] using m
      rcases this with rfl | rfl
      · exact h.ext.free hx
      · exact h.ext.free hd
    · have : w = Own.ins C x dx [] := by simpa using m
      subst this
      exact ⟨[], upd_same, by rw [upd_ne hne]; exact upd_same, rfl, .nil⟩
  exact n.pure h
section
variable {ι : Type} {pre : ι → Prop} {dI : ι → List D} {OI : ι → List Own} {RI : ι → D → List Own → Prop} {x : Str} {k n : Nat} {ps ks : List Str} {Rx : List Own} {as zs : List D} {C q : Addr}
/-- C(e, ..) -/
theorem evr_make (ix : Addr → Addr → ι) (F : CalC X.prog X.w X.K X.mg X.base x C k ps (spG X.K pre dI OI RI)) (hr : Rm (k + 1) X.A) (hp : ∀ q dx, pre (ix q dx)) (ha : Ea X (e :: es) ρ O as O1) (hd : ∀ q dx, dI (ix q dx) = .raw (.ref q) :: as) (ho : ∀ q dx, OI (ix q dx) = [Own.ins C q dx []])
    (hn : ∀ q dx d o, RI (ix q dx) d o → d = .non) (hg : Gl X x := by rfl) (hdb : (x == ("__debug__" : Str)) = false := by decide) (he : starEach (e :: es) X.env = (false, eval e X.env) :: starEach es X.env := by rfl) (hpl : (backTo pos (starEach es X.env)).any (·.1) = false := by rfl) :
    EvR X (.Call (.Name x p) (e :: es) [] pos) ρ O fun d o => ∃ q dx o', d = .raw (.ref q) ∧ RI (ix q dx) .non o' ∧ o = o' ++ O1 := fun B H σ hO hS Q kk =>
  w_make F hr ha hO hS (fun vs B1 H1 n1 r1 q dx h1 h2 h3 => by
    have n2 := Next.inst (C := C) n1.st h1 h2 h3
    refine ⟨ix q dx, B1, hp q dx, by rw [ho]; exact n2.st.left (O := [Own.ins C q dx []]), by rw [hd]; exact .cons rfl r1, fun d O' v B' H' hd' n3 r3 => ?_⟩
    have hd0 := hn q dx d O' hd'
    subst hd0
    refine ⟨r3, kk _ _ _ B' H' ⟨q, dx, O', rfl, hd', rfl⟩ ((n1.trans n2).trans (Next.beside (O := [Own.ins C q dx []]) (R := O1) n2.st (by rw [← ho q dx]; exact n3))) rfl⟩) hg hdb he hpl
/-- a method without arguments, of what is evaluated by a relation -/
theorem evr_meth0R {pl : Sem Bool} (F : CalM X.prog X.w X.K X.mg X.base C m k ps (spG X.K pre dI OI RI)) (hr : Rm k X.A) (ho : EvR X a ρ O R) (hh : ∀ d o, R d o → ∃ ix q Rx, d = .raw (.ref q) ∧ IsIns X.K o C q m ∧ pre ix ∧ dI ix = [.raw (.ref q)] ∧ o.Perm (OI ix ++ Rx) ∧ ∀ d' o', RI ix d' o' → R' d' (o' ++ Rx))
    (ht : eval (.Call (.Attribute a m apos) [] [] pos) X.env = (do
      let ov ← eval a X.env
      standAt apos.atName
      let (f, first) ← holding [ov] (getMethod ov m pl)
      callWith pos f first (backTo pos (starEach [] X.env)) (backToKw pos (keywordEach [] X.env))) := by rfl) :
    EvR X (.Call (.Attribute a m apos) [] [] pos) ρ O R' := fun B H σ hO hS Q kk => by
  obtain ⟨f, fd, me, cl, ok, bi⟩ := F.ex
  intro pins s I
  refine PySem.W.methodCall_KW (pl := pl) (thn (ho B H σ hO hS (fun x H' => ∃ q, x = .ref q ∧ (∃ dx fs, H' q = some (.ins C dx fs) ∧ fs.lookup m = none) ∧ spG X.K pre dI OI RI [.ref q] H' Q E0) (fun d o v B1 H1 r n1 r1 => by
    obtain ⟨ix, q, Rx, rfl, hi, hp, hd, pm, hk⟩ := hh d o r
    refine ⟨q, r1, hi B1 H1 n1.st, ix, B1, hp, n1.st.part pm, by rw [hd]; exact .cons rfl .nil, fun d' O' v' B' H' hd' n2 r2 => kk d' _ v' B' H' (hk d' O' hd') (n1.trans (Next.swap pm n1.st n2)) r2⟩) pins s I) fun u s1 ⟨x, H1, I1, rx, q, ex, ⟨dx, fs, e1, e2⟩, q2⟩ => ?_) ht
  subst ex
  cases rx
  refine getmeth_ok I1 e1 cl me e2 ?_
  exact PySem.W.callWith_K0 (first := [.ref q]) I1.kIn me.kp (runG (us := [.ref q]) ok hr bi pass0 I1 (.cons (show RelV (.ref q) (Value.ref q) from rfl) .nil) q2)
end
end
end GL
namespace GL
open PySem L2
section
variable {X : Cx} {ρ : Ro} {O O1 O2 O3 : List Own} {a b e : Expr} {d : D} {pos p : Pos} {rest : List Stmt} {U : Out}
/-- the text's own iteration -/
def wI (X : Cx) (tg it : Expr) : TI := fun σ H R => ∀ pins s, Inv X pins σ H s → wpAny (model X.prog X.w) X.A (eval it X.env) (fun v s1 => wpAny (model X.prog X.w) X.A (pyIter v) (PIE X pins σ tg R) X.xe s1) X.xe s
theorem evl_2I {elt tg iter tg1 iter1 : Expr} {ifs1 : List Expr} {scope : Scope} {own : List (Str × Nat)} {vs1 is is1 : List Nat} {ds : List D} {es : Nat → List D} {g g1 : TG} {tt1 : TT} {I : Nat → Nat → List D → List Own → Prop} {keep : Nat → Nat → Bool} {ρt : Nat → Ro} {ρu : Nat → Nat → Ro}
    (hc : X.calm = true) (hN : X.N.Nodup) (hi : Ei X tg iter ρ O ds O1) (ok : BlkOk X.N X.env.scope scope own) (hv : ∀ i ∈ vs1, i ∈ own.map (·.2))
    (hg : InBlk X scope fun Y => PG Y tg g) (hg1 : InBlk X scope fun Y => PG Y tg1 g1) (ht1 : InBlk X scope fun Y => PTs Y ifs1 tt1) (his : ∀ i ∈ is, i ∈ own.map (·.2)) (his1 : ∀ i ∈ is1, i ∈ vs1)
    (h0 : I 0 0 [] O1)
    (hgo : ∀ i d, ds[i]? = some d → GOk X.K g d (wipeR ρ (own.map (·.2))) (ρt i) is)
    (hi1 : ∀ i d acc Oi, ds[i]? = some d → I i 0 acc Oi → InBlk X scope fun Y => Ei Y tg1 iter1 (ρt i) Oi (es i) Oi)
    (hgo1 : ∀ i j e, (es i)[j]? = some e → GOk X.K g1 e (wipeR (ρt i) vs1) (ρu i j) is1)
    (htt : ∀ i j d e acc Oi, ds[i]? = some d → (es i)[j]? = some e → I i j acc Oi → ∀ (B H : Hp) (σ : L2.St), OSt X.K Oi B H → Slots X.K B σ (ρu i j) → ∀ Q : Bool → Hp → Prop, (∀ B' H', Next X.K Oi B H Oi B' H' → Q (keep i j) H') → tt1 σ H Q)
    (hy : ∀ i j d e acc Oi, ds[i]? = some d → (es i)[j]? = some e → keep i j = true → I i j acc Oi → InBlk X scope fun Y => EvR Y elt (ρu i j) Oi fun y O' => I i (j + 1) (acc ++ [y]) O')
    (hn : ∀ i j d e acc Oi, ds[i]? = some d → (es i)[j]? = some e → keep i j = false → I i j acc Oi → I i (j + 1) acc Oi)
    (hend : ∀ i d acc Oi, ds[i]? = some d → I i (es i).length acc Oi → I (i + 1) 0 acc Oi) (hlen : ∀ i j acc Oi, I i j acc Oi → acc.length < lim)
    (hs : ∀ x, foldedSetIterable iter X.env x = pure x := by intro _; rfl) (hs1 : ∀ env x, foldedSetIterable iter1 env x = pure x := by intro _ _; rfl) :
    EvL X (.ListComp elt [⟨tg, iter, [], 0⟩, ⟨tg1, iter1, ifs1, 0⟩] scope pos) ρ O (I ds.length 0) := by
  obtain ⟨wi, hpi, hit⟩ := hi
  have hte : ∀ (s : Shared) (H : Hp) (C : Addr) (cl : List (Str × Addr)) (fp : List Addr), PE (X.blk s H scope (compEnvC scope cl C X.env) fp) elt (fun σ' H' Q' => InBlk X scope fun Y => wE Y elt σ' H' Q') := fun s H0 C cl fp => ⟨fun pins s' σ' H' Q' I h => h s H0 C cl fp pins s' I⟩
  have hpi1 : ∀ (s : Shared) (H : Hp) (C : Addr) (cl : List (Str × Addr)) (fp : List Addr), PI (X.blk s H scope (compEnvC scope cl C X.env) fp) tg1 iter1 (fun σ' H' R' => InBlk X scope fun Y => wI Y tg1 iter1 σ' H' R') := fun s H0 C cl fp => ⟨fun pins s' σ' H' R' I h => h s H0 C cl fp pins s' I⟩
  refine ⟨tLc2 wi g tYes (fun σ' H' R' => InBlk X scope fun Y => wI Y tg1 iter1 σ' H' R') g1 tt1 (fun σ' H' Q' => InBlk X scope fun Y => wE Y elt σ' H' Q') (own.map (·.2)) vs1, pe_lc2 hc hN hpi ok hv hg (fun _ _ _ _ _ => pts_nil) hpi1 hg1 ht1 hte hs hs1, fun i y py spos hy hyl hsw => ps_setLc2 hc hN hy hyl hsw hpi ok hv hg (fun _ _ _ _ _ => pts_nil) hpi1 hg1 ht1 hte hs hs1, fun B H σ hO' hS Q k => ?_⟩
  refine hit B H σ hO' hS _ fun J B1 H1 n1 src => fun Dl hD => ?_
  have n0 := n1.trans (Next.newL n1.st hD (ds := []) (vs := []) (by show 0 ≤ 1000000; decide) .nil)
  refine ⟨fun i m H' => m = ds.length - i ∧ i ≤ ds.length ∧ ∃ Bi acc Oi, I i 0 acc Oi ∧ Same B1 Bi ∧ Next X.K O B H (Own.lst Dl acc :: Oi) Bi H', ⟨ds.length, by simp, Nat.zero_le _, B1, [], O1, h0, fun _ _ h => h, n0⟩, ?_⟩
  rintro i m Hi ⟨rfl, hle, Bi, acc, Oi, hI, sB, ni⟩
  by_cases hlt : i < ds.length
  · refine .inr ⟨src.go i Hi hlt (sB.trans ni.st.ext), fun H' => i + 1 ≤ ds.length ∧ ∃ Bj acc' Oj, I (i + 1) 0 acc' Oj ∧ Same B1 Bj ∧ Next X.K O B H (Own.lst Dl acc' :: Oj) Bj H', fun H' ⟨h1, h2⟩ => ⟨ds.length - (i + 1), by omega, rfl, h1, h2⟩, fun x H' yy => ?_⟩
    obtain ⟨Bi', d, hd, nx, rx⟩ := src.yld i Hi x H' Bi hlt sB ni.st.ext yy
    have ny := ni.trans (nx.pure ni.st)
    have sB' := sB.trans nx.base
    refine hgo i d hd Bi' x _ H' _ rx ny.st.ext ((hS.mono ny.base).wipe _) fun σ2 s2 w2 => ⟨?_, ?_⟩
    · have := w2 (own.map (·.2)) his
      rw [this, wipe_wipe]
    · refine iteT (B := i + 1 ≤ ds.length ∧ ∃ Bj acc' Oj, I (i + 1) 0 acc' Oj ∧ Same B1 Bj ∧ Next X.K O B H (Own.lst Dl acc' :: Oj) Bj H') ?_
      intro s H0 C cl fp
      have st0 : OSt X.K Oi Bi' H' := (ny.st.perm (O' := Oi ++ [Own.lst Dl acc]) (List.perm_append_comm (l₁ := [Own.lst Dl acc]))).left
      obtain ⟨wj, hpj, hjt⟩ := hi1 i d acc Oi hd hI s H0 C cl fp
      intro pins s' Iv
      refine hpj.run pins s' σ2 H' _ Iv (hjt Bi' H' σ2 st0 s2 _ fun J1 B2 H2 n2 src1 => ?_)
      have m2 : Next X.K O B H (Own.lst Dl acc :: Oi) B2 H2 := ny.trans ((Next.beside (R := [Own.lst Dl acc]) (ny.st.perm (List.perm_append_comm (l₁ := [Own.lst Dl acc]))) n2).perm (List.perm_append_comm (l₂ := [Own.lst Dl acc])) (List.perm_append_comm (l₂ := [Own.lst Dl acc])))
      refine ⟨fun j m H' => m = (es i).length - j ∧ j ≤ (es i).length ∧ ∃ Bj acc' Oj, I i j acc' Oj ∧ Same B2 Bj ∧ Next X.K O B H (Own.lst Dl acc' :: Oj) Bj H', ⟨(es i).length, by simp, Nat.zero_le _, B2, acc, Oi, hI, fun _ _ h => h, m2⟩, ?_⟩
      rintro j mj Hj ⟨rfl, hlej, Bj, accj, Oj, hIj, sBj, nj⟩
      by_cases hltj : j < (es i).length
      · refine .inr ⟨src1.go j Hj hltj (sBj.trans nj.st.ext), fun H' => j + 1 ≤ (es i).length ∧ ∃ Bk acc' Ok, I i (j + 1) acc' Ok ∧ Same B2 Bk ∧ Next X.K O B H (Own.lst Dl acc' :: Ok) Bk H', fun H' ⟨h1, h2⟩ => ⟨(es i).length - (j + 1), by omega, rfl, h1, h2⟩, fun x H' yy => ?_⟩
        obtain ⟨Bj', ej, hej, nxj, rxj⟩ := src1.yld j Hj x H' Bj hltj sBj nj.st.ext yy
        have nyj := nj.trans (nxj.pure nj.st)
        have sBj' := sBj.trans nxj.base
        refine hgo1 i j ej hej Bj' x _ H' _ rxj nyj.st.ext ((s2.mono (n2.base.trans sBj')).wipe _) fun σ3 s3 w3 => ⟨?_, ?_⟩
        · have := w3 vs1 his1
          rw [this, wipe_wipe]
        · have st1 : OSt X.K Oj Bj' H' := (nyj.st.perm (O' := Oj ++ [Own.lst Dl accj]) (List.perm_append_comm (l₁ := [Own.lst Dl accj]))).left
          refine htt i j d ej accj Oj hd hej hIj Bj' H' σ3 st1 s3 _ fun B3 H3 n3 => ?_
          have m3 : Next X.K O B H (Own.lst Dl accj :: Oj) B3 H3 := nyj.trans ((Next.beside (R := [Own.lst Dl accj]) (nyj.st.perm (List.perm_append_comm (l₁ := [Own.lst Dl accj]))) n3).perm (List.perm_append_comm (l₂ := [Own.lst Dl accj])) (List.perm_append_comm (l₂ := [Own.lst Dl accj])))
          cases hk : keep i j with
          | true =>
            refine iteT ?_
            intro s H0 C cl fp
            refine hy i j d ej accj Oj hd hej hk hIj s H0 C cl fp B3 H3 σ3 n3.st (s3.mono n3.base) _ fun y O' v B4 H4 hI' n4 r4 => ?_
            have m4 : Next X.K O B H (Own.lst Dl accj :: O') B4 H4 := m3.trans ((Next.beside (R := [Own.lst Dl accj]) (m3.st.perm (List.perm_append_comm (l₁ := [Own.lst Dl accj]))) n4).perm (List.perm_append_comm (l₂ := [Own.lst Dl accj])) (List.perm_append_comm (l₂ := [Own.lst Dl accj])))
            obtain ⟨us, ha, hl, hr⟩ := m4.st.all (Own.lst Dl accj) List.mem_cons_self
            have hli := hlen i j accj Oj hIj
            refine ⟨us, ha, by rw [hr.length]; exact lim_lt hli, by omega, B4, _, _, hI', (sBj'.trans n3.base).trans n4.base, ?_⟩
            have nw := Next.write (K := X.K) (B := B4) (H := H4) (p := Dl) (o := .lst (us ++ [v])) (w := Own.lst Dl accj) (w' := Own.lst Dl (accj ++ [y])) (m4.st.left (O := [_])) List.mem_cons_self rfl ⟨_, upd_same, by rw [List.length_append]; exact hli, hr.snoc r4⟩
            exact m4.trans (Next.beside (O := [_]) (R := O') m4.st nw)
          | false => exact iteF ⟨by omega, B3, accj, Oj, hn i j d ej accj Oj hd hej hk hIj, sBj'.trans n3.base, m3⟩
      · have e : j = (es i).length := by omega
        subst e
        exact .inl ⟨src1.stop Hj (sBj.trans nj.st.ext), by omega, Bj, accj, Oj, hend i d accj Oj hd hIj, (sB'.trans n2.base).trans sBj, nj⟩
  · have e : i = ds.length := by omega
    subst e
    exact .inl ⟨src.stop Hi (sB.trans ni.st.ext), k Dl acc Oi Bi Hi hI ni⟩
end
end GL
namespace GL
open PySem PySem.Spec PyProof.Rows L2
/-- the script, which nobody writes -/
def Own.scr (p : Addr) (ns : List Int) : Own where
  as := []
  P := fun K B H => SqL K B p (ns.map V.int)
  mono := fun e k h => Same.sqL e h
  dom := fun _ a m => absurd m (by simp)
/-- the law's call -/
theorem law_callG {P : Program} {w : World} {K : PySem.W.Frag} {mg mb : Str → Option Value} {k : Nat} {fa a : Addr} {fd : FuncData} {x : Str} {sp : Sp} {s₁ : Shared} {vs : List Value} {ns : List Int}
    (KX : K.In s₁.heap) (hns : s₁.heap.Ns mainGlobals mg) (hb : s₁.heap.Ns builtinsNs mb) (hbb : ∀ x : Str, x ≠ "__name__" → mb x = bootBuiltins x) (hlim : s₁.heap.NoLimit) (hg : s₁.gens = #[]) (sr : s₁.heap.NoSeer)
    (ha : s₁.heap.get? a = some { cls := .type "list", data := .seq vs.toArray }) (hi : IntsAre vs ns) (hl : ns.length ≤ sizeLine) (hr : Rm k callerA)
    (F : ∀ base : Heap, K.In base → base.Ns mainGlobals mg → base.NoSeer → FnG P w K mg base CX0 k fa fd [x] sp) (hbind : ∀ (s : Shared) (u : Value), BindsTo s fd ⟨[u], []⟩ [(x, u)])
    (hsp : ∀ H : Hp, Only H → SqL K H a (ns.map V.int) → sp [.ref a] H (fun v _ => v = .bl true) E0) :
    codeAny (model P w) callerA (.call (.ref fa) ⟨[.ref a], []⟩) (fun r s' => r = .ok (.ret (.bool true)) ∧ OldK s₁.heap s'.heap ∧ s'.os = s₁.os ∧ AllBare s'.gens) s₁ := by
  have rv := vals_ints hi
  have lenV := hi.length
  have core : ∀ H : Hp, Only H → SqL K H a (ns.map V.int) → HOk P w H s₁.heap → (∀ b, H b ≠ none → b = a) → (H a ≠ none → K.lookup a = none) →
      codeAny (model P w) callerA (.call (.ref fa) ⟨[.ref a], []⟩) (fun r s' => r = .ok (.ret (.bool true)) ∧ OldK s₁.heap s'.heap ∧ s'.os = s₁.os ∧ AllBare s'.gens) s₁ := by
    intro H hO hS hok hA hK
    have base_of : ∀ {b : Addr} {o : Obj}, s₁.heap.get? b = some o → H b = none → (hidT s₁.heap H).get? b = some o := fun e n => hidT_get e n
    have noL : ∀ {b : Addr} {o : Obj}, s₁.heap.get? b = some o → (o.cls = .type "list" → False) → H b = none := fun {b o} e d => by
      cases q : H b with
      | none => rfl
      | some u =>
        have e' : b = a := hA b (by rw [q]; simp)
        subst e'
        rw [ha] at e; cases e
        exact (d rfl).elim
    have noA : ∀ {b : Addr} {o : Obj} {es : Array DictEntry} {ep : Nat}, s₁.heap.get? b = some o → o.data = .dict es ep → H b = none := fun {b o es ep} e d => by
      cases q : H b with
      | none => rfl
      | some u =>
        have e' : b = a := hA b (by rw [q]; simp)
        subst e'
        rw [ha] at e; cases e
        have d' : Data.seq vs.toArray _ = Data.dict es ep := d
        cases d'
    have nsK : ∀ {b : Addr} {m : Str → Option Value}, s₁.heap.Ns b m → (hidT s₁.heap H).Ns b m := fun {b m} ⟨o, es, ep, e, d, r⟩ => ⟨o, es, ep, base_of e (noA e d), d, r⟩
    have hKb : K.In (hidT s₁.heap H) := fun b o e => base_of (KX b o e) (by
      cases q : H b with
      | none => rfl
      | some u =>
        have e' : b = a := hA b (by rw [q]; simp)
        subst e'
        rw [hK (by rw [q]; simp)] at e; cases e)
    have hSr : (hidT s₁.heap H).NoSeer := ⟨let ⟨mc, a, b⟩ := sr.statics; ⟨mc, nsK a, b⟩, let ⟨mc, a, b⟩ := sr.mods; ⟨mc, nsK a, b⟩, let ⟨mc, a, b⟩ := sr.imp; ⟨mc, nsK a, b⟩,
      let ⟨mg, bm, ob, a, b, c, d, e⟩ := sr.main; ⟨mg, bm, ob, nsK a, b, base_of c (noL c fun z => by rw [d] at z; injection z with z; exact absurd z (by decide)), d, e⟩⟩
    have hM : Mod K mg (hidT s₁.heap H) := ⟨hKb, nsK hns, ⟨mb, nsK hb, hbb⟩, let ⟨mc, h1, h2⟩ := hlim; ⟨mc, nsK h1, h2⟩⟩
    have e0 : Env0 P w K mg (hidT s₁.heap H) callerA [] s₁ H := ⟨rfl, hM, fun b o e => of_hidT e, Nat.le_of_eq (hidT_size _ _), trivial, fun b hb => absurd (show b ∈ ([] : List Addr) from hb) (by simp), hok, .of_eq hg⟩
    refine codeAny_mono ((F _ hKb (nsK hns) hSr).run callerA [] s₁ H ⟨[.ref a], []⟩ [.ref a] [.ref a] _ _ hr e0 (hbind s₁ (.ref a)) (.cons rfl .nil) (hsp H hO hS)) fun r s' h => ?_
    cases r with
    | error e => exact False.elim h
    | ok fl =>
      cases fl with
      | next => exact False.elim h
      | brk => exact False.elim h
      | cont => exact False.elim h
      | ret u =>
        obtain ⟨v, H', os, bare, un, hok', r', q⟩ := h
        have q' : v = .bl true := q
        subst q'
        obtain rfl : u = Value.bool true := r'
        refine ⟨rfl, OldK.of_keep fun b o e => ?_, os, bare⟩
        cases q : H b with
        | none => exact un.keep b o e q (by intro z; exact absurd (show b ∈ ([] : List Addr) from z) (by simp)) (by simp)
        | some u =>
          rcases hO b with z | ⟨ob, xs, z⟩
          · rw [q] at z; cases z
          · have z2 := un.frzs b ob _ z
            obtain ⟨e1, _⟩ := hok b _ z
            obtain ⟨e2, _⟩ := hok' b _ z2
            rw [e] at e1; cases e1
            exact e2
  cases hk : K.lookup a with
  | some o =>
    have e := KX a o hk
    rw [ha] at e
    cases e
    refine core (fun _ => none) (fun _ => .inl rfl) (.inr ⟨_, vs.toArray, _, hk, rfl, rfl, rfl, by rw [List.size_toArray, lenV]; exact hl, by simpa using rv⟩) (fun b u z => by have z' : (none : Option HO) = some u := z; cases z') (fun b z => absurd rfl z) fun z => absurd rfl z
  | none =>
    refine core (fun b => if b = a then some (.frz { cls := .type "list", data := .seq vs.toArray } (.lst (ns.map V.int))) else none) (fun b => ?_) (.inl (.inr ⟨{ cls := .type "list", data := .seq vs.toArray }, if_pos rfl⟩)) (fun b u z => ?_) (fun b z => ?_) fun _ => hk
    · by_cases hb : b = a
      · exact .inr ⟨_, _, if_pos hb⟩
      · exact .inl (if_neg hb)
    · by_cases hb : b = a
      · have z' := (if_pos hb).symm.trans z
        cases z'
        subst hb
        exact ⟨ha, by rw [List.length_map]; exact hl, vs, _, rv, ha⟩
      · have z' := (if_neg hb).symm.trans z
        cases z'
    · by_cases hb : b = a
      · exact hb
      · exact absurd (if_neg hb) z
/-- a law over a head by facts. pr: what the law's def promises of scripts of at most n ints -/
theorem walk_G {l : PySem.W.OpenLaw} {n k : Nat} {q : Program} {loose : List Str} {XP : (Str → Option Value) → Heap → Prop} {YP : World → Heap → Prop} {d : DefRec} {x : Str}
    (hn : l.most = some n) (hn2 : n ≤ sizeLine) (hdf : d.params.defaults = []) (hr : Rm k callerA) (hi : importsNone q = true)
    (F : ∀ (w : World) (mg : Str → Option Value) (fa : Addr) (h : Heap), YP w h → h.Ns mainGlobals mg → mg d.name = some (.ref fa) →
      ∃ (K : PySem.W.Frag) (fd : FuncData), K.In h ∧ (∀ (s : Shared) (u : Value), BindsTo s fd ⟨[u], []⟩ [(x, u)]) ∧
        ∀ base : Heap, K.In base → base.Ns mainGlobals mg → base.NoSeer → FnG l.prog w K mg base CX0 k fa fd [x]
          (spG K (fun i : Addr × List Int => i.2.length ≤ n ∧ ∀ z ∈ i.2, Builtin.Int.intBits z ≤ 1048576) (fun i => [.raw (.ref i.1)]) (fun i => [Own.scr i.1 i.2]) fun i d' _ => d' = .bl true)) :
    PySem.W.WalkO q loose XP YP l.row.toRowW d [] (fun f vs => PySem.call f vs) := by
  refine Att.attach_callB hn hdf fun w s₀ s₁ mg mb fa o pm cd doc a vs ns G Y ho hd hcd hmg hobj hints hlen hbits hg => ?_
  obtain ⟨K, fd, KX, hb, hF⟩ := F w mg fa _ Y G.T.g hmg
  refine law_callG KX G.T.g G.T.b G.T.builtins G.T.nolimit hg (G.T.seer hi) hobj hints (Nat.le_trans hlen hn2) hr hF hb fun H hO hS => ?_
  refine ⟨(a, ns), H, ⟨hlen, hbits⟩, ⟨fun _ _ h => h, by simp [GL.foot, Own.scr], fun b m => absurd m (by simp [GL.foot, Own.scr]), fun w m => ?_⟩, .cons rfl .nil, fun d O' v B' H' hd n r => ?_⟩
  · have : w = Own.scr a ns := by simpa using m
    subst this; exact hS
  · subst hd; exact r
end GL
namespace GL
open PySem L2
section
variable {X : Cx} {ρ : Ro} {O O1 O2 O3 : List Own} {a b c e : Expr} {d : D} {pos p : Pos} {rest body : List Stmt} {U : Out}
/-- an if without an else, told by what holds behind it -/
theorem bl_ifS {q : Bool} (St : Ro → List Own → Prop) (h : Et X c ρ O q O1) (h1 : q = true → Bl X body ρ O1 { U with nx := St }) (h2 : q = false → St ρ O1) (hr : ∀ r o, St r o → Bl X rest r o U) : Bl X (.If c body [] pos :: rest) ρ O U :=
  bl_if h (fun z => (h1 z).mono (fun r o s => hr r o s) (fun _ _ h => h) (fun _ _ h => h) fun _ _ h => h) fun z => bl_nil (hr _ _ (h2 z))
theorem EvL.lend {ρ' : Ro} {ys : List D} (h : EvL X e ρ' [] fun xs o => xs = ys ∧ o = []) (hl : Lent X.K O ρ ρ') (hf : ys.all flat = true) : EvL X e ρ O fun xs o => xs = ys ∧ o = O := by
  obtain ⟨t, h1, h2, h3⟩ := h
  refine ⟨t, h1, h2, fun B H σ hO hS Q k => h3 H H σ ost_all (hl B H σ hO hS) Q fun q xs o B' H' ⟨e1, e2⟩ n => ?_⟩
  subst e1 e2
  have fr : ∀ a o, H a = some o → H' a = some o := fun a o h => n.frame a o h (by simp [GL.foot])
  have hq : H q = none := by
    rcases n.foot q (by simp [GL.foot, Own.lst]) with z | z
    · simp [GL.foot] at z
    · exact z
  obtain ⟨vs, e1, e2, e3⟩ := n.st.all _ List.mem_cons_self
  have hqO : q ∉ GL.foot O := fun m => hO.dom m hq
  refine k q _ O B H' ⟨rfl, rfl⟩ ⟨fun _ _ h => h, fun _ _ h _ => h, fun a o h _ => fr a o h, fun a m => ?_, n.keep, ⟨fun a o h => fr a o (hO.ext a o h), ?_, fun a m => ?_, fun w m => ?_⟩⟩
  · rcases List.mem_append.mp (show a ∈ [q] ++ GL.foot O from m) with m | m
    · cases List.mem_singleton.mp m; exact .inr hq
    · exact .inl m
  · exact List.nodup_cons.mpr ⟨hqO, hO.nd⟩
  · rcases List.mem_append.mp (show a ∈ [q] ++ GL.foot O from m) with m | m
    · cases List.mem_singleton.mp m
      exact hO.ext.free hq
    · exact hO.out a m
  · rcases List.mem_cons.mp m with rfl | m
    · exact ⟨vs, e1, e2, reps_flat hf e3⟩
    · refine w.mono (fun _ _ h => h) (fun a ha => ?_) (hO.all w m)
      cases q : H a with
      | none => exact absurd q (w.dom (hO.all w m) a ha)
      | some o => exact fr a o q
/-- a new list as a value -/
theorem EvR.val {R : D → List Own → Prop} {R' : D → List Own → Prop} (h : EvR X e ρ O R) (hr : ∀ d o, R d o → ∃ q xs o', d = .raw (.ref q) ∧ o.Perm (Own.lst q xs :: o') ∧ R' (.lst xs) o') : EvR X e ρ O R' := fun B H σ hO hS Q k => h B H σ hO hS Q fun d o v B' H' r n q => by
  obtain ⟨z, xs, o', rfl, p, r'⟩ := hr d o r
  cases (show v = .ref z from q)
  have st := n.st.perm p
  obtain ⟨vs, e1, l1, rr⟩ := st.all (Own.lst z xs) (by simp)
  obtain ⟨B2, s1, n2, f⟩ := Next.freezes (L := [Own.lst z xs]) (R := o') st
  exact k _ _ _ B2 H' r' (n.trans (n2.perm p.symm (.refl _))) ⟨z, vs, rfl, by rw [f z (by simp [GL.foot, Own.lst]), e1], l1, rr.mono s1⟩
theorem EvL.rv {R : List D → List Own → Prop} (h : EvL X e ρ O R) : EvR X e ρ O fun d o => ∃ xs, R xs o ∧ d = .lst xs :=
  h.r.val fun d o ⟨a, xs, o', r, e1, e2⟩ => ⟨a, xs, o', e1, by rw [e2], xs, r, rfl⟩
/-- or, and, by what their first part says -/
theorem et_orF {q : Bool} (h : Et X a ρ O false O1) (h2 : Et X b ρ O1 q O2) : Et X (.BoolOp .Or [a, b] pos) ρ O q O2 := by
  obtain ⟨t, h3, h4⟩ := ew_or1 (pos := pos) h2
  exact fun B H σ hO hS Q k => w_pt (pw_or pt_w h3).pt (h B H σ hO hS _ fun B1 H1 n1 => iteF (h4 B1 H1 σ n1.st (hS.mono n1.base) Q fun B2 H2 n2 => k B2 H2 (n1.trans n2)))
theorem et_orT (h : Et X a ρ O true O1) : Et X (.BoolOp .Or [a, b] pos) ρ O true O1 := fun B H σ hO hS Q k =>
  w_pt (pw_or pt_w (tB' := fun σ H Q => ∀ wh pins s, Inv X pins σ H s → wpAny (model X.prog X.w) X.A (isTrue (.BoolOp .Or [b] pos) X.env wh) (TP X pins σ Q) X.xe s) ⟨fun wh pins s σ H Q I h => h wh pins s I⟩).pt (h B H σ hO hS _ fun B1 H1 n1 => iteT (k B1 H1 n1))
theorem et_andT {q : Bool} (h : Et X a ρ O true O1) (h2 : Et X b ρ O1 q O2) : Et X (.BoolOp .And [a, b] pos) ρ O q O2 := by
  obtain ⟨t, h3, h4⟩ := ew_and1 (pos := pos) h2
  exact fun B H σ hO hS Q k => w_pt (pw_and pt_w h3).pt (h B H σ hO hS _ fun B1 H1 n1 => iteT (h4 B1 H1 σ n1.st (hS.mono n1.base) Q fun B2 H2 n2 => k B2 H2 (n1.trans n2)))
theorem et_andF (h : Et X a ρ O false O1) : Et X (.BoolOp .And [a, b] pos) ρ O false O1 := fun B H σ hO hS Q k =>
  w_pt (pw_and pt_w (tB' := fun σ H Q => ∀ wh pins s, Inv X pins σ H s → wpAny (model X.prog X.w) X.A (isTrue (.BoolOp .And [b] pos) X.env wh) (TP X pins σ Q) X.xe s) ⟨fun wh pins s σ H Q I h => h wh pins s I⟩).pt (h B H σ hO hS _ fun B1 H1 n1 => iteF (k B1 H1 n1))
/-- xs + e, e by a relation -/
theorem evr_cat {xs : List D} {R : D → List Own → Prop} (ha : Ev X a ρ O (.lst xs) O1) (hb : EvR X b ρ O1 R) (h : ∀ d o, R d o → ∃ ys, d = .lst ys ∧ xs.length + ys.length ≤ lim) : EvR X (.BinOp a .Add b pos) ρ O fun d o => ∃ ys, R (.lst ys) o ∧ d = .lst (xs ++ ys) := fun B H σ hO hS Q k =>
  w_pe (pe_op op_cat pe_w pe_w) (ha B H σ hO hS _ fun x B1 H1 n1 r1 => hb B1 H1 σ n1.st (hS.mono n1.base) _ fun d o y B2 H2 r n2 r2 => by
    obtain ⟨ys, rfl, hl⟩ := h d o r
    obtain ⟨p, vs, rfl, e1, l1, rr1⟩ := r1.mono n2.base
    obtain ⟨q, ws, rfl, e2, l2, rr2⟩ := r2
    refine ⟨p, q, vs, ws, rfl, rfl, n2.st.ext _ _ e1, n2.st.ext _ _ e2, by rw [rr1.length, rr2.length]; exact lim_line hl, fun z hz => ?_⟩
    have nl := Next.newL n2.st hz (by rw [List.length_append]; exact hl) (rr1.append rr2)
    obtain ⟨us, f1, f2, f3⟩ := nl.st.all (Own.lst z (xs ++ ys)) List.mem_cons_self
    obtain ⟨B3, s1, n3, f⟩ := Next.freezes (L := [Own.lst z (xs ++ ys)]) (R := o) nl.st
    exact k _ _ _ B3 _ ⟨ys, r, rfl⟩ (((n1.trans n2).trans nl).trans n3) ⟨z, us, rfl, by rw [f z (by simp [GL.foot, Own.lst]), f1], f2, f3.mono s1⟩)
end
end GL
namespace GL
open PySem L2
section
variable {X : Cx} {ρ : Ro} {O O1 O2 O3 : List Own} {a b c e : Expr} {es : List Expr} {d : D} {pos p : Pos} {rest body : List Stmt} {U : Out} {x : Str} {k : Nat} {ps : List Str} {sp : Sp}
theorem w_callR {Ra : List D → List Own → Prop} (F : CalP X.prog X.w X.K X.mg X.base x k ps sp) (hr : Rm k X.A) (ha : EaR X (e :: es) ρ O Ra)
    {B H : Hp} {σ : L2.St} {Q : VK} (hO : OSt X.K O B H) (hS : Slots X.K B σ ρ) (h : ∀ ds o vs B1 H1, Ra ds o → Next X.K O B H o B1 H1 → reps X.K B1 vs ds → sp vs H1 Q E0)
    (hg : Gl X x := by rfl) (hdb : (x == ("__debug__" : Str)) = false := by decide) (he : starEach (e :: es) X.env = (false, eval e X.env) :: starEach es X.env := by rfl) (hpl : (backTo pos (starEach es X.env)).any (·.1) = false := by rfl) :
    wE X (.Call (.Name x p) (e :: es) [] pos) σ H Q := by
  obtain ⟨f, fd, gl, kp, ok, bi⟩ := F.ex
  intro pins s I
  refine wpAny_Call_Name_kw (ld_glob I hg gl ?_ hdb)
  refine PySem.W.callWith_K (h₀ := X.base) I.ok.mod.kin kp (thn (ha B H σ hO hS (fun vs H' => sp vs H' Q E0) (fun ds o vs B1 H1 r n1 r1 => h ds o vs B1 H1 r n1 r1) pos pins s I) fun us s1 ⟨vs, H1, I1, r, q⟩ => ⟨I1.kIn, ?_⟩) he hpl
  exact runG ok hr bi pass0 I1 r q
theorem evr_callA {ι : Type} {pre : ι → Prop} {dI : ι → List D} {OI : ι → List Own} {RI : ι → D → List Own → Prop} {Ra : List D → List Own → Prop} {R' : D → List Own → Prop} (F : CalP X.prog X.w X.K X.mg X.base x k ps (spG X.K pre dI OI RI)) (hr : Rm k X.A) (ha : EaR X (e :: es) ρ O Ra)
    (hh : ∀ ds o, Ra ds o → ∃ ix Rx, dI ix = ds ∧ pre ix ∧ o.Perm (OI ix ++ Rx) ∧ ∀ d o', RI ix d o' → R' d (o' ++ Rx))
    (hg : Gl X x := by rfl) (hdb : (x == ("__debug__" : Str)) = false := by decide) (he : starEach (e :: es) X.env = (false, eval e X.env) :: starEach es X.env := by rfl) (hpl : (backTo pos (starEach es X.env)).any (·.1) = false := by rfl) :
    EvR X (.Call (.Name x p) (e :: es) [] pos) ρ O R' := fun B H σ hO hS Q kk =>
  w_callR F hr ha hO hS (fun ds o vs B1 H1 r n1 r1 => by
    obtain ⟨ix, Rx, hd, hp, pm, hk⟩ := hh ds o r
    exact ⟨ix, B1, hp, n1.st.part pm, by rw [hd]; exact r1, fun d O' v B' H' hd n2 r2 => kk d _ v B' H' (hk d O' hd) (n1.trans (Next.swap pm n1.st n2)) r2⟩) hg hdb he hpl
theorem et_neB {i j : Bool} (ha : Ev X a ρ O (.bl i) O1) (hb : Ev X b ρ O1 (.bl j) O2) : Et X (.Compare a [.NotEq] [b] pos) ρ O (!decide (i = j)) O2 := et_cmp op_ne (nomark _) ha hb op2_neB
theorem et_eqB {i j : Bool} (ha : Ev X a ρ O (.bl i) O1) (hb : Ev X b ρ O1 (.bl j) O2) : Et X (.Compare a [.Eq] [b] pos) ρ O (decide (i = j)) O2 := et_cmp op_eq (nomark _) ha hb op2_eqB
theorem ev_eqB {i j : Bool} (ha : Ev X a ρ O (.bl i) O1) (hb : Ev X b ρ O1 (.bl j) O2) : Ev X (.Compare a [.Eq] [b] pos) ρ O (.bl (decide (i = j))) O2 := ev_cmp op_eq (nomark _) ha hb op2_eqB
theorem ev_eqS {i j : Str} (ha : Ev X a ρ O (.str i) O1) (hb : Ev X b ρ O1 (.str j) O2) : Ev X (.Compare a [.Eq] [b] pos) ρ O (.bl (decide (i = j))) O2 := ev_cmp op_eq (nomark _) ha hb op2_eqS
end
end GL
namespace GL
open PySem L2
section
variable {X : Cx} {ρ : Ro} {O O1 O2 O3 : List Own} {a b c e : Expr} {es : List Expr} {d : D} {pos p apos : Pos} {rest body : List Stmt} {U : Out}
/-- min(..) of a list of ints -/
theorem ev_minL {xs : List Int} {m : Int} (M : X.mg "min" = none) (ha : Ev X a ρ O (.lst (xs.map D.int)) O1) (hm : m ∈ xs) (hl : ∀ x ∈ xs, m ≤ x) (hc : X.calm = true := by rfl) (hg : Gl X "min" := by rfl) (he : starEach [a] X.env = [(false, eval a X.env)] := by rfl) :
    Ev X (.Call (.Name "min" p) [a] [] pos) ρ O (.int m) O1 :=
  ev_bcall (cr_min hc) M (by decide +kernel) (ea_cons ha ea_nil (by rw [he] <;> rfl)) (fun B H vs hO r Q k => by
    obtain ⟨v, rfl, q, ws, rfl, e1, l1, rr⟩ := one r
    rw [reps_ints rr] at e1
    refine ⟨q, xs, rfl, SqL.of (hO.ext _ _ e1), List.length_pos_of_mem hm, fun m' h1 h2 => ?_⟩
    have : m' = m := by
      have a1 := hl m' h1
      have a2 := h2 m hm
      omega
    subst this
    exact k _ B H (.refl hO) rfl) hg (by decide) (by decide) (by rw [he] <;> rfl)
/-- xs[i], by values -/
def rGetL (K : PySem.W.Frag) : V → V → Hp → VK → Prop := fun o i H Q => ∃ p xs j v, o = .ref p ∧ i = .int (j : Nat) ∧ SqL K H p xs ∧ xs[j]? = some v ∧ Q v H
theorem get_list : PGet X (rGetL X.K) := by
  intro pins s σ H o i ov iv Q I ro ri h
  obtain ⟨p, xs, j, z, rfl, rfl, hq, he, q⟩ := h
  cases ro
  obtain ⟨t, rfl⟩ := ri
  obtain ⟨its, r, pl, hz⟩ := I.list hq
  obtain ⟨w, ew, rw'⟩ := r.get he
  have hl := r.length
  have hn := line63
  have hj := (List.getElem?_eq_some_iff.mp he).1
  exact PySem.wpAny_getItem_list (k := ((j : Nat) : Int)) pl.isList (by omega) (by omega) (by simpa using ew) ⟨z, H, I, rw', q⟩
/-- xs[i] -= e and the like, xs an owned list of ints -/
theorem bl_augS {op : Operator} {f : Int → Int → Int} {m n : Int} {q : Addr} {xs : List D} {j : Nat} {tpos : Pos} {i : Expr} (k : Nat) (ho : Ev X a ρ O (.raw (.ref q)) O) (hi : Ev X i ρ O (.int (j : Nat)) O) (hk : O[k]? = some (Own.lst q xs)) (hx : xs[j]? = some (.int m)) (he : Ev X e ρ O (.int n) O) (hp : PIp X op (ipI f))
    (kk : Bl X rest ρ (O.set k (Own.lst q (xs.set j (.int (f m n))))) U)
    (ha : ∀ ov iv new, augStore i ov iv new = (do holding [new, ov, iv] (setItem ov iv new); release [new, ov, iv] []; pure .next) := by intros; rfl) : Bl X (.AugAssign (.Subscript a i tpos) op e pos :: rest) ρ O U := fun B H σ hO hS D hD =>
  w_pb (pss_cons (ps_augS pe_w pe_w get_list pe_w hp set_list ha) pb_w) (ho B H σ hO hS _ fun x B1 H1 n1 r1 => hi B1 H1 σ n1.st (hS.mono n1.base) _ fun y B2 H2 n2 r2 => by
    cases (show x = .ref q from r1)
    cases (show y = .int (j : Nat) from r2)
    obtain ⟨us, e2, l2, rr⟩ := own_list n2.st hk
    obtain ⟨v, hv, rv⟩ := rr.get hx
    cases (show v = .int m from rv)
    have n12 := n1.trans n2
    refine ⟨q, us, j, _, rfl, rfl, SqL.of e2, hv, he B2 H2 σ n2.st (hS.mono n12.base) _ fun w B3 H3 n3 r3 => ?_⟩
    cases (show w = .int n from r3)
    obtain ⟨us', e3, l3, rr'⟩ := own_list n3.st hk
    have hjl : j < xs.length := (List.getElem?_eq_some_iff.mp hx).1
    refine ⟨m, n, rfl, rfl, q, us', (j : Int), j, rfl, rfl, e3, by unfold ixN; rw [rr'.length, if_pos (by omega), if_pos (by omega)]; simp, ?_⟩
    have nn := (n12.trans n3).trans (own_put n3.st hk (ys := xs.set j (.int (f m n))) (by rw [List.length_set]; exact l3) (rr'.set j (d := .int (f m n)) rfl))
    exact kk B3 _ σ nn.st (hS.mono nn.base) D (hD.from nn))
end
end GL
namespace GL
open PySem L2
section
variable {X : Cx} {ρ : Ro} {O O1 O2 O3 : List Own} {a b e : Expr} {d : D} {pos p : Pos} {rest : List Stmt} {U : Out}
section
variable {iter elt cond : Expr} {scope : Scope} {α : Type} {xs : List α} {gD : α → D} {n m : Str} {pn pm pt : Pos} {kt : Nat}
theorem evl_filter2 {g1 g2 f : α → D} {q : α → Bool} (i j : Nat) (hN : X.N.Nodup) (hi : Ei X (.Tuple [.Name n pn, .Name m pm] kt pt) iter ρ O (xs.map fun x => D.tup [g1 x, g2 x]) O1)
    (ok : BlkOk X.N X.env.scope scope [(n, i), (m, j)]) (hg : InBlk X scope fun Y => PG Y (.Tuple [.Name n pn, .Name m pm] kt pt) (gTup X.K 2 (gCons (gName i) (gCons (gName j) gNil)))) (ht : ∀ x, x ∈ xs → InBlk X scope fun Y => Et Y cond ((((ρ.set j none).set i none).set i (some (g1 x))).set j (some (g2 x))) O1 (q x) O1)
    (hy : ∀ x, x ∈ xs → q x = true → InBlk X scope fun Y => Ev Y elt ((((ρ.set j none).set i none).set i (some (g1 x))).set j (some (g2 x))) O1 (f x) O1)
    (hc : X.calm = true := by rfl) (hs : ∀ x, foldedSetIterable iter X.env x = pure x := by intro _; rfl) : EvL X (.ListComp elt [⟨.Tuple [.Name n pn, .Name m pm] kt pt, iter, [cond], 0⟩] scope pos) ρ O fun ys o => ys = (xs.filter q).map f ∧ o = O1 := by
  have h := evl_I (X := X) (ρ := ρ) (O := O) (elt := elt) (pos := pos) (own := [(n, i), (m, j)]) (is := [i, j]) (tt := fun σ' H' Q' => InBlk X scope fun Y => wT Y cond σ' H' Q') (I := fun l acc o => acc = ((xs.take l).filter q).map f ∧ o = O1) (keep := fun l => (xs[l]?.map q).getD false)
    (ρt := fun l => (((ρ.set j none).set i none).set i (some ((xs[l]?.map g1).getD .non))).set j (some ((xs[l]?.map g2).getD .non))) hc hN hi ok hg (fun s H0 C cl fp => pts_one ⟨fun pins s' σ' H' Q' I h => h s H0 C cl fp pins s' I⟩) (by simp) ⟨by simp, rfl⟩ (fun l d hd => ?_) (fun l d acc Oi hd hI B H σ hO hS Q k => ?_) (fun l d acc Oi hd z hI => ?_) (fun l d acc Oi hd z hI => ?_) hs
  · exact h.mono fun ys o ⟨h1, h2⟩ => ⟨by rw [h1, List.length_map, List.take_length], h2⟩
  · rw [List.getElem?_map] at hd
    cases e : xs[l]? with
    | none => rw [e] at hd; cases hd
    | some x =>
      rw [e] at hd; cases hd
      simp only [Option.map_some, Option.getD_some]
      exact gok_tup (gsok_cons (is := [i]) (gok_name i) (gsok_cons (is := [j]) (gok_name j) gsok_nil))
  · rw [List.getElem?_map] at hd
    cases e : xs[l]? with
    | none => rw [e] at hd; cases hd
    | some x =>
      simp only [e, Option.map_some, Option.getD_some] at hS k
      obtain ⟨_, rfl⟩ := hI
      exact fun s H0 C cl fp => ht x (List.mem_of_getElem? e) s H0 C cl fp B H σ hO hS Q k
  · rw [List.getElem?_map] at hd
    cases e : xs[l]? with
    | none => rw [e] at hd; cases hd
    | some x =>
      simp only [e, Option.map_some, Option.getD_some] at z ⊢
      obtain ⟨rfl, rfl⟩ := hI
      refine fun s H C cl fp => ((hy x (List.mem_of_getElem? e) z s H C cl fp).r).mono fun d o ⟨q1, q2⟩ => ?_
      subst q1 q2
      refine ⟨?_, rfl⟩
      rw [List.take_succ, e, List.filter_append]
      simp [z]
  · rw [List.getElem?_map] at hd
    cases e : xs[l]? with
    | none => rw [e] at hd; cases hd
    | some x =>
      simp only [e, Option.map_some, Option.getD_some] at z
      obtain ⟨rfl, rfl⟩ := hI
      refine ⟨?_, rfl⟩
      rw [List.take_succ, e, List.filter_append]
      simp [z]
end
end
end GL
namespace GL
open PySem L2
open PySem.Spec PyProof.Rows
section
variable {X : Cx} {ρ : Ro} {O O1 O2 : List Own} {e : Expr} {es : List Expr} {pos p : Pos} {x : Str} {k n : Nat} {ps ks : List Str} {kws : List Keyword} {gV : List V → List V → List V} {as zs : List D} {Rx : List Own}
variable {ι : Type} {pre : ι → Prop} {dI : ι → List D} {OI : ι → List Own} {RI : ι → D → List Own → Prop}
/-- a call with keywords; some that lack are filled up -/
theorem evr_callG (ix : ι) (F : CalK X.prog X.w X.K X.mg X.base x k ps n ks gV (spG X.K pre dI OI RI)) (hr : Rm k X.A) (hp : pre ix) (ha : Ea X (e :: es) ρ O as O1) (hk : Ek X kws ρ O1 zs O2) (hd : ∀ B vs us, reps X.K B vs as → reps X.K B us zs → reps X.K B (gV vs us) (dI ix)) (pm : O2.Perm (OI ix ++ Rx)) (hn : as.length = n := by rfl) (hm : zs.length = ks.length := by rfl)
    (hg : Gl X x := by rfl) (hall : (backToKw pos (keywordEach kws X.env)).all (·.1.isSome) = true := by rfl) (hks : (backToKw pos (keywordEach kws X.env)).filterMap (·.1) = ks := by rfl) (hdb : (x == ("__debug__" : Str)) = false := by decide)
    (he : starEach (e :: es) X.env = (false, eval e X.env) :: starEach es X.env := by rfl) (hpl : ((backTo pos (starEach (e :: es) X.env)).any (·.1) || (backToKw pos (keywordEach kws X.env)).any (·.1.isNone)) = false := by rfl) :
    EvR X (.Call (.Name x p) (e :: es) kws pos) ρ O fun d o => ∃ o', RI ix d o' ∧ o = o' ++ Rx := fun B H σ hO hS Q kk =>
  w_callK F hr ha hk hn hm hO hS (fun vs us B1 H1 n1 r1 r2 => ⟨ix, B1, hp, n1.st.part pm, hd B1 vs us r1 r2, fun d O' v B' H' hd n2 r2 => kk d _ v B' H' ⟨O', hd, rfl⟩ (n1.trans (Next.swap pm n1.st n2)) r2⟩) hg hall hks hdb he hpl
/-- .. that makes a new list -/
theorem evn_callG {xs : ι → List D} (i : ι) (F : CalK X.prog X.w X.K X.mg X.base x k ps n ks gV (spN X.K pre dI xs)) (hr : Rm k X.A) (hp : pre i) (ha : Ea X (e :: es) ρ O as O1) (hk : Ek X kws ρ O1 zs O2) (hd : ∀ B vs us, reps X.K B vs as → reps X.K B us zs → reps X.K B (gV vs us) (dI i)) (hn : as.length = n := by rfl) (hm : zs.length = ks.length := by rfl)
    (hg : Gl X x := by rfl) (hall : (backToKw pos (keywordEach kws X.env)).all (·.1.isSome) = true := by rfl) (hks : (backToKw pos (keywordEach kws X.env)).filterMap (·.1) = ks := by rfl) (hdb : (x == ("__debug__" : Str)) = false := by decide)
    (he : starEach (e :: es) X.env = (false, eval e X.env) :: starEach es X.env := by rfl) (hpl : ((backTo pos (starEach (e :: es) X.env)).any (·.1) || (backToKw pos (keywordEach kws X.env)).any (·.1.isNone)) = false := by rfl) :
    EvN X (.Call (.Name x p) (e :: es) kws pos) ρ O (xs i) O2 := fun B H σ hO hS Q kk =>
  w_callK F hr ha hk hn hm hO hS (fun vs us B1 H1 n1 r1 r2 => ⟨i, B1, hp, n1.st.none, hd B1 vs us r1 r2, fun d O' v B' H' ⟨q, hd, hO'⟩ n2 r2 => by
    subst hd hO'
    have e2 : v = .ref q := r2
    subst e2
    exact kk q B' H' (n1.trans (n2.pure n1.st))⟩) hg hall hks hdb he hpl
end
/-! ### defs with a star parameter -/
/-- a def that can be called by its name with n values and the keywords ks -/
structure CalA (P : Program) (w : World) (K : PySem.W.Frag) (mg : Str → Option Value) (base : Heap) (x : Str) (k : Nat) (n : Nat) (ks : List Str) (sp : Sp) : Prop where
  ex : ∃ f : Addr, mg x = some (.ref f) ∧ PySem.W.keepIn K (.ref f) = true ∧ ∀ (A : Around) (outer : List Env) (s : Shared) (H : Hp) (us ws : List Value) (vs zs : List V) (Q : VK) (E : XK), Rm k A → Env0 P w K mg base A outer s H → Vals vs us → Vals zs ws → vs.length = n → zs.length = ks.length → sp (vs ++ zs) H Q E →
    codeAny (model P w) A (.call (.ref f) ⟨us, ks.zip ws⟩) (CR CX0 outer P w H s Q E) s
section
variable {P : Program} {w : World} {K : PySem.W.Frag} {mg : Str → Option Value} {base : Heap} {x qual : Str} {params : Arguments} {body : List Stmt} {scope : Scope} {dvs : List V} {kws : List (Str × V)} {f : Addr} {fd : FuncData} {N ps : List Str} {k : Nat}
theorem run_bndG {A : Around} {outer : List Env} {s : Shared} {H : Hp} {args : Args} {Q : VK} {E : XK} {G : List V → Hp → Prop} (F : FunD K x qual params body scope dvs kws f fd) (S : FnScope N ps scope) (hr : Rm (k + 1) A) (e0 : Env0 P w K mg base A outer s H) (hb : StX.Bnd CX0 P w K mg base fd args ps A outer s H E G)
    (hbody : ∀ (cdv : Value) (s2 : Shared) (H2 : Hp) (vs : List V), G vs H2 → Rm k (A.deeper (PyProof.Rows.envOfC qual scope s2.heap.objs.size f cdv)) →
      ∃ t, PSs (cxOf CX0 P w K mg base N qual scope f cdv A outer s2 H2 E) body t ∧ t { nx := fun _ H' => Q .non H', rt := Q } (L2.start N vs) H2) : codeAny (model P w) A (.call (.ref f) args) (CR CX0 outer P w H s Q E) s := by
  obtain ⟨oc, od, dV, kV, doc, pm, an, cdv, ct, osl, rfl, lk, hcd, _, _⟩ := F.ex
  exact StX.run_bnd lk hcd S hr.room e0 hb fun s2 H2 vs g _ => hbody cdv s2 H2 vs g (hr.deeper _)
theorem bnd_tup {A : Around} {outer : List Env} {s : Shared} {H : Hp} {args : Args} {E : XK} {pv : Str} {us rest : List Value} {ws rs : List V} (e0 : Env0 P w K mg base A outer s H) (hb : bindArgs fd args = (newTuple rest >>= fun t => pure (ps.zip us ++ [(pv, t)])))
    (r1 : Vals ws us) (r2 : Vals rs rest) (hl : ws.length = ps.length) (hz : rs.length ≤ sizeLine) : StX.Bnd CX0 P w K mg base fd args (ps ++ [pv]) A outer s H E fun xs H2 => ∃ p, H p = none ∧ xs = ws ++ [V.ref p] ∧ H2 = upd H p (.tup rs) := by
  intro A' Ex Q' h
  have hn : H s.heap.objs.size = Option.none := e0.hok.fresh (Nat.le_refl _)
  have hl1 : us.length = ps.length := by rw [← r1.length]; exact hl
  have hl2 : rest.length ≤ sizeLine := by rw [← r2.length]; exact hz
  rw [hb]
  refine wpAny_bind (wpAny_newTuple (wpAny_pure ?_) hl2)
  have new : ObjOk P w (upd H s.heap.objs.size (.tup rs)) (s.heap.push ({ cls := .type "tuple", data := .seq rest.toArray } : Obj)) s.heap.objs.size (.tup rs) := ⟨hz, rest, r2, ⟨_, Heap.get?_push_size _ rfl, rfl, _, rfl⟩⟩
  have un := StX.un_laid (fs := frs outer) (s := s) (o := ({ cls := .type "tuple", data := .seq rest.toArray } : Obj)) (u := .tup rs) hn
  have z := h _ _ (ws ++ [V.ref s.heap.objs.size]) (us ++ [Value.ref s.heap.objs.size]) (StX.env0_laid e0 new) un rfl (fun e s' z => z.elim) (r1.append (.cons rfl .nil))
    (by rw [List.length_append, List.length_append, hl] <;> rfl) ⟨_, hn, rfl, rfl⟩
  rw [List.zip_append hl1.symm] at z
  exact z
/-- one value goes into the star's tuple -/
theorem calS1 {ι : Type} {pre : ι → Prop} {dA dK : ι → List D} {dR : ι → D} {O : ι → List Own} {R : ι → D → List Own → Prop} {fx : Str} {pv : Str} {n : Nat} {ks : List Str} (hm : mg fx = some (.ref f)) (F : FunD K x qual params body scope dvs kws f fd) (S : FnScope N (ps ++ [pv]) scope)
    (hA : ∀ i, (dA i).length = n) (hK : ∀ i, (dK i).length = ks.length) (hn : n + ks.length = ps.length)
    (hb : ∀ (us ws : List Value) (r : Value), us.length = n → ws.length = ks.length → bindArgs fd ⟨us ++ [r], ks.zip ws⟩ = (newTuple [r] >>= fun t => pure (ps.zip (us ++ ws) ++ [(pv, t)])))
    (hbl : ∀ i, pre i → ∀ (cdv : Value) (A : Around) (outer : List Env) (s : Shared) (H : Hp) (E : XK), Rm k (A.deeper (PyProof.Rows.envOfC qual scope s.heap.objs.size f cdv)) →
      Bl (cxOf CX0 P w K mg base N qual scope f cdv A outer s H E).nox body ((dA i ++ dK i ++ [D.tup [dR i]]).map some ++ List.replicate (N.length - (ps.length + 1)) none) (O i) { nx := fun _ o => R i .non o, rt := R i }) :
    CalA P w K mg base fx (k + 1) (n + 1) ks (spG K pre (fun i => dA i ++ [dR i] ++ dK i) O R) := by
  refine ⟨f, hm, F.kp, fun A outer s H us ws vs zs Q E hr e0 r1 r2 l1 l2 hsp => ?_⟩
  obtain ⟨i, B, hp, hO, hrep, hq⟩ := hsp
  have hAl := hA i
  have hKl := hK i
  obtain ⟨va, vr, e1, q1, q2⟩ : ∃ va vr : List V, vs = va ++ vr ∧ va.length = n ∧ vr.length = 1 := ⟨vs.take n, vs.drop n, (List.take_append_drop n vs).symm, by rw [List.length_take]; omega, by rw [List.length_drop]; omega⟩
  subst e1
  obtain ⟨v, rfl⟩ : ∃ v, vr = [v] := by
    match vr, q2 with
    | [v], _ => exact ⟨v, rfl⟩
  obtain ⟨u1, u2, eu, a1, a2⟩ := StX.vals_split r1
  subst eu
  obtain ⟨u, rfl⟩ : ∃ u, u2 = [u] := by
    have := a2.length
    match u2, this with
    | [u], _ => exact ⟨u, rfl⟩
  have hu1 : u1.length = n := by rw [← a1.length]; exact q1
  have hws : ws.length = ks.length := by rw [← r2.length]; exact l2
  -- what the values stand for
  have hsplit : reps K B va (dA i) ∧ rep K B v (dR i) ∧ reps K B zs (dK i) := by
    have hrep : reps K B (va ++ [v] ++ zs) (dA i ++ [dR i] ++ dK i) := hrep
    have t1 := hrep.take n
    have t2 := hrep.drop n
    rw [List.append_assoc, List.take_left' q1, List.append_assoc, List.take_left' hAl] at t1
    rw [List.append_assoc, List.drop_left' q1, List.append_assoc, List.drop_left' hAl] at t2
    obtain ⟨v', r, e, h1, h2⟩ := t2
    have e : v :: zs = v' :: r := e
    cases e
    exact ⟨t1, h1, h2⟩
  obtain ⟨s1, s2, s3⟩ := hsplit
  refine run_bndG F S hr e0 (bnd_tup (ws := va ++ zs) (rs := [v]) e0 (hb u1 ws u hu1 hws) (a1.append r2) a2 (by rw [List.length_append, q1, l2, hn]) (by show 1 ≤ _; decide)) fun cdv sh H2 xs ⟨p, hp', e1, e2⟩ hr' => ?_
  subst e1 e2
  have n0 : Next K (O i) B H (O i) (upd B p (.tup [v])) (upd H p (.tup [v])) := (Next.cell (K := K) (o := .tup [v]) hO.ext hp').pure hO
  have hbl := hbl i hp cdv A outer sh (upd H p (.tup [v])) E0 hr'
  have hreps : reps K (upd B p (.tup [v])) (va ++ zs ++ [V.ref p]) (dA i ++ dK i ++ [D.tup [dR i]]) :=
    ((s1.mono n0.base).append (s3.mono n0.base)).append (.cons ⟨p, [v], rfl, upd_same, by show 1 ≤ _; decide, .cons (s2.mono n0.base) .nil⟩ .nil)
  have hlen : (dA i ++ dK i ++ [D.tup [dR i]]).length = ps.length + 1 := by simp only [List.length_append, List.length_cons, List.length_nil]; omega
  refine ⟨_, PSs.nox (t := wB (cxOf CX0 P w K mg base N qual scope f cdv A outer sh (upd H p (.tup [v])) E0).nox body) ⟨fun pins s' σ' H' D I h => h pins s' I⟩, hbl (upd B p (.tup [v])) (upd H p (.tup [v])) (L2.start N (va ++ zs ++ [V.ref p])) n0.st ?_ _ ?_⟩
  · generalize hds : dA i ++ dK i ++ [D.tup [dR i]] = dd at hreps hlen
    generalize va ++ zs ++ [V.ref p] = vv at hreps
    refine ⟨by unfold L2.start; simp [hreps.length, hlen], fun j d hj => ?_⟩
    by_cases hjl : j < dd.length
    · rw [List.getElem?_append_left (by simpa using hjl), List.getElem?_map] at hj
      cases e : dd[j]? with
      | none => rw [e] at hj; cases hj
      | some d' =>
        rw [e] at hj
        cases hj
        obtain ⟨v, e1, e2⟩ := hreps.get e
        refine ⟨v, ?_, e2⟩
        unfold L2.start
        rw [List.getElem?_append_left (by simpa [hreps.length] using hjl), List.getElem?_map, e1]
        rfl
    · rw [List.getElem?_append_right (by simpa using hjl), List.getElem?_replicate] at hj
      split at hj <;> cases hj
  · exact ⟨fun r' o σ' B' H' u m s' => hq .non o .non B' H' u (n0.trans m) rfl, fun d o v B' H' u m r' => hq d o v B' H' u (n0.trans m) r', fun _ _ _ _ _ u => u.elim, fun _ _ _ _ _ u => u.elim⟩
end
section
variable {X : Cx} {ρ : Ro} {O O1 O2 : List Own} {e : Expr} {es : List Expr} {pos p : Pos} {x : Str} {k n : Nat} {ks : List Str} {kws : List Keyword} {as zs : List D} {Rx : List Own}
variable {ι : Type} {pre : ι → Prop} {dI : ι → List D} {OI : ι → List Own} {RI : ι → D → List Own → Prop}
theorem w_callA {sp : Sp} {ds : List D} (F : CalA X.prog X.w X.K X.mg X.base x k n ks sp) (hr : Rm k X.A) (ha : Ea X (e :: es) ρ O ds O1) (hkw : Ek X kws ρ O1 zs O2) (hn : ds.length = n) (hm : zs.length = ks.length)
    {B H : Hp} {σ : L2.St} {Q : VK} (hO : OSt X.K O B H) (hS : Slots X.K B σ ρ) (h : ∀ vs us B1 H1, Next X.K O B H O2 B1 H1 → reps X.K B1 vs ds → reps X.K B1 us zs → sp (vs ++ us) H1 Q E0)
    (hg : Gl X x := by rfl) (hall : (backToKw pos (keywordEach kws X.env)).all (·.1.isSome) = true := by rfl) (hks : (backToKw pos (keywordEach kws X.env)).filterMap (·.1) = ks := by rfl) (hdb : (x == ("__debug__" : Str)) = false := by decide)
    (he : starEach (e :: es) X.env = (false, eval e X.env) :: starEach es X.env := by rfl) (hpl : ((backTo pos (starEach (e :: es) X.env)).any (·.1) || (backToKw pos (keywordEach kws X.env)).any (·.1.isNone)) = false := by rfl) :
    wE X (.Call (.Name x p) (e :: es) kws pos) σ H Q := by
  obtain ⟨f, gl, kp, ok⟩ := F.ex
  intro pins s I
  refine wpAny_Call_Name_kw (ld_glob I hg gl ?_ hdb)
  refine PySem.W.callWith_KW (h₀ := X.base) I.ok.mod.kin kp hall (thn (ha B H σ hO hS (fun vs H' => vs.length = n ∧ wK X kws σ H' fun us H'' => us.length = ks.length ∧ sp (vs ++ us) H'' Q E0) (fun vs B1 H1 n1 r1 => ⟨r1.length.trans hn, hkw B1 H1 σ n1.st (hS.mono n1.base) _ fun us B2 H2 n2 r2 =>
    ⟨r2.length.trans hm, h vs us B2 H2 (n1.trans n2) (r1.mono n2.base) r2⟩⟩) pos pins s I) fun us s1 ⟨vs, H1, I1, r, l1, q⟩ => ?_) hpl he
  refine thn (q pos pins s1 I1) fun ws s2 ⟨zs', H2, I2, rz, l2, q2⟩ => ⟨I2.kIn, ?_⟩
  rw [hks]
  exact wpAny_call (codeAny_mono (ok X.A X.stack s2 H2 us ws vs zs' Q E0 hr I2.env0 r rz l1 l2 q2) fun r s' hq => by
    have z := fin_call pass0 I2 hq
    cases r with
    | error e => exact z
    | ok fl => cases fl <;> exact z)
theorem evr_callA2 (ix : ι) (F : CalA X.prog X.w X.K X.mg X.base x k n ks (spG X.K pre dI OI RI)) (hr : Rm k X.A) (hp : pre ix) (ha : Ea X (e :: es) ρ O as O1) (hk : Ek X kws ρ O1 zs O2) (hd : dI ix = as ++ zs) (pm : O2.Perm (OI ix ++ Rx)) (hn : as.length = n := by rfl) (hm : zs.length = ks.length := by rfl)
    (hg : Gl X x := by rfl) (hall : (backToKw pos (keywordEach kws X.env)).all (·.1.isSome) = true := by rfl) (hks : (backToKw pos (keywordEach kws X.env)).filterMap (·.1) = ks := by rfl) (hdb : (x == ("__debug__" : Str)) = false := by decide)
    (he : starEach (e :: es) X.env = (false, eval e X.env) :: starEach es X.env := by rfl) (hpl : ((backTo pos (starEach (e :: es) X.env)).any (·.1) || (backToKw pos (keywordEach kws X.env)).any (·.1.isNone)) = false := by rfl) :
    EvR X (.Call (.Name x p) (e :: es) kws pos) ρ O fun d o => ∃ o', RI ix d o' ∧ o = o' ++ Rx := fun B H σ hO hS Q kk =>
  w_callA F hr ha hk hn hm hO hS (fun vs us B1 H1 n1 r1 r2 => ⟨ix, B1, hp, n1.st.part pm, by rw [hd]; exact r1.append r2, fun d O' v B' H' hd n2 r2 => kk d _ v B' H' ⟨O', hd, rfl⟩ (n1.trans (Next.swap pm n1.st n2)) r2⟩) hg hall hks hdb he hpl
/-- values by a relation, keywords plain -/
theorem evr_callAK {ps : List Str} {gV : List V → List V → List V} {Ra : List D → List Own → Prop} {R' : D → List Own → Prop} (F : CalK X.prog X.w X.K X.mg X.base x k ps n ks gV (spG X.K pre dI OI RI)) (hr : Rm k X.A) (ha : EaR X (e :: es) ρ O Ra) (hk : ∀ ds o, Ra ds o → Ek X kws ρ o zs o)
    (hh : ∀ ds o, Ra ds o → ds.length = n ∧ ∃ ix Rx, (∀ B vs us, reps X.K B vs ds → reps X.K B us zs → reps X.K B (gV vs us) (dI ix)) ∧ pre ix ∧ o.Perm (OI ix ++ Rx) ∧ ∀ d o', RI ix d o' → R' d (o' ++ Rx)) (hm : zs.length = ks.length := by rfl)
    (hg : Gl X x := by rfl) (hall : (backToKw pos (keywordEach kws X.env)).all (·.1.isSome) = true := by rfl) (hks : (backToKw pos (keywordEach kws X.env)).filterMap (·.1) = ks := by rfl) (hdb : (x == ("__debug__" : Str)) = false := by decide)
    (he : starEach (e :: es) X.env = (false, eval e X.env) :: starEach es X.env := by rfl) (hpl : ((backTo pos (starEach (e :: es) X.env)).any (·.1) || (backToKw pos (keywordEach kws X.env)).any (·.1.isNone)) = false := by rfl) :
    EvR X (.Call (.Name x p) (e :: es) kws pos) ρ O R' := fun B H σ hO hS Q kk => by
  obtain ⟨f, fd, g, gl, kp, ok, bi⟩ := F.ex
  intro pins s I
  refine wpAny_Call_Name_kw (ld_glob I hg gl ?_ hdb)
  refine PySem.W.callWith_KW (h₀ := X.base) I.ok.mod.kin kp hall (thn (ha B H σ hO hS (fun vs H' => vs.length = n ∧ wK X kws σ H' fun us H'' => us.length = ks.length ∧ spG X.K pre dI OI RI (gV vs us) H'' Q E0) (fun ds o vs B1 H1 ra n1 r1 => by
    obtain ⟨hl, ix, Rx, hd, hp, pm, hR⟩ := hh ds o ra
    exact ⟨r1.length.trans hl, hk ds o ra B1 H1 σ n1.st (hS.mono n1.base) _ fun us B2 H2 n2 r2 => ⟨r2.length.trans hm, ix, B2, hp, n2.st.part pm, hd B2 vs us (r1.mono n2.base) r2, fun d O' v B' H' hd' n3 r3 => kk d _ v B' H' (hR d O' hd') ((n1.trans n2).trans (Next.swap pm n2.st n3)) r3⟩⟩) pos pins s I) fun us s1 ⟨vs, H1, I1, r, l1, q⟩ => ?_) hpl he
  refine thn (q pos pins s1 I1) fun ws s2 ⟨zs', H2, I2, rz, l2, q2⟩ => ⟨I2.kIn, ?_⟩
  rw [hks]
  exact runGK ok hr bi pass0 I2 r rz l1 l2 q2
end
end GL
namespace Pr
open PySem L2 GL
def top (i : Nat) : Stmt := PySem.Challenge.pw_sumaudit_k84_whole_completing_rows.main.body.getD i (.Pass ⟨0, 0, 0, 0⟩)
abbrev s_InvalidWidth_init : Stmt := inClass (top 2) 0
def d_InvalidWidth_init : He.DefD := ⟨("InvalidWidth", some "__init__"), "__init__", "InvalidWidth.__init__", defArgs s_InvalidWidth_init, defBody s_InvalidWidth_init, defScope s_InvalidWidth_init, [], []⟩
abbrev s_InvalidRows_init : Stmt := inClass (top 3) 0
def d_InvalidRows_init : He.DefD := ⟨("InvalidRows", some "__init__"), "__init__", "InvalidRows.__init__", defArgs s_InvalidRows_init, defBody s_InvalidRows_init, defScope s_InvalidRows_init, [], []⟩
abbrev s_InvalidRow_init : Stmt := inClass (top 4) 0
def d_InvalidRow_init : He.DefD := ⟨("InvalidRow", some "__init__"), "__init__", "InvalidRow.__init__", defArgs s_InvalidRow_init, defBody s_InvalidRow_init, defScope s_InvalidRow_init, [], []⟩
abbrev s_InvalidIndex_init : Stmt := inClass (top 5) 0
def d_InvalidIndex_init : He.DefD := ⟨("InvalidIndex", some "__init__"), "__init__", "InvalidIndex.__init__", defArgs s_InvalidIndex_init, defBody s_InvalidIndex_init, defScope s_InvalidIndex_init, [], []⟩
abbrev s_InvalidValue_init : Stmt := inClass (top 6) 0
def d_InvalidValue_init : He.DefD := ⟨("InvalidValue", some "__init__"), "__init__", "InvalidValue.__init__", defArgs s_InvalidValue_init, defBody s_InvalidValue_init, defScope s_InvalidValue_init, [], []⟩
abbrev s_is_integer : Stmt := top 8
def d_is_integer : He.DefD := ⟨("is_integer", none), "is_integer", "is_integer", defArgs s_is_integer, defBody s_is_integer, defScope s_is_integer, [], []⟩
abbrev s_are_integers : Stmt := top 11
def d_are_integers : He.DefD := ⟨("are_integers", none), "are_integers", "are_integers", defArgs s_are_integers, defBody s_are_integers, defScope s_are_integers, [], []⟩
abbrev s_is_width : Stmt := top 12
def d_is_width : He.DefD := ⟨("is_width", none), "is_width", "is_width", defArgs s_is_width, defBody s_is_width, defScope s_is_width, [], []⟩
abbrev s_require_width : Stmt := top 13
def d_require_width : He.DefD := ⟨("require_width", none), "require_width", "require_width", defArgs s_require_width, defBody s_require_width, defScope s_require_width, [], []⟩
abbrev s_is_row : Stmt := top 14
def d_is_row : He.DefD := ⟨("is_row", none), "is_row", "is_row", defArgs s_is_row, defBody s_is_row, defScope s_is_row, [], [("width", .non)]⟩
abbrev s_require_row : Stmt := top 15
def d_require_row : He.DefD := ⟨("require_row", none), "require_row", "require_row", defArgs s_require_row, defBody s_require_row, defScope s_require_row, [], []⟩
abbrev s_require_rows : Stmt := top 16
def d_require_rows : He.DefD := ⟨("require_rows", none), "require_rows", "require_rows", defArgs s_require_rows, defBody s_require_rows, defScope s_require_rows, [], []⟩
abbrev s_require_index : Stmt := top 17
def d_require_index : He.DefD := ⟨("require_index", none), "require_index", "require_index", defArgs s_require_index, defBody s_require_index, defScope s_require_index, [], []⟩
abbrev s_product : Stmt := top 18
def d_product : He.DefD := ⟨("product", none), "product", "product", defArgs s_product, defBody s_product, defScope s_product, [], []⟩
abbrev s_unit_row : Stmt := top 19
def d_unit_row : He.DefD := ⟨("unit_row", none), "unit_row", "unit_row", defArgs s_unit_row, defBody s_unit_row, defScope s_unit_row, [], [("factor", .int 1)]⟩
abbrev s_extended_divisor : Stmt := top 21
def d_extended_divisor : He.DefD := ⟨("extended_divisor", none), "extended_divisor", "extended_divisor", defArgs s_extended_divisor, defBody s_extended_divisor, defScope s_extended_divisor, [], []⟩
abbrev s_summed : Stmt := top 22
def d_summed : He.DefD := ⟨("summed", none), "summed", "summed", defArgs s_summed, defBody s_summed, defScope s_summed, [], []⟩
abbrev s_Elimination_init : Stmt := inClass (top 23) 0
def d_Elimination_init : He.DefD := ⟨("Elimination", some "__init__"), "__init__", "Elimination.__init__", defArgs s_Elimination_init, defBody s_Elimination_init, defScope s_Elimination_init, [], []⟩
abbrev s_Elimination_crossed : Stmt := inClass (top 23) 1
def d_Elimination_crossed : He.DefD := ⟨("Elimination", some "crossed"), "crossed", "Elimination.crossed", defArgs s_Elimination_crossed, defBody s_Elimination_crossed, defScope s_Elimination_crossed, [], []⟩
abbrev s_Elimination_reduce_above : Stmt := inClass (top 23) 2
def d_Elimination_reduce_above : He.DefD := ⟨("Elimination", some "reduce_above"), "reduce_above", "Elimination.reduce_above", defArgs s_Elimination_reduce_above, defBody s_Elimination_reduce_above, defScope s_Elimination_reduce_above, [], []⟩
abbrev s_Elimination_put : Stmt := inClass (top 23) 3
def d_Elimination_put : He.DefD := ⟨("Elimination", some "put"), "put", "Elimination.put", defArgs s_Elimination_put, defBody s_Elimination_put, defScope s_Elimination_put, [], []⟩
abbrev s_Elimination_kept_rows : Stmt := inClass (top 23) 4
def d_Elimination_kept_rows : He.DefD := ⟨("Elimination", some "kept_rows"), "kept_rows", "Elimination.kept_rows", defArgs s_Elimination_kept_rows, defBody s_Elimination_kept_rows, defScope s_Elimination_kept_rows, [], []⟩
abbrev s_eliminated : Stmt := top 24
def d_eliminated : He.DefD := ⟨("eliminated", none), "eliminated", "eliminated", defArgs s_eliminated, defBody s_eliminated, defScope s_eliminated, [], []⟩
abbrev s_normal_form : Stmt := top 25
def d_normal_form : He.DefD := ⟨("normal_form", none), "normal_form", "normal_form", defArgs s_normal_form, defBody s_normal_form, defScope s_normal_form, [], []⟩
abbrev s_smallest_index : Stmt := top 27
def d_smallest_index : He.DefD := ⟨("smallest_index", none), "smallest_index", "smallest_index", defArgs s_smallest_index, defBody s_smallest_index, defScope s_smallest_index, [], []⟩
abbrev s_nearest_quotient : Stmt := top 28
def d_nearest_quotient : He.DefD := ⟨("nearest_quotient", none), "nearest_quotient", "nearest_quotient", defArgs s_nearest_quotient, defBody s_nearest_quotient, defScope s_nearest_quotient, [], []⟩
abbrev s_kernel_step : Stmt := top 29
def d_kernel_step : He.DefD := ⟨("kernel_step", none), "kernel_step", "kernel_step", defArgs s_kernel_step, defBody s_kernel_step, defScope s_kernel_step, [], []⟩
abbrev s_kernel_rows : Stmt := top 30
def d_kernel_rows : He.DefD := ⟨("kernel_rows", none), "kernel_rows", "kernel_rows", defArgs s_kernel_rows, defBody s_kernel_rows, defScope s_kernel_rows, [], []⟩
abbrev s_all_known : Stmt := top 32
def d_all_known : He.DefD := ⟨("all_known", none), "all_known", "all_known", defArgs s_all_known, defBody s_all_known, defScope s_all_known, [], []⟩
abbrev s_is_known : Stmt := top 33
def d_is_known : He.DefD := ⟨("is_known", none), "is_known", "is_known", defArgs s_is_known, defBody s_is_known, defScope s_is_known, [], []⟩
abbrev s_require_sign_width : Stmt := top 36
def d_require_sign_width : He.DefD := ⟨("require_sign_width", none), "require_sign_width", "require_sign_width", defArgs s_require_sign_width, defBody s_require_sign_width, defScope s_require_sign_width, [], []⟩
abbrev s_all_signs : Stmt := top 37
def d_all_signs : He.DefD := ⟨("all_signs", none), "all_signs", "all_signs", defArgs s_all_signs, defBody s_all_signs, defScope s_all_signs, [], []⟩
abbrev s_sign_shift : Stmt := top 38
def d_sign_shift : He.DefD := ⟨("sign_shift", none), "sign_shift", "sign_shift", defArgs s_sign_shift, defBody s_sign_shift, defScope s_sign_shift, [], []⟩
abbrev s_completing_rows : Stmt := top 39
def d_completing_rows : He.DefD := ⟨("completing_rows", none), "completing_rows", "completing_rows", defArgs s_completing_rows, defBody s_completing_rows, defScope s_completing_rows, [], []⟩
abbrev s_law_pot : Stmt := top 41
def d_law_pot : He.DefD := ⟨("_law_pot", none), "_law_pot", "_law_pot", defArgs s_law_pot, defBody s_law_pot, defScope s_law_pot, [], []⟩
abbrev s_law_digit : Stmt := top 42
def d_law_digit : He.DefD := ⟨("_law_digit", none), "_law_digit", "_law_digit", defArgs s_law_digit, defBody s_law_digit, defScope s_law_digit, [], []⟩
abbrev s_law_pick : Stmt := top 43
def d_law_pick : He.DefD := ⟨("_law_pick", none), "_law_pick", "_law_pick", defArgs s_law_pick, defBody s_law_pick, defScope s_law_pick, [], []⟩
abbrev s_law_integer : Stmt := top 44
def d_law_integer : He.DefD := ⟨("_law_integer", none), "_law_integer", "_law_integer", defArgs s_law_integer, defBody s_law_integer, defScope s_law_integer, [], []⟩
abbrev s_law_dot : Stmt := top 45
def d_law_dot : He.DefD := ⟨("_law_dot", none), "_law_dot", "_law_dot", defArgs s_law_dot, defBody s_law_dot, defScope s_law_dot, [], []⟩
abbrev s_law_halved : Stmt := top 46
def d_law_halved : He.DefD := ⟨("_law_halved", none), "_law_halved", "_law_halved", defArgs s_law_halved, defBody s_law_halved, defScope s_law_halved, [], []⟩
abbrev s_law_kernel : Stmt := top 47
def d_law_kernel : He.DefD := ⟨("_law_kernel", none), "_law_kernel", "_law_kernel", defArgs s_law_kernel, defBody s_law_kernel, defScope s_law_kernel, [], []⟩
abbrev s_law_is_known : Stmt := top 48
def d_law_is_known : He.DefD := ⟨("_law_is_known", none), "_law_is_known", "_law_is_known", defArgs s_law_is_known, defBody s_law_is_known, defScope s_law_is_known, [], []⟩
abbrev s_law_table : Stmt := top 49
def d_law_table : He.DefD := ⟨("_law_table", none), "_law_table", "_law_table", defArgs s_law_table, defBody s_law_table, defScope s_law_table, [], []⟩
abbrev s_law_signs : Stmt := top 50
def d_law_signs : He.DefD := ⟨("_law_signs", none), "_law_signs", "_law_signs", defArgs s_law_signs, defBody s_law_signs, defScope s_law_signs, [], []⟩
abbrev s_law_signed_table : Stmt := top 51
def d_law_signed_table : He.DefD := ⟨("_law_signed_table", none), "_law_signed_table", "_law_signed_table", defArgs s_law_signed_table, defBody s_law_signed_table, defScope s_law_signed_table, [], []⟩
abbrev s_law_completes : Stmt := top 52
def d_law_completes : He.DefD := ⟨("_law_completes", none), "_law_completes", "_law_completes", defArgs s_law_completes, defBody s_law_completes, defScope s_law_completes, [], []⟩
abbrev s_law_right : Stmt := top 53
def d_law_right : He.DefD := ⟨("_law_right", none), "_law_right", "_law_right", defArgs s_law_right, defBody s_law_right, defScope s_law_right, [], []⟩
abbrev s_law : Stmt := top 54
def d_law : He.DefD := ⟨("law", none), "law", "law", defArgs s_law, defBody s_law, defScope s_law, [], []⟩
def fn : List He.DefD := [d_InvalidWidth_init, d_InvalidRows_init, d_InvalidRow_init, d_InvalidIndex_init, d_InvalidValue_init, d_is_integer, d_are_integers, d_is_width, d_require_width, d_is_row, d_require_row, d_require_rows, d_require_index, d_product, d_unit_row, d_extended_divisor, d_summed, d_Elimination_init, d_Elimination_crossed, d_Elimination_reduce_above, d_Elimination_put, d_Elimination_kept_rows, d_eliminated, d_normal_form, d_smallest_index, d_nearest_quotient, d_kernel_step, d_kernel_rows, d_all_known, d_is_known, d_require_sign_width, d_all_signs, d_sign_shift, d_completing_rows, d_law_pot, d_law_digit, d_law_pick, d_law_integer, d_law_dot, d_law_halved, d_law_kernel, d_law_is_known, d_law_table, d_law_signs, d_law_signed_table, d_law_completes, d_law_right, d_law]
def fa : List He.Fa := [.glo "is_integer", .glo "are_integers", .glo "is_width", .glo "require_width", .glo "is_row", .glo "require_row", .glo "require_rows", .glo "require_index", .glo "product", .glo "unit_row", .glo "extended_divisor", .glo "summed", .glo "eliminated", .glo "normal_form", .glo "smallest_index", .glo "nearest_quotient", .glo "kernel_step", .glo "kernel_rows", .glo "all_known", .glo "is_known", .glo "require_sign_width", .glo "all_signs", .glo "sign_shift", .glo "completing_rows", .glo "_law_pot", .glo "_law_digit", .glo "_law_pick", .glo "_law_integer", .glo "_law_dot", .glo "_law_halved", .glo "_law_kernel", .glo "_law_is_known", .glo "_law_table", .glo "_law_signs", .glo "_law_signed_table", .glo "_law_completes", .glo "_law_right", .glo "law", .glo "Elimination", .cls "Elimination", .noat "Elimination" "own_width", .noat "Elimination" "by_pivot", .noat "Elimination" "rests", .mkr "Elimination", .meth "Elimination" "crossed", .meth "Elimination" "reduce_above", .meth "Elimination" "put", .meth "Elimination" "kept_rows", .int "MAX_WIDTH" 16, .int "MAX_SIGN_WIDTH" 10, .free "len", .free "abs", .free "max", .free "min", .free "sum", .free "all", .free "any", .free "range", .free "isinstance", .free "zip", .free "enumerate", .free "sorted", .free "repr", .free "divmod", .free "list", .free "tuple", .free "int", .free "bool"]
/-- what the end of the law's walk gives -/
structure EnvP (K : PySem.W.Frag) (mg : Str → Option Value) (base : Heap) : Prop where
  says : He.SaysD fa fn K
  kin : K.In base
  gl : base.Ns mainGlobals mg
  seer : base.NoSeer
section
variable {P : Program} {w : World} {K : PySem.W.Frag} {mg : Str → Option Value} {base : Heap}
theorem EnvP.g_is_integer (E : EnvP K mg base) : mg "is_integer" = some (.ref (He.ga K "is_integer")) := He.glo_ok E.kin E.gl (E.says.fact 0 (f := .glo "is_integer") rfl)
theorem EnvP.g_are_integers (E : EnvP K mg base) : mg "are_integers" = some (.ref (He.ga K "are_integers")) := He.glo_ok E.kin E.gl (E.says.fact 1 (f := .glo "are_integers") rfl)
theorem EnvP.g_is_width (E : EnvP K mg base) : mg "is_width" = some (.ref (He.ga K "is_width")) := He.glo_ok E.kin E.gl (E.says.fact 2 (f := .glo "is_width") rfl)
theorem EnvP.g_require_width (E : EnvP K mg base) : mg "require_width" = some (.ref (He.ga K "require_width")) := He.glo_ok E.kin E.gl (E.says.fact 3 (f := .glo "require_width") rfl)
theorem EnvP.g_is_row (E : EnvP K mg base) : mg "is_row" = some (.ref (He.ga K "is_row")) := He.glo_ok E.kin E.gl (E.says.fact 4 (f := .glo "is_row") rfl)
theorem EnvP.g_require_row (E : EnvP K mg base) : mg "require_row" = some (.ref (He.ga K "require_row")) := He.glo_ok E.kin E.gl (E.says.fact 5 (f := .glo "require_row") rfl)
theorem EnvP.g_require_rows (E : EnvP K mg base) : mg "require_rows" = some (.ref (He.ga K "require_rows")) := He.glo_ok E.kin E.gl (E.says.fact 6 (f := .glo "require_rows") rfl)
theorem EnvP.g_require_index (E : EnvP K mg base) : mg "require_index" = some (.ref (He.ga K "require_index")) := He.glo_ok E.kin E.gl (E.says.fact 7 (f := .glo "require_index") rfl)
theorem EnvP.g_product (E : EnvP K mg base) : mg "product" = some (.ref (He.ga K "product")) := He.glo_ok E.kin E.gl (E.says.fact 8 (f := .glo "product") rfl)
theorem EnvP.g_unit_row (E : EnvP K mg base) : mg "unit_row" = some (.ref (He.ga K "unit_row")) := He.glo_ok E.kin E.gl (E.says.fact 9 (f := .glo "unit_row") rfl)
theorem EnvP.g_extended_divisor (E : EnvP K mg base) : mg "extended_divisor" = some (.ref (He.ga K "extended_divisor")) := He.glo_ok E.kin E.gl (E.says.fact 10 (f := .glo "extended_divisor") rfl)
theorem EnvP.g_summed (E : EnvP K mg base) : mg "summed" = some (.ref (He.ga K "summed")) := He.glo_ok E.kin E.gl (E.says.fact 11 (f := .glo "summed") rfl)
theorem EnvP.g_eliminated (E : EnvP K mg base) : mg "eliminated" = some (.ref (He.ga K "eliminated")) := He.glo_ok E.kin E.gl (E.says.fact 12 (f := .glo "eliminated") rfl)
theorem EnvP.g_normal_form (E : EnvP K mg base) : mg "normal_form" = some (.ref (He.ga K "normal_form")) := He.glo_ok E.kin E.gl (E.says.fact 13 (f := .glo "normal_form") rfl)
theorem EnvP.g_smallest_index (E : EnvP K mg base) : mg "smallest_index" = some (.ref (He.ga K "smallest_index")) := He.glo_ok E.kin E.gl (E.says.fact 14 (f := .glo "smallest_index") rfl)
theorem EnvP.g_nearest_quotient (E : EnvP K mg base) : mg "nearest_quotient" = some (.ref (He.ga K "nearest_quotient")) := He.glo_ok E.kin E.gl (E.says.fact 15 (f := .glo "nearest_quotient") rfl)
theorem EnvP.g_kernel_step (E : EnvP K mg base) : mg "kernel_step" = some (.ref (He.ga K "kernel_step")) := He.glo_ok E.kin E.gl (E.says.fact 16 (f := .glo "kernel_step") rfl)
theorem EnvP.g_kernel_rows (E : EnvP K mg base) : mg "kernel_rows" = some (.ref (He.ga K "kernel_rows")) := He.glo_ok E.kin E.gl (E.says.fact 17 (f := .glo "kernel_rows") rfl)
theorem EnvP.g_all_known (E : EnvP K mg base) : mg "all_known" = some (.ref (He.ga K "all_known")) := He.glo_ok E.kin E.gl (E.says.fact 18 (f := .glo "all_known") rfl)
theorem EnvP.g_is_known (E : EnvP K mg base) : mg "is_known" = some (.ref (He.ga K "is_known")) := He.glo_ok E.kin E.gl (E.says.fact 19 (f := .glo "is_known") rfl)
theorem EnvP.g_require_sign_width (E : EnvP K mg base) : mg "require_sign_width" = some (.ref (He.ga K "require_sign_width")) := He.glo_ok E.kin E.gl (E.says.fact 20 (f := .glo "require_sign_width") rfl)
theorem EnvP.g_all_signs (E : EnvP K mg base) : mg "all_signs" = some (.ref (He.ga K "all_signs")) := He.glo_ok E.kin E.gl (E.says.fact 21 (f := .glo "all_signs") rfl)
theorem EnvP.g_sign_shift (E : EnvP K mg base) : mg "sign_shift" = some (.ref (He.ga K "sign_shift")) := He.glo_ok E.kin E.gl (E.says.fact 22 (f := .glo "sign_shift") rfl)
theorem EnvP.g_completing_rows (E : EnvP K mg base) : mg "completing_rows" = some (.ref (He.ga K "completing_rows")) := He.glo_ok E.kin E.gl (E.says.fact 23 (f := .glo "completing_rows") rfl)
theorem EnvP.g_law_pot (E : EnvP K mg base) : mg "_law_pot" = some (.ref (He.ga K "_law_pot")) := He.glo_ok E.kin E.gl (E.says.fact 24 (f := .glo "_law_pot") rfl)
theorem EnvP.g_law_digit (E : EnvP K mg base) : mg "_law_digit" = some (.ref (He.ga K "_law_digit")) := He.glo_ok E.kin E.gl (E.says.fact 25 (f := .glo "_law_digit") rfl)
theorem EnvP.g_law_pick (E : EnvP K mg base) : mg "_law_pick" = some (.ref (He.ga K "_law_pick")) := He.glo_ok E.kin E.gl (E.says.fact 26 (f := .glo "_law_pick") rfl)
theorem EnvP.g_law_integer (E : EnvP K mg base) : mg "_law_integer" = some (.ref (He.ga K "_law_integer")) := He.glo_ok E.kin E.gl (E.says.fact 27 (f := .glo "_law_integer") rfl)
theorem EnvP.g_law_dot (E : EnvP K mg base) : mg "_law_dot" = some (.ref (He.ga K "_law_dot")) := He.glo_ok E.kin E.gl (E.says.fact 28 (f := .glo "_law_dot") rfl)
theorem EnvP.g_law_halved (E : EnvP K mg base) : mg "_law_halved" = some (.ref (He.ga K "_law_halved")) := He.glo_ok E.kin E.gl (E.says.fact 29 (f := .glo "_law_halved") rfl)
theorem EnvP.g_law_kernel (E : EnvP K mg base) : mg "_law_kernel" = some (.ref (He.ga K "_law_kernel")) := He.glo_ok E.kin E.gl (E.says.fact 30 (f := .glo "_law_kernel") rfl)
theorem EnvP.g_law_is_known (E : EnvP K mg base) : mg "_law_is_known" = some (.ref (He.ga K "_law_is_known")) := He.glo_ok E.kin E.gl (E.says.fact 31 (f := .glo "_law_is_known") rfl)
theorem EnvP.g_law_table (E : EnvP K mg base) : mg "_law_table" = some (.ref (He.ga K "_law_table")) := He.glo_ok E.kin E.gl (E.says.fact 32 (f := .glo "_law_table") rfl)
theorem EnvP.g_law_signs (E : EnvP K mg base) : mg "_law_signs" = some (.ref (He.ga K "_law_signs")) := He.glo_ok E.kin E.gl (E.says.fact 33 (f := .glo "_law_signs") rfl)
theorem EnvP.g_law_signed_table (E : EnvP K mg base) : mg "_law_signed_table" = some (.ref (He.ga K "_law_signed_table")) := He.glo_ok E.kin E.gl (E.says.fact 34 (f := .glo "_law_signed_table") rfl)
theorem EnvP.g_law_completes (E : EnvP K mg base) : mg "_law_completes" = some (.ref (He.ga K "_law_completes")) := He.glo_ok E.kin E.gl (E.says.fact 35 (f := .glo "_law_completes") rfl)
theorem EnvP.g_law_right (E : EnvP K mg base) : mg "_law_right" = some (.ref (He.ga K "_law_right")) := He.glo_ok E.kin E.gl (E.says.fact 36 (f := .glo "_law_right") rfl)
theorem EnvP.g_law (E : EnvP K mg base) : mg "law" = some (.ref (He.ga K "law")) := He.glo_ok E.kin E.gl (E.says.fact 37 (f := .glo "law") rfl)
theorem EnvP.g_Elimination (E : EnvP K mg base) : mg "Elimination" = some (.ref (He.ga K "Elimination")) := He.glo_ok E.kin E.gl (E.says.fact 38 (f := .glo "Elimination") rfl)
theorem EnvP.k_Elimination (E : EnvP K mg base) : Cls K (He.ga K "Elimination") := He.cls_ok (E.says.fact 39 (f := .cls "Elimination") rfl)
theorem EnvP.n_Elimination_own_width (E : EnvP K mg base) : NoAttr K (He.ga K "Elimination") "own_width" := He.noat_ok (E.says.fact 40 (f := .noat "Elimination" "own_width") rfl)
theorem EnvP.n_Elimination_by_pivot (E : EnvP K mg base) : NoAttr K (He.ga K "Elimination") "by_pivot" := He.noat_ok (E.says.fact 41 (f := .noat "Elimination" "by_pivot") rfl)
theorem EnvP.n_Elimination_rests (E : EnvP K mg base) : NoAttr K (He.ga K "Elimination") "rests" := He.noat_ok (E.says.fact 42 (f := .noat "Elimination" "rests") rfl)
theorem EnvP.mk_Elimination (E : EnvP K mg base) : Mk K (He.ga K "Elimination") (He.ma K (He.ga K "Elimination") "__init__") := He.mkr_ok (E.says.fact 43 (f := .mkr "Elimination") rfl)
theorem EnvP.m_Elimination_crossed (E : EnvP K mg base) : Meth K (He.ga K "Elimination") "crossed" (He.ma K (He.ga K "Elimination") "crossed") := He.meth_ok (E.says.fact 44 (f := .meth "Elimination" "crossed") rfl)
theorem EnvP.m_Elimination_reduce_above (E : EnvP K mg base) : Meth K (He.ga K "Elimination") "reduce_above" (He.ma K (He.ga K "Elimination") "reduce_above") := He.meth_ok (E.says.fact 45 (f := .meth "Elimination" "reduce_above") rfl)
theorem EnvP.m_Elimination_put (E : EnvP K mg base) : Meth K (He.ga K "Elimination") "put" (He.ma K (He.ga K "Elimination") "put") := He.meth_ok (E.says.fact 46 (f := .meth "Elimination" "put") rfl)
theorem EnvP.m_Elimination_kept_rows (E : EnvP K mg base) : Meth K (He.ga K "Elimination") "kept_rows" (He.ma K (He.ga K "Elimination") "kept_rows") := He.meth_ok (E.says.fact 47 (f := .meth "Elimination" "kept_rows") rfl)
theorem EnvP.c_MAX_WIDTH (E : EnvP K mg base) : ∃ t, mg "MAX_WIDTH" = some (.int 16 t) := He.int_ok E.kin E.gl (E.says.fact 48 (f := .int "MAX_WIDTH" 16) rfl)
theorem EnvP.c_MAX_SIGN_WIDTH (E : EnvP K mg base) : ∃ t, mg "MAX_SIGN_WIDTH" = some (.int 10 t) := He.int_ok E.kin E.gl (E.says.fact 49 (f := .int "MAX_SIGN_WIDTH" 10) rfl)
theorem EnvP.b_len (E : EnvP K mg base) : mg "len" = none := He.free_ok E.kin E.gl (E.says.fact 50 (f := .free "len") rfl)
theorem EnvP.b_abs (E : EnvP K mg base) : mg "abs" = none := He.free_ok E.kin E.gl (E.says.fact 51 (f := .free "abs") rfl)
theorem EnvP.b_max (E : EnvP K mg base) : mg "max" = none := He.free_ok E.kin E.gl (E.says.fact 52 (f := .free "max") rfl)
theorem EnvP.b_min (E : EnvP K mg base) : mg "min" = none := He.free_ok E.kin E.gl (E.says.fact 53 (f := .free "min") rfl)
theorem EnvP.b_sum (E : EnvP K mg base) : mg "sum" = none := He.free_ok E.kin E.gl (E.says.fact 54 (f := .free "sum") rfl)
theorem EnvP.b_all (E : EnvP K mg base) : mg "all" = none := He.free_ok E.kin E.gl (E.says.fact 55 (f := .free "all") rfl)
theorem EnvP.b_any (E : EnvP K mg base) : mg "any" = none := He.free_ok E.kin E.gl (E.says.fact 56 (f := .free "any") rfl)
theorem EnvP.b_range (E : EnvP K mg base) : mg "range" = none := He.free_ok E.kin E.gl (E.says.fact 57 (f := .free "range") rfl)
theorem EnvP.b_isinstance (E : EnvP K mg base) : mg "isinstance" = none := He.free_ok E.kin E.gl (E.says.fact 58 (f := .free "isinstance") rfl)
theorem EnvP.b_zip (E : EnvP K mg base) : mg "zip" = none := He.free_ok E.kin E.gl (E.says.fact 59 (f := .free "zip") rfl)
theorem EnvP.b_enumerate (E : EnvP K mg base) : mg "enumerate" = none := He.free_ok E.kin E.gl (E.says.fact 60 (f := .free "enumerate") rfl)
theorem EnvP.b_sorted (E : EnvP K mg base) : mg "sorted" = none := He.free_ok E.kin E.gl (E.says.fact 61 (f := .free "sorted") rfl)
theorem EnvP.b_repr (E : EnvP K mg base) : mg "repr" = none := He.free_ok E.kin E.gl (E.says.fact 62 (f := .free "repr") rfl)
theorem EnvP.b_divmod (E : EnvP K mg base) : mg "divmod" = none := He.free_ok E.kin E.gl (E.says.fact 63 (f := .free "divmod") rfl)
theorem EnvP.b_list (E : EnvP K mg base) : mg "list" = none := He.free_ok E.kin E.gl (E.says.fact 64 (f := .free "list") rfl)
theorem EnvP.b_tuple (E : EnvP K mg base) : mg "tuple" = none := He.free_ok E.kin E.gl (E.says.fact 65 (f := .free "tuple") rfl)
theorem EnvP.b_int (E : EnvP K mg base) : mg "int" = none := He.free_ok E.kin E.gl (E.says.fact 66 (f := .free "int") rfl)
theorem EnvP.b_bool (E : EnvP K mg base) : mg "bool" = none := He.free_ok E.kin E.gl (E.says.fact 67 (f := .free "bool") rfl)
abbrev ps_InvalidWidth_init : List Str := ["self", "width"]
theorem EnvP.f_InvalidWidth_init (E : EnvP K mg base) : ∃ fd, FunD K "__init__" "InvalidWidth.__init__" (defArgs s_InvalidWidth_init) (defBody s_InvalidWidth_init) (defScope s_InvalidWidth_init) (d_InvalidWidth_init.dvs K) (d_InvalidWidth_init.kws K) (He.fAd K ("InvalidWidth", some "__init__")) fd := E.says.def_ 0 (d := d_InvalidWidth_init) rfl
abbrev ps_InvalidRows_init : List Str := ["self", "position"]
theorem EnvP.f_InvalidRows_init (E : EnvP K mg base) : ∃ fd, FunD K "__init__" "InvalidRows.__init__" (defArgs s_InvalidRows_init) (defBody s_InvalidRows_init) (defScope s_InvalidRows_init) (d_InvalidRows_init.dvs K) (d_InvalidRows_init.kws K) (He.fAd K ("InvalidRows", some "__init__")) fd := E.says.def_ 1 (d := d_InvalidRows_init) rfl
abbrev ps_InvalidRow_init : List Str := ["self", "row"]
theorem EnvP.f_InvalidRow_init (E : EnvP K mg base) : ∃ fd, FunD K "__init__" "InvalidRow.__init__" (defArgs s_InvalidRow_init) (defBody s_InvalidRow_init) (defScope s_InvalidRow_init) (d_InvalidRow_init.dvs K) (d_InvalidRow_init.kws K) (He.fAd K ("InvalidRow", some "__init__")) fd := E.says.def_ 2 (d := d_InvalidRow_init) rfl
abbrev ps_InvalidIndex_init : List Str := ["self", "index"]
theorem EnvP.f_InvalidIndex_init (E : EnvP K mg base) : ∃ fd, FunD K "__init__" "InvalidIndex.__init__" (defArgs s_InvalidIndex_init) (defBody s_InvalidIndex_init) (defScope s_InvalidIndex_init) (d_InvalidIndex_init.dvs K) (d_InvalidIndex_init.kws K) (He.fAd K ("InvalidIndex", some "__init__")) fd := E.says.def_ 3 (d := d_InvalidIndex_init) rfl
abbrev ps_InvalidValue_init : List Str := ["self", "value"]
theorem EnvP.f_InvalidValue_init (E : EnvP K mg base) : ∃ fd, FunD K "__init__" "InvalidValue.__init__" (defArgs s_InvalidValue_init) (defBody s_InvalidValue_init) (defScope s_InvalidValue_init) (d_InvalidValue_init.dvs K) (d_InvalidValue_init.kws K) (He.fAd K ("InvalidValue", some "__init__")) fd := E.says.def_ 4 (d := d_InvalidValue_init) rfl
abbrev ps_is_integer : List Str := ["value"]
theorem EnvP.f_is_integer (E : EnvP K mg base) : ∃ fd, FunD K "is_integer" "is_integer" (defArgs s_is_integer) (defBody s_is_integer) (defScope s_is_integer) (d_is_integer.dvs K) (d_is_integer.kws K) (He.fAd K ("is_integer", none)) fd := E.says.def_ 5 (d := d_is_integer) rfl
abbrev N_is_integer : List Str := ["value"]
theorem sc_is_integer : FnScope N_is_integer ps_is_integer (defScope s_is_integer) := ⟨rfl, rfl, rfl, by decide +kernel, rfl, by decide +kernel, by decide +kernel⟩
theorem EnvP.cal_is_integer (E : EnvP K mg base) {k : Nat} {sp : Sp} (h : ∀ fd, FunD K "is_integer" "is_integer" (defArgs s_is_integer) (defBody s_is_integer) (defScope s_is_integer) [] (d_is_integer.kws K) (He.fAd K ("is_integer", none)) fd → FnG P w K mg base CX0 k (He.fAd K ("is_integer", none)) fd ps_is_integer sp) : CalP P w K mg base "is_integer" k ps_is_integer sp := by
  obtain ⟨fd, F⟩ := E.f_is_integer
  exact ⟨_, fd, E.g_is_integer, F.kp, h fd F, F.bindsN fun _ _ _ _ _ _ us hl => match us, hl with | [_], _ => rfl⟩
abbrev ps_are_integers : List Str := ["values"]
theorem EnvP.f_are_integers (E : EnvP K mg base) : ∃ fd, FunD K "are_integers" "are_integers" (defArgs s_are_integers) (defBody s_are_integers) (defScope s_are_integers) (d_are_integers.dvs K) (d_are_integers.kws K) (He.fAd K ("are_integers", none)) fd := E.says.def_ 6 (d := d_are_integers) rfl
abbrev N_are_integers : List Str := ["values", "value"]
theorem sc_are_integers : FnScope N_are_integers ps_are_integers (defScope s_are_integers) := ⟨rfl, rfl, rfl, by decide +kernel, rfl, by decide +kernel, by decide +kernel⟩
theorem EnvP.cal_are_integers (E : EnvP K mg base) {k : Nat} {sp : Sp} (h : ∀ fd, FunD K "are_integers" "are_integers" (defArgs s_are_integers) (defBody s_are_integers) (defScope s_are_integers) [] (d_are_integers.kws K) (He.fAd K ("are_integers", none)) fd → FnG P w K mg base CX0 k (He.fAd K ("are_integers", none)) fd ps_are_integers sp) : CalP P w K mg base "are_integers" k ps_are_integers sp := by
  obtain ⟨fd, F⟩ := E.f_are_integers
  exact ⟨_, fd, E.g_are_integers, F.kp, h fd F, F.bindsN fun _ _ _ _ _ _ us hl => match us, hl with | [_], _ => rfl⟩
abbrev ps_is_width : List Str := ["value"]
theorem EnvP.f_is_width (E : EnvP K mg base) : ∃ fd, FunD K "is_width" "is_width" (defArgs s_is_width) (defBody s_is_width) (defScope s_is_width) (d_is_width.dvs K) (d_is_width.kws K) (He.fAd K ("is_width", none)) fd := E.says.def_ 7 (d := d_is_width) rfl
abbrev N_is_width : List Str := ["value"]
theorem sc_is_width : FnScope N_is_width ps_is_width (defScope s_is_width) := ⟨rfl, rfl, rfl, by decide +kernel, rfl, by decide +kernel, by decide +kernel⟩
theorem EnvP.cal_is_width (E : EnvP K mg base) {k : Nat} {sp : Sp} (h : ∀ fd, FunD K "is_width" "is_width" (defArgs s_is_width) (defBody s_is_width) (defScope s_is_width) [] (d_is_width.kws K) (He.fAd K ("is_width", none)) fd → FnG P w K mg base CX0 k (He.fAd K ("is_width", none)) fd ps_is_width sp) : CalP P w K mg base "is_width" k ps_is_width sp := by
  obtain ⟨fd, F⟩ := E.f_is_width
  exact ⟨_, fd, E.g_is_width, F.kp, h fd F, F.bindsN fun _ _ _ _ _ _ us hl => match us, hl with | [_], _ => rfl⟩
abbrev ps_require_width : List Str := ["width"]
theorem EnvP.f_require_width (E : EnvP K mg base) : ∃ fd, FunD K "require_width" "require_width" (defArgs s_require_width) (defBody s_require_width) (defScope s_require_width) (d_require_width.dvs K) (d_require_width.kws K) (He.fAd K ("require_width", none)) fd := E.says.def_ 8 (d := d_require_width) rfl
abbrev N_require_width : List Str := ["width"]
theorem sc_require_width : FnScope N_require_width ps_require_width (defScope s_require_width) := ⟨rfl, rfl, rfl, by decide +kernel, rfl, by decide +kernel, by decide +kernel⟩
theorem EnvP.cal_require_width (E : EnvP K mg base) {k : Nat} {sp : Sp} (h : ∀ fd, FunD K "require_width" "require_width" (defArgs s_require_width) (defBody s_require_width) (defScope s_require_width) [] (d_require_width.kws K) (He.fAd K ("require_width", none)) fd → FnG P w K mg base CX0 k (He.fAd K ("require_width", none)) fd ps_require_width sp) : CalP P w K mg base "require_width" k ps_require_width sp := by
  obtain ⟨fd, F⟩ := E.f_require_width
  exact ⟨_, fd, E.g_require_width, F.kp, h fd F, F.bindsN fun _ _ _ _ _ _ us hl => match us, hl with | [_], _ => rfl⟩
abbrev ps_is_row : List Str := ["value", "width"]
theorem EnvP.f_is_row (E : EnvP K mg base) : ∃ fd, FunD K "is_row" "is_row" (defArgs s_is_row) (defBody s_is_row) (defScope s_is_row) (d_is_row.dvs K) (d_is_row.kws K) (He.fAd K ("is_row", none)) fd := E.says.def_ 9 (d := d_is_row) rfl
abbrev N_is_row : List Str := ["value", "width"]
theorem sc_is_row : FnScope N_is_row ps_is_row (defScope s_is_row) := ⟨rfl, rfl, rfl, by decide +kernel, rfl, by decide +kernel, by decide +kernel⟩
theorem EnvP.calD_is_row (E : EnvP K mg base) {k : Nat} {sp : Sp} (h : ∀ fd, FunD K "is_row" "is_row" (defArgs s_is_row) (defBody s_is_row) (defScope s_is_row) [] (d_is_row.kws K) (He.fAd K ("is_row", none)) fd → FnG P w K mg base CX0 k (He.fAd K ("is_row", none)) fd ps_is_row sp) : CalK P w K mg base "is_row" k ps_is_row 1 [] (fun a b => a ++ b ++ [V.non]) sp := by
  obtain ⟨fd, F⟩ := E.f_is_row
  obtain ⟨mv, b⟩ := F.kbinds0 1 [] [("width", V.non)] (fun us mv ws => us ++ ws ++ mv) (by intro h; cases h) (fun q h => h) (fun r1 r2 r3 => (r1.append r3).append r2) (fun D doc pm an cdv ct us mv ws h1 h2 h3 => match us, mv, ws, h1, h2, h3 with | [_], [_], [], _, _, _ => ⟨_, _, _, _, _, _, rfl, rfl, by show _ = _; kernel_rfl⟩)
  exact ⟨_, fd, _, E.g_is_row, F.kp, h fd F, b⟩
theorem EnvP.calK_is_row (E : EnvP K mg base) {k : Nat} {sp : Sp} (h : ∀ fd, FunD K "is_row" "is_row" (defArgs s_is_row) (defBody s_is_row) (defScope s_is_row) [] (d_is_row.kws K) (He.fAd K ("is_row", none)) fd → FnG P w K mg base CX0 k (He.fAd K ("is_row", none)) fd ps_is_row sp) : CalK P w K mg base "is_row" k ps_is_row 1 ["width"] (fun a b => a ++ b) sp := by
  obtain ⟨fd, F⟩ := E.f_is_row
  exact ⟨_, fd, _, E.g_is_row, F.kp, h fd F, kbindsN F 1 ["width"] fun _ _ _ _ _ _ us ws hl hm => match us, ws, hl, hm with | [_], [_], _, _ => rfl⟩
abbrev ps_require_row : List Str := ["row", "width"]
theorem EnvP.f_require_row (E : EnvP K mg base) : ∃ fd, FunD K "require_row" "require_row" (defArgs s_require_row) (defBody s_require_row) (defScope s_require_row) (d_require_row.dvs K) (d_require_row.kws K) (He.fAd K ("require_row", none)) fd := E.says.def_ 10 (d := d_require_row) rfl
abbrev N_require_row : List Str := ["row", "width"]
theorem sc_require_row : FnScope N_require_row ps_require_row (defScope s_require_row) := ⟨rfl, rfl, rfl, by decide +kernel, rfl, by decide +kernel, by decide +kernel⟩
theorem EnvP.cal_require_row (E : EnvP K mg base) {k : Nat} {sp : Sp} (h : ∀ fd, FunD K "require_row" "require_row" (defArgs s_require_row) (defBody s_require_row) (defScope s_require_row) [] (d_require_row.kws K) (He.fAd K ("require_row", none)) fd → FnG P w K mg base CX0 k (He.fAd K ("require_row", none)) fd ps_require_row sp) : CalP P w K mg base "require_row" k ps_require_row sp := by
  obtain ⟨fd, F⟩ := E.f_require_row
  exact ⟨_, fd, E.g_require_row, F.kp, h fd F, F.bindsN fun _ _ _ _ _ _ us hl => match us, hl with | [_, _], _ => rfl⟩
abbrev ps_require_rows : List Str := ["rows", "width"]
theorem EnvP.f_require_rows (E : EnvP K mg base) : ∃ fd, FunD K "require_rows" "require_rows" (defArgs s_require_rows) (defBody s_require_rows) (defScope s_require_rows) (d_require_rows.dvs K) (d_require_rows.kws K) (He.fAd K ("require_rows", none)) fd := E.says.def_ 11 (d := d_require_rows) rfl
abbrev N_require_rows : List Str := ["rows", "width", "position", "row"]
theorem sc_require_rows : FnScope N_require_rows ps_require_rows (defScope s_require_rows) := ⟨rfl, rfl, rfl, by decide +kernel, rfl, by decide +kernel, by decide +kernel⟩
theorem EnvP.cal_require_rows (E : EnvP K mg base) {k : Nat} {sp : Sp} (h : ∀ fd, FunD K "require_rows" "require_rows" (defArgs s_require_rows) (defBody s_require_rows) (defScope s_require_rows) [] (d_require_rows.kws K) (He.fAd K ("require_rows", none)) fd → FnG P w K mg base CX0 k (He.fAd K ("require_rows", none)) fd ps_require_rows sp) : CalP P w K mg base "require_rows" k ps_require_rows sp := by
  obtain ⟨fd, F⟩ := E.f_require_rows
  exact ⟨_, fd, E.g_require_rows, F.kp, h fd F, F.bindsN fun _ _ _ _ _ _ us hl => match us, hl with | [_, _], _ => rfl⟩
abbrev ps_require_index : List Str := ["index", "width"]
theorem EnvP.f_require_index (E : EnvP K mg base) : ∃ fd, FunD K "require_index" "require_index" (defArgs s_require_index) (defBody s_require_index) (defScope s_require_index) (d_require_index.dvs K) (d_require_index.kws K) (He.fAd K ("require_index", none)) fd := E.says.def_ 12 (d := d_require_index) rfl
abbrev N_require_index : List Str := ["index", "width"]
theorem sc_require_index : FnScope N_require_index ps_require_index (defScope s_require_index) := ⟨rfl, rfl, rfl, by decide +kernel, rfl, by decide +kernel, by decide +kernel⟩
theorem EnvP.cal_require_index (E : EnvP K mg base) {k : Nat} {sp : Sp} (h : ∀ fd, FunD K "require_index" "require_index" (defArgs s_require_index) (defBody s_require_index) (defScope s_require_index) [] (d_require_index.kws K) (He.fAd K ("require_index", none)) fd → FnG P w K mg base CX0 k (He.fAd K ("require_index", none)) fd ps_require_index sp) : CalP P w K mg base "require_index" k ps_require_index sp := by
  obtain ⟨fd, F⟩ := E.f_require_index
  exact ⟨_, fd, E.g_require_index, F.kp, h fd F, F.bindsN fun _ _ _ _ _ _ us hl => match us, hl with | [_, _], _ => rfl⟩
abbrev ps_product : List Str := ["first", "second"]
theorem EnvP.f_product (E : EnvP K mg base) : ∃ fd, FunD K "product" "product" (defArgs s_product) (defBody s_product) (defScope s_product) (d_product.dvs K) (d_product.kws K) (He.fAd K ("product", none)) fd := E.says.def_ 13 (d := d_product) rfl
abbrev N_product : List Str := ["first", "second", "entry", "other"]
theorem sc_product : FnScope N_product ps_product (defScope s_product) := ⟨rfl, rfl, rfl, by decide +kernel, rfl, by decide +kernel, by decide +kernel⟩
theorem EnvP.cal_product (E : EnvP K mg base) {k : Nat} {sp : Sp} (h : ∀ fd, FunD K "product" "product" (defArgs s_product) (defBody s_product) (defScope s_product) [] (d_product.kws K) (He.fAd K ("product", none)) fd → FnG P w K mg base CX0 k (He.fAd K ("product", none)) fd ps_product sp) : CalP P w K mg base "product" k ps_product sp := by
  obtain ⟨fd, F⟩ := E.f_product
  exact ⟨_, fd, E.g_product, F.kp, h fd F, F.bindsN fun _ _ _ _ _ _ us hl => match us, hl with | [_, _], _ => rfl⟩
abbrev ps_unit_row : List Str := ["index", "width", "factor"]
theorem EnvP.f_unit_row (E : EnvP K mg base) : ∃ fd, FunD K "unit_row" "unit_row" (defArgs s_unit_row) (defBody s_unit_row) (defScope s_unit_row) (d_unit_row.dvs K) (d_unit_row.kws K) (He.fAd K ("unit_row", none)) fd := E.says.def_ 14 (d := d_unit_row) rfl
abbrev N_unit_row : List Str := ["index", "width", "factor", "at"]
theorem sc_unit_row : FnScope N_unit_row ps_unit_row (defScope s_unit_row) := ⟨rfl, rfl, rfl, by decide +kernel, rfl, by decide +kernel, by decide +kernel⟩
theorem EnvP.calD_unit_row (E : EnvP K mg base) {k : Nat} {sp : Sp} (h : ∀ fd, FunD K "unit_row" "unit_row" (defArgs s_unit_row) (defBody s_unit_row) (defScope s_unit_row) [] (d_unit_row.kws K) (He.fAd K ("unit_row", none)) fd → FnG P w K mg base CX0 k (He.fAd K ("unit_row", none)) fd ps_unit_row sp) : CalK P w K mg base "unit_row" k ps_unit_row 1 ["width"] (fun a b => a ++ b ++ [V.int 1]) sp := by
  obtain ⟨fd, F⟩ := E.f_unit_row
  obtain ⟨mv, b⟩ := F.kbinds0 1 ["width"] [("factor", V.int 1)] (fun us mv ws => us ++ ws ++ mv) (by intro h; cases h) (fun q h => h) (fun r1 r2 r3 => (r1.append r3).append r2) (fun D doc pm an cdv ct us mv ws h1 h2 h3 => match us, mv, ws, h1, h2, h3 with | [_], [_], [_], _, _, _ => ⟨_, _, _, _, _, _, rfl, rfl, by show _ = _; kernel_rfl⟩)
  exact ⟨_, fd, _, E.g_unit_row, F.kp, h fd F, b⟩
theorem EnvP.calK_unit_row (E : EnvP K mg base) {k : Nat} {sp : Sp} (h : ∀ fd, FunD K "unit_row" "unit_row" (defArgs s_unit_row) (defBody s_unit_row) (defScope s_unit_row) [] (d_unit_row.kws K) (He.fAd K ("unit_row", none)) fd → FnG P w K mg base CX0 k (He.fAd K ("unit_row", none)) fd ps_unit_row sp) : CalK P w K mg base "unit_row" k ps_unit_row 1 ["width", "factor"] (fun a b => a ++ b) sp := by
  obtain ⟨fd, F⟩ := E.f_unit_row
  exact ⟨_, fd, _, E.g_unit_row, F.kp, h fd F, kbindsN F 1 ["width", "factor"] fun _ _ _ _ _ _ us ws hl hm => match us, ws, hl, hm with | [_], [_, _], _, _ => rfl⟩
abbrev ps_extended_divisor : List Str := ["first", "second"]
theorem EnvP.f_extended_divisor (E : EnvP K mg base) : ∃ fd, FunD K "extended_divisor" "extended_divisor" (defArgs s_extended_divisor) (defBody s_extended_divisor) (defScope s_extended_divisor) (d_extended_divisor.dvs K) (d_extended_divisor.kws K) (He.fAd K ("extended_divisor", none)) fd := E.says.def_ 15 (d := d_extended_divisor) rfl
abbrev N_extended_divisor : List Str := ["first", "second", "left", "rest", "one", "next_one", "other", "next_other", "times"]
theorem sc_extended_divisor : FnScope N_extended_divisor ps_extended_divisor (defScope s_extended_divisor) := ⟨rfl, rfl, rfl, by decide +kernel, rfl, by decide +kernel, by decide +kernel⟩
theorem EnvP.cal_extended_divisor (E : EnvP K mg base) {k : Nat} {sp : Sp} (h : ∀ fd, FunD K "extended_divisor" "extended_divisor" (defArgs s_extended_divisor) (defBody s_extended_divisor) (defScope s_extended_divisor) [] (d_extended_divisor.kws K) (He.fAd K ("extended_divisor", none)) fd → FnG P w K mg base CX0 k (He.fAd K ("extended_divisor", none)) fd ps_extended_divisor sp) : CalP P w K mg base "extended_divisor" k ps_extended_divisor sp := by
  obtain ⟨fd, F⟩ := E.f_extended_divisor
  exact ⟨_, fd, E.g_extended_divisor, F.kp, h fd F, F.bindsN fun _ _ _ _ _ _ us hl => match us, hl with | [_, _], _ => rfl⟩
abbrev ps_summed : List Str := ["times", "row", "other_times", "other"]
theorem EnvP.f_summed (E : EnvP K mg base) : ∃ fd, FunD K "summed" "summed" (defArgs s_summed) (defBody s_summed) (defScope s_summed) (d_summed.dvs K) (d_summed.kws K) (He.fAd K ("summed", none)) fd := E.says.def_ 16 (d := d_summed) rfl
abbrev N_summed : List Str := ["times", "row", "other_times", "other", "entry", "beside"]
theorem sc_summed : FnScope N_summed ps_summed (defScope s_summed) := ⟨rfl, rfl, rfl, by decide +kernel, rfl, by decide +kernel, by decide +kernel⟩
theorem EnvP.cal_summed (E : EnvP K mg base) {k : Nat} {sp : Sp} (h : ∀ fd, FunD K "summed" "summed" (defArgs s_summed) (defBody s_summed) (defScope s_summed) [] (d_summed.kws K) (He.fAd K ("summed", none)) fd → FnG P w K mg base CX0 k (He.fAd K ("summed", none)) fd ps_summed sp) : CalP P w K mg base "summed" k ps_summed sp := by
  obtain ⟨fd, F⟩ := E.f_summed
  exact ⟨_, fd, E.g_summed, F.kp, h fd F, F.bindsN fun _ _ _ _ _ _ us hl => match us, hl with | [_, _, _, _], _ => rfl⟩
abbrev ps_Elimination_init : List Str := ["self", "width"]
theorem EnvP.f_Elimination_init (E : EnvP K mg base) : ∃ fd, FunD K "__init__" "Elimination.__init__" (defArgs s_Elimination_init) (defBody s_Elimination_init) (defScope s_Elimination_init) (d_Elimination_init.dvs K) (d_Elimination_init.kws K) (He.fAd K ("Elimination", some "__init__")) fd := E.says.def_ 17 (d := d_Elimination_init) rfl
abbrev N_Elimination_init : List Str := ["self", "width"]
theorem sc_Elimination_init : FnScope N_Elimination_init ps_Elimination_init (defScope s_Elimination_init) := ⟨rfl, rfl, rfl, by decide +kernel, rfl, by decide +kernel, by decide +kernel⟩
theorem EnvP.cal_Elimination_init (E : EnvP K mg base) {k : Nat} {sp : Sp} (h : ∀ fd, FunD K "__init__" "Elimination.__init__" (defArgs s_Elimination_init) (defBody s_Elimination_init) (defScope s_Elimination_init) [] (d_Elimination_init.kws K) (He.fAd K ("Elimination", some "__init__")) fd → FnG P w K mg base CX0 k (He.fAd K ("Elimination", some "__init__")) fd ps_Elimination_init sp) : CalC P w K mg base "Elimination" (He.ga K "Elimination") k ps_Elimination_init sp := by
  obtain ⟨fd, F⟩ := E.f_Elimination_init
  exact ⟨_, fd, E.g_Elimination, E.mk_Elimination, h fd F, F.bindsN fun _ _ _ _ _ _ us hl => match us, hl with | [_, _], _ => rfl⟩
abbrev ps_Elimination_crossed : List Str := ["self", "at", "row"]
theorem EnvP.f_Elimination_crossed (E : EnvP K mg base) : ∃ fd, FunD K "crossed" "Elimination.crossed" (defArgs s_Elimination_crossed) (defBody s_Elimination_crossed) (defScope s_Elimination_crossed) (d_Elimination_crossed.dvs K) (d_Elimination_crossed.kws K) (He.fAd K ("Elimination", some "crossed")) fd := E.says.def_ 18 (d := d_Elimination_crossed) rfl
abbrev N_Elimination_crossed : List Str := ["self", "at", "row", "kept", "divisor", "one", "other"]
theorem sc_Elimination_crossed : FnScope N_Elimination_crossed ps_Elimination_crossed (defScope s_Elimination_crossed) := ⟨rfl, rfl, rfl, by decide +kernel, rfl, by decide +kernel, by decide +kernel⟩
theorem EnvP.cal_Elimination_crossed (E : EnvP K mg base) {k : Nat} {sp : Sp} (h : ∀ fd, FunD K "crossed" "Elimination.crossed" (defArgs s_Elimination_crossed) (defBody s_Elimination_crossed) (defScope s_Elimination_crossed) [] (d_Elimination_crossed.kws K) (He.fAd K ("Elimination", some "crossed")) fd → FnG P w K mg base CX0 k (He.fAd K ("Elimination", some "crossed")) fd ps_Elimination_crossed sp) : CalM P w K mg base (He.ga K "Elimination") "crossed" k ps_Elimination_crossed sp := by
  obtain ⟨fd, F⟩ := E.f_Elimination_crossed
  exact ⟨_, fd, E.m_Elimination_crossed, E.k_Elimination, h fd F, F.bindsN fun _ _ _ _ _ _ us hl => match us, hl with | [_, _, _], _ => rfl⟩
abbrev ps_Elimination_reduce_above : List Str := ["self"]
theorem EnvP.f_Elimination_reduce_above (E : EnvP K mg base) : ∃ fd, FunD K "reduce_above" "Elimination.reduce_above" (defArgs s_Elimination_reduce_above) (defBody s_Elimination_reduce_above) (defScope s_Elimination_reduce_above) (d_Elimination_reduce_above.dvs K) (d_Elimination_reduce_above.kws K) (He.fAd K ("Elimination", some "reduce_above")) fd := E.says.def_ 19 (d := d_Elimination_reduce_above) rfl
abbrev N_Elimination_reduce_above : List Str := ["self", "pivots", "place", "at", "later", "base", "times"]
theorem sc_Elimination_reduce_above : FnScope N_Elimination_reduce_above ps_Elimination_reduce_above (defScope s_Elimination_reduce_above) := ⟨rfl, rfl, rfl, by decide +kernel, rfl, by decide +kernel, by decide +kernel⟩
theorem EnvP.cal_Elimination_reduce_above (E : EnvP K mg base) {k : Nat} {sp : Sp} (h : ∀ fd, FunD K "reduce_above" "Elimination.reduce_above" (defArgs s_Elimination_reduce_above) (defBody s_Elimination_reduce_above) (defScope s_Elimination_reduce_above) [] (d_Elimination_reduce_above.kws K) (He.fAd K ("Elimination", some "reduce_above")) fd → FnG P w K mg base CX0 k (He.fAd K ("Elimination", some "reduce_above")) fd ps_Elimination_reduce_above sp) : CalM P w K mg base (He.ga K "Elimination") "reduce_above" k ps_Elimination_reduce_above sp := by
  obtain ⟨fd, F⟩ := E.f_Elimination_reduce_above
  exact ⟨_, fd, E.m_Elimination_reduce_above, E.k_Elimination, h fd F, F.bindsN fun _ _ _ _ _ _ us hl => match us, hl with | [_], _ => rfl⟩
abbrev ps_Elimination_put : List Str := ["self", "row"]
theorem EnvP.f_Elimination_put (E : EnvP K mg base) : ∃ fd, FunD K "put" "Elimination.put" (defArgs s_Elimination_put) (defBody s_Elimination_put) (defScope s_Elimination_put) (d_Elimination_put.dvs K) (d_Elimination_put.kws K) (He.fAd K ("Elimination", some "put")) fd := E.says.def_ 20 (d := d_Elimination_put) rfl
abbrev N_Elimination_put : List Str := ["self", "row", "left", "at", "entry"]
theorem sc_Elimination_put : FnScope N_Elimination_put ps_Elimination_put (defScope s_Elimination_put) := ⟨rfl, rfl, rfl, by decide +kernel, rfl, by decide +kernel, by decide +kernel⟩
theorem EnvP.cal_Elimination_put (E : EnvP K mg base) {k : Nat} {sp : Sp} (h : ∀ fd, FunD K "put" "Elimination.put" (defArgs s_Elimination_put) (defBody s_Elimination_put) (defScope s_Elimination_put) [] (d_Elimination_put.kws K) (He.fAd K ("Elimination", some "put")) fd → FnG P w K mg base CX0 k (He.fAd K ("Elimination", some "put")) fd ps_Elimination_put sp) : CalM P w K mg base (He.ga K "Elimination") "put" k ps_Elimination_put sp := by
  obtain ⟨fd, F⟩ := E.f_Elimination_put
  exact ⟨_, fd, E.m_Elimination_put, E.k_Elimination, h fd F, F.bindsN fun _ _ _ _ _ _ us hl => match us, hl with | [_, _], _ => rfl⟩
abbrev ps_Elimination_kept_rows : List Str := ["self"]
theorem EnvP.f_Elimination_kept_rows (E : EnvP K mg base) : ∃ fd, FunD K "kept_rows" "Elimination.kept_rows" (defArgs s_Elimination_kept_rows) (defBody s_Elimination_kept_rows) (defScope s_Elimination_kept_rows) (d_Elimination_kept_rows.dvs K) (d_Elimination_kept_rows.kws K) (He.fAd K ("Elimination", some "kept_rows")) fd := E.says.def_ 21 (d := d_Elimination_kept_rows) rfl
abbrev N_Elimination_kept_rows : List Str := ["self", "at"]
theorem sc_Elimination_kept_rows : FnScope N_Elimination_kept_rows ps_Elimination_kept_rows (defScope s_Elimination_kept_rows) := ⟨rfl, rfl, rfl, by decide +kernel, rfl, by decide +kernel, by decide +kernel⟩
theorem EnvP.cal_Elimination_kept_rows (E : EnvP K mg base) {k : Nat} {sp : Sp} (h : ∀ fd, FunD K "kept_rows" "Elimination.kept_rows" (defArgs s_Elimination_kept_rows) (defBody s_Elimination_kept_rows) (defScope s_Elimination_kept_rows) [] (d_Elimination_kept_rows.kws K) (He.fAd K ("Elimination", some "kept_rows")) fd → FnG P w K mg base CX0 k (He.fAd K ("Elimination", some "kept_rows")) fd ps_Elimination_kept_rows sp) : CalM P w K mg base (He.ga K "Elimination") "kept_rows" k ps_Elimination_kept_rows sp := by
  obtain ⟨fd, F⟩ := E.f_Elimination_kept_rows
  exact ⟨_, fd, E.m_Elimination_kept_rows, E.k_Elimination, h fd F, F.bindsN fun _ _ _ _ _ _ us hl => match us, hl with | [_], _ => rfl⟩
abbrev ps_eliminated : List Str := ["rows", "width"]
theorem EnvP.f_eliminated (E : EnvP K mg base) : ∃ fd, FunD K "eliminated" "eliminated" (defArgs s_eliminated) (defBody s_eliminated) (defScope s_eliminated) (d_eliminated.dvs K) (d_eliminated.kws K) (He.fAd K ("eliminated", none)) fd := E.says.def_ 22 (d := d_eliminated) rfl
abbrev N_eliminated : List Str := ["rows", "width", "found", "row"]
theorem sc_eliminated : FnScope N_eliminated ps_eliminated (defScope s_eliminated) := ⟨rfl, rfl, rfl, by decide +kernel, rfl, by decide +kernel, by decide +kernel⟩
theorem EnvP.cal_eliminated (E : EnvP K mg base) {k : Nat} {sp : Sp} (h : ∀ fd, FunD K "eliminated" "eliminated" (defArgs s_eliminated) (defBody s_eliminated) (defScope s_eliminated) [] (d_eliminated.kws K) (He.fAd K ("eliminated", none)) fd → FnG P w K mg base CX0 k (He.fAd K ("eliminated", none)) fd ps_eliminated sp) : CalP P w K mg base "eliminated" k ps_eliminated sp := by
  obtain ⟨fd, F⟩ := E.f_eliminated
  exact ⟨_, fd, E.g_eliminated, F.kp, h fd F, F.bindsN fun _ _ _ _ _ _ us hl => match us, hl with | [_, _], _ => rfl⟩
abbrev ps_normal_form : List Str := ["rows", "width"]
theorem EnvP.f_normal_form (E : EnvP K mg base) : ∃ fd, FunD K "normal_form" "normal_form" (defArgs s_normal_form) (defBody s_normal_form) (defScope s_normal_form) (d_normal_form.dvs K) (d_normal_form.kws K) (He.fAd K ("normal_form", none)) fd := E.says.def_ 23 (d := d_normal_form) rfl
abbrev N_normal_form : List Str := ["rows", "width"]
theorem sc_normal_form : FnScope N_normal_form ps_normal_form (defScope s_normal_form) := ⟨rfl, rfl, rfl, by decide +kernel, rfl, by decide +kernel, by decide +kernel⟩
theorem EnvP.calK_normal_form (E : EnvP K mg base) {k : Nat} {sp : Sp} (h : ∀ fd, FunD K "normal_form" "normal_form" (defArgs s_normal_form) (defBody s_normal_form) (defScope s_normal_form) [] (d_normal_form.kws K) (He.fAd K ("normal_form", none)) fd → FnG P w K mg base CX0 k (He.fAd K ("normal_form", none)) fd ps_normal_form sp) : CalK P w K mg base "normal_form" k ps_normal_form 1 ["width"] (fun a b => a ++ b) sp := by
  obtain ⟨fd, F⟩ := E.f_normal_form
  exact ⟨_, fd, _, E.g_normal_form, F.kp, h fd F, kbindsN F 1 ["width"] fun _ _ _ _ _ _ us ws hl hm => match us, ws, hl, hm with | [_], [_], _, _ => rfl⟩
abbrev ps_smallest_index : List Str := ["values"]
theorem EnvP.f_smallest_index (E : EnvP K mg base) : ∃ fd, FunD K "smallest_index" "smallest_index" (defArgs s_smallest_index) (defBody s_smallest_index) (defScope s_smallest_index) (d_smallest_index.dvs K) (d_smallest_index.kws K) (He.fAd K ("smallest_index", none)) fd := E.says.def_ 24 (d := d_smallest_index) rfl
abbrev N_smallest_index : List Str := ["values", "found", "index", "value"]
theorem sc_smallest_index : FnScope N_smallest_index ps_smallest_index (defScope s_smallest_index) := ⟨rfl, rfl, rfl, by decide +kernel, rfl, by decide +kernel, by decide +kernel⟩
theorem EnvP.cal_smallest_index (E : EnvP K mg base) {k : Nat} {sp : Sp} (h : ∀ fd, FunD K "smallest_index" "smallest_index" (defArgs s_smallest_index) (defBody s_smallest_index) (defScope s_smallest_index) [] (d_smallest_index.kws K) (He.fAd K ("smallest_index", none)) fd → FnG P w K mg base CX0 k (He.fAd K ("smallest_index", none)) fd ps_smallest_index sp) : CalP P w K mg base "smallest_index" k ps_smallest_index sp := by
  obtain ⟨fd, F⟩ := E.f_smallest_index
  exact ⟨_, fd, E.g_smallest_index, F.kp, h fd F, F.bindsN fun _ _ _ _ _ _ us hl => match us, hl with | [_], _ => rfl⟩
abbrev ps_nearest_quotient : List Str := ["value", "divisor"]
theorem EnvP.f_nearest_quotient (E : EnvP K mg base) : ∃ fd, FunD K "nearest_quotient" "nearest_quotient" (defArgs s_nearest_quotient) (defBody s_nearest_quotient) (defScope s_nearest_quotient) (d_nearest_quotient.dvs K) (d_nearest_quotient.kws K) (He.fAd K ("nearest_quotient", none)) fd := E.says.def_ 25 (d := d_nearest_quotient) rfl
abbrev N_nearest_quotient : List Str := ["value", "divisor", "size", "quotient"]
theorem sc_nearest_quotient : FnScope N_nearest_quotient ps_nearest_quotient (defScope s_nearest_quotient) := ⟨rfl, rfl, rfl, by decide +kernel, rfl, by decide +kernel, by decide +kernel⟩
theorem EnvP.cal_nearest_quotient (E : EnvP K mg base) {k : Nat} {sp : Sp} (h : ∀ fd, FunD K "nearest_quotient" "nearest_quotient" (defArgs s_nearest_quotient) (defBody s_nearest_quotient) (defScope s_nearest_quotient) [] (d_nearest_quotient.kws K) (He.fAd K ("nearest_quotient", none)) fd → FnG P w K mg base CX0 k (He.fAd K ("nearest_quotient", none)) fd ps_nearest_quotient sp) : CalP P w K mg base "nearest_quotient" k ps_nearest_quotient sp := by
  obtain ⟨fd, F⟩ := E.f_nearest_quotient
  exact ⟨_, fd, E.g_nearest_quotient, F.kp, h fd F, F.bindsN fun _ _ _ _ _ _ us hl => match us, hl with | [_, _], _ => rfl⟩
abbrev ps_kernel_step : List Str := ["basis", "row"]
theorem EnvP.f_kernel_step (E : EnvP K mg base) : ∃ fd, FunD K "kernel_step" "kernel_step" (defArgs s_kernel_step) (defBody s_kernel_step) (defScope s_kernel_step) (d_kernel_step.dvs K) (d_kernel_step.kws K) (He.fAd K ("kernel_step", none)) fd := E.says.def_ 26 (d := d_kernel_step) rfl
abbrev N_kernel_step : List Str := ["basis", "row", "vectors", "vector", "products", "value", "at", "index", "quotient"]
theorem sc_kernel_step : FnScope N_kernel_step ps_kernel_step (defScope s_kernel_step) := ⟨rfl, rfl, rfl, by decide +kernel, rfl, by decide +kernel, by decide +kernel⟩
theorem EnvP.cal_kernel_step (E : EnvP K mg base) {k : Nat} {sp : Sp} (h : ∀ fd, FunD K "kernel_step" "kernel_step" (defArgs s_kernel_step) (defBody s_kernel_step) (defScope s_kernel_step) [] (d_kernel_step.kws K) (He.fAd K ("kernel_step", none)) fd → FnG P w K mg base CX0 k (He.fAd K ("kernel_step", none)) fd ps_kernel_step sp) : CalP P w K mg base "kernel_step" k ps_kernel_step sp := by
  obtain ⟨fd, F⟩ := E.f_kernel_step
  exact ⟨_, fd, E.g_kernel_step, F.kp, h fd F, F.bindsN fun _ _ _ _ _ _ us hl => match us, hl with | [_, _], _ => rfl⟩
abbrev ps_kernel_rows : List Str := ["rows", "width"]
theorem EnvP.f_kernel_rows (E : EnvP K mg base) : ∃ fd, FunD K "kernel_rows" "kernel_rows" (defArgs s_kernel_rows) (defBody s_kernel_rows) (defScope s_kernel_rows) (d_kernel_rows.dvs K) (d_kernel_rows.kws K) (He.fAd K ("kernel_rows", none)) fd := E.says.def_ 27 (d := d_kernel_rows) rfl
abbrev N_kernel_rows : List Str := ["rows", "width", "wanted", "basis", "index", "row"]
theorem sc_kernel_rows : FnScope N_kernel_rows ps_kernel_rows (defScope s_kernel_rows) := ⟨rfl, rfl, rfl, by decide +kernel, rfl, by decide +kernel, by decide +kernel⟩
theorem EnvP.calK_kernel_rows (E : EnvP K mg base) {k : Nat} {sp : Sp} (h : ∀ fd, FunD K "kernel_rows" "kernel_rows" (defArgs s_kernel_rows) (defBody s_kernel_rows) (defScope s_kernel_rows) [] (d_kernel_rows.kws K) (He.fAd K ("kernel_rows", none)) fd → FnG P w K mg base CX0 k (He.fAd K ("kernel_rows", none)) fd ps_kernel_rows sp) : CalK P w K mg base "kernel_rows" k ps_kernel_rows 1 ["width"] (fun a b => a ++ b) sp := by
  obtain ⟨fd, F⟩ := E.f_kernel_rows
  exact ⟨_, fd, _, E.g_kernel_rows, F.kp, h fd F, kbindsN F 1 ["width"] fun _ _ _ _ _ _ us ws hl hm => match us, ws, hl, hm with | [_], [_], _, _ => rfl⟩
abbrev ps_all_known : List Str := ["rows", "width"]
theorem EnvP.f_all_known (E : EnvP K mg base) : ∃ fd, FunD K "all_known" "all_known" (defArgs s_all_known) (defBody s_all_known) (defScope s_all_known) (d_all_known.dvs K) (d_all_known.kws K) (He.fAd K ("all_known", none)) fd := E.says.def_ 28 (d := d_all_known) rfl
abbrev N_all_known : List Str := ["rows", "width", "asked", "given", "wanted", "row", "vector"]
theorem sc_all_known : FnScope N_all_known (ps_all_known ++ (["asked"] : List Str)) (defScope s_all_known) := ⟨rfl, rfl, rfl, by decide +kernel, rfl, by decide +kernel, by decide +kernel⟩
theorem EnvP.calS_all_known (E : EnvP K mg base) {k : Nat} {ι : Type} {pre : ι → Prop} {dA dK : ι → List D} {dR : ι → D} {O : ι → List Own} {R : ι → D → List Own → Prop} (hA : ∀ i, (dA i).length = 1) (hK : ∀ i, (dK i).length = 1)
    (hbl : ∀ i, pre i → ∀ (cdv : Value) (A : Around) (outer : List Env) (s : Shared) (H : Hp) (_ : XK), Rm k (A.deeper (PyProof.Rows.envOfC "all_known" (defScope s_all_known) s.heap.objs.size (He.fAd K ("all_known", none)) cdv)) →
      Bl (cxOf CX0 P w K mg base N_all_known "all_known" (defScope s_all_known) (He.fAd K ("all_known", none)) cdv A outer s H E0).nox (defBody s_all_known) ((dA i ++ dK i ++ [D.tup [dR i]]).map some ++ List.replicate (N_all_known.length - (ps_all_known.length + 1)) none) (O i) { nx := fun _ o => R i .non o, rt := R i }) :
    CalA P w K mg base "all_known" (k + 1) 2 ["width"] (spG K pre (fun i => dA i ++ [dR i] ++ dK i) O R) := by
  obtain ⟨fd, F⟩ := E.f_all_known
  refine calS1 E.g_all_known F sc_all_known hA hK rfl (fun us ws r h1 h2 => ?_) hbl
  obtain ⟨oc, od, dV, kV, doc, pm, an, cdv, ct, osl, rfl, lk, hcd, hD, hK⟩ := F.ex
  rcases hD with ⟨_, rfl⟩ | ⟨e, _⟩
  · match us, ws, h1, h2 with
    | [_], [_], _, _ => rfl
  · exact absurd rfl e
abbrev ps_is_known : List Str := ["rows", "row", "width"]
theorem EnvP.f_is_known (E : EnvP K mg base) : ∃ fd, FunD K "is_known" "is_known" (defArgs s_is_known) (defBody s_is_known) (defScope s_is_known) (d_is_known.dvs K) (d_is_known.kws K) (He.fAd K ("is_known", none)) fd := E.says.def_ 29 (d := d_is_known) rfl
abbrev N_is_known : List Str := ["rows", "row", "width"]
theorem sc_is_known : FnScope N_is_known ps_is_known (defScope s_is_known) := ⟨rfl, rfl, rfl, by decide +kernel, rfl, by decide +kernel, by decide +kernel⟩
theorem EnvP.calK_is_known (E : EnvP K mg base) {k : Nat} {sp : Sp} (h : ∀ fd, FunD K "is_known" "is_known" (defArgs s_is_known) (defBody s_is_known) (defScope s_is_known) [] (d_is_known.kws K) (He.fAd K ("is_known", none)) fd → FnG P w K mg base CX0 k (He.fAd K ("is_known", none)) fd ps_is_known sp) : CalK P w K mg base "is_known" k ps_is_known 2 ["width"] (fun a b => a ++ b) sp := by
  obtain ⟨fd, F⟩ := E.f_is_known
  exact ⟨_, fd, _, E.g_is_known, F.kp, h fd F, kbindsN F 2 ["width"] fun _ _ _ _ _ _ us ws hl hm => match us, ws, hl, hm with | [_, _], [_], _, _ => rfl⟩
abbrev ps_require_sign_width : List Str := ["width"]
theorem EnvP.f_require_sign_width (E : EnvP K mg base) : ∃ fd, FunD K "require_sign_width" "require_sign_width" (defArgs s_require_sign_width) (defBody s_require_sign_width) (defScope s_require_sign_width) (d_require_sign_width.dvs K) (d_require_sign_width.kws K) (He.fAd K ("require_sign_width", none)) fd := E.says.def_ 30 (d := d_require_sign_width) rfl
abbrev N_require_sign_width : List Str := ["width"]
theorem sc_require_sign_width : FnScope N_require_sign_width ps_require_sign_width (defScope s_require_sign_width) := ⟨rfl, rfl, rfl, by decide +kernel, rfl, by decide +kernel, by decide +kernel⟩
theorem EnvP.cal_require_sign_width (E : EnvP K mg base) {k : Nat} {sp : Sp} (h : ∀ fd, FunD K "require_sign_width" "require_sign_width" (defArgs s_require_sign_width) (defBody s_require_sign_width) (defScope s_require_sign_width) [] (d_require_sign_width.kws K) (He.fAd K ("require_sign_width", none)) fd → FnG P w K mg base CX0 k (He.fAd K ("require_sign_width", none)) fd ps_require_sign_width sp) : CalP P w K mg base "require_sign_width" k ps_require_sign_width sp := by
  obtain ⟨fd, F⟩ := E.f_require_sign_width
  exact ⟨_, fd, E.g_require_sign_width, F.kp, h fd F, F.bindsN fun _ _ _ _ _ _ us hl => match us, hl with | [_], _ => rfl⟩
abbrev ps_all_signs : List Str := ["width"]
theorem EnvP.f_all_signs (E : EnvP K mg base) : ∃ fd, FunD K "all_signs" "all_signs" (defArgs s_all_signs) (defBody s_all_signs) (defScope s_all_signs) (d_all_signs.dvs K) (d_all_signs.kws K) (He.fAd K ("all_signs", none)) fd := E.says.def_ 31 (d := d_all_signs) rfl
abbrev N_all_signs : List Str := ["width", "found", "place", "row", "sign"]
theorem sc_all_signs : FnScope N_all_signs ps_all_signs (defScope s_all_signs) := ⟨rfl, rfl, rfl, by decide +kernel, rfl, by decide +kernel, by decide +kernel⟩
theorem EnvP.cal_all_signs (E : EnvP K mg base) {k : Nat} {sp : Sp} (h : ∀ fd, FunD K "all_signs" "all_signs" (defArgs s_all_signs) (defBody s_all_signs) (defScope s_all_signs) [] (d_all_signs.kws K) (He.fAd K ("all_signs", none)) fd → FnG P w K mg base CX0 k (He.fAd K ("all_signs", none)) fd ps_all_signs sp) : CalP P w K mg base "all_signs" k ps_all_signs sp := by
  obtain ⟨fd, F⟩ := E.f_all_signs
  exact ⟨_, fd, E.g_all_signs, F.kp, h fd F, F.bindsN fun _ _ _ _ _ _ us hl => match us, hl with | [_], _ => rfl⟩
abbrev ps_sign_shift : List Str := ["rows", "width"]
theorem EnvP.f_sign_shift (E : EnvP K mg base) : ∃ fd, FunD K "sign_shift" "sign_shift" (defArgs s_sign_shift) (defBody s_sign_shift) (defScope s_sign_shift) (d_sign_shift.dvs K) (d_sign_shift.kws K) (He.fAd K ("sign_shift", none)) fd := E.says.def_ 32 (d := d_sign_shift) rfl
abbrev N_sign_shift : List Str := ["rows", "width", "wanted", "signs", "row"]
theorem sc_sign_shift : FnScope N_sign_shift ps_sign_shift (defScope s_sign_shift) := ⟨rfl, rfl, rfl, by decide +kernel, rfl, by decide +kernel, by decide +kernel⟩
theorem EnvP.calK_sign_shift (E : EnvP K mg base) {k : Nat} {sp : Sp} (h : ∀ fd, FunD K "sign_shift" "sign_shift" (defArgs s_sign_shift) (defBody s_sign_shift) (defScope s_sign_shift) [] (d_sign_shift.kws K) (He.fAd K ("sign_shift", none)) fd → FnG P w K mg base CX0 k (He.fAd K ("sign_shift", none)) fd ps_sign_shift sp) : CalK P w K mg base "sign_shift" k ps_sign_shift 1 ["width"] (fun a b => a ++ b) sp := by
  obtain ⟨fd, F⟩ := E.f_sign_shift
  exact ⟨_, fd, _, E.g_sign_shift, F.kp, h fd F, kbindsN F 1 ["width"] fun _ _ _ _ _ _ us ws hl hm => match us, ws, hl, hm with | [_], [_], _, _ => rfl⟩
abbrev ps_completing_rows : List Str := ["rows", "width"]
theorem EnvP.f_completing_rows (E : EnvP K mg base) : ∃ fd, FunD K "completing_rows" "completing_rows" (defArgs s_completing_rows) (defBody s_completing_rows) (defScope s_completing_rows) (d_completing_rows.dvs K) (d_completing_rows.kws K) (He.fAd K ("completing_rows", none)) fd := E.says.def_ 33 (d := d_completing_rows) rfl
abbrev N_completing_rows : List Str := ["rows", "width", "signs", "found", "index", "row", "one"]
theorem sc_completing_rows : FnScope N_completing_rows ps_completing_rows (defScope s_completing_rows) := ⟨rfl, rfl, rfl, by decide +kernel, rfl, by decide +kernel, by decide +kernel⟩
theorem EnvP.calK_completing_rows (E : EnvP K mg base) {k : Nat} {sp : Sp} (h : ∀ fd, FunD K "completing_rows" "completing_rows" (defArgs s_completing_rows) (defBody s_completing_rows) (defScope s_completing_rows) [] (d_completing_rows.kws K) (He.fAd K ("completing_rows", none)) fd → FnG P w K mg base CX0 k (He.fAd K ("completing_rows", none)) fd ps_completing_rows sp) : CalK P w K mg base "completing_rows" k ps_completing_rows 1 ["width"] (fun a b => a ++ b) sp := by
  obtain ⟨fd, F⟩ := E.f_completing_rows
  exact ⟨_, fd, _, E.g_completing_rows, F.kp, h fd F, kbindsN F 1 ["width"] fun _ _ _ _ _ _ us ws hl hm => match us, ws, hl, hm with | [_], [_], _, _ => rfl⟩
abbrev ps_law_pot : List Str := ["script", "k"]
theorem EnvP.f_law_pot (E : EnvP K mg base) : ∃ fd, FunD K "_law_pot" "_law_pot" (defArgs s_law_pot) (defBody s_law_pot) (defScope s_law_pot) (d_law_pot.dvs K) (d_law_pot.kws K) (He.fAd K ("_law_pot", none)) fd := E.says.def_ 34 (d := d_law_pot) rfl
abbrev N_law_pot : List Str := ["script", "k", "cell"]
theorem sc_law_pot : FnScope N_law_pot ps_law_pot (defScope s_law_pot) := ⟨rfl, rfl, rfl, by decide +kernel, rfl, by decide +kernel, by decide +kernel⟩
theorem EnvP.cal_law_pot (E : EnvP K mg base) {k : Nat} {sp : Sp} (h : ∀ fd, FunD K "_law_pot" "_law_pot" (defArgs s_law_pot) (defBody s_law_pot) (defScope s_law_pot) [] (d_law_pot.kws K) (He.fAd K ("_law_pot", none)) fd → FnG P w K mg base CX0 k (He.fAd K ("_law_pot", none)) fd ps_law_pot sp) : CalP P w K mg base "_law_pot" k ps_law_pot sp := by
  obtain ⟨fd, F⟩ := E.f_law_pot
  exact ⟨_, fd, E.g_law_pot, F.kp, h fd F, F.bindsN fun _ _ _ _ _ _ us hl => match us, hl with | [_, _], _ => rfl⟩
abbrev ps_law_digit : List Str := ["pot", "many"]
theorem EnvP.f_law_digit (E : EnvP K mg base) : ∃ fd, FunD K "_law_digit" "_law_digit" (defArgs s_law_digit) (defBody s_law_digit) (defScope s_law_digit) (d_law_digit.dvs K) (d_law_digit.kws K) (He.fAd K ("_law_digit", none)) fd := E.says.def_ 35 (d := d_law_digit) rfl
abbrev N_law_digit : List Str := ["pot", "many", "digit"]
theorem sc_law_digit : FnScope N_law_digit ps_law_digit (defScope s_law_digit) := ⟨rfl, rfl, rfl, by decide +kernel, rfl, by decide +kernel, by decide +kernel⟩
theorem EnvP.cal_law_digit (E : EnvP K mg base) {k : Nat} {sp : Sp} (h : ∀ fd, FunD K "_law_digit" "_law_digit" (defArgs s_law_digit) (defBody s_law_digit) (defScope s_law_digit) [] (d_law_digit.kws K) (He.fAd K ("_law_digit", none)) fd → FnG P w K mg base CX0 k (He.fAd K ("_law_digit", none)) fd ps_law_digit sp) : CalP P w K mg base "_law_digit" k ps_law_digit sp := by
  obtain ⟨fd, F⟩ := E.f_law_digit
  exact ⟨_, fd, E.g_law_digit, F.kp, h fd F, F.bindsN fun _ _ _ _ _ _ us hl => match us, hl with | [_, _], _ => rfl⟩
abbrev ps_law_pick : List Str := ["pot", "some"]
theorem EnvP.f_law_pick (E : EnvP K mg base) : ∃ fd, FunD K "_law_pick" "_law_pick" (defArgs s_law_pick) (defBody s_law_pick) (defScope s_law_pick) (d_law_pick.dvs K) (d_law_pick.kws K) (He.fAd K ("_law_pick", none)) fd := E.says.def_ 36 (d := d_law_pick) rfl
abbrev N_law_pick : List Str := ["pot", "some"]
theorem sc_law_pick : FnScope N_law_pick ps_law_pick (defScope s_law_pick) := ⟨rfl, rfl, rfl, by decide +kernel, rfl, by decide +kernel, by decide +kernel⟩
theorem EnvP.cal_law_pick (E : EnvP K mg base) {k : Nat} {sp : Sp} (h : ∀ fd, FunD K "_law_pick" "_law_pick" (defArgs s_law_pick) (defBody s_law_pick) (defScope s_law_pick) [] (d_law_pick.kws K) (He.fAd K ("_law_pick", none)) fd → FnG P w K mg base CX0 k (He.fAd K ("_law_pick", none)) fd ps_law_pick sp) : CalP P w K mg base "_law_pick" k ps_law_pick sp := by
  obtain ⟨fd, F⟩ := E.f_law_pick
  exact ⟨_, fd, E.g_law_pick, F.kp, h fd F, F.bindsN fun _ _ _ _ _ _ us hl => match us, hl with | [_, _], _ => rfl⟩
abbrev ps_law_integer : List Str := ["pot"]
theorem EnvP.f_law_integer (E : EnvP K mg base) : ∃ fd, FunD K "_law_integer" "_law_integer" (defArgs s_law_integer) (defBody s_law_integer) (defScope s_law_integer) (d_law_integer.dvs K) (d_law_integer.kws K) (He.fAd K ("_law_integer", none)) fd := E.says.def_ 37 (d := d_law_integer) rfl
abbrev N_law_integer : List Str := ["pot", "way"]
theorem sc_law_integer : FnScope N_law_integer ps_law_integer (defScope s_law_integer) := ⟨rfl, rfl, rfl, by decide +kernel, rfl, by decide +kernel, by decide +kernel⟩
theorem EnvP.cal_law_integer (E : EnvP K mg base) {k : Nat} {sp : Sp} (h : ∀ fd, FunD K "_law_integer" "_law_integer" (defArgs s_law_integer) (defBody s_law_integer) (defScope s_law_integer) [] (d_law_integer.kws K) (He.fAd K ("_law_integer", none)) fd → FnG P w K mg base CX0 k (He.fAd K ("_law_integer", none)) fd ps_law_integer sp) : CalP P w K mg base "_law_integer" k ps_law_integer sp := by
  obtain ⟨fd, F⟩ := E.f_law_integer
  exact ⟨_, fd, E.g_law_integer, F.kp, h fd F, F.bindsN fun _ _ _ _ _ _ us hl => match us, hl with | [_], _ => rfl⟩
abbrev ps_law_dot : List Str := ["one", "other"]
theorem EnvP.f_law_dot (E : EnvP K mg base) : ∃ fd, FunD K "_law_dot" "_law_dot" (defArgs s_law_dot) (defBody s_law_dot) (defScope s_law_dot) (d_law_dot.dvs K) (d_law_dot.kws K) (He.fAd K ("_law_dot", none)) fd := E.says.def_ 38 (d := d_law_dot) rfl
abbrev N_law_dot : List Str := ["one", "other", "a", "b"]
theorem sc_law_dot : FnScope N_law_dot ps_law_dot (defScope s_law_dot) := ⟨rfl, rfl, rfl, by decide +kernel, rfl, by decide +kernel, by decide +kernel⟩
theorem EnvP.cal_law_dot (E : EnvP K mg base) {k : Nat} {sp : Sp} (h : ∀ fd, FunD K "_law_dot" "_law_dot" (defArgs s_law_dot) (defBody s_law_dot) (defScope s_law_dot) [] (d_law_dot.kws K) (He.fAd K ("_law_dot", none)) fd → FnG P w K mg base CX0 k (He.fAd K ("_law_dot", none)) fd ps_law_dot sp) : CalP P w K mg base "_law_dot" k ps_law_dot sp := by
  obtain ⟨fd, F⟩ := E.f_law_dot
  exact ⟨_, fd, E.g_law_dot, F.kp, h fd F, F.bindsN fun _ _ _ _ _ _ us hl => match us, hl with | [_, _], _ => rfl⟩
abbrev ps_law_halved : List Str := ["vectors", "line"]
theorem EnvP.f_law_halved (E : EnvP K mg base) : ∃ fd, FunD K "_law_halved" "_law_halved" (defArgs s_law_halved) (defBody s_law_halved) (defScope s_law_halved) (d_law_halved.dvs K) (d_law_halved.kws K) (He.fAd K ("_law_halved", none)) fd := E.says.def_ 39 (d := d_law_halved) rfl
abbrev N_law_halved : List Str := ["vectors", "line", "left", "vector", "sums", "one", "least", "at", "k", "times", "a", "b"]
theorem sc_law_halved : FnScope N_law_halved ps_law_halved (defScope s_law_halved) := ⟨rfl, rfl, rfl, by decide +kernel, rfl, by decide +kernel, by decide +kernel⟩
theorem EnvP.cal_law_halved (E : EnvP K mg base) {k : Nat} {sp : Sp} (h : ∀ fd, FunD K "_law_halved" "_law_halved" (defArgs s_law_halved) (defBody s_law_halved) (defScope s_law_halved) [] (d_law_halved.kws K) (He.fAd K ("_law_halved", none)) fd → FnG P w K mg base CX0 k (He.fAd K ("_law_halved", none)) fd ps_law_halved sp) : CalP P w K mg base "_law_halved" k ps_law_halved sp := by
  obtain ⟨fd, F⟩ := E.f_law_halved
  exact ⟨_, fd, E.g_law_halved, F.kp, h fd F, F.bindsN fun _ _ _ _ _ _ us hl => match us, hl with | [_, _], _ => rfl⟩
abbrev ps_law_kernel : List Str := ["table", "many"]
theorem EnvP.f_law_kernel (E : EnvP K mg base) : ∃ fd, FunD K "_law_kernel" "_law_kernel" (defArgs s_law_kernel) (defBody s_law_kernel) (defScope s_law_kernel) (d_law_kernel.dvs K) (d_law_kernel.kws K) (He.fAd K ("_law_kernel", none)) fd := E.says.def_ 40 (d := d_law_kernel) rfl
abbrev N_law_kernel : List Str := ["table", "many", "left", "k", "at", "line"]
theorem sc_law_kernel : FnScope N_law_kernel ps_law_kernel (defScope s_law_kernel) := ⟨rfl, rfl, rfl, by decide +kernel, rfl, by decide +kernel, by decide +kernel⟩
theorem EnvP.cal_law_kernel (E : EnvP K mg base) {k : Nat} {sp : Sp} (h : ∀ fd, FunD K "_law_kernel" "_law_kernel" (defArgs s_law_kernel) (defBody s_law_kernel) (defScope s_law_kernel) [] (d_law_kernel.kws K) (He.fAd K ("_law_kernel", none)) fd → FnG P w K mg base CX0 k (He.fAd K ("_law_kernel", none)) fd ps_law_kernel sp) : CalP P w K mg base "_law_kernel" k ps_law_kernel sp := by
  obtain ⟨fd, F⟩ := E.f_law_kernel
  exact ⟨_, fd, E.g_law_kernel, F.kp, h fd F, F.bindsN fun _ _ _ _ _ _ us hl => match us, hl with | [_, _], _ => rfl⟩
abbrev ps_law_is_known : List Str := ["table", "many", "line"]
theorem EnvP.f_law_is_known (E : EnvP K mg base) : ∃ fd, FunD K "_law_is_known" "_law_is_known" (defArgs s_law_is_known) (defBody s_law_is_known) (defScope s_law_is_known) (d_law_is_known.dvs K) (d_law_is_known.kws K) (He.fAd K ("_law_is_known", none)) fd := E.says.def_ 41 (d := d_law_is_known) rfl
abbrev N_law_is_known : List Str := ["table", "many", "line", "vector"]
theorem sc_law_is_known : FnScope N_law_is_known ps_law_is_known (defScope s_law_is_known) := ⟨rfl, rfl, rfl, by decide +kernel, rfl, by decide +kernel, by decide +kernel⟩
theorem EnvP.cal_law_is_known (E : EnvP K mg base) {k : Nat} {sp : Sp} (h : ∀ fd, FunD K "_law_is_known" "_law_is_known" (defArgs s_law_is_known) (defBody s_law_is_known) (defScope s_law_is_known) [] (d_law_is_known.kws K) (He.fAd K ("_law_is_known", none)) fd → FnG P w K mg base CX0 k (He.fAd K ("_law_is_known", none)) fd ps_law_is_known sp) : CalP P w K mg base "_law_is_known" k ps_law_is_known sp := by
  obtain ⟨fd, F⟩ := E.f_law_is_known
  exact ⟨_, fd, E.g_law_is_known, F.kp, h fd F, F.bindsN fun _ _ _ _ _ _ us hl => match us, hl with | [_, _, _], _ => rfl⟩
abbrev ps_law_table : List Str := ["pot", "many", "most"]
theorem EnvP.f_law_table (E : EnvP K mg base) : ∃ fd, FunD K "_law_table" "_law_table" (defArgs s_law_table) (defBody s_law_table) (defScope s_law_table) (d_law_table.dvs K) (d_law_table.kws K) (He.fAd K ("_law_table", none)) fd := E.says.def_ 42 (d := d_law_table) rfl
abbrev N_law_table : List Str := ["pot", "many", "most", "found", "turn", "way", "at", "times", "line", "k", "number", "a", "b"]
theorem sc_law_table : FnScope N_law_table ps_law_table (defScope s_law_table) := ⟨rfl, rfl, rfl, by decide +kernel, rfl, by decide +kernel, by decide +kernel⟩
theorem EnvP.cal_law_table (E : EnvP K mg base) {k : Nat} {sp : Sp} (h : ∀ fd, FunD K "_law_table" "_law_table" (defArgs s_law_table) (defBody s_law_table) (defScope s_law_table) [] (d_law_table.kws K) (He.fAd K ("_law_table", none)) fd → FnG P w K mg base CX0 k (He.fAd K ("_law_table", none)) fd ps_law_table sp) : CalP P w K mg base "_law_table" k ps_law_table sp := by
  obtain ⟨fd, F⟩ := E.f_law_table
  exact ⟨_, fd, E.g_law_table, F.kp, h fd F, F.bindsN fun _ _ _ _ _ _ us hl => match us, hl with | [_, _, _], _ => rfl⟩
abbrev ps_law_signs : List Str := ["many"]
theorem EnvP.f_law_signs (E : EnvP K mg base) : ∃ fd, FunD K "_law_signs" "_law_signs" (defArgs s_law_signs) (defBody s_law_signs) (defScope s_law_signs) (d_law_signs.dvs K) (d_law_signs.kws K) (He.fAd K ("_law_signs", none)) fd := E.says.def_ 43 (d := d_law_signs) rfl
abbrev N_law_signs : List Str := ["many", "found", "k", "some"]
theorem sc_law_signs : FnScope N_law_signs ps_law_signs (defScope s_law_signs) := ⟨rfl, rfl, rfl, by decide +kernel, rfl, by decide +kernel, by decide +kernel⟩
theorem EnvP.cal_law_signs (E : EnvP K mg base) {k : Nat} {sp : Sp} (h : ∀ fd, FunD K "_law_signs" "_law_signs" (defArgs s_law_signs) (defBody s_law_signs) (defScope s_law_signs) [] (d_law_signs.kws K) (He.fAd K ("_law_signs", none)) fd → FnG P w K mg base CX0 k (He.fAd K ("_law_signs", none)) fd ps_law_signs sp) : CalP P w K mg base "_law_signs" k ps_law_signs sp := by
  obtain ⟨fd, F⟩ := E.f_law_signs
  exact ⟨_, fd, E.g_law_signs, F.kp, h fd F, F.bindsN fun _ _ _ _ _ _ us hl => match us, hl with | [_], _ => rfl⟩
abbrev ps_law_signed_table : List Str := ["pot", "many", "most"]
theorem EnvP.f_law_signed_table (E : EnvP K mg base) : ∃ fd, FunD K "_law_signed_table" "_law_signed_table" (defArgs s_law_signed_table) (defBody s_law_signed_table) (defScope s_law_signed_table) (d_law_signed_table.dvs K) (d_law_signed_table.kws K) (He.fAd K ("_law_signed_table", none)) fd := E.says.def_ 44 (d := d_law_signed_table) rfl
abbrev N_law_signed_table : List Str := ["pot", "many", "most", "signs", "found", "k", "spoils", "line"]
theorem sc_law_signed_table : FnScope N_law_signed_table ps_law_signed_table (defScope s_law_signed_table) := ⟨rfl, rfl, rfl, by decide +kernel, rfl, by decide +kernel, by decide +kernel⟩
theorem EnvP.cal_law_signed_table (E : EnvP K mg base) {k : Nat} {sp : Sp} (h : ∀ fd, FunD K "_law_signed_table" "_law_signed_table" (defArgs s_law_signed_table) (defBody s_law_signed_table) (defScope s_law_signed_table) [] (d_law_signed_table.kws K) (He.fAd K ("_law_signed_table", none)) fd → FnG P w K mg base CX0 k (He.fAd K ("_law_signed_table", none)) fd ps_law_signed_table sp) : CalP P w K mg base "_law_signed_table" k ps_law_signed_table sp := by
  obtain ⟨fd, F⟩ := E.f_law_signed_table
  exact ⟨_, fd, E.g_law_signed_table, F.kp, h fd F, F.bindsN fun _ _ _ _ _ _ us hl => match us, hl with | [_, _, _], _ => rfl⟩
abbrev ps_law_completes : List Str := ["table", "many", "found"]
theorem EnvP.f_law_completes (E : EnvP K mg base) : ∃ fd, FunD K "_law_completes" "_law_completes" (defArgs s_law_completes) (defBody s_law_completes) (defScope s_law_completes) (d_law_completes.dvs K) (d_law_completes.kws K) (He.fAd K ("_law_completes", none)) fd := E.says.def_ 45 (d := d_law_completes) rfl
abbrev N_law_completes : List Str := ["table", "many", "found", "longer", "line", "basis", "entry"]
theorem sc_law_completes : FnScope N_law_completes ps_law_completes (defScope s_law_completes) := ⟨rfl, rfl, rfl, by decide +kernel, rfl, by decide +kernel, by decide +kernel⟩
theorem EnvP.cal_law_completes (E : EnvP K mg base) {k : Nat} {sp : Sp} (h : ∀ fd, FunD K "_law_completes" "_law_completes" (defArgs s_law_completes) (defBody s_law_completes) (defScope s_law_completes) [] (d_law_completes.kws K) (He.fAd K ("_law_completes", none)) fd → FnG P w K mg base CX0 k (He.fAd K ("_law_completes", none)) fd ps_law_completes sp) : CalP P w K mg base "_law_completes" k ps_law_completes sp := by
  obtain ⟨fd, F⟩ := E.f_law_completes
  exact ⟨_, fd, E.g_law_completes, F.kp, h fd F, F.bindsN fun _ _ _ _ _ _ us hl => match us, hl with | [_, _, _], _ => rfl⟩
abbrev ps_law_right : List Str := ["pot"]
theorem EnvP.f_law_right (E : EnvP K mg base) : ∃ fd, FunD K "_law_right" "_law_right" (defArgs s_law_right) (defBody s_law_right) (defScope s_law_right) (d_law_right.dvs K) (d_law_right.kws K) (He.fAd K ("_law_right", none)) fd := E.says.def_ 46 (d := d_law_right) rfl
abbrev N_law_right : List Str := ["pot", "many", "table", "has_signs", "line", "signs", "shown", "given", "found"]
theorem sc_law_right : FnScope N_law_right ps_law_right (defScope s_law_right) := ⟨rfl, rfl, rfl, by decide +kernel, rfl, by decide +kernel, by decide +kernel⟩
theorem EnvP.cal_law_right (E : EnvP K mg base) {k : Nat} {sp : Sp} (h : ∀ fd, FunD K "_law_right" "_law_right" (defArgs s_law_right) (defBody s_law_right) (defScope s_law_right) [] (d_law_right.kws K) (He.fAd K ("_law_right", none)) fd → FnG P w K mg base CX0 k (He.fAd K ("_law_right", none)) fd ps_law_right sp) : CalP P w K mg base "_law_right" k ps_law_right sp := by
  obtain ⟨fd, F⟩ := E.f_law_right
  exact ⟨_, fd, E.g_law_right, F.kp, h fd F, F.bindsN fun _ _ _ _ _ _ us hl => match us, hl with | [_], _ => rfl⟩
abbrev ps_law : List Str := ["script"]
theorem EnvP.f_law (E : EnvP K mg base) : ∃ fd, FunD K "law" "law" (defArgs s_law) (defBody s_law) (defScope s_law) (d_law.dvs K) (d_law.kws K) (He.fAd K ("law", none)) fd := E.says.def_ 47 (d := d_law) rfl
abbrev N_law : List Str := ["script", "k"]
theorem sc_law : FnScope N_law ps_law (defScope s_law) := ⟨rfl, rfl, rfl, by decide +kernel, rfl, by decide +kernel, by decide +kernel⟩
theorem EnvP.cal_law (E : EnvP K mg base) {k : Nat} {sp : Sp} (h : ∀ fd, FunD K "law" "law" (defArgs s_law) (defBody s_law) (defScope s_law) [] (d_law.kws K) (He.fAd K ("law", none)) fd → FnG P w K mg base CX0 k (He.fAd K ("law", none)) fd ps_law sp) : CalP P w K mg base "law" k ps_law sp := by
  obtain ⟨fd, F⟩ := E.f_law
  exact ⟨_, fd, E.g_law, F.kp, h fd F, F.bindsN fun _ _ _ _ _ _ us hl => match us, hl with | [_], _ => rfl⟩
end
end Pr
namespace Pr
open PySem L2 GL
section
variable {P : Program} {w : World} {K : PySem.W.Frag} {mg : Str → Option Value} {base : Heap}
abbrev dInts (xs : List Int) : D := .lst (xs.map D.int)
def sq : Bool → List D → D
  | true, xs => .tup xs
  | false, xs => .lst xs
abbrev sInts (t : Bool) (xs : List Int) : D := sq t (xs.map D.int)
theorem boot_int : bootBuiltins "int" = some (.type "int") := by decide +kernel
theorem boot_bool : bootBuiltins "bool" = some (.type "bool") := by decide +kernel
theorem boot_list : bootBuiltins "list" = some (.type "list") := by decide +kernel
theorem boot_tuple : bootBuiltins "tuple" = some (.type "tuple") := by decide +kernel
theorem kit_ii : kitB "int" "int" = some true := by decide +kernel
theorem kit_ib : kitB "int" "bool" = some false := by decide +kernel
theorem kit_ll : kitB "list" "list" = some true := by decide +kernel
theorem kit_lt : kitB "list" "tuple" = some false := by decide +kernel
theorem kit_tl : kitB "tuple" "list" = some false := by decide +kernel
theorem kit_tt : kitB "tuple" "tuple" = some true := by decide +kernel
theorem ok_is_integer (E : EnvP K mg base) : CalP P w K mg base "is_integer" 1 ps_is_integer (spV K (fun _ : Int => True) (fun i => [.int i]) fun _ => .bl true) :=
  E.cal_is_integer fun fd F => fn_G F sc_is_integer (fun _ => rfl) fun i hp cdv A outer s H hr =>
    bl_ret ((ev_and2 (ev_isi E.b_isinstance E.b_int boot_int (ev_var 0) rfl kit_ii) fun _ => ev_not (ev_isi E.b_isinstance E.b_bool boot_bool (ev_var 0) rfl kit_ib)).eq rfl) ⟨rfl, rfl⟩
theorem ok_are_integers (E : EnvP K mg base) : CalP P w K mg base "are_integers" 2 ps_are_integers (spV K (fun _ : Bool × List Int => True) (fun i => [sInts i.1 i.2]) fun _ => .bl true) :=
  E.cal_are_integers fun fd F => fn_G F sc_are_integers (fun _ => rfl) fun i hp cdv A outer s H hr => by
    obtain ⟨t, xs⟩ := i
    cases t with
    | false =>
      exact bl_ret ((ev_and2 ((ev_isi2 E.b_isinstance E.b_list E.b_tuple boot_list boot_tuple (ev_var 0) rfl kit_ll kit_lt).eq rfl) fun _ =>
        (ev_allM (f := fun _ => true) E.b_all (EvL.ev (evl_map1 1 sc_are_integers.nd (ei_list (ev_var 0)) (blkOk_by (N := N_are_integers) (sc := defScope s_are_integers) (by decide +kernel)) (fun _ _ _ _ _ => pg_name sc_are_integers.nd rfl (Or.inl rfl))
          (fun x hx _ _ _ _ _ => ev_callV x (ok_is_integer E) hr trivial (ea_cons (ev_var 1) ea_nil))))).eq (by simp)) : Ev _ _ _ _ (.bl (true && true)) _) ⟨rfl, rfl⟩
    | true =>
      exact bl_ret ((ev_and2 ((ev_isi2 E.b_isinstance E.b_list E.b_tuple boot_list boot_tuple (ev_var 0) rfl kit_tl kit_tt).eq rfl) fun _ =>
        (ev_allM (f := fun _ => true) E.b_all (EvL.ev (evl_map1 1 sc_are_integers.nd (ei_tup (ev_var 0)) (blkOk_by (N := N_are_integers) (sc := defScope s_are_integers) (by decide +kernel)) (fun _ _ _ _ _ => pg_name sc_are_integers.nd rfl (Or.inl rfl))
          (fun x hx _ _ _ _ _ => ev_callV x (ok_is_integer E) hr trivial (ea_cons (ev_var 1) ea_nil))))).eq (by simp)) : Ev _ _ _ _ (.bl (true && true)) _) ⟨rfl, rfl⟩
theorem ok_is_width (E : EnvP K mg base) : CalP P w K mg base "is_width" 2 ps_is_width (spV K (fun i : Int => 1 ≤ i ∧ i ≤ 16) (fun i => [.int i]) fun _ => .bl true) :=
  E.cal_is_width fun fd F => fn_G F sc_is_width (fun _ => rfl) fun i hp cdv A outer s H hr =>
    bl_ret ((ev_and2 (ev_callV i (ok_is_integer E) hr trivial (ea_cons (ev_var 0) ea_nil)) fun _ => ev_leLe (by with_unfolding_all rfl) ev_int (ev_var 0) (ev_gint E.c_MAX_WIDTH)).eq (by simp [hp.1, hp.2])) ⟨rfl, rfl⟩
theorem ok_require_width (E : EnvP K mg base) : CalP P w K mg base "require_width" 3 ps_require_width (spV K (fun i : Int => 1 ≤ i ∧ i ≤ 16) (fun i => [.int i]) fun _ => .non) :=
  E.cal_require_width fun fd F => fn_G F sc_require_width (fun _ => rfl) fun i hp cdv A outer s H hr =>
    bl_ifF (et_not (ev_callV i (ok_is_width E) hr hp (ea_cons (ev_var 0) ea_nil)).et) (bl_nil (bl_nil ⟨rfl, rfl⟩))
theorem ev_lenQ {X : Cx} {ρ : Ro} {O O1 : List Own} {a : Expr} {p pos : Pos} {t : Bool} {xs : List D} (T : X.mg "len" = none) (ha : Ev X a ρ O (sq t xs) O1) (hg : Gl X "len" := by rfl) (he : starEach [a] X.env = [(false, eval a X.env)] := by rfl) : Ev X (.Call (.Name "len" p) [a] [] pos) ρ O (.int xs.length) O1 := by
  cases t with
  | false => exact ev_lenL T ha hg he
  | true => exact ev_lenT T ha hg he
theorem ok_is_row (E : EnvP K mg base) : CalK P w K mg base "is_row" 4 ps_is_row 1 ["width"] (fun a b => a ++ b) (spV K (fun i : Bool × List Int × Int => i.2.1.length = i.2.2 ∧ 1 ≤ i.2.2 ∧ i.2.2 ≤ 16) (fun i => [sInts i.1 i.2.1, .int i.2.2]) fun _ => .bl true) :=
  E.calK_is_row fun fd F => fn_G F sc_is_row (fun _ => rfl) fun i hp cdv A outer s H hr => by
    obtain ⟨t, xs, n⟩ := i
    obtain ⟨h1, h2⟩ := hp
    refine bl_ifT (et_notN (d := .int n) (ev_var 1)) (bl_expr (ev_callV n (ok_require_width E) hr h2 (ea_cons (ev_var 1) ea_nil)) (bl_nil ?_))
    refine bl_ifF (et_not (ev_callV (t, xs) (ok_are_integers E) (hr.mono (by decide)) trivial (ea_cons (ev_var 0) ea_nil)).et) (bl_nil ?_)
    refine bl_ret (d := .bl true) (O1 := []) ((ev_if (O2 := []) (O3 := []) (d1 := .bl true) (p := false) (et_isN (d := .int n) (ev_var 1)) (fun z => by cases z) fun _ => (ev_eqI (ev_lenQ E.b_len (ev_var 0)) (ev_var 1)).eq (by simp [h1])).eq rfl) ⟨rfl, rfl⟩
end
end Pr
namespace Pr
open PySem L2 GL
/-! ### sizes -/
def Sm (k : Nat) (x : Int) : Prop := x.natAbs < 2 ^ k
theorem Sm.mono {j k : Nat} {x : Int} (h : Sm j x) (l : j ≤ k) : Sm k x := Nat.lt_of_lt_of_le h (Nat.pow_le_pow_right (by decide) l)
theorem Sm.mul {j k : Nat} {x y : Int} (h : Sm j x) (h' : Sm k y) : Sm (j + k) (x * y) := by
  unfold Sm at *
  rw [Int.natAbs_mul, Nat.pow_add]
  exact Nat.mul_lt_mul'' h h'
theorem Sm.add {k : Nat} {x y : Int} (h : Sm k x) (h' : Sm k y) : Sm (k + 1) (x + y) := by
  unfold Sm at *
  have := Int.natAbs_add_le x y
  rw [Nat.pow_succ]
  omega
theorem Sm.neg {k : Nat} {x : Int} (h : Sm k x) : Sm k (-x) := by
  unfold Sm at *
  rwa [Int.natAbs_neg]
theorem Sm.sub {k : Nat} {x y : Int} (h : Sm k x) (h' : Sm k y) : Sm (k + 1) (x - y) := by
  rw [Int.sub_eq_add_neg]; exact h.add h'.neg
theorem Sm.zero {k : Nat} : Sm k 0 := by unfold Sm; exact Nat.two_pow_pos k
theorem Sm.of_le {k : Nat} {x y : Int} (h : Sm k x) (l : y.natAbs ≤ x.natAbs) : Sm k y := Nat.lt_of_le_of_lt l h
theorem Sm.log {k : Nat} {x : Int} (h : Sm k x) : x.natAbs.log2 ≤ k := by
  unfold Sm at h
  by_cases h0 : x.natAbs = 0
  · rw [h0]; exact Nat.zero_le _
  · exact Nat.le_of_lt ((Nat.log2_lt h0).mpr h)
theorem Sm.fdiv {k : Nat} {x y : Int} (h : Sm k x) (hy : y ≠ 0) : Sm k (x.fdiv y) := by
  refine h.of_le ?_
  rcases Int.lt_or_gt_of_ne hy with q | q
  · have e : x.fdiv y = (-x).fdiv (-y) := (Int.neg_fdiv_neg x y).symm
    rw [e, Int.fdiv_eq_ediv_of_nonneg _ (by omega), ← Int.natAbs_neg x]
    exact Int.natAbs_ediv_le_natAbs _ _
  · rw [Int.fdiv_eq_ediv_of_nonneg _ (by omega)]
    exact Int.natAbs_ediv_le_natAbs _ _
def bigB : Nat := 60000000
theorem Sm.ok {j k : Nat} {x y : Int} (h : Sm j x) (h' : Sm k y) (hj : j ≤ bigB) (hk : k ≤ bigB) : GL.MulOk x y := by
  have e : bigB = 60000000 := rfl
  have := h.log
  have := h'.log
  unfold GL.MulOk
  omega

/-! ### the extended divisor -/
theorem fdm (l r : Int) (h : r ≠ 0) : (0 < r → 0 ≤ l - l.fdiv r * r ∧ l - l.fdiv r * r < r) ∧ (r < 0 → r < l - l.fdiv r * r ∧ l - l.fdiv r * r ≤ 0) := by
  have e : l - l.fdiv r * r = l.fmod r := by rw [Int.fmod_def, Int.mul_comm]
  rw [e]
  exact ⟨fun q => ⟨Int.fmod_nonneg_of_pos l q, Int.fmod_lt_of_pos l q⟩, fun q => ⟨by
    have := Int.fmod_lt_of_pos (-l) (b := -r) (by omega)
    rw [Int.neg_fmod_neg] at this
    omega, by
    have := Int.fmod_nonneg_of_pos (-l) (b := -r) (by omega)
    rw [Int.neg_fmod_neg] at this
    omega⟩⟩
structure Eg where
  l : Int
  r : Int
  a : Int
  b : Int
  c : Int
  d : Int
def Eg.next (s : Eg) : Eg := ⟨s.r, s.l - s.l.fdiv s.r * s.r, s.b, s.a - s.l.fdiv s.r * s.b, s.d, s.c - s.l.fdiv s.r * s.d⟩
structure EgI (A B : Int) (s : Eg) : Prop where
  lin1 : s.l = s.a * A + s.c * B
  lin2 : s.r = s.b * A + s.d * B
  dv : ∀ k : Int, k ∣ s.l → k ∣ s.r → k ∣ A ∧ k ∣ B
  ne : s.l ≠ 0
  sz : s.l.natAbs ≤ A.natAbs + B.natAbs ∧ s.r.natAbs ≤ A.natAbs + B.natAbs
  u1 : s.a.natAbs * s.r.natAbs + s.b.natAbs * s.l.natAbs ≤ B.natAbs
  ac : s.a.natAbs ≤ B.natAbs ∧ s.c.natAbs ≤ A.natAbs
  bd : s.b.natAbs ≤ B.natAbs ∧ s.d.natAbs ≤ A.natAbs
  sg : (0 ≤ s.l * s.r ∧ s.c.natAbs * s.r.natAbs + s.d.natAbs * s.l.natAbs ≤ A.natAbs) ∨ (B < 0 ∧ s.a = 1 ∧ s.b = 0 ∧ s.c = 0 ∧ s.d = 1 ∧ s.l = A ∧ s.r = B) ∨ (B < 0 ∧ s.c = 1 ∧ 1 ≤ s.d ∧ s.l = B ∧ s.r ≤ 0 ∧ B < s.r ∧ s.r = A + s.d * B)
theorem EgI.start {A B : Int} (hA : 0 < A) (hB : B ≠ 0) : EgI A B ⟨A, B, 1, 0, 0, 1⟩ :=
  ⟨by simp, by simp, fun k h1 h2 => ⟨h1, h2⟩, by show A ≠ 0; omega, by simp, by simp <;> omega, by simp <;> omega, by simp <;> omega, by
    rcases Int.lt_or_gt_of_ne hB with q | q
    · exact .inr (.inl ⟨q, rfl, rfl, rfl, rfl, rfl, rfl⟩)
    · exact .inl ⟨Int.mul_nonneg (Int.le_of_lt hA) (Int.le_of_lt q), by simp⟩⟩
theorem eg_cross (a b q r : Int) : (a - q * b).natAbs * r.natAbs ≤ a.natAbs * r.natAbs + b.natAbs * (q * r).natAbs := by
  have e : (a - q * b) * r = a * r - b * (q * r) := by
    rw [Int.sub_mul]
    congr 1
    rw [Int.mul_comm q b, Int.mul_assoc]
  rw [← Int.natAbs_mul, e, ← Int.natAbs_mul, ← Int.natAbs_mul]
  omega
theorem eg_down {a b q r l r' : Int} (h : (q * r).natAbs + r'.natAbs ≤ l.natAbs) : b.natAbs * r'.natAbs + (a - q * b).natAbs * r.natAbs ≤ a.natAbs * r.natAbs + b.natAbs * l.natAbs := by
  have c := eg_cross a b q r
  have m := Nat.mul_le_mul_left b.natAbs h
  rw [Nat.mul_add] at m
  omega
theorem le_of_mul {x y z : Nat} (h : x * y ≤ z) (hy : y ≠ 0) : x ≤ z := Nat.le_trans (Nat.le_mul_of_pos_right x (Nat.pos_of_ne_zero hy)) h
theorem eg_same {l r : Int} (hr : r ≠ 0) (hs : 0 ≤ l * r) : (l.fdiv r * r).natAbs + (l - l.fdiv r * r).natAbs ≤ l.natAbs := by
  obtain ⟨f1, f2⟩ := fdm l r hr
  rcases Int.lt_or_gt_of_ne hr with q | q
  · have hl : l ≤ 0 := by
      rcases Int.lt_or_le 0 l with z | z
      · have := Int.mul_neg_of_pos_of_neg z q; omega
      · exact z
    have h3 : l.fdiv r * r ≤ 0 := by
      have : 0 ≤ l.fdiv r := by
        rw [← Int.neg_fdiv_neg]
        exact Int.fdiv_nonneg (by omega) (by omega)
      exact Int.mul_nonpos_of_nonneg_of_nonpos this (by omega)
    have := f2 q
    omega
  · have hl : 0 ≤ l := by
      rcases Int.lt_or_le l 0 with z | z
      · have := Int.mul_neg_of_neg_of_pos z q; omega
      · exact z
    have h3 : 0 ≤ l.fdiv r * r := Int.mul_nonneg (Int.fdiv_nonneg hl (by omega)) (by omega)
    have := f1 q
    omega
theorem EgI.step {A B : Int} {s : Eg} (h : EgI A B s) (hA : 0 < A) (hr : s.r ≠ 0) : EgI A B s.next ∧ s.next.r.natAbs < s.r.natAbs := by
  obtain ⟨f1, f2⟩ := fdm s.l s.r hr
  have hdec : (s.l - s.l.fdiv s.r * s.r).natAbs < s.r.natAbs := by
    rcases Int.lt_or_gt_of_ne hr with q | q
    · have := f2 q; omega
    · have := f1 q; omega
  have hsg : 0 ≤ s.r * (s.l - s.l.fdiv s.r * s.r) := by
    rcases Int.lt_or_gt_of_ne hr with q | q
    · exact Int.mul_nonneg_of_nonpos_of_nonpos (by omega) (f2 q).2
    · exact Int.mul_nonneg (by omega) (f1 q).1
  have hu1 : s.b.natAbs * (s.l - s.l.fdiv s.r * s.r).natAbs + (s.a - s.l.fdiv s.r * s.b).natAbs * s.r.natAbs ≤ B.natAbs := by
    rcases h.sg with ⟨q, _⟩ | ⟨_, e1, e2, _, _, _, e6⟩ | ⟨q, e1, e2, e3, e4, _⟩
    · exact Nat.le_trans (eg_down (eg_same hr q)) h.u1
    · rw [e1, e2]; simp [e6]
    · exact Nat.le_trans (eg_down (eg_same hr (by rw [e3]; exact Int.mul_nonneg_of_nonpos_of_nonpos (by omega) e4))) h.u1
  -- the new second coefficient, and the new case
  have hnew : ((0 ≤ s.r * (s.l - s.l.fdiv s.r * s.r) ∧ s.d.natAbs * (s.l - s.l.fdiv s.r * s.r).natAbs + (s.c - s.l.fdiv s.r * s.d).natAbs * s.r.natAbs ≤ A.natAbs) ∨
      (B < 0 ∧ s.d = 1 ∧ 1 ≤ s.c - s.l.fdiv s.r * s.d ∧ s.r = B ∧ s.l - s.l.fdiv s.r * s.r ≤ 0 ∧ B < s.l - s.l.fdiv s.r * s.r ∧ s.l - s.l.fdiv s.r * s.r = A + (s.c - s.l.fdiv s.r * s.d) * B)) ∧ (s.c - s.l.fdiv s.r * s.d).natAbs ≤ A.natAbs := by
    rcases h.sg with ⟨q, u2⟩ | ⟨hB, e1, e2, e3, e4, e5, e6⟩ | ⟨hB, e1, e2, e3, e4, e5, e6⟩
    · have z := Nat.le_trans (eg_down (a := s.c) (b := s.d) (eg_same hr q)) u2
      exact ⟨.inl ⟨hsg, z⟩, le_of_mul (Nat.le_trans (Nat.le_add_left _ _) z) (by omega)⟩
    · rw [e5, e6] at f2
      rw [e3, e4, e5, e6]
      obtain ⟨g1, g2⟩ := f2 hB
      have hq : A.fdiv B ≤ -1 := by
        rcases Int.lt_or_le (A.fdiv B) 0 with z | z
        · omega
        · have := Int.mul_nonpos_of_nonneg_of_nonpos z (by omega : B ≤ 0); omega
      have hq2 : -(A.fdiv B) ≤ A := by
        rcases Int.lt_or_le A (-(A.fdiv B)) with z | z
        · have h1 : (A.fdiv B + 1) * B ≥ (A.fdiv B + 1) * (-1) := Int.mul_le_mul_of_nonpos_left (by omega) (by omega)
          rw [Int.add_mul] at h1
          omega
        · exact z
      refine ⟨.inr ⟨hB, rfl, by omega, rfl, g2, g1, ?_⟩, by omega⟩
      simp only [Int.mul_one, Int.zero_sub, Int.neg_mul]
      omega
    · obtain ⟨g1, g2⟩ := f2 (by omega)
      have hl : 0 ≤ s.l * s.r := by rw [e3]; exact Int.mul_nonneg_of_nonpos_of_nonpos (by omega) e4
      have h2 : 1 ≤ s.l.fdiv s.r := by
        rcases Int.lt_or_le (s.l.fdiv s.r) 1 with z | z
        · have h3 : 0 ≤ s.l.fdiv s.r := by
            rw [← Int.neg_fdiv_neg]
            exact Int.fdiv_nonneg (by omega) (by omega)
          have h4 : s.l.fdiv s.r = 0 := by omega
          rw [h4] at g1
          omega
        · exact z
      generalize s.l.fdiv s.r = t at *
      have h5 : 1 ≤ t * s.d := by
        have := Int.mul_le_mul_of_nonneg_left e2 (by omega : (0 : Int) ≤ t)
        omega
      have key : s.d * -(s.l - t * s.r) + (t * s.d - 1) * (-s.r) = A := by
        rw [e6, e3]
        grind
      have z : s.d.natAbs * (s.l - t * s.r).natAbs + (s.c - t * s.d).natAbs * s.r.natAbs ≤ A.natAbs := by
        have k1 : s.d.natAbs * (s.l - t * s.r).natAbs = (s.d * -(s.l - t * s.r)).natAbs := by rw [Int.natAbs_mul, Int.natAbs_neg]
        have k2 : (s.c - t * s.d).natAbs * s.r.natAbs = ((t * s.d - 1) * (-s.r)).natAbs := by
          rw [Int.natAbs_mul, Int.natAbs_neg, e1, ← Int.natAbs_neg (1 - t * s.d)]
          congr 2
          omega
        rw [k1, k2]
        have n1 : 0 ≤ s.d * -(s.l - t * s.r) := Int.mul_nonneg (by omega) (by omega)
        have n2 : 0 ≤ (t * s.d - 1) * (-s.r) := Int.mul_nonneg (by omega) (by omega)
        omega
      exact ⟨.inl ⟨hsg, z⟩, le_of_mul (Nat.le_trans (Nat.le_add_left _ _) z) (by omega)⟩
  obtain ⟨hn, hd⟩ := hnew
  refine ⟨⟨h.lin2, ?_, fun k h1 h2 => ?_, hr, ⟨h.sz.2, by have := h.sz.2; show (s.l - s.l.fdiv s.r * s.r).natAbs ≤ _; omega⟩, hu1, h.bd, ⟨le_of_mul (Nat.le_trans (Nat.le_add_left _ _) hu1) (by omega), hd⟩, ?_⟩, hdec⟩
  · show s.l - s.l.fdiv s.r * s.r = (s.a - s.l.fdiv s.r * s.b) * A + (s.c - s.l.fdiv s.r * s.d) * B
    have e1 := h.lin1
    have e2 := h.lin2
    generalize s.l.fdiv s.r = t
    rw [Int.sub_mul, Int.sub_mul, Int.mul_assoc, Int.mul_assoc]
    have : t * s.r = t * (s.b * A) + t * (s.d * B) := by rw [← Int.mul_add, ← e2]
    omega
  · refine h.dv k ?_ h1
    have h2 : k ∣ s.l - s.l.fdiv s.r * s.r := h2
    have h3 : k ∣ s.l.fdiv s.r * s.r := Int.dvd_mul_of_dvd_right h1
    have := Int.dvd_add h2 h3
    rwa [Int.sub_add_cancel] at this
  · rcases hn with q | q
    · exact .inl q
    · exact .inr (.inr q)
theorem sm_lin {k : Nat} {A B x : Int} (hA : Sm k A) (hB : Sm k B) (h : x.natAbs ≤ A.natAbs + B.natAbs) : Sm (k + 2) x := by
  unfold Sm at *
  rw [Nat.pow_add]
  omega
section
variable {P : Program} {w : World} {K : PySem.W.Frag} {mg : Str → Option Value} {base : Heap}
/-- where the library's division may be asked -/
theorem seer_of {CX : CXT} {N : List Str} {qual : Str} {scope : Scope} {f : Addr} {cdv : Value} {A : Around} {outer : List Env} {s : Shared} {H : Hp} {XE : XK} (E : EnvP K mg base) (ht : P.given.tree = none) (hg : scope.isGenerator = false) (hc : scope.isCoroutine = false) (hr : Rm 33 (A.deeper (PyProof.Rows.envOfC qual scope s.heap.objs.size f cdv))) :
    Seer (cxOf CX P w K mg base N qual scope f cdv A outer s H XE).nox :=
  ⟨E.seer, ht, ⟨_, _, rfl, hg, hc, rfl, rfl⟩, by
    have := hr.room.dp
    show (A.deeper _).depth + Builtin.pylongFrames < recursionLimit
    have e1 : Builtin.pylongFrames ≤ 100 := by decide
    have e2 : recursionLimit = 1000 := rfl
    omega⟩
/-- the sizes an extended divisor may have -/
structure ExtOk (A B g x y : Int) : Prop where
  pos : 0 < g
  dA : g ∣ A
  dB : g ∣ B
  lin : x * A + y * B = g
  sx : x.natAbs ≤ B.natAbs
  sy : y.natAbs ≤ A.natAbs
theorem EgI.fin {A B : Int} {s : Eg} (h : EgI A B s) (hr : s.r = 0) : (0 < s.l → ExtOk A B s.l s.a s.c) ∧ (s.l < 0 → ExtOk A B (-s.l) (-s.a) (-s.c)) := by
  obtain ⟨d1, d2⟩ := h.dv s.l (Int.dvd_refl _) (by rw [hr]; exact Int.dvd_zero _)
  have e := h.lin1
  refine ⟨fun q => ⟨q, d1, d2, e.symm, h.ac.1, h.ac.2⟩, fun q => ⟨by omega, Int.neg_dvd.mpr d1, Int.neg_dvd.mpr d2, ?_, by rw [Int.natAbs_neg]; exact h.ac.1, by rw [Int.natAbs_neg]; exact h.ac.2⟩⟩
  rw [Int.neg_mul, Int.neg_mul]
  omega
abbrev egRo (A B : D) (s : Eg) (t : Option D) : Ro := [some A, some B, some (.int s.l), some (.int s.r), some (.int s.a), some (.int s.b), some (.int s.c), some (.int s.d), t]
theorem ok_extended_divisor (E : EnvP K mg base) (ht : P.given.tree = none) : CalP P w K mg base "extended_divisor" 34 ps_extended_divisor
    (spG K (fun i : Int × Int => 0 < i.1 ∧ i.2 ≠ 0 ∧ ∃ k, Sm k i.1 ∧ Sm k i.2 ∧ k + 2 ≤ bigB) (fun i => [.int i.1, .int i.2]) (fun _ => []) fun i d O' => ∃ g x y, d = .tup [.int g, .int x, .int y] ∧ ExtOk i.1 i.2 g x y ∧ O' = []) :=
  E.cal_extended_divisor fun fd F => fn_G F sc_extended_divisor (fun _ => rfl) fun i hp cdv A outer s H hr => by
    obtain ⟨a, b⟩ := i
    obtain ⟨h0, hb0, k, ka, kb, kk⟩ := hp
    have S := seer_of (w := w) (outer := outer) (H := H) (XE := E0) (CX := CX0) (N := N_extended_divisor) E ht rfl rfl hr
    refine bl_par 2 3 sc_extended_divisor.nd (ea_cons (d := .int a) (ev_var 0) (ea_cons (d := .int b) (ev_var 1) ea_nil)) ?_ rfl
    refine bl_asg (pg_tup rfl (pgs_cons (pg_name (i := 4) sc_extended_divisor.nd rfl (Or.inl rfl)) (pgs_cons (pg_name (i := 5) sc_extended_divisor.nd rfl (Or.inl rfl)) (pgs_cons (pg_name (i := 6) sc_extended_divisor.nd rfl (Or.inl rfl)) (pgs_cons (pg_name (i := 7) sc_extended_divisor.nd rfl (Or.inl rfl)) pgs_nil)))))
      (ev_tup (ds := [.int 1, .int 0, .int 0, .int 1]) (ea_cons ev_int (ea_cons ev_int (ea_cons ev_int (ea_cons ev_int ea_nil)))))
      (gok_tup (gsok_cons (is := [4]) (gok_name 4) (gsok_cons (is := [5]) (gok_name 5) (gsok_cons (is := [6]) (gok_name 6) (gsok_cons (is := [7]) (gok_name 7) gsok_nil))))) ?_
    refine bl_while (fun m r o => ∃ (z : Eg) (t : Option D), r = egRo (.int a) (.int b) z t ∧ o = [] ∧ EgI a b z ∧ m = z.r.natAbs) PassesOwn.never b.natAbs ⟨⟨a, b, 1, 0, 0, 1⟩, none, rfl, rfl, .start h0 hb0, rfl⟩ ?_
    rintro m r o ⟨z, t, rfl, rfl, hz, rfl⟩
    refine ⟨!decide (z.r = 0), [], et_neI (ev_var 3) ev_int, fun hq => ?_, fun hq => ?_⟩
    · have hr0 : z.r ≠ 0 := by simpa using hq
      have sl : Sm (k + 2) z.l := sm_lin ka kb (by have := hz.sz; omega)
      have sr : Sm (k + 2) z.r := sm_lin ka kb (by have := hz.sz; omega)
      have sb : Sm (k + 2) z.b := sm_lin ka kb (by have := hz.bd; omega)
      have sd : Sm (k + 2) z.d := sm_lin ka kb (by have := hz.bd; omega)
      have st : Sm (k + 2) (z.l.fdiv z.r) := sl.fdiv hr0
      refine bl_set 8 sc_extended_divisor.nd (ev_fdivA S (ev_var 2) (ev_var 3) hr0) ?_
      refine bl_par 2 3 sc_extended_divisor.nd (ea_cons (d := .int z.r) (ev_var 3) (ea_cons (ev_sub (ev_var 2) (ev_mul (ev_var 8) (ev_var 3) (st.ok sr kk kk))) ea_nil)) ?_ rfl
      refine bl_par 4 5 sc_extended_divisor.nd (ea_cons (d := .int z.b) (ev_var 5) (ea_cons (ev_sub (ev_var 4) (ev_mul (ev_var 8) (ev_var 5) (st.ok sb kk kk))) ea_nil)) ?_ rfl
      refine bl_par 6 7 sc_extended_divisor.nd (ea_cons (d := .int z.d) (ev_var 7) (ea_cons (ev_sub (ev_var 6) (ev_mul (ev_var 8) (ev_var 7) (st.ok sd kk kk))) ea_nil)) ?_ rfl
      obtain ⟨n1, n2⟩ := hz.step h0 hr0
      exact bl_nil ⟨_, n2, z.next, _, rfl, rfl, n1, rfl⟩
    · have hr0 : z.r = 0 := by simpa using hq
      obtain ⟨f1, f2⟩ := hz.fin hr0
      have hne := hz.ne
      by_cases hl : 0 < z.l
      · refine bl_ret (d := .tup [.int z.l, .int z.a, .int z.c]) (O1 := []) ((ev_if (p := true) (O2 := []) (O3 := []) (d2 := .non) ((et_gt (ev_var 2) ev_int).eq (by simp [hl])) (fun _ => ev_tup (ea_cons (ev_var 2) (ea_cons (ev_var 4) (ea_cons (ev_var 6) ea_nil))) ) fun z => by cases z).eq rfl) ⟨_, _, _, rfl, f1 hl, rfl⟩
      · refine bl_ret (d := .tup [.int (-z.l), .int (-z.a), .int (-z.c)]) (O1 := []) ((ev_if (p := false) (O2 := []) (O3 := []) (d1 := .non) ((et_gt (ev_var 2) ev_int).eq (by simp [hl])) (fun z => by cases z) fun _ => ev_tup (ea_cons (ev_neg (ev_var 2)) (ea_cons (ev_neg (ev_var 4)) (ea_cons (ev_neg (ev_var 6)) ea_nil)))).eq rfl) ⟨_, _, _, rfl, f2 (by omega), rfl⟩
end
end Pr
namespace Pr
open PySem L2 GL
section
variable {P : Program} {w : World} {K : PySem.W.Frag} {mg : Str → Option Value} {base : Heap}
def dot (a b : List Int) : Int := ((a.zip b).map fun p => p.1 * p.2).sum
def comb (a : Int) (x : List Int) (b : Int) (y : List Int) : List Int := (x.zip y).map fun p => a * p.1 + b * p.2
def SmL (k : Nat) (xs : List Int) : Prop := ∀ x ∈ xs, Sm k x
abbrev pg2 {Y : Cx} {n m : Str} {pn pm pt : Pos} {kt i j : Nat} (h1 : PG Y (.Name n pn) (gName i)) (h2 : PG Y (.Name m pm) (gName j)) (hc : Y.calm = true := by rfl)
    (hs1 : (assignEach [.Name n pn, .Name m pm] Y.env).map (·.2) = assign (.Name n pn) Y.env :: (assignEach [.Name m pm] Y.env).map (·.2) := by rfl) (hs2 : (assignEach [.Name m pm] Y.env).map (·.2) = assign (.Name m pm) Y.env :: (assignEach [] Y.env).map (·.2) := by rfl)
    (hn : (assignEach [.Name n pn, .Name m pm] Y.env).length = 2 := by rfl) (hst : (assignEach [.Name n pn, .Name m pm] Y.env).findIdx? (·.1) = none := by rfl) :
    PG Y (.Tuple [.Name n pn, .Name m pm] kt pt) (gTup Y.K 2 (gCons (gName i) (gCons (gName j) gNil))) := pg_tup hc (pgs_cons h1 (pgs_cons h2 pgs_nil hs2) hs1) hn hst
theorem ok_product (E : EnvP K mg base) : CalP P w K mg base "product" 1 ps_product (spV K (fun i : List Int × List Int => ∃ j k, SmL j i.1 ∧ SmL k i.2 ∧ j ≤ bigB ∧ k ≤ bigB) (fun i => [dInts i.1, dInts i.2]) fun i => .int (dot i.1 i.2)) :=
  E.cal_product fun fd F => fn_G F sc_product (fun _ => rfl) fun i ⟨j, k, hj, hk, lj, lk⟩ cdv A outer s H hr =>
    bl_ret (ev_sumM E.b_sum (EvL.ev (evl_map2 2 3 sc_product.nd (ei_zipT E.b_zip (ea_cons (ev_var 0) (ea_cons (ev_var 1) ea_nil))) (blkOk_by (N := N_product) (sc := defScope s_product) (by decide +kernel))
      (fun _ _ _ _ _ => pg2 (pg_name sc_product.nd rfl (Or.inl rfl)) (pg_name sc_product.nd rfl (Or.inl rfl)))
      (fun x hx _ _ _ _ _ => ev_mul (ev_var 2) (ev_var 3) ((hj _ (List.of_mem_zip hx).1).ok (hk _ (List.of_mem_zip hx).2) lj lk))))) ⟨rfl, rfl⟩
structure CombOk (a : Int) (x : List Int) (b : Int) (y : List Int) : Prop where
  ex : ∃ j k l m, Sm j a ∧ SmL k x ∧ Sm l b ∧ SmL m y ∧ j ≤ bigB ∧ k ≤ bigB ∧ l ≤ bigB ∧ m ≤ bigB
theorem ok_summed (E : EnvP K mg base) : CalP P w K mg base "summed" 1 ps_summed (spV K (fun i : Int × List Int × Int × List Int => CombOk i.1 i.2.1 i.2.2.1 i.2.2.2) (fun i => [.int i.1, dInts i.2.1, .int i.2.2.1, dInts i.2.2.2]) fun i => dInts (comb i.1 i.2.1 i.2.2.1 i.2.2.2)) :=
  E.cal_summed fun fd F => fn_G F sc_summed (fun _ => rfl) fun i ⟨j, k, l, m, h1, h2, h3, h4, l1, l2, l3, l4⟩ cdv A outer s H hr =>
    bl_ret ((EvL.ev (evl_map2 4 5 sc_summed.nd (ei_zipT E.b_zip (ea_cons (ev_var 1) (ea_cons (ev_var 3) ea_nil))) (blkOk_by (N := N_summed) (sc := defScope s_summed) (by decide +kernel))
      (fun _ _ _ _ _ => pg2 (pg_name sc_summed.nd rfl (Or.inl rfl)) (pg_name sc_summed.nd rfl (Or.inl rfl)))
      (f := fun p : Int × Int => .int (i.1 * p.1 + i.2.2.1 * p.2))
      (fun x hx _ _ _ _ _ => ev_add (ev_mul (ev_var 0) (ev_var 4) (h1.ok (h2 _ (List.of_mem_zip hx).1) l1 l2)) (ev_mul (ev_var 2) (ev_var 5) (h3.ok (h4 _ (List.of_mem_zip hx).2) l3 l4))))).eq (by show D.lst _ = D.lst ((comb _ _ _ _).map D.int); unfold comb; rw [List.map_map]; rfl)) ⟨rfl, rfl⟩
abbrev dRows2 (xss : List (List Int)) : D := .lst (xss.map dInts)
abbrev dRows (t t' : Bool) (xss : List (List Int)) : D := sq t (xss.map (sInts t'))
theorem ei_sq {X : Cx} {ρ : Ro} {O O1 : List Own} {e tg : Expr} {t : Bool} {xs : List D} (h : Ev X e ρ O (sq t xs) O1) : Ei X tg e ρ O xs O1 := by
  cases t with
  | false => exact ei_list h
  | true => exact ei_tup h
theorem ei_enumQ {X : Cx} {ρ : Ro} {O O1 : List Own} {a : Expr} {p pos : Pos} {t : Bool} {α : Type} {xs : List α} {gx : α → D} {elts : List Expr} {kk : Nat} {tpos : Pos} (T : X.mg "enumerate" = none) (h : Ev X a ρ O (sq t (xs.map gx)) O1) (hg : Gl X "enumerate" := by rfl) (hs : starEach [a] X.env = [(false, eval a X.env)] := by rfl) :
    Ei X (.Tuple elts kk tpos) (.Call (.Name "enumerate" p) [a] [] pos) ρ O (xs.zipIdx.map fun q => D.tup [D.int (q.2 : Nat), gx q.1]) O1 := by
  cases t with
  | false => exact ei_enumT T h hg hs
  | true =>
    have := ei_enumTup (p := p) (pos := pos) (elts := elts) (kk := kk) (tpos := tpos) T h hg hs
    rw [enumD_map] at this
    exact this
theorem evn_listQ {X : Cx} {ρ : Ro} {O O1 : List Own} {a : Expr} {p pos : Pos} {t : Bool} {xs : List D} (T : X.mg "list" = none) (ha : Ev X a ρ O (sq t xs) O1) (hg : Gl X "list" := by rfl) (he : starEach [a] X.env = [(false, eval a X.env)] := by rfl) : EvN X (.Call (.Name "list" p) [a] [] pos) ρ O xs O1 := by
  cases t with
  | false => exact evn_listL T ha hg he
  | true => exact evn_listT T ha hg he
theorem ev_isiQ {X : Cx} {ρ : Ro} {O O1 : List Own} {a : Expr} {p pos : Pos} {t : Bool} {xs : List D} {p1 p2 pt : Pos} {kt : Nat} (M : X.mg "isinstance" = none) (M1 : X.mg "list" = none) (M2 : X.mg "tuple" = none) (ha : Ev X a ρ O (sq t xs) O1)
    (hg : Gl X "isinstance" := by rfl) (hg1 : Gl X "list" := by rfl) (hg2 : Gl X "tuple" := by rfl)
    (hs1 : starEach [.Name "list" p1, .Name "tuple" p2] X.env = (false, eval (.Name "list" p1) X.env) :: starEach [.Name "tuple" p2] X.env := by rfl) (hs2 : starEach [.Name "tuple" p2] X.env = [(false, eval (.Name "tuple" p2) X.env)] := by rfl)
    (he : starEach [a, .Tuple [.Name "list" p1, .Name "tuple" p2] kt pt] X.env = (false, eval a X.env) :: starEach [.Tuple [.Name "list" p1, .Name "tuple" p2] kt pt] X.env := by rfl) (he2 : starEach [.Tuple [.Name "list" p1, .Name "tuple" p2] kt pt] X.env = [(false, eval (.Tuple [.Name "list" p1, .Name "tuple" p2] kt pt) X.env)] := by rfl) :
    Ev X (.Call (.Name "isinstance" p) [a, .Tuple [.Name "list" p1, .Name "tuple" p2] kt pt] [] pos) ρ O (.bl true) O1 := by
  cases t with
  | false => exact (ev_isi2 M M1 M2 boot_list boot_tuple ha rfl kit_ll kit_lt hg hg1 hg2 (by decide) (by decide) (by decide) (by decide) hs1 hs2 he he2).eq rfl
  | true => exact (ev_isi2 M M1 M2 boot_list boot_tuple ha rfl kit_tl kit_tt hg hg1 hg2 (by decide) (by decide) (by decide) (by decide) hs1 hs2 he he2).eq rfl
structure RowsOk (xss : List (List Int)) (n : Int) : Prop where
  lo : 1 ≤ n
  hi : n ≤ 16
  len : ∀ xs ∈ xss, (xs.length : Int) = n
theorem ok_require_rows (E : EnvP K mg base) : CalP P w K mg base "require_rows" 6 ps_require_rows (spV K (fun i : Bool × Bool × List (List Int) × Int => RowsOk i.2.2.1 i.2.2.2) (fun i => [dRows i.1 i.2.1 i.2.2.1, .int i.2.2.2]) fun i => .lst (i.2.2.1.map dInts)) :=
  E.cal_require_rows fun fd F => fn_G F sc_require_rows (fun _ => rfl) fun i hp cdv A outer s H hr => by
    obtain ⟨t, t', xss, n⟩ := i
    refine bl_expr (ev_callV n (ok_require_width E) (hr.mono (by decide)) ⟨hp.lo, hp.hi⟩ (ea_cons (ev_var 1) ea_nil)) ?_
    refine bl_ifF (et_not (ev_isiQ E.b_isinstance E.b_list E.b_tuple (ev_var 0)).et) (bl_nil ?_)
    refine bl_for2 (xs := xss.zipIdx) (g1 := fun q => .int (q.2 : Nat)) (g2 := fun q => sInts t' q.1) 2 3 (fun _ r o => o = [] ∧ ∃ a b, r = [some (dRows t t' xss), some (.int n), a, b]) PassesOwn.never sc_require_rows.nd (ei_enumQ E.b_enumerate (ev_var 0)) ⟨rfl, none, none, rfl⟩
      (fun i x r o hx ho => ?_) (fun r o ho => ?_) (pg2 (pg_name sc_require_rows.nd rfl (Or.inl rfl)) (pg_name sc_require_rows.nd rfl (Or.inl rfl)))
    · obtain ⟨rfl, a, b, rfl⟩ := ho
      have hm : x.1 ∈ xss := (List.mem_zipIdx' (List.mem_of_getElem? hx)).2 ▸ List.getElem_mem _
      refine bl_ifF (et_not (ev_callKV (t', x.1, n) (ok_is_row E) (hr.mono (by decide)) ⟨hp.len _ hm, hp.lo, hp.hi⟩ (ea_cons (ev_var 3) ea_nil) (ek_cons (ev_var 1) ek_nil) rfl).et) (bl_nil (bl_nil ⟨rfl, _, _, rfl⟩))
    · obtain ⟨rfl, a, b, rfl⟩ := ho
      exact bl_ret (EvL.ev (evl_map1 (f := dInts) 3 sc_require_rows.nd (ei_sq (ev_var 0)) (blkOk_by (N := N_require_rows) (sc := defScope s_require_rows) (by decide +kernel)) (fun _ _ _ _ _ => pg_name sc_require_rows.nd rfl (Or.inl rfl))
        (fun x hx _ _ _ _ _ => (evn_listQ E.b_list (ev_var 3)).ev))) ⟨rfl, rfl⟩
end
end Pr
namespace Pr
open PySem L2 GL
/-! ### vectors -/
theorem getD_lt {xs : List Int} {i : Nat} (h : i < xs.length) : xs.getD i 0 = xs[i] := by simp [h]
theorem getD_ge {xs : List Int} {i : Nat} (h : xs.length ≤ i) : xs.getD i 0 = 0 := by simp [h]
theorem comb_len {a b : Int} {x y : List Int} (h : x.length = y.length) : (comb a x b y).length = x.length := by simp [comb, h]
theorem comb_get {a b : Int} {x y : List Int} (h : x.length = y.length) (j : Nat) : (comb a x b y).getD j 0 = a * x.getD j 0 + b * y.getD j 0 := by
  by_cases hj : j < x.length
  · have hy : j < y.length := by omega
    rw [getD_lt (by rw [comb_len h]; exact hj), getD_lt hj, getD_lt hy]
    simp [comb]
  · have hy : ¬ j < y.length := by omega
    have hz : ¬ j < (comb a x b y).length := by rw [comb_len h]; exact hj
    rw [getD_ge (by omega), getD_ge (by omega), getD_ge (by omega)]
    simp
theorem vec_ext {x y : List Int} (h : x.length = y.length) (e : ∀ j, j < x.length → x.getD j 0 = y.getD j 0) : x = y := by
  refine List.ext_getElem h fun j h1 h2 => ?_
  have := e j h1
  rwa [getD_lt h1, getD_lt h2] at this
theorem dot_comb {a b : Int} : ∀ {x y s : List Int}, x.length = y.length → dot (comb a x b y) s = a * dot x s + b * dot y s
  | [], [], s, _ => by simp [comb, dot]
  | x :: xs, y :: ys, [], _ => by simp [dot]
  | x :: xs, y :: ys, s :: ss, h => by
    have ih := dot_comb (a := a) (b := b) (x := xs) (y := ys) (s := ss) (by simpa using h)
    simp only [comb, dot, List.zip_cons_cons, List.map_cons, List.sum_cons] at ih ⊢
    rw [ih]
    grind
  | [], _ :: _, _, h => by simp at h
  | _ :: _, [], _, h => by simp at h
def zeros (n : Nat) : List Int := List.replicate n 0
theorem zeros_get {n j : Nat} : (zeros n).getD j 0 = 0 := by
  unfold zeros
  by_cases h : j < n
  · simp [h]
  · exact getD_ge (by simp; omega)
theorem dot_zeros : ∀ {n : Nat} {s : List Int}, dot (zeros n) s = 0
  | 0, s => by simp [zeros, dot]
  | n + 1, [] => by simp [dot]
  | n + 1, s :: ss => by
    have ih := dot_zeros (n := n) (s := ss)
    simp only [zeros, List.replicate_succ, dot, List.zip_cons_cons, List.map_cons, List.sum_cons] at ih ⊢
    rw [ih]; simp
/-- all sums of multiples -/
inductive Spn (n : Nat) (G : List Int → Prop) : List Int → Prop where
  | gen {x : List Int} (h : G x) : Spn n G x
  | zero : Spn n G (zeros n)
  | comb {x y : List Int} (a b : Int) (hx : Spn n G x) (hy : Spn n G y) : Spn n G (comb a x b y)
theorem Spn.trans {n : Nat} {G G' : List Int → Prop} (h : ∀ x, G x → Spn n G' x) {v : List Int} (k : Spn n G v) : Spn n G' v := by
  induction k with
  | gen g => exact h _ g
  | zero => exact .zero
  | comb a b _ _ ih1 ih2 => exact .comb a b ih1 ih2
theorem Spn.len {n : Nat} {G : List Int → Prop} (h : ∀ x, G x → x.length = n) {v : List Int} (k : Spn n G v) : v.length = n := by
  induction k with
  | gen g => exact h _ g
  | zero => simp [zeros]
  | comb a b _ _ ih1 ih2 => rw [comb_len (ih1.trans ih2.symm), ih1]
theorem Spn.orth {n : Nat} {G : List Int → Prop} {s : List Int} (hl : ∀ x, G x → x.length = n) (h : ∀ x, G x → dot x s = 0) {v : List Int} (k : Spn n G v) : dot v s = 0 := by
  have : v.length = n ∧ dot v s = 0 := by
    induction k with
    | gen g => exact ⟨hl _ g, h _ g⟩
    | zero => exact ⟨by simp [zeros], dot_zeros⟩
    | comb a b _ _ ih1 ih2 =>
      refine ⟨by rw [comb_len (ih1.1.trans ih2.1.symm), ih1.1], ?_⟩
      rw [dot_comb (ih1.1.trans ih2.1.symm), ih1.2, ih2.2]; simp
  exact this.2
/-- what one step makes of two rows -/
structure Crs (a : Nat) (x y x' y' : List Int) : Prop where
  lx : x'.length = x.length
  ly : y'.length = x.length
  pos : 0 < x'.getD a 0
  zero : y'.getD a 0 = 0
  fx : ∃ p q, x' = comb p x q y
  fy : ∃ p q, y' = comb p x q y
  gx : ∃ p q, x = comb p x' q y'
  gy : ∃ p q, y = comb p x' q y'
  sm : ∀ k l, SmL k x → SmL l y → SmL (k + l + 1) x' ∧ SmL (k + l + 1) y'
theorem comb_sm {a b : Int} {x y : List Int} {k : Nat} (h1 : ∀ u ∈ x, Sm k (a * u)) (h2 : ∀ u ∈ y, Sm k (b * u)) : SmL (k + 1) (comb a x b y) := fun z hz => by
  obtain ⟨p, hp, rfl⟩ := List.mem_map.mp hz
  exact (h1 _ (List.of_mem_zip hp).1).add (h2 _ (List.of_mem_zip hp).2)
theorem SmL.mono {j k : Nat} {x : List Int} (h : SmL j x) (l : j ≤ k) : SmL k x := fun u hu => (h u hu).mono l
theorem SmL.get {k : Nat} {x : List Int} (h : SmL k x) (j : Nat) : Sm k (x.getD j 0) := by
  by_cases hj : j < x.length
  · rw [getD_lt hj]; exact h _ (List.getElem_mem _)
  · rw [getD_ge (by omega)]; exact .zero
theorem comb_comb {p q r s t u : Int} {x y : List Int} (h : x.length = y.length) : comb p (comb r x s y) q (comb t x u y) = comb (p * r + q * t) x (p * s + q * u) y := by
  have l1 := comb_len (a := r) (b := s) h
  have l2 := comb_len (a := t) (b := u) h
  refine vec_ext (by rw [comb_len (l1.trans l2.symm), l1, comb_len h]) fun j _ => ?_
  rw [comb_get (l1.trans l2.symm), comb_get h, comb_get h, comb_get h]
  grind
theorem comb_fst {x y : List Int} (h : x.length = y.length) : comb 1 x 0 y = x := vec_ext (comb_len h) fun j _ => by rw [comb_get h]; simp
theorem comb_snd {x y : List Int} (h : x.length = y.length) : comb 0 x 1 y = y := vec_ext ((comb_len h).trans h) fun j _ => by rw [comb_get h]; simp
theorem comb_swap {a b : Int} {x y : List Int} (h : x.length = y.length) : comb a x b y = comb b y a x := vec_ext (by rw [comb_len h, comb_len h.symm, h]) fun j _ => by rw [comb_get h, comb_get h.symm, Int.add_comm]
/-- the step that changes both -/
theorem crs_both {a : Nat} {x y : List Int} {g s t : Int} (hl : x.length = y.length) (h : ExtOk (x.getD a 0) (y.getD a 0) g s t) : Crs a x y (comb s x t y) (comb ((x.getD a 0).fdiv g) y (-((y.getD a 0).fdiv g)) x) := by
  obtain ⟨u, hu⟩ := h.dA
  obtain ⟨v, hv⟩ := h.dB
  have hg := h.pos
  have hlin := h.lin
  have eu : (x.getD a 0).fdiv g = u := by rw [hu, Int.mul_fdiv_cancel_left _ (by omega)]
  have ev : (y.getD a 0).fdiv g = v := by rw [hv, Int.mul_fdiv_cancel_left _ (by omega)]
  rw [eu, ev]
  have hd : s * u + t * v = 1 := by
    have : g * (s * u + t * v) = g * 1 := by rw [hu, hv] at hlin; grind
    exact Int.eq_of_mul_eq_mul_left (by omega) this
  have sw : comb u y (-v) x = comb (-v) x u y := comb_swap hl.symm
  rw [sw]
  have l1 : (comb s x t y).length = x.length := comb_len hl
  have l2 : (comb (-v) x u y).length = x.length := comb_len hl
  refine ⟨l1, l2, ?_, ?_, ⟨_, _, rfl⟩, ⟨_, _, rfl⟩, ⟨u, -t, ?_⟩, ⟨v, s, ?_⟩, fun k l hk hl' => ⟨comb_sm (fun z hz => ?_) (fun z hz => ?_), comb_sm (fun z hz => ?_) (fun z hz => ?_)⟩⟩
  · rw [comb_get hl]; omega
  · rw [comb_get hl, hu, hv]; grind
  · rw [comb_comb hl]
    have e1 : u * s + -t * -v = 1 := by grind
    have e2 : u * t + -t * u = 0 := by grind
    rw [e1, e2, comb_fst hl]
  · rw [comb_comb hl]
    have e1 : v * s + s * -v = 0 := by grind
    have e2 : v * t + s * u = 1 := by grind
    rw [e1, e2, comb_snd hl]
  · have := ((hl'.get a).of_le h.sx).mul (hk z hz)
    exact this.mono (by omega)
  · exact ((hk.get a).of_le h.sy).mul (hl' z hz)
  · have : Sm l v := by rw [← ev]; exact (hl'.get a).fdiv (by omega)
    exact (this.neg.mul (hk z hz)).mono (by omega)
  · have : Sm k u := by rw [← eu]; exact (hk.get a).fdiv (by omega)
    exact this.mul (hl' z hz)
/-- .. the row alone -/
theorem crs_row {a : Nat} {x y : List Int} {s t : Int} (hl : x.length = y.length) (hx : 0 < x.getD a 0) (hy : y.getD a 0 ≠ 0) (h : ExtOk (x.getD a 0) (y.getD a 0) (x.getD a 0) s t) : Crs a x y x (comb 1 y (-((y.getD a 0).fdiv (x.getD a 0))) x) := by
  obtain ⟨v, hv⟩ := h.dB
  have ev : (y.getD a 0).fdiv (x.getD a 0) = v := by rw [hv, Int.mul_fdiv_cancel_left _ (by omega)]
  rw [ev, comb_swap hl.symm]
  have l2 : (comb (-v) x 1 y).length = x.length := comb_len hl
  refine ⟨rfl, l2, hx, ?_, ⟨1, 0, (comb_fst hl).symm⟩, ⟨_, _, rfl⟩, ⟨1, 0, (comb_fst l2.symm).symm⟩, ⟨v, 1, ?_⟩, fun k l hk hl' => ⟨hk.mono (by omega), comb_sm (fun z hz => ?_) (fun z hz => ?_)⟩⟩
  · rw [comb_get hl]; grind
  · refine vec_ext (by rw [comb_len l2.symm, hl]) fun j _ => ?_
    rw [comb_get l2.symm, comb_get hl]; grind
  · have : Sm l v := by rw [← ev]; exact (hl'.get a).fdiv (by omega)
    exact (this.neg.mul (hk z hz)).mono (by omega)
  · rw [Int.one_mul]; exact (hl' z hz).mono (by omega)
/-! ### rows by their pivots -/
abbrev Piv := List (Nat × List Int)
def pget (v : Piv) (i : Nat) : Option (List Int) := (v.find? fun p => decide (p.1 = i)).map (·.2)
def pset (v : Piv) (i : Nat) (r : List Int) : Piv := if (v.any fun p => decide (p.1 = i)) = true then v.map (fun p => if p.1 = i then (p.1, r) else p) else v ++ [(i, r)]
def keys (v : Piv) : List Nat := v.map (·.1)
theorem pget_cons {p : Nat × List Int} {v : Piv} {i : Nat} : pget (p :: v) i = if p.1 = i then some p.2 else pget v i := by
  unfold pget
  by_cases h : p.1 = i <;> simp [h]
theorem pget_key {v : Piv} {i : Nat} : (pget v i).isSome = true ↔ i ∈ keys v := by
  induction v with
  | nil => simp [pget, keys]
  | cons p v ih =>
    rw [pget_cons]
    by_cases h : p.1 = i
    · simp [h, keys]
    · rw [if_neg h, ih]
      simp [keys, Ne.symm h]
theorem pget_some {v : Piv} {i : Nat} (h : i ∈ keys v) : ∃ r, pget v i = some r := Option.isSome_iff_exists.mp (pget_key.mpr h)
theorem pget_none {v : Piv} {i : Nat} (h : i ∉ keys v) : pget v i = none := by
  cases e : pget v i with
  | none => rfl
  | some r => exact absurd (pget_key.mp (by rw [e]; rfl)) h
theorem key_of {v : Piv} {i : Nat} {r : List Int} (h : pget v i = some r) : i ∈ keys v := pget_key.mp (by rw [h]; rfl)
theorem pset_any {v : Piv} {i : Nat} : (v.any fun p => decide (p.1 = i)) = true ↔ i ∈ keys v := by simp [keys]
theorem pget_pset {v : Piv} {i j : Nat} {r : List Int} : pget (pset v i r) j = if j = i then some r else pget v j := by
  unfold pset
  split
  · rename_i h
    rw [pset_any] at h
    induction v with
    | nil => simp [keys] at h
    | cons p v ih =>
      rw [List.map_cons, pget_cons, pget_cons]
      by_cases hp : p.1 = i
      · rw [if_pos hp]
        by_cases hj : j = i
        · rw [if_pos hj, hj]; simp [hp]
        · have : ¬ p.1 = j := fun z => hj (z.symm.trans hp)
          simp only [this, hj, if_false]
          by_cases hv : i ∈ keys v
          · rw [ih hv, if_neg hj]
          · have hm : v.map (fun p => if p.1 = i then (p.1, r) else p) = v := by
              conv => rhs; rw [← List.map_id v]
              refine List.map_congr_left fun q hq => ?_
              have : ¬ q.1 = i := fun z => hv (by rw [← z]; exact List.mem_map.mpr ⟨q, hq, rfl⟩)
              simp [this]
            rw [hm]
      · have hv : i ∈ keys v := by
          rcases List.mem_cons.mp h with z | z
          · exact absurd z.symm hp
          · exact z
        rw [if_neg hp, ih hv]
        by_cases hj : p.1 = j
        · have : ¬ j = i := fun z => hp (hj.trans z)
          simp [hj, this]
        · simp [hj]
  · rename_i h
    rw [pset_any] at h
    induction v with
    | nil =>
      rw [List.nil_append, pget_cons]
      by_cases hj : i = j
      · simp [hj]
      · simp [hj, Ne.symm hj, pget]
    | cons p v ih =>
      have h1 : ¬ p.1 = i := fun z => h (by rw [← z]; exact List.mem_cons_self)
      have h2 : i ∉ keys v := fun z => h (List.mem_cons_of_mem _ z)
      rw [List.cons_append, pget_cons, pget_cons, ih h2]
      by_cases hj : p.1 = j
      · have : ¬ j = i := fun z => h1 (hj.trans z)
        simp [hj, this]
      · simp [hj]
theorem keys_pset_in {v : Piv} {i : Nat} {r : List Int} (h : i ∈ keys v) : keys (pset v i r) = keys v := by
  unfold pset keys
  rw [if_pos (pset_any.mpr h), List.map_map]
  refine List.map_congr_left fun p _ => ?_
  by_cases hp : p.1 = i <;> simp [hp]
theorem keys_pset_new {v : Piv} {i : Nat} {r : List Int} (h : i ∉ keys v) : keys (pset v i r) = keys v ++ [i] := by
  unfold pset keys
  rw [if_neg (fun z => h (pset_any.mp z))]
  simp
/-- the number of pivots ahead of i -/
def cnt (ks : List Nat) (i : Nat) : Nat := (ks.filter fun k => decide (k < i)).length
theorem cnt_le {ks : List Nat} {i : Nat} : cnt ks i ≤ ks.length := List.length_filter_le _ _
theorem cnt_succ {ks : List Nat} {i : Nat} (nd : ks.Nodup) : cnt ks (i + 1) = cnt ks i + if i ∈ ks then 1 else 0 := by
  induction ks with
  | nil => simp [cnt]
  | cons k ks ih =>
    have ih := ih (List.nodup_cons.mp nd).2
    have hk := (List.nodup_cons.mp nd).1
    unfold cnt at ih ⊢
    simp only [List.filter_cons]
    by_cases h1 : k < i
    · have h2 : k < i + 1 := by omega
      have h3 : ¬ i = k := by omega
      simp only [h1, h2, decide_true, if_true, List.length_cons, ih, List.mem_cons, h3, false_or]
      omega
    · by_cases h2 : k = i
      · subst h2
        have h3 : k < k + 1 := by omega
        simp [h3, ih, hk]
      · have h3 : ¬ k < i + 1 := by omega
        have h4 : ¬ i = k := fun z => h2 z.symm
        simp only [h1, h3, decide_false, Bool.false_eq_true, if_false, ih, List.mem_cons, h4, false_or]
/-- an increasing list of them -/
theorem sorted_ex : ∀ ks : List Nat, ks.Nodup → ∃ js : List Nat, js.Perm ks ∧ js.Pairwise (· < ·)
  | [], _ => ⟨[], .refl _, .nil⟩
  | k :: ks, h => by
    obtain ⟨js, p, s⟩ := sorted_ex ks (List.nodup_cons.mp h).2
    have hk : k ∉ js := fun z => (List.nodup_cons.mp h).1 (p.mem_iff.mp z)
    have ins : ∀ (js : List Nat), js.Pairwise (· < ·) → k ∉ js → ∃ ls : List Nat, ls.Perm (k :: js) ∧ ls.Pairwise (· < ·) := fun js => by
      induction js with
      | nil => intro _ _; exact ⟨[k], .refl _, by simp⟩
      | cons j js ih =>
        intro s hk
        obtain ⟨s1, s2⟩ := List.pairwise_cons.mp s
        rcases Nat.lt_or_ge k j with q | q
        · exact ⟨k :: j :: js, .refl _, List.pairwise_cons.mpr ⟨fun x hx => by
            rcases List.mem_cons.mp hx with rfl | hx
            · exact q
            · have := s1 x hx; omega, s⟩⟩
        · have hkj : k ≠ j := fun z => hk (by rw [z]; exact List.mem_cons_self)
          obtain ⟨ls, p1, p2⟩ := ih s2 (fun z => hk (List.mem_cons_of_mem _ z))
          refine ⟨j :: ls, (p1.cons j).trans (List.Perm.swap _ _ _), List.pairwise_cons.mpr ⟨fun x hx => ?_, p2⟩⟩
          rcases List.mem_cons.mp (p1.mem_iff.mp hx) with rfl | hx
          · omega
          · exact s1 x hx
    obtain ⟨ls, p1, p2⟩ := ins js s hk
    exact ⟨ls, p1.trans (p.cons k), p2⟩
end Pr
namespace Pr
open PySem L2 GL
/-! ### a small solution: pigeonhole -/
/-- all lists of n numbers below X -/
def vecs (X : Nat) : Nat → List (List Nat)
  | 0 => [[]]
  | n + 1 => (List.range X).flatMap fun a => (vecs X n).map (a :: ·)
theorem flatMap_len {α β : Type} {f : α → List β} {k : Nat} : ∀ {l : List α}, (∀ a ∈ l, (f a).length = k) → (l.flatMap f).length = l.length * k
  | [], _ => by simp
  | a :: l, h => by
    rw [List.flatMap_cons, List.length_append, h a List.mem_cons_self, flatMap_len fun b hb => h b (List.mem_cons_of_mem _ hb), List.length_cons, Nat.add_mul]
    omega
theorem vecs_len (X : Nat) : ∀ n, (vecs X n).length = X ^ n
  | 0 => rfl
  | n + 1 => by
    show ((List.range X).flatMap _).length = _
    rw [flatMap_len (k := X ^ n) fun a _ => by rw [List.length_map, vecs_len X n], List.length_range, Nat.pow_succ, Nat.mul_comm]
theorem vecs_mem {X : Nat} : ∀ {n : Nat} {x : List Nat}, x ∈ vecs X n ↔ x.length = n ∧ ∀ a ∈ x, a < X
  | 0, x => by
    show x ∈ [[]] ↔ _
    constructor
    · intro h
      have : x = [] := by simpa using h
      subst this; exact ⟨rfl, fun a h => by cases h⟩
    · intro h
      have : x = [] := List.eq_nil_of_length_eq_zero h.1
      subst this; simp
  | n + 1, x => by
    show x ∈ (List.range X).flatMap _ ↔ _
    rw [List.mem_flatMap]
    constructor
    · rintro ⟨a, ha, h⟩
      obtain ⟨y, hy, rfl⟩ := List.mem_map.mp h
      obtain ⟨h1, h2⟩ := vecs_mem.mp hy
      refine ⟨by simp [h1], fun b hb => ?_⟩
      rcases List.mem_cons.mp hb with rfl | hb
      · simpa using ha
      · exact h2 b hb
    · rintro ⟨h1, h2⟩
      cases x with
      | nil => simp at h1
      | cons a y => exact ⟨a, by simpa using h2 a List.mem_cons_self, List.mem_map.mpr ⟨y, vecs_mem.mpr ⟨by simpa using h1, fun b hb => h2 b (List.mem_cons_of_mem _ hb)⟩, rfl⟩⟩
theorem nodup_flat {α β : Type} {f : α → List β} : ∀ {l : List α}, l.Nodup → (∀ a ∈ l, (f a).Nodup) → (∀ a ∈ l, ∀ b ∈ l, a ≠ b → ∀ x ∈ f a, x ∉ f b) → (l.flatMap f).Nodup
  | [], _, _, _ => by simp
  | a :: l, nd, h1, h2 => by
    obtain ⟨n1, n2⟩ := List.nodup_cons.mp nd
    rw [List.flatMap_cons]
    refine List.nodup_append.mpr ⟨h1 a List.mem_cons_self, nodup_flat n2 (fun b hb => h1 b (List.mem_cons_of_mem _ hb)) (fun b hb c hc => h2 b (List.mem_cons_of_mem _ hb) c (List.mem_cons_of_mem _ hc)), fun x hx y hy e => ?_⟩
    subst e
    obtain ⟨b, hb, hxb⟩ := List.mem_flatMap.mp hy
    exact h2 a List.mem_cons_self b (List.mem_cons_of_mem _ hb) (fun z => n1 (z ▸ hb)) x hx hxb
theorem nodup_mapI {α β : Type} {f : α → β} : ∀ {l : List α}, l.Nodup → (∀ a ∈ l, ∀ b ∈ l, f a = f b → a = b) → (l.map f).Nodup
  | [], _, _ => by simp
  | a :: l, nd, h => by
    obtain ⟨n1, n2⟩ := List.nodup_cons.mp nd
    rw [List.map_cons]
    refine List.nodup_cons.mpr ⟨fun hm => ?_, nodup_mapI n2 fun b hb c hc => h b (List.mem_cons_of_mem _ hb) c (List.mem_cons_of_mem _ hc)⟩
    obtain ⟨b, hb, e⟩ := List.mem_map.mp hm
    exact n1 (h b (List.mem_cons_of_mem _ hb) a List.mem_cons_self e ▸ hb)
theorem vecs_nodup (X : Nat) : ∀ n, (vecs X n).Nodup
  | 0 => by show ([[]] : List (List Nat)).Nodup; simp
  | n + 1 => nodup_flat List.nodup_range (fun a _ => nodup_mapI (vecs_nodup X n) fun x _ y _ e => (List.cons.inj e).2) fun a _ b _ hab x hx hb => by
    obtain ⟨y, _, rfl⟩ := List.mem_map.mp hx
    obtain ⟨z, _, e⟩ := List.mem_map.mp hb
    exact hab (List.cons.inj e).1.symm
theorem pigeon {α β : Type} {f : α → β} {l : List α} {r : List β} (nd : l.Nodup) (hf : ∀ a ∈ l, f a ∈ r) (hl : r.length < l.length) : ∃ a ∈ l, ∃ b ∈ l, a ≠ b ∧ f a = f b := by
  refine Classical.byContradiction fun hn => ?_
  have inj : ∀ a ∈ l, ∀ b ∈ l, f a = f b → a = b := fun a ha b hb e => Classical.byContradiction fun z => hn ⟨a, ha, b, hb, z, e⟩
  have := (nodup_mapI nd inj).length_le_of_subset (l₂ := r) fun x hx => by
    obtain ⟨a, ha, rfl⟩ := List.mem_map.mp hx
    exact hf a ha
  rw [List.length_map] at this
  omega
abbrev ofN (x : List Nat) : List Int := x.map fun a : Nat => (a : Int)
theorem dot_bound {S X : Nat} : ∀ {a : List Int} {x : List Nat}, SmL S a → (∀ y ∈ x, y ≤ X) → (dot a (ofN x)).natAbs ≤ x.length * (2 ^ S * X)
  | [], x, _, _ => by simp [dot]
  | a :: as, [], _, _ => by simp [dot]
  | a :: as, y :: ys, h, hx => by
    have ih := dot_bound (a := as) (x := ys) (fun z hz => h z (List.mem_cons_of_mem _ hz)) (fun z hz => hx z (List.mem_cons_of_mem _ hz))
    have h1 : a.natAbs < 2 ^ S := h a List.mem_cons_self
    have h2 := hx y List.mem_cons_self
    have e : dot (a :: as) (ofN (y :: ys)) = a * y + dot as (ofN ys) := by simp [dot]
    have h3 : (a * (y : Int)).natAbs ≤ 2 ^ S * X := by
      rw [Int.natAbs_mul]
      exact Nat.mul_le_mul (Nat.le_of_lt h1) (by simpa using h2)
    rw [e, List.length_cons, Nat.add_mul]
    have := Int.natAbs_add_le (a * (y : Int)) (dot as (ofN ys))
    omega
theorem dot_sub {a : List Int} : ∀ {x y : List Int}, x.length = y.length → dot a (comb 1 x (-1) y) = dot a x - dot a y := by
  induction a with
  | nil => intro x y _; simp [dot]
  | cons a as ih =>
    intro x y h
    cases x with
    | nil => cases y with
      | nil => simp [dot, comb]
      | cons _ _ => simp at h
    | cons x xs =>
      cases y with
      | nil => simp at h
      | cons y ys =>
        have := ih (x := xs) (y := ys) (by simpa using h)
        simp only [comb, dot, List.zip_cons_cons, List.map_cons, List.sum_cons] at this ⊢
        rw [this]
        grind
/-- a solution other than 0 of m equations in more than m unknowns -/
theorem siegel {n S l : Nat} {A : List (List Int)} (hm : A.length < n) (hS : ∀ a ∈ A, SmL S a) (hl : n ≤ 2 ^ l) : ∃ x : List Int, x.length = n ∧ x ≠ zeros n ∧ (∀ a ∈ A, dot a x = 0) ∧ SmL (A.length * (S + l + 2) + 1) x := by
  let E := A.length * (S + l + 2)
  let X := 2 ^ E + 1
  let Bd := n * (2 ^ S * 2 ^ E)
  let f : List Nat → List Nat := fun x => A.map fun a => (dot a (ofN x) + Bd).toNat
  have hX : ∀ x ∈ vecs X n, ∀ y ∈ x, y ≤ 2 ^ E := fun x hx y hy => by
    have := (vecs_mem.mp hx).2 y hy
    show y ≤ 2 ^ E
    have e : X = 2 ^ E + 1 := rfl
    omega
  have hb : ∀ x ∈ vecs X n, ∀ a ∈ A, (dot a (ofN x)).natAbs ≤ Bd := fun x hx a ha => by
    have := dot_bound (S := S) (X := 2 ^ E) (hS a ha) (hX x hx)
    rwa [(vecs_mem.mp hx).1] at this
  have hf : ∀ x ∈ vecs X n, f x ∈ vecs (2 * Bd + 1) A.length := fun x hx => by
    refine vecs_mem.mpr ⟨by simp [f], fun y hy => ?_⟩
    obtain ⟨a, ha, rfl⟩ := List.mem_map.mp hy
    have := hb x hx a ha
    omega
  have hlen : (vecs (2 * Bd + 1) A.length).length < (vecs X n).length := by
    rw [vecs_len, vecs_len]
    have h1 : 2 * Bd + 1 ≤ 2 ^ (S + l + 2 + E) := by
      have e1 : Bd ≤ 2 ^ l * (2 ^ S * 2 ^ E) := Nat.mul_le_mul_right _ hl
      have e2 : 2 ^ (S + l + 2 + E) = 4 * (2 ^ l * (2 ^ S * 2 ^ E)) := by
        rw [show S + l + 2 + E = l + (S + E) + 2 by omega, Nat.pow_add, Nat.pow_add, Nat.pow_add]
        omega
      have e3 : 0 < 2 ^ l * (2 ^ S * 2 ^ E) := Nat.mul_pos (Nat.two_pow_pos _) (Nat.mul_pos (Nat.two_pow_pos _) (Nat.two_pow_pos _))
      omega
    have h2 : (2 * Bd + 1) ^ A.length ≤ 2 ^ (E * n) := by
      refine Nat.le_trans (Nat.pow_le_pow_left h1 _) ?_
      rw [← Nat.pow_mul]
      refine Nat.pow_le_pow_right (by decide) ?_
      have e4 : (S + l + 2 + E) * A.length = E + E * A.length := by
        rw [Nat.add_mul, Nat.mul_comm (S + l + 2)]
      rw [e4]
      have : E * (A.length + 1) ≤ E * n := Nat.mul_le_mul_left _ hm
      rw [Nat.mul_add] at this
      omega
    refine Nat.lt_of_le_of_lt h2 ?_
    rw [Nat.pow_mul]
    exact Nat.pow_lt_pow_left (Nat.lt_succ_self _) (by omega)
  obtain ⟨x, hx, y, hy, hne, he⟩ := pigeon (vecs_nodup X n) hf hlen
  obtain ⟨x1, x2⟩ := vecs_mem.mp hx
  obtain ⟨y1, y2⟩ := vecs_mem.mp hy
  have lx : (ofN x).length = n := by simp [x1]
  have ly : (ofN y).length = n := by simp [y1]
  refine ⟨comb 1 (ofN x) (-1) (ofN y), by rw [comb_len (lx.trans ly.symm), lx], fun z => hne ?_, fun a ha => ?_, fun u hu => ?_⟩
  · refine List.ext_getElem (x1.trans y1.symm) fun j h1 h2 => ?_
    have e : (comb 1 (ofN x) (-1) (ofN y)).getD j 0 = (zeros n).getD j 0 := by rw [z]
    rw [comb_get (lx.trans ly.symm), zeros_get, getD_lt (by simpa using h1), getD_lt (by simpa using h2)] at e
    simp only [List.getElem_map] at e
    omega
  · rw [dot_sub (lx.trans ly.symm)]
    have e : (dot a (ofN x) + Bd).toNat = (dot a (ofN y) + Bd).toNat := by
      have := List.map_inj_left.mp he a ha
      exact this
    have h1 := hb x hx a ha
    have h2 := hb y hy a ha
    omega
  · obtain ⟨p, hp, rfl⟩ := List.mem_map.mp hu
    obtain ⟨q1, q2⟩ := List.of_mem_zip hp
    obtain ⟨u1, hu1, e1⟩ := List.mem_map.mp q1
    obtain ⟨u2, hu2, e2⟩ := List.mem_map.mp q2
    have b1 := hX x hx u1 hu1
    have b2 := hX y hy u2 hu2
    show (1 * p.1 + -1 * p.2).natAbs < 2 ^ (E + 1)
    rw [Nat.pow_succ]
    have hpos : 0 < 2 ^ E := Nat.two_pow_pos E
    omega
end Pr
namespace Pr
open PySem L2 GL
/-! ### lattices by their reduced rows -/
structure Shp' (n i : Nat) (r : List Int) : Prop where
  lt : i < n
  len : r.length = n
  pre : ∀ j, j < i → r.getD j 0 = 0
  pos : 0 < r.getD i 0
def Tri (n : Nat) : List (Nat × List Int) → Prop
  | [] => True
  | (p, b) :: t => Shp' n p b ∧ (∀ q ∈ t, p < q.1) ∧ Tri n t
def LinL (n : Nat) : List (Nat × List Int) → List Int → Prop
  | [], x => x = zeros n
  | (p, b) :: t, x => ∃ y z, LinL n t z ∧ x = comb y b 1 z
theorem zeros_len {n : Nat} : (zeros n).length = n := by simp [zeros]
theorem linL_len {n : Nat} : ∀ {ts : List (Nat × List Int)} {x : List Int}, (∀ q ∈ ts, q.2.length = n) → LinL n ts x → x.length = n
  | [], x, _, h => by rw [show x = zeros n from h, zeros_len]
  | (p, b) :: t, x, hl, ⟨y, z, hz, e⟩ => by
    have h1 := hl (p, b) List.mem_cons_self
    have h2 := linL_len (fun q hq => hl q (List.mem_cons_of_mem _ hq)) hz
    rw [e, comb_len (h1.trans h2.symm), h1]
theorem comb_zeros {n : Nat} {a b : Int} {x : List Int} (h : x.length = n) : comb a x b (zeros n) = comb a x 0 x := vec_ext (by rw [comb_len (h.trans zeros_len.symm), comb_len rfl]) fun j _ => by
  rw [comb_get (h.trans zeros_len.symm), comb_get rfl, zeros_get]; simp
theorem linL_zero {n : Nat} : ∀ {ts : List (Nat × List Int)}, (∀ q ∈ ts, q.2.length = n) → LinL n ts (zeros n)
  | [], _ => rfl
  | (p, b) :: t, hl => ⟨0, zeros n, linL_zero fun q hq => hl q (List.mem_cons_of_mem _ hq), by
    have h1 := hl (p, b) List.mem_cons_self
    exact (comb_snd (h1.trans zeros_len.symm)).symm⟩
theorem linL_comb {n : Nat} {a c : Int} : ∀ {ts : List (Nat × List Int)} {x y : List Int}, (∀ q ∈ ts, q.2.length = n) → LinL n ts x → LinL n ts y → LinL n ts (comb a x c y)
  | [], x, y, _, hx, hy => by
    rw [show x = zeros n from hx, show y = zeros n from hy]
    show comb a (zeros n) c (zeros n) = zeros n
    refine vec_ext (by rw [comb_len rfl]) fun j _ => ?_
    rw [comb_get rfl, zeros_get]; simp
  | (p, b) :: t, x, y, hl, ⟨u, z, hz, e⟩, ⟨v, w, hw, f⟩ => by
    have h1 := hl (p, b) List.mem_cons_self
    have ht := fun q hq => hl q (List.mem_cons_of_mem _ hq)
    have lz := linL_len ht hz
    have lw := linL_len ht hw
    refine ⟨a * u + c * v, comb a z c w, linL_comb ht hz hw, ?_⟩
    have l1 : (comb u b 1 z).length = n := by rw [comb_len (h1.trans lz.symm), h1]
    have l2 : (comb v b 1 w).length = n := by rw [comb_len (h1.trans lw.symm), h1]
    have l3 : (comb a z c w).length = n := by rw [comb_len (lz.trans lw.symm), lz]
    rw [e, f]
    refine vec_ext (by rw [comb_len (l1.trans l2.symm), l1, comb_len (h1.trans l3.symm), h1]) fun j _ => ?_
    rw [comb_get (l1.trans l2.symm), comb_get (h1.trans lz.symm), comb_get (h1.trans lw.symm), comb_get (h1.trans l3.symm), comb_get (lz.trans lw.symm)]
    grind
theorem linL_mem {n : Nat} : ∀ {ts : List (Nat × List Int)} {q : Nat × List Int}, (∀ q ∈ ts, q.2.length = n) → q ∈ ts → LinL n ts q.2
  | (p, b) :: t, q, hl, h => by
    have h1 := hl (p, b) List.mem_cons_self
    have ht := fun q hq => hl q (List.mem_cons_of_mem _ hq)
    rcases List.mem_cons.mp h with rfl | h
    · refine ⟨1, zeros n, linL_zero ht, ?_⟩
      rw [comb_zeros h1, comb_fst rfl]
    · refine ⟨0, q.2, linL_mem ht h, (comb_snd (h1.trans (ht q h).symm)).symm⟩
theorem linL_of {n : Nat} {ts : List (Nat × List Int)} {x : List Int} (hl : ∀ q ∈ ts, q.2.length = n) (h : Spn n (fun r => ∃ p, (p, r) ∈ ts) x) : LinL n ts x := by
  induction h with
  | gen g => obtain ⟨p, hp⟩ := g; exact linL_mem hl hp
  | zero => exact linL_zero hl
  | comb a b _ _ h1 h2 => exact linL_comb hl h1 h2
theorem tri_len {n : Nat} : ∀ {ts : List (Nat × List Int)}, Tri n ts → ∀ q ∈ ts, Shp' n q.1 q.2
  | (p, b) :: t, ⟨h1, _, h3⟩, q, h => by
    rcases List.mem_cons.mp h with rfl | h
    · exact h1
    · exact tri_len h3 q h
theorem linL_pre {n p : Nat} : ∀ {ts : List (Nat × List Int)} {x : List Int}, Tri n ts → (∀ q ∈ ts, p < q.1) → LinL n ts x → ∀ m, m ≤ p → x.getD m 0 = 0
  | [], x, _, _, h, m, _ => by rw [show x = zeros n from h, zeros_get]
  | (q, b) :: t, x, ht, hp, ⟨y, z, hz, e⟩, m, hm => by
    have hq := hp (q, b) List.mem_cons_self
    have lb := ht.1.len
    have lz := linL_len (fun q hq => (tri_len ht.2.2 q hq).len) hz
    have e1 := linL_pre ht.2.2 (fun q hq => hp q (List.mem_cons_of_mem _ hq)) hz m hm
    have e2 := ht.1.pre m (by show m < q; have : p < q := hq; omega)
    rw [e, comb_get (lb.trans lz.symm), e1, e2]; simp
/-- what is 0 at all pivots is 0 -/
theorem linL_null {n : Nat} : ∀ {ts : List (Nat × List Int)} {x : List Int}, Tri n ts → LinL n ts x → (∀ q ∈ ts, x.getD q.1 0 = 0) → x = zeros n
  | [], x, _, h, _ => h
  | (p, b) :: t, x, ht, ⟨y, z, hz, e⟩, h0 => by
    have lb := ht.1.len
    have lz := linL_len (fun q hq => (tri_len ht.2.2 q hq).len) hz
    have zp := linL_pre ht.2.2 ht.2.1 hz p (Nat.le_refl _)
    have e1 := h0 (p, b) List.mem_cons_self
    have hpos := ht.1.pos
    rw [e, comb_get (lb.trans lz.symm), zp] at e1
    have hy : y = 0 := by
      have e2 : y * b.getD p 0 = 0 := by simpa using e1
      rcases Int.mul_eq_zero.mp e2 with q | q
      · exact q
      · have : 0 < b.getD p 0 := hpos
        omega
    subst hy
    have ex : x = z := by rw [e, comb_snd (lb.trans lz.symm)]
    rw [ex]
    exact linL_null ht.2.2 hz fun q hq => by rw [← ex]; exact h0 q (List.mem_cons_of_mem _ hq)
/-- a pivot divides what is 0 at the pivots ahead of it -/
theorem linL_dvd {n : Nat} : ∀ {ts : List (Nat × List Int)} {x : List Int} {k : Nat} {bk : List Int}, Tri n ts → LinL n ts x → (k, bk) ∈ ts → (∀ q ∈ ts, q.1 < k → x.getD q.1 0 = 0) → bk.getD k 0 ∣ x.getD k 0
  | (p, b) :: t, x, k, bk, ht, ⟨y, z, hz, e⟩, hm, h0 => by
    have lb := ht.1.len
    have lz := linL_len (fun q hq => (tri_len ht.2.2 q hq).len) hz
    have zp := linL_pre ht.2.2 ht.2.1 hz p (Nat.le_refl _)
    have hpos : 0 < b.getD p 0 := ht.1.pos
    rcases List.mem_cons.mp hm with q | hm
    · cases q
      rw [e, comb_get (lb.trans lz.symm), zp]
      exact ⟨y, by rw [Int.mul_comm]; simp⟩
    · have hlt : p < k := ht.2.1 (k, bk) hm
      have e1 := h0 (p, b) List.mem_cons_self hlt
      rw [e, comb_get (lb.trans lz.symm), zp] at e1
      have hy : y = 0 := by
        have e2 : y * b.getD p 0 = 0 := by simpa using e1
        rcases Int.mul_eq_zero.mp e2 with q | q
        · exact q
        · omega
      subst hy
      have ex : x = z := by rw [e, comb_snd (lb.trans lz.symm)]
      rw [ex] at h0 ⊢
      exact linL_dvd ht.2.2 hz hm fun q hq hk => h0 q (List.mem_cons_of_mem _ hq) hk
/-- the sizes of reduced rows -/
structure Circ (n C : Nat) (ts : List (Nat × List Int)) (p : Nat) (c : List Int) : Prop where
  lin : LinL n ts c
  ne : c.getD p 0 ≠ 0
  oth : ∀ q ∈ ts, q.1 ≠ p → c.getD q.1 0 = 0
  sm : ∀ j, (c.getD j 0).natAbs ≤ 2 ^ C
theorem hnf_step {n C : Nat} {ts : List (Nat × List Int)} (ht : Tri n ts) (cs : Nat → List Int) (hc : ∀ q ∈ ts, Circ n C ts q.1 (cs q.1)) (b : List Int) : ∀ (us : List (Nat × List Int)) (z : List Int) (m e : Nat) (done : Nat → Prop), (∀ q ∈ us, q ∈ ts) → LinL n ts z → 0 < m →
    (∀ q ∈ ts, done q.1 → z.getD q.1 0 = 0) → (∀ q ∈ ts, done q.1 ∨ q ∈ us) → (∀ q ∈ ts, (z.getD q.1 0).natAbs ≤ m * ((cs q.1).getD q.1 0).natAbs) → (∀ j, m * (b.getD j 0).natAbs ≤ (z.getD j 0).natAbs + m * (e * 2 ^ C)) → ∀ j, (b.getD j 0).natAbs ≤ (e + us.length) * 2 ^ C
  | [], z, m, e, done, _, hz, hm, hd, hu, _, hb, j => by
    have z0 := linL_null ht hz fun q hq => by
      rcases hu q hq with h | h
      · exact hd q hq h
      · cases h
    have := hb j
    rw [z0, zeros_get] at this
    have h2 : m * (b.getD j 0).natAbs ≤ m * (e * 2 ^ C) := by simpa using this
    simpa using Nat.le_of_mul_le_mul_left h2 hm
  | (p, c0) :: us, z, m, e, done, hs, hz, hm, hd, hu, hp, hb, j => by
    have hin := hs (p, c0) List.mem_cons_self
    have C1 := hc (p, c0) hin
    have hlen := fun q hq => (tri_len ht q hq).len
    have lz := linL_len hlen hz
    have lc := linL_len hlen C1.lin
    have hl : z.length = (cs p).length := lz.trans lc.symm
    let g := (cs p).getD p 0
    let z' := comb g z (-(z.getD p 0)) (cs p)
    have hget : ∀ j, z'.getD j 0 = g * z.getD j 0 + -(z.getD p 0) * (cs p).getD j 0 := fun j => comb_get hl j
    have hg : g ≠ 0 := C1.ne
    have hm' : 0 < m * g.natAbs := Nat.mul_pos hm (by omega)
    have := hnf_step ht cs hc b us z' (m * g.natAbs) (e + 1) (fun i => done i ∨ i = p) (fun q hq => hs q (List.mem_cons_of_mem _ hq)) (linL_comb hlen hz C1.lin) hm' (fun q hq hdq => ?_) (fun q hq => ?_) (fun q hq => ?_) (fun j => ?_) j
    · rw [List.length_cons]
      have e3 : e + 1 + us.length = e + (us.length + 1) := by omega
      rw [e3] at this
      exact this
    · rw [hget]
      by_cases hqp : q.1 = p
      · rw [hqp]
        show g * z.getD p 0 + -(z.getD p 0) * g = 0
        grind
      · have h1 : z.getD q.1 0 = 0 := hd q hq (hdq.resolve_right hqp)
        have h2 := C1.oth q hq hqp
        rw [h1, h2]; simp
    · rcases hu q hq with h | h
      · exact .inl (.inl h)
      · rcases List.mem_cons.mp h with h | h
        · exact .inl (.inr (by rw [h]))
        · exact .inr h
    · rw [hget]
      by_cases hqp : q.1 = p
      · have : g * z.getD q.1 0 + -(z.getD p 0) * (cs p).getD q.1 0 = 0 := by
          rw [hqp]
          show g * z.getD p 0 + -(z.getD p 0) * g = 0
          grind
        rw [this]; simp
      · have h2 := C1.oth q hq hqp
        rw [h2]
        have h3 := Nat.mul_le_mul_left g.natAbs (hp q hq)
        have h4 : (g * z.getD q.1 0 + -(z.getD p 0) * 0).natAbs = g.natAbs * (z.getD q.1 0).natAbs := by simp [Int.natAbs_mul]
        rw [h4]
        have h5 : g.natAbs * (m * ((cs q.1).getD q.1 0).natAbs) = m * g.natAbs * ((cs q.1).getD q.1 0).natAbs := by rw [← Nat.mul_assoc, Nat.mul_comm g.natAbs m]
        omega
    · have h1 := Nat.mul_le_mul_left g.natAbs (hb j)
      have h2 := hp (p, c0) hin
      have h3 := C1.sm j
      have h4 : (g * z.getD j 0).natAbs ≤ (z'.getD j 0).natAbs + (z.getD p 0).natAbs * ((cs p).getD j 0).natAbs := by
        rw [hget, ← Int.natAbs_mul]
        have : -(z.getD p 0) * (cs p).getD j 0 = -(z.getD p 0 * (cs p).getD j 0) := by rw [Int.neg_mul]
        omega
      have h5 : (z.getD p 0).natAbs * ((cs p).getD j 0).natAbs ≤ (m * g.natAbs) * 2 ^ C := Nat.mul_le_mul h2 h3
      rw [Int.natAbs_mul] at h4
      have e1 : m * g.natAbs * (b.getD j 0).natAbs = g.natAbs * (m * (b.getD j 0).natAbs) := by rw [Nat.mul_comm m, Nat.mul_assoc]
      have e2 : g.natAbs * ((z.getD j 0).natAbs + m * (e * 2 ^ C)) = g.natAbs * (z.getD j 0).natAbs + m * g.natAbs * (e * 2 ^ C) := by
        rw [Nat.mul_add, ← Nat.mul_assoc, Nat.mul_comm g.natAbs m]
      have e3 : m * g.natAbs * ((e + 1) * 2 ^ C) = m * g.natAbs * (e * 2 ^ C) + m * g.natAbs * 2 ^ C := by rw [Nat.add_mul, Nat.mul_add, Nat.one_mul]
      omega
theorem tri_inj {n : Nat} : ∀ {ts : List (Nat × List Int)} {q r : Nat × List Int}, Tri n ts → q ∈ ts → r ∈ ts → q.1 = r.1 → q = r
  | (p, b) :: t, q, r, ht, hq, hr, e => by
    rcases List.mem_cons.mp hq with h1 | h1
    · rcases List.mem_cons.mp hr with h2 | h2
      · rw [h1, h2]
      · have := ht.2.1 r h2
        rw [h1] at e
        have e : p = r.1 := e
        omega
    · rcases List.mem_cons.mp hr with h2 | h2
      · have := ht.2.1 q h1
        rw [h2] at e
        have e : q.1 = p := e
        omega
      · exact tri_inj ht.2.2 h1 h2 e
theorem hnf_size {n C : Nat} {ts : List (Nat × List Int)} (ht : Tri n ts) (red : ∀ q ∈ ts, ∀ r ∈ ts, q.1 < r.1 → (q.2.getD r.1 0).natAbs ≤ (r.2.getD r.1 0).natAbs) (hc : ∀ q ∈ ts, ∃ c, Circ n C ts q.1 c) : ∀ q ∈ ts, ∀ j, (q.2.getD j 0).natAbs ≤ ts.length * 2 ^ C := fun q hq j => by
  have nd := fun q hq r hr => tri_inj (n := n) (ts := ts) ht (q := q) (r := r) hq hr
  have hc' : ∀ i : Nat, ∃ c : List Int, (∃ q ∈ ts, q.1 = i) → Circ n C ts i c := fun i => by
    by_cases h : ∃ q ∈ ts, q.1 = i
    · obtain ⟨q, hq, rfl⟩ := h
      obtain ⟨c, hc⟩ := hc q hq
      exact ⟨c, fun _ => hc⟩
    · exact ⟨[], fun z => absurd z h⟩
  obtain ⟨cs, hcs0⟩ := Classical.axiomOfChoice hc'
  have hcs : ∀ q ∈ ts, Circ n C ts q.1 (cs q.1) := fun q hq => hcs0 q.1 ⟨q, hq, rfl⟩
  have hlen := fun q hq => (tri_len ht q hq).len
  have := hnf_step ht cs hcs q.2 ts q.2 1 0 (fun _ => False) (fun _ h => h) (linL_mem hlen hq) (by decide) (fun _ _ h => h.elim) (fun _ h => .inr h) (fun r hr => ?_) (fun j => by simp) j
  · simpa using this
  · rw [Nat.one_mul]
    have C1 := hcs r hr
    have S1 := tri_len ht q hq
    have S2 := tri_len ht r hr
    have h1 : (r.2.getD r.1 0).natAbs ≤ ((cs r.1).getD r.1 0).natAbs := by
      have hd := linL_dvd (k := r.1) (bk := r.2) ht C1.lin hr fun u hu hk => C1.oth u hu (by omega)
      exact Nat.le_of_dvd (by have := C1.ne; omega) (Int.natAbs_dvd_natAbs.mpr hd)
    rcases Nat.lt_trichotomy q.1 r.1 with h | h | h
    · exact Nat.le_trans (red q hq r hr h) h1
    · have := nd q hq r hr h
      rw [this]; exact h1
    · rw [S1.pre r.1 h]; simp
end Pr
namespace Pr
open PySem L2 GL
section
variable {P : Program} {w : World} {K : PySem.W.Frag} {mg : Str → Option Value} {base : Heap}
structure EO where
  q : Addr
  dx : Addr
  dc : Addr
  rr : Addr
  n : Nat
  piv : Piv
  rests : List D
def kvD (v : Piv) : List (Key × D) := v.map fun p => (Sum.inl (p.1 : Int), dInts p.2)
abbrev CE (K : PySem.W.Frag) : Addr := He.ga K "Elimination"
abbrev EO.ins (K : PySem.W.Frag) (e : EO) : Own := Own.ins (CE K) e.q e.dx [("own_width", .int e.n), ("by_pivot", .raw (.ref e.dc)), ("rests", .raw (.ref e.rr))]
abbrev EO.own (K : PySem.W.Frag) (e : EO) : List Own := [e.ins K, Own.dct e.dc (kvD e.piv), Own.lst e.rr e.rests]
theorem EO.m0 {e : EO} : e.ins K ∈ e.own K := List.mem_cons_self
theorem EO.m1 {e : EO} : Own.dct e.dc (kvD e.piv) ∈ e.own K := List.mem_cons_of_mem _ List.mem_cons_self
theorem EO.m2 {e : EO} : Own.lst e.rr e.rests ∈ e.own K := List.mem_cons_of_mem _ (List.mem_cons_of_mem _ List.mem_cons_self)
theorem val_kv {v : Piv} {i : Nat} : valD (kvD v) (Sum.inl (i : Int)) = (pget v i).map dInts := by
  induction v with
  | nil => rfl
  | cons p v ih =>
    show valD ((Sum.inl (p.1 : Int), dInts p.2) :: kvD v) _ = _
    rw [valD_cons, pget_cons, ih]
    by_cases h : p.1 = i
    · simp [h]
    · have : ¬ (p.1 : Int) = (i : Int) := by omega
      simp [h, this]
theorem put_kv {v : Piv} {i : Nat} {r : List Int} : dputD (kvD v) (Sum.inl (i : Int)) (dInts r) = kvD (pset v i r) := by
  have ha : ((kvD v).any fun kv => decide (kv.1 = Sum.inl (i : Int))) = v.any fun p => decide (p.1 = i) := by
    unfold kvD
    rw [List.any_map]
    refine congrArg (fun f => v.any f) (funext fun p => ?_)
    simp [Int.ofNat_inj]
  unfold dputD pset
  rw [ha]
  split
  · unfold kvD
    rw [List.map_map, List.map_map]
    refine List.map_congr_left fun p _ => ?_
    by_cases h : p.1 = i
    · simp [h]
    · have : ¬ (p.1 : Int) = (i : Int) := by omega
      simp [h, this]
  · simp [kvD]
theorem kvD_len {v : Piv} : (kvD v).length = v.length := by simp [kvD]
theorem keys_len {v : Piv} : (keys v).length = v.length := by simp [keys]
theorem kvD_keys {v : Piv} : (kvD v).map (·.1) = ((keys v).map fun i : Nat => (i : Int)).map Sum.inl := by simp [kvD, keys]
section
variable {X : Cx} {ρ : Ro} {O : List Own} {e : EO} {a : Expr} {pos : Pos}
theorem ev_piv (E : EnvP X.K mg base) (hm : e.ins X.K ∈ O) (ho : Ev X a ρ O (.raw (.ref e.q)) O) (hb : attributeBase a "by_pivot" X.env (eval a X.env) = eval a X.env := by rfl) : Ev X (.Attribute a "by_pivot" pos) ρ O (.raw (.ref e.dc)) O :=
  ev_fld ho (fld_ins hm E.k_Elimination E.n_Elimination_by_pivot rfl) hb
theorem ev_own (E : EnvP X.K mg base) (hm : e.ins X.K ∈ O) (ho : Ev X a ρ O (.raw (.ref e.q)) O) (hb : attributeBase a "own_width" X.env (eval a X.env) = eval a X.env := by rfl) : Ev X (.Attribute a "own_width" pos) ρ O (.int e.n) O :=
  ev_fld ho (fld_ins hm E.k_Elimination E.n_Elimination_own_width rfl) hb
theorem ev_rst (E : EnvP X.K mg base) (hm : e.ins X.K ∈ O) (ho : Ev X a ρ O (.raw (.ref e.q)) O) (hb : attributeBase a "rests" X.env (eval a X.env) = eval a X.env := by rfl) : Ev X (.Attribute a "rests" pos) ρ O (.raw (.ref e.rr)) O :=
  ev_fld ho (fld_ins hm E.k_Elimination E.n_Elimination_rests rfl) hb
/-- self.by_pivot[i] -/
theorem ev_pget {i : Nat} {r : List Int} {k : Nat} {b : Expr} (E : EnvP X.K mg base) (hr : Rm k X.A) (hm : e.ins X.K ∈ O) (hd : Own.dct e.dc (kvD e.piv) ∈ O) (ho : Ev X a ρ O (.raw (.ref e.q)) O) (hi : Ev X b ρ O (.int i) O) (hg : pget e.piv i = some r) {p2 : Pos}
    (hs : NoSl b := by exact fun _ _ => rfl) (hb : attributeBase a "by_pivot" X.env (eval a X.env) = eval a X.env := by rfl) : Ev X (.Subscript (.Attribute a "by_pivot" p2) b pos) ρ O (dInts r) O :=
  ev_dget hr (ev_piv E hm ho hb) (k := Sum.inl (i : Int)) hi (by have := dhas_dct (K := X.K) (k := Sum.inl (i : Int)) hd; rwa [val_kv, hg] at this) hs
end
theorem ok_init (E : EnvP K mg base) : CalC P w K mg base "Elimination" (CE K) 1 ps_Elimination_init
    (spG K (fun _ : Addr × Addr × Nat => True) (fun i => [.raw (.ref i.1), .int i.2.2]) (fun i => [Own.ins (CE K) i.1 i.2.1 []]) fun i d O' => d = .non ∧ ∃ dc rr, O' = EO.own K ⟨i.1, i.2.1, dc, rr, i.2.2, [], []⟩) :=
  E.cal_Elimination_init fun fd F => fn_G F sc_Elimination_init (fun _ => rfl) fun i hp cdv A outer s H hr => by
    obtain ⟨q, dx, n⟩ := i
    refine bl_fld (ev_var 1) (ev_var 0) (setfld_ins (k := 0) rfl E.k_Elimination E.n_Elimination_own_width (by decide)) ?_
    refine bl_fldR (O3 := fun d o => o.set 1 (Own.ins (CE K) q dx [("own_width", .int n), ("by_pivot", d)])) evr_dict (fun d o r => ev_var 0) (fun d o r => ?_) (fun d o r => ?_)
    · obtain ⟨dc, rfl, rfl⟩ := r
      exact setfld_ins (k := 1) (fs := [("own_width", .int n)]) rfl E.k_Elimination E.n_Elimination_by_pivot (Nat.le_of_ble_eq_true rfl)
    · obtain ⟨dc, rfl, rfl⟩ := r
      refine bl_fldR (O3 := fun d o => o.set 2 (Own.ins (CE K) q dx [("own_width", .int n), ("by_pivot", .raw (.ref dc)), ("rests", d)])) (evn_lst ea_nil).r (fun d o r => ev_var 0) (fun d o r => ?_) (fun d o r => ?_)
      · obtain ⟨rr, rfl, rfl⟩ := r
        exact setfld_ins (k := 2) (fs := [("own_width", .int n), ("by_pivot", .raw (.ref dc))]) rfl E.k_Elimination E.n_Elimination_rests (Nat.le_of_ble_eq_true rfl)
      · obtain ⟨rr, rfl, rfl⟩ := r
        refine bl_perm (O1 := EO.own K ⟨q, dx, dc, rr, n, [], []⟩) ?_ (bl_nil ⟨rfl, dc, rr, rfl⟩)
        show [Own.lst rr [], Own.dct dc [], _].Perm [_, Own.dct dc [], Own.lst rr []]
        exact (List.Perm.swap _ _ _).trans (((List.Perm.swap _ _ _).cons _).trans (List.Perm.swap _ _ _))
/-- what crossed makes of the pivots' rows -/
structure CrsOk (v : Piv) (at' : Nat) (x y : List Int) (v' : Piv) (y' : List Int) : Prop where
  ex : ∃ x', Crs at' x y x' y' ∧ keys v' = keys v ∧ ∀ j, pget v' j = if j = at' then some x' else pget v j
structure CrsIn where
  e : EO
  at' : Nat
  row : List Int
  kept : List Int
structure CrsPre (i : CrsIn) : Prop where
  get : pget i.e.piv i.at' = some i.kept
  len : i.kept.length = i.row.length
  inn : i.at' < i.kept.length
  pos : 0 < i.kept.getD i.at' 0
  ne : i.row.getD i.at' 0 ≠ 0
  sz : ∃ k, SmL k i.kept ∧ SmL k i.row ∧ k + 2 ≤ bigB
  sml : i.e.piv.length < 1000
theorem ok_crossed (E : EnvP K mg base) (ht : P.given.tree = none) : CalM P w K mg base (CE K) "crossed" 35 ps_Elimination_crossed
    (spG K CrsPre (fun i => [.raw (.ref i.e.q), .int i.at', dInts i.row]) (fun i => i.e.own K) fun i d O' => ∃ v' y', d = dInts y' ∧ O' = EO.own K { i.e with piv := v' } ∧ CrsOk i.e.piv i.at' i.kept i.row v' y') :=
  E.cal_Elimination_crossed fun fd F => fn_G F sc_Elimination_crossed (fun _ => rfl) fun i hp cdv A outer s H hr => by
    obtain ⟨e, at', row, kept⟩ := i
    obtain ⟨hg, hl, hin, h0, hne, ⟨k, sk, sr, hk⟩, hsml⟩ := hp
    simp only at hg hl hin h0 hne sk sr hsml
    have S := seer_of (w := w) (outer := outer) (H := H) (XE := E0) (CX := CX0) (N := N_Elimination_crossed) E ht rfl rfl (hr.mono (by decide))
    have akept : atI kept (at' : Int) = some (kept.getD at' 0) := by
      have := atI_in (xs := kept) (i := (at' : Int)) (d := 0) (by omega) (by omega)
      simpa using this
    have arow : atI row (at' : Int) = some (row.getD at' 0) := by
      have := atI_in (xs := row) (i := (at' : Int)) (d := 0) (by omega) (by omega)
      simpa using this
    refine bl_set 3 sc_Elimination_crossed.nd (ev_pget (e := e) E hr EO.m0 EO.m1 (ev_var 0) (ev_var 1) hg) ?_
    refine bl_asgR (pg_tup rfl (pgs_cons (pg_name (i := 4) sc_Elimination_crossed.nd rfl (Or.inl rfl)) (pgs_cons (pg_name (i := 5) sc_Elimination_crossed.nd rfl (Or.inl rfl)) (pgs_cons (pg_name (i := 6) sc_Elimination_crossed.nd rfl (Or.inl rfl)) pgs_nil))))
      (evr_call (kept.getD at' 0, row.getD at' 0) (ok_extended_divisor E ht) hr ⟨h0, hne, k, sk.get _, sr.get _, hk⟩ (ea_cons (ev_ixM (ev_var 3) (ev_var 1) akept) (ea_cons (ev_ixM (ev_var 2) (ev_var 1) arow) ea_nil)) (OI := fun _ => []) (.refl _)) fun d o r => ?_
    obtain ⟨o', ⟨g, s', t', rfl, hx, rfl⟩, rfl⟩ := r
    refine ⟨_, [4, 5, 6], gok_tup (gsok_cons (is := [4]) (gok_name 4) (gsok_cons (is := [5]) (gok_name 5) (gsok_cons (is := [6]) (gok_name 6) gsok_nil))), ?_⟩
    have hgp := hx.pos
    have hkb : k ≤ bigB := by omega
    have s1 : Sm 1 1 := by unfold Sm; decide
    have b1 : 1 ≤ bigB := by decide
    refine bl_if (et_eqI (ev_var 4) (ev_ixM (ev_var 3) (ev_var 1) akept)) (fun hq => ?_) (fun hq => ?_)
    · have hgk : g = kept.getD at' 0 := by simpa using hq
      have sq : Sm k (-((row.getD at' 0).fdiv g)) := ((sr.get at').fdiv (by omega)).neg
      refine bl_ret (ev_callV (1, row, -((row.getD at' 0).fdiv g), kept) (ok_summed E) (hr.mono (by decide)) ⟨1, k, k, k, s1, sr, sq, sk, b1, hkb, hkb, hkb⟩
        (ea_cons ev_int (ea_cons (ev_var 2) (ea_cons (ev_neg (ev_fdivA S (ev_ixM (ev_var 2) (ev_var 1) arow) (ev_var 4) (by omega))) (ea_cons (ev_var 3) ea_nil))))) ⟨e.piv, _, rfl, rfl, kept, ?_, rfl, fun j => ?_⟩
      · rw [hgk] at hx ⊢
        exact crs_row hl h0 hne hx
      · split
        · rename_i z; rw [z, hg]
        · rfl
    · refine bl_nil ?_
      have sx : Sm k s' := (sr.get at').of_le hx.sx
      have sy : Sm k t' := (sk.get at').of_le hx.sy
      have sq : Sm k (-((row.getD at' 0).fdiv g)) := ((sr.get at').fdiv (by omega)).neg
      have sp : Sm k ((kept.getD at' 0).fdiv g) := (sk.get at').fdiv (by omega)
      refine bl_dput (k := Sum.inl (at' : Int)) hr (ev_callV (s', kept, t', row) (ok_summed E) (hr.mono (by decide)) ⟨k, k, k, k, sx, sk, sy, sr, hkb, hkb, hkb, hkb⟩ (ea_cons (ev_var 5) (ea_cons (ev_var 3) (ea_cons (ev_var 6) (ea_cons (ev_var 2) ea_nil)))))
        (ev_piv (e := e) E EO.m0 (ev_var 0)) (ev_var 1) (dput_dct (j := 1) rfl (by rw [kvD_len]; show e.piv.length < 1000000; omega)) ?_
      refine bl_ret (ev_callV ((kept.getD at' 0).fdiv g, row, -((row.getD at' 0).fdiv g), kept) (ok_summed E) (hr.mono (by decide)) ⟨k, k, k, k, sp, sr, sq, sk, hkb, hkb, hkb, hkb⟩
        (ea_cons (ev_fdivA S (ev_ixM (ev_var 3) (ev_var 1) akept) (ev_var 4) (by omega)) (ea_cons (ev_var 2) (ea_cons (ev_neg (ev_fdivA S (ev_ixM (ev_var 2) (ev_var 1) arow) (ev_var 4) (by omega))) (ea_cons (ev_var 3) ea_nil))))) ⟨pset e.piv at' (comb s' kept t' row), _, rfl, ?_, _, crs_both hl hx, keys_pset_in (key_of hg), fun j => pget_pset⟩
      show [_, Own.dct e.dc (dputD (kvD e.piv) (Sum.inl (at' : Int)) (dInts (comb s' kept t' row))), _] = _
      rw [put_kv]
      rfl
end
end Pr
namespace Pr
open PySem L2 GL
theorem cut_from {xs : List D} {p : Nat} : cutD xs (some (p : Int)) none = xs.drop p := by
  unfold cutD
  rw [HT.sIx_nat, HT.sIx_none]
  rcases Nat.le_total p xs.length with h | h
  · rw [Nat.min_eq_left h, List.take_of_length_le (by simp)]
  · rw [Nat.min_eq_right h, List.drop_of_length_le (Nat.le_refl _), List.drop_of_length_le h, List.take_nil]
def pivRows (v : Piv) : List Int → Prop := fun r => ∃ i, pget v i = some r
structure Shp (n i : Nat) (r : List Int) : Prop where
  lt : i < n
  len : r.length = n
  pre : ∀ j, j < i → r.getD j 0 = 0
  pos : 0 < r.getD i 0
structure Gd (n k : Nat) (v : Piv) : Prop where
  nd : (keys v).Nodup
  shp : ∀ i r, pget v i = some r → Shp n i r
  sm : ∀ i r, pget v i = some r → SmL k r
structure Eqv (n : Nat) (v v' : Piv) : Prop where
  fw : ∀ r, pivRows v r → Spn n (pivRows v') r
  bw : ∀ r, pivRows v' r → Spn n (pivRows v) r
theorem Eqv.refl {n : Nat} {v : Piv} : Eqv n v v := ⟨fun _ h => .gen h, fun _ h => .gen h⟩
theorem Eqv.trans {n : Nat} {u v w : Piv} (a : Eqv n u v) (b : Eqv n v w) : Eqv n u w := ⟨fun r h => (a.fw r h).trans b.fw, fun r h => (b.bw r h).trans a.bw⟩
/-- one row less a multiple of another one -/
theorem eqv_sub {n a b : Nat} {t : Int} {v v' : Piv} {x y : List Int} (hx : pget v a = some x) (hy : pget v b = some y) (hab : a ≠ b) (hl : x.length = y.length) (hv : ∀ j, pget v' j = if j = a then some (comb 1 x t y) else pget v j) : Eqv n v v' := by
  have ya : pivRows v' y := ⟨b, by rw [hv, if_neg (Ne.symm hab)]; exact hy⟩
  have xa : pivRows v' (comb 1 x t y) := ⟨a, by rw [hv, if_pos rfl]⟩
  refine ⟨fun r ⟨j, hj⟩ => ?_, fun r ⟨j, hj⟩ => ?_⟩
  · by_cases h : j = a
    · subst h
      rw [hx] at hj; cases hj
      have e : x = comb 1 (comb 1 x t y) (-t) y := by
        have l1 := comb_len (a := 1) (b := t) hl
        refine vec_ext (by rw [comb_len (l1.trans hl), l1]) fun j _ => ?_
        rw [comb_get (l1.trans hl), comb_get hl]; grind
      rw [e]
      exact .comb _ _ (.gen xa) (.gen ya)
    · exact .gen ⟨j, by rw [hv, if_neg h]; exact hj⟩
  · rw [hv] at hj
    split at hj
    · cases hj
      exact .comb _ _ (.gen ⟨a, hx⟩) (.gen ⟨b, hy⟩)
    · exact .gen ⟨j, hj⟩
/-- the size of a row while the rows are reduced -/
def rsz (k m i c l : Nat) : Nat := if l < i then m * (k + 1) else if l = i then k + c * (k + 1) else k
/-- each row is reduced at the later pivots -/
def Red (v : Piv) : Prop := ∀ i j r s, i < j → pget v i = some r → pget v j = some s → 0 ≤ r.getD j 0 ∧ r.getD j 0 < s.getD j 0
structure RI (n k : Nat) (js : List Nat) (v0 : Piv) (i c : Nat) (v : Piv) : Prop where
  ks : keys v = keys v0
  shp : ∀ i r, pget v i = some r → Shp n i r
  sm : ∀ l x r, js[l]? = some x → pget v x = some r → SmL (rsz k js.length i c l) r
  eq : Eqv n v0 v
  red : ∀ (l m x y : Nat) (r s : List Int), js[l]? = some x → js[m]? = some y → l < m → (l < i ∨ (l = i ∧ m < i + 1 + c)) → pget v x = some r → pget v y = some s → 0 ≤ r.getD y 0 ∧ r.getD y 0 < s.getD y 0
theorem RI.start {n k : Nat} {js : List Nat} {v : Piv} (h : Gd n k v) : RI n k js v 0 0 v :=
  ⟨rfl, h.shp, fun l x r _ e => (h.sm x r e).mono (by unfold rsz; rw [if_neg (by omega)]; split <;> omega), .refl, fun l m x y r s h1 h2 h3 h4 => by omega⟩
theorem RI.next {n k : Nat} {js : List Nat} {v0 v : Piv} {i c : Nat} (h : RI n k js v0 i c v) (hi : i < js.length) (hc : c + i + 1 = js.length) : RI n k js v0 (i + 1) 0 v :=
  ⟨h.ks, h.shp, fun l x r e e2 => (h.sm l x r e e2).mono (by
    unfold rsz
    have key : k + c * (k + 1) ≤ js.length * (k + 1) := by
      have : (c + 1) * (k + 1) ≤ js.length * (k + 1) := Nat.mul_le_mul_right _ (by omega)
      rw [Nat.add_mul] at this
      omega
    by_cases h1 : l < i
    · rw [if_pos h1, if_pos (by omega)]; exact Nat.le_refl _
    · rw [if_neg h1]
      by_cases h2 : l = i
      · rw [if_pos h2, if_pos (by omega)]; exact key
      · rw [if_neg h2, if_neg (by omega)]
        split <;> omega), h.eq, fun l m x y r s h1 h2 h3 h4 => h.red l m x y r s h1 h2 h3 (by
    have hm : m < js.length := (List.getElem?_eq_some_iff.mp h2).1
    omega)⟩
theorem RI.step {n k : Nat} {js : List Nat} {v0 v v' : Piv} {i c a b : Nat} {x y : List Int} (h : RI n k js v0 i c v) (hs : js.Pairwise (· < ·)) (ha : js[i]? = some a) (hb : js[i + 1 + c]? = some b) (hx : pget v a = some x) (hy : pget v b = some y)
    (hv : ∀ j, pget v' j = if j = a then some (comb 1 x (-(x.getD b 0).fdiv (y.getD b 0)) y) else pget v j) (hk : keys v' = keys v) : RI n k js v0 i (c + 1) v' := by
  have hab : a < b := by
    obtain ⟨h1, e1⟩ := List.getElem?_eq_some_iff.mp ha
    obtain ⟨h2, e2⟩ := List.getElem?_eq_some_iff.mp hb
    have := List.pairwise_iff_getElem.mp hs i (i + 1 + c) h1 h2 (by omega)
    rw [e1, e2] at this
    exact this
  have sx := h.shp a x hx
  have sy := h.shp b y hy
  have hl : x.length = y.length := sx.len.trans sy.len.symm
  have place : ∀ (l z : Nat), js[l]? = some z → z = a → l = i := fun l z e hz => by
    subst hz
    obtain ⟨h1, e1⟩ := List.getElem?_eq_some_iff.mp ha
    obtain ⟨h2, e2⟩ := List.getElem?_eq_some_iff.mp e
    have hp := List.pairwise_iff_getElem.mp hs
    rcases Nat.lt_trichotomy l i with q | q | q
    · have := hp l i h2 h1 q; omega
    · exact q
    · have := hp i l h1 h2 q; omega
  have sort : ∀ (l m x y : Nat), js[l]? = some x → js[m]? = some y → l < m → x < y := fun l m x y e1 e2 hlm => by
    obtain ⟨h1, e1⟩ := List.getElem?_eq_some_iff.mp e1
    obtain ⟨h2, e2⟩ := List.getElem?_eq_some_iff.mp e2
    have := List.pairwise_iff_getElem.mp hs l m h1 h2 hlm
    rw [e1, e2] at this
    exact this
  have newget : ∀ j, (comb 1 x (-(x.getD b 0).fdiv (y.getD b 0)) y).getD j 0 = x.getD j 0 + -(x.getD b 0).fdiv (y.getD b 0) * y.getD j 0 := fun j => by rw [comb_get hl, Int.one_mul]
  refine ⟨hk.trans h.ks, fun j r e => ?_, fun l z r e e2 => ?_, h.eq.trans (eqv_sub hx hy (by omega) hl hv), fun l m u z r s hu hz hlm hcl hr1 hs1 => ?_⟩
  · rw [hv] at e
    split at e
    · rename_i hj; subst hj; cases e
      refine ⟨sx.lt, by rw [comb_len hl]; exact sx.len, fun m hm => ?_, ?_⟩
      · rw [comb_get hl, sx.pre m hm, sy.pre m (by omega)]; simp
      · rw [comb_get hl, sy.pre j (by omega)]
        have := sx.pos
        omega
    · exact h.shp j r e
  · rw [hv] at e2
    split at e2
    · rename_i hz; subst hz; cases e2
      have hli : l = i := by
        obtain ⟨h1, e1⟩ := List.getElem?_eq_some_iff.mp ha
        obtain ⟨h2, e2⟩ := List.getElem?_eq_some_iff.mp e
        have hp := List.pairwise_iff_getElem.mp hs
        rcases Nat.lt_trichotomy l i with q | q | q
        · have := hp l i h2 h1 q; omega
        · exact q
        · have := hp i l h1 h2 q; omega
      subst hli
      have s1 := h.sm l z x e hx
      have s2 := h.sm _ b y hb hy
      unfold rsz at s1 s2 ⊢
      rw [if_neg (by omega), if_pos rfl] at s1 ⊢
      rw [if_neg (by omega), if_neg (by omega)] at s2
      have st : Sm (k + c * (k + 1)) ((x.getD b 0).fdiv (y.getD b 0)) := (s1.get b).fdiv (by have := sy.pos; omega)
      have e3 : k + (c + 1) * (k + 1) = k + c * (k + 1) + k + 1 := by rw [Nat.add_mul]; omega
      rw [e3]
      refine comb_sm (fun u hu => ?_) (fun u hu => ?_)
      · rw [Int.one_mul]; exact (s1 u hu).mono (by omega)
      · exact (st.neg.mul (s2 u hu))
    · rename_i hz
      have hne : l ≠ i := fun q => hz (by subst q; rw [ha] at e; exact (Option.some.inj e).symm)
      have := h.sm l z r e e2
      unfold rsz at this ⊢
      rw [if_neg hne] at this ⊢
      exact this
  · rw [hv] at hr1 hs1
    have huz := sort l m u z hu hz hlm
    by_cases hua : u = a
    · subst hua
      have hli := place l u hu rfl
      have hzu : z ≠ u := by omega
      rw [if_pos rfl] at hr1
      rw [if_neg hzu] at hs1
      cases hr1
      by_cases hzb : z = b
      · subst hzb
        rw [hy] at hs1; cases hs1
        have := fdm (x.getD z 0) (y.getD z 0) (by have := sy.pos; omega)
        have h3 := this.1 sy.pos
        rw [newget, Int.neg_mul]
        omega
      · have hmb : m ≠ i + 1 + c := fun q => hzb (by rw [q, hb] at hz; exact (Option.some.inj hz).symm)
        have old := h.red l m u z x s hu hz hlm (by omega) hx hs1
        have hzlt : z < b := sort m (i + 1 + c) z b hz hb (by omega)
        rw [newget, sy.pre z hzlt]
        simpa using old
    · rw [if_neg hua] at hr1
      by_cases hza : z = a
      · subst hza
        rw [if_pos rfl] at hs1
        cases hs1
        have hmi := place m z hz rfl
        have old := h.red l m u z r x hu hz hlm (by omega) hr1 hx
        rw [newget, sy.pre z hab]
        simpa using old
      · rw [if_neg hza] at hs1
        have hli : l ≠ i := fun q => hua (by rw [q, ha] at hu; exact (Option.some.inj hu).symm)
        exact h.red l m u z r s hu hz hlm (by omega) hr1 hs1
theorem RI.fin {n k : Nat} {js : List Nat} {v0 v : Piv} (h : RI n k js v0 js.length 0 v) (hp : js.Perm (keys v0)) (hs : js.Pairwise (· < ·)) (nd : (keys v0).Nodup) : Gd n (js.length * (k + 1)) v ∧ Red v := by
  refine ⟨⟨by rw [h.ks]; exact nd, h.shp, fun i r e => ?_⟩, fun i j r s hij hr hs1 => ?_⟩
  · have hm : i ∈ js := hp.mem_iff.mpr (by rw [← h.ks]; exact key_of e)
    obtain ⟨l, hl, e2⟩ := List.getElem_of_mem hm
    have := h.sm l i r (by rw [List.getElem?_eq_getElem hl, e2]) e
    unfold rsz at this
    rw [if_pos hl] at this
    exact this
  · have m1 : i ∈ js := hp.mem_iff.mpr (by rw [← h.ks]; exact key_of hr)
    have m2 : j ∈ js := hp.mem_iff.mpr (by rw [← h.ks]; exact key_of hs1)
    obtain ⟨l, hl, e1⟩ := List.getElem_of_mem m1
    obtain ⟨m, hm, e2⟩ := List.getElem_of_mem m2
    have hlm : l < m := by
      have hp := List.pairwise_iff_getElem.mp hs
      rcases Nat.lt_trichotomy l m with q | q | q
      · exact q
      · subst q; rw [e1] at e2; omega
      · have := hp m l hm hl q; rw [e1, e2] at this; omega
    exact h.red l m i j r s (by rw [List.getElem?_eq_getElem hl, e1]) (by rw [List.getElem?_eq_getElem hm, e2]) hlm (.inl hl) hr hs1
section
variable {P : Program} {w : World} {K : PySem.W.Frag} {mg : Str → Option Value} {base : Heap}
structure RedPre (i : EO × Nat) : Prop where
  gd : Gd i.1.n i.2 i.1.piv
  len : i.1.piv.length < 64
  sz : i.1.piv.length * (i.2 + 1) ≤ bigB
  k : i.2 ≤ bigB
  n : i.1.n ≤ 1000
theorem ok_reduce (E : EnvP K mg base) (ht : P.given.tree = none) : CalM P w K mg base (CE K) "reduce_above" 35 ps_Elimination_reduce_above
    (spG K RedPre (fun i => [.raw (.ref i.1.q)]) (fun i => i.1.own K) fun i d O' => d = .non ∧ ∃ v', O' = EO.own K { i.1 with piv := v' } ∧ keys v' = keys i.1.piv ∧ Gd i.1.n (i.1.piv.length * (i.2 + 1)) v' ∧ Eqv i.1.n i.1.piv v' ∧ Red v') :=
  E.cal_Elimination_reduce_above fun fd F => fn_G F sc_Elimination_reduce_above (fun _ => rfl) fun i hp cdv A outer s H hr => by
    obtain ⟨e, k⟩ := i
    obtain ⟨gd, hlen, hsz, hk, hn⟩ := hp
    simp only at gd hlen hsz hk hn
    have S := seer_of (w := w) (outer := outer) (H := H) (XE := E0) (CX := CX0) (N := N_Elimination_reduce_above) E ht rfl rfl (hr.mono (by decide))
    obtain ⟨js, hp, hs⟩ := sorted_ex (keys e.piv) gd.nd
    have hjl : js.length = e.piv.length := by rw [hp.length_eq, keys_len]
    have dk : ∀ {K' : PySem.W.Frag}, DKeys K' (e.own K) e.dc (js.map fun i : Nat => (i : Int)) := fun {K'} => dkeys_dct EO.m1 kvD_keys (hp.symm.map _)
    have hsi : (js.map fun i : Nat => (i : Int)).Pairwise (· < ·) := by
      rw [List.pairwise_map]
      exact hs.imp fun h => by omega
    have hrow : ∀ v, keys v = keys e.piv → ∀ x, x ∈ js → ∃ r, pget v x = some r := fun v hv x hx => pget_some (by rw [hv]; exact hp.mem_iff.mp hx)
    refine bl_set 1 sc_Elimination_reduce_above.nd (evn_sortedD E.b_sorted (ev_piv (e := e) E EO.m0 (ev_var 0)) dk hsi (by rw [List.length_map]; omega)).ev ?_
    refine bl_for2 (xs := js.zipIdx) (g1 := fun q => .int (q.2 : Nat)) (g2 := fun q => .int (q.1 : Nat)) 2 3 (fun i r o => ∃ v t2 t3 t4 t5 t6, r = [some (.raw (.ref e.q)), some (.lst ((js.map fun i : Nat => (i : Int)).map D.int)), t2, t3, t4, t5, t6] ∧ o = EO.own K { e with piv := v } ∧ RI e.n k js e.piv i 0 v) PassesOwn.never sc_Elimination_reduce_above.nd
      ((ei_enumT (xs := js) (gx := fun i => .int (i : Nat)) E.b_enumerate ((ev_var 1).eq (by rw [List.map_map]; rfl)))) ⟨e.piv, none, none, none, none, none, rfl, rfl, .start gd⟩ (fun i x r o hx ho => ?_) (fun r o ho => ?_) (pg2 (pg_name sc_Elimination_reduce_above.nd rfl (Or.inl rfl)) (pg_name sc_Elimination_reduce_above.nd rfl (Or.inl rfl)))
    · obtain ⟨v, t2, t3, t4, t5, t6, rfl, rfl, hI⟩ := ho
      obtain ⟨hil, hxe⟩ := List.getElem?_eq_some_iff.mp hx
      rw [List.length_zipIdx] at hil
      have hx1 : js[i]? = some x.1 ∧ x.2 = i := by
        rw [List.getElem_zipIdx] at hxe
        subst hxe
        exact ⟨by simp [hil], by simp⟩
      obtain ⟨ha, hx2⟩ := hx1
      refine bl_for1 (xs := js.drop (i + 1)) (gD := fun i => .int (i : Nat)) 4 (fun c r o => ∃ v t4 t5 t6, r = [some (.raw (.ref e.q)), some (.lst ((js.map fun i : Nat => (i : Int)).map D.int)), some (.int (i : Nat)), some (.int (x.1 : Nat)), t4, t5, t6] ∧ o = EO.own K { e with piv := v } ∧ RI e.n k js e.piv i c v) PassesOwn.never sc_Elimination_reduce_above.nd
        (ei_list (((evn_slice (ev_var 1) (eo_some (i := ((i + 1 : Nat) : Int)) ((ev_add (ev_var 2) ev_int).eq (by rw [hx2]; rfl))) eo_none).ev).eq (by rw [cut_from, List.map_map, ← List.map_drop]; rfl))) ⟨v, t4, t5, t6, by rw [hx2]; rfl, rfl, hI⟩ (fun c y r o hy ho => ?_) (fun r o ho => ?_)
      · obtain ⟨v, t4, t5, t6, rfl, rfl, hJ⟩ := ho
        rw [List.getElem?_drop] at hy
        have hyl := (List.getElem?_eq_some_iff.mp hy).1
        obtain ⟨ra, hra⟩ := hrow v hJ.ks x.1 (List.mem_of_getElem? ha)
        obtain ⟨rb, hrb⟩ := hrow v hJ.ks y (List.mem_of_getElem? hy)
        have sa := hJ.shp _ _ hra
        have sb := hJ.shp _ _ hrb
        have aat : atI ra ((y : Nat) : Int) = some (ra.getD y 0) := by
          have := atI_in (xs := ra) (i := ((y : Nat) : Int)) (d := 0) (by omega) (by have := sa.len; have := sb.lt; omega)
          simpa using this
        have bat : atI rb ((y : Nat) : Int) = some (rb.getD y 0) := by
          have := atI_in (xs := rb) (i := ((y : Nat) : Int)) (d := 0) (by omega) (by have := sb.len; have := sb.lt; omega)
          simpa using this
        have hpos := sb.pos
        have m1 := hJ.sm _ _ _ ha hra
        have m2 := hJ.sm _ _ _ hy hrb
        unfold rsz at m1 m2
        rw [if_neg (by omega), if_pos rfl] at m1
        rw [if_neg (by omega), if_neg (by omega)] at m2
        have kb : k + c * (k + 1) ≤ bigB := by
          have : (c + 1) * (k + 1) ≤ e.piv.length * (k + 1) := Nat.mul_le_mul_right _ (by omega)
          rw [Nat.add_mul] at this
          omega
        have mt : Sm (k + c * (k + 1)) (-((ra.getD y 0).fdiv (rb.getD y 0))) := ((m1.get y).fdiv (by omega)).neg
        have s1 : Sm 1 1 := by unfold Sm; decide
        have hlv : v.length = e.piv.length := by rw [← keys_len, hJ.ks, keys_len]
        refine bl_set 5 sc_Elimination_reduce_above.nd (ev_pget (e := { e with piv := v }) E hr EO.m0 EO.m1 (ev_var 0) (ev_var 4) hrb) ?_
        refine bl_set 6 sc_Elimination_reduce_above.nd (ev_fdivA S (ev_ixM (ev_pget (e := { e with piv := v }) E hr EO.m0 EO.m1 (ev_var 0) (ev_var 3) hra) (ev_var 4) aat) (ev_ixM (ev_var 5) (ev_var 4) bat) (by omega)) ?_
        refine bl_dput (k := Sum.inl (x.1 : Int)) hr (ev_callV (1, ra, -((ra.getD y 0).fdiv (rb.getD y 0)), rb) (ok_summed E) (hr.mono (by decide)) ⟨1, _, _, k, s1, m1, mt, m2, by decide, kb, kb, hk⟩
          (ea_cons ev_int (ea_cons (ev_pget (e := { e with piv := v }) E hr EO.m0 EO.m1 (ev_var 0) (ev_var 3) hra) (ea_cons (ev_neg (ev_var 6)) (ea_cons (ev_var 5) ea_nil)))))
          (ev_piv (e := { e with piv := v }) E EO.m0 (ev_var 0)) (ev_var 3) (dput_dct (j := 1) rfl (by rw [kvD_len]; show v.length < 1000000; omega)) ?_
        refine bl_nil ⟨pset v x.1 (comb 1 ra (-((ra.getD y 0).fdiv (rb.getD y 0))) rb), _, _, _, rfl, ?_, hJ.step hs ha hy hra hrb (fun j => pget_pset) (keys_pset_in (key_of hra))⟩
        show [_, Own.dct e.dc (dputD (kvD v) (Sum.inl (x.1 : Int)) (dInts (comb 1 ra (-((ra.getD y 0).fdiv (rb.getD y 0))) rb))), _] = _
        rw [put_kv]
        rfl
      · obtain ⟨v, t4, t5, t6, rfl, rfl, hJ⟩ := ho
        rw [List.length_drop] at hJ
        exact bl_nil ⟨v, _, _, _, _, _, rfl, rfl, hJ.next (by omega) (by omega)⟩
    · obtain ⟨v, t2, t3, t4, t5, t6, rfl, rfl, hI⟩ := ho
      rw [List.length_zipIdx] at hI
      obtain ⟨f1, f2⟩ := hI.fin hp hs gd.nd
      rw [hjl] at f1
      exact bl_nil ⟨rfl, v, rfl, hI.ks, f1, hI.eq, f2⟩
end
end Pr
namespace Pr
open PySem L2 GL
theorem bl_O {X : Cx} {body : List Stmt} {ρ : Ro} {O O' : List Own} {U : Out} (h : O' = O) (z : Bl X body ρ O U) : Bl X body ρ O' U := h ▸ z
theorem ei_rangeT {X : Cx} {ρ : Ro} {O O1 : List Own} {e tg : Expr} {p pos : Pos} {n : Nat} (T : X.mg "range" = none) (h : Ev X e ρ O (.int (n : Nat)) O1) (hn : n ≤ 1000000) (hg : Gl X "range" := by rfl) (hs : starEach [e] X.env = [(false, eval e X.env)] := by rfl) :
    Ei X tg (.Call (.Name "range" p) [e] [] pos) ρ O ((List.range n).map fun i : Nat => D.int (i : Nat)) O1 := by
  have := ei_range1 (tg := tg) (p := p) (pos := pos) T h (by omega) (by omega) hg hs
  have e2 : rangeD 0 (n : Int).toNat = (List.range n).map fun i : Nat => D.int (i : Nat) := by
    unfold rangeD
    rw [Int.toNat_natCast]
    exact List.map_congr_left fun i _ => by rw [Int.zero_add]
  rwa [e2] at this
structure PtI (n k l : Nat) (v0 : Piv) (row : List Int) (i : Nat) (v : Piv) (left : List Int) : Prop where
  ks : keys v = keys v0
  shp : ∀ i r, pget v i = some r → Shp n i r
  len : left.length = n
  pre : ∀ j, j < i → left.getD j 0 = 0
  sml : SmL (l + cnt (keys v0) i * (k + 1)) left
  sma : ∀ j r, i ≤ j → pget v j = some r → SmL k r
  smb : ∀ j r, j < i → pget v j = some r → SmL (l + cnt (keys v0) i * (k + 1)) r
  fw : ∀ r, pivRows v0 r ∨ r = row → Spn n (fun z => pivRows v z ∨ z = left) r
  bw : ∀ r, pivRows v r ∨ r = left → Spn n (fun z => pivRows v0 z ∨ z = row) r
theorem PtI.start {n k l : Nat} {v : Piv} {row : List Int} (h : Gd n k v) (hl : row.length = n) (hs : SmL l row) : PtI n k l v row 0 v row :=
  ⟨rfl, h.shp, hl, fun j hj => by omega, hs.mono (by omega), fun j r _ e => h.sm j r e, fun j r hj => by omega, fun r h => .gen h, fun r h => .gen h⟩
theorem PtI.skip {n k l i : Nat} {v0 v : Piv} {row left : List Int} (h : PtI n k l v0 row i v left) (nd : (keys v0).Nodup) (h0 : left.getD i 0 = 0) : PtI n k l v0 row (i + 1) v left := by
  have hc := cnt_succ (i := i) nd
  have hm : l + cnt (keys v0) i * (k + 1) ≤ l + cnt (keys v0) (i + 1) * (k + 1) := by
    have : cnt (keys v0) i * (k + 1) ≤ cnt (keys v0) (i + 1) * (k + 1) := Nat.mul_le_mul_right _ (by omega)
    omega
  refine ⟨h.ks, h.shp, h.len, fun j hj => ?_, h.sml.mono hm, fun j r hj e => h.sma j r (by omega) e, fun j r hj e => ?_, h.fw, h.bw⟩
  · rcases Nat.lt_or_ge j i with q | q
    · exact h.pre j q
    · have : j = i := by omega
      rw [this]; exact h0
  · rcases Nat.lt_or_ge j i with q | q
    · exact (h.smb j r q e).mono hm
    · have hji : j = i := by omega
      subst hji
      have hin : j ∈ keys v0 := by rw [← h.ks]; exact key_of e
      rw [if_pos hin] at hc
      refine (h.sma j r (Nat.le_refl _) e).mono ?_
      rw [hc, Nat.add_mul]
      omega
theorem PtI.cross {n k l i : Nat} {v0 v v' : Piv} {row left x y' : List Int} (h : PtI n k l v0 row i v left) (nd : (keys v0).Nodup) (hg : pget v i = some x) (hc : CrsOk v i x left v' y') : PtI n k l v0 row (i + 1) v' y' := by
  obtain ⟨x', c, hk, hv⟩ := hc.ex
  have sx := h.shp i x hg
  have hlx : x.length = left.length := sx.len.trans h.len.symm
  have hcn := cnt_succ (i := i) nd
  have hin : i ∈ keys v0 := by rw [← h.ks]; exact key_of hg
  rw [if_pos hin] at hcn
  have hbd : l + cnt (keys v0) (i + 1) * (k + 1) = k + (l + cnt (keys v0) i * (k + 1)) + 1 := by rw [hcn, Nat.add_mul]; omega
  obtain ⟨s1, s2⟩ := c.sm k _ (h.sma i x (Nat.le_refl _) hg) h.sml
  rw [← hbd] at s1 s2
  obtain ⟨p1, q1, fx⟩ := c.fx
  obtain ⟨p2, q2, fy⟩ := c.fy
  obtain ⟨p3, q3, gx⟩ := c.gx
  obtain ⟨p4, q4, gy⟩ := c.gy
  have zero : ∀ j, j < i → x'.getD j 0 = 0 ∧ y'.getD j 0 = 0 := fun j hj => by
    have e1 := sx.pre j hj
    have e2 := h.pre j hj
    rw [fx, fy, comb_get hlx, comb_get hlx, e1, e2]
    simp
  have mx : pivRows v' x' := ⟨i, by rw [hv, if_pos rfl]⟩
  refine ⟨hk.trans h.ks, fun j r e => ?_, c.ly.trans sx.len, fun j hj => ?_, s2, fun j r hj e => ?_, fun j r hj e => ?_, fun r hr => ?_, fun r hr => ?_⟩
  · rw [hv] at e
    split at e
    · rename_i z; subst z; cases e
      exact ⟨sx.lt, c.lx.trans sx.len, fun m hm => (zero m hm).1, c.pos⟩
    · exact h.shp j r e
  · rcases Nat.lt_or_ge j i with q | q
    · exact (zero j q).2
    · have : j = i := by omega
      rw [this]; exact c.zero
  · rw [hv, if_neg (by omega)] at e
    exact h.sma j r (by omega) e
  · rw [hv] at e
    split at e
    · cases e; exact s1
    · rename_i z
      exact (h.smb j r (by omega) e).mono (by omega)
  · refine (h.fw r hr).trans fun z hz => ?_
    rcases hz with ⟨j, hj⟩ | rfl
    · by_cases hji : j = i
      · subst hji
        rw [hg] at hj; cases hj
        rw [gx]
        exact .comb _ _ (.gen (.inl mx)) (.gen (.inr rfl))
      · exact .gen (.inl ⟨j, by rw [hv, if_neg hji]; exact hj⟩)
    · rw [gy]
      exact .comb _ _ (.gen (.inl mx)) (.gen (.inr rfl))
  · have bx := h.bw x (.inl ⟨i, hg⟩)
    have bl := h.bw left (.inr rfl)
    rcases hr with ⟨j, hj⟩ | rfl
    · rw [hv] at hj
      split at hj
      · cases hj
        rw [fx]; exact .comb _ _ bx bl
      · exact h.bw r (.inl ⟨j, hj⟩)
    · rw [fy]; exact .comb _ _ bx bl
/-- the size behind one more row -/
def mb (p l k : Nat) : Nat := l + p * (k + 1)
def nb (p l k : Nat) : Nat := (p + 1) * (mb p l k + 1)
structure EqvR (n : Nat) (v0 : Piv) (row : List Int) (v : Piv) : Prop where
  fw : ∀ r, pivRows v0 r ∨ r = row → Spn n (pivRows v) r
  bw : ∀ r, pivRows v r → Spn n (fun z => pivRows v0 z ∨ z = row) r
theorem EqvR.then {n : Nat} {v0 v v' : Piv} {row : List Int} (h : EqvR n v0 row v) (e : Eqv n v v') : EqvR n v0 row v' := ⟨fun r hr => (h.fw r hr).trans e.fw, fun r hr => (e.bw r hr).trans h.bw⟩
theorem PtI.sm_all {n k l i : Nat} {v0 v : Piv} {row left : List Int} (h : PtI n k l v0 row i v left) {j : Nat} {r : List Int} (e : pget v j = some r) : SmL (mb (keys v0).length l k) r := by
  have hc : cnt (keys v0) i ≤ (keys v0).length := cnt_le
  have h1 : cnt (keys v0) i * (k + 1) ≤ (keys v0).length * (k + 1) := Nat.mul_le_mul_right _ hc
  unfold mb
  rcases Nat.lt_or_ge j i with q | q
  · exact (h.smb j r q e).mono (by omega)
  · have hp : 1 ≤ (keys v0).length := by
      have : j ∈ keys v0 := by rw [← h.ks]; exact key_of e
      exact List.length_pos_of_mem this
    have : 1 * (k + 1) ≤ (keys v0).length * (k + 1) := Nat.mul_le_mul_right _ hp
    exact (h.sma j r q e).mono (by omega)
theorem PtI.sm_left {n k l i : Nat} {v0 v : Piv} {row left : List Int} (h : PtI n k l v0 row i v left) : SmL (mb (keys v0).length l k) left := by
  have h1 : cnt (keys v0) i * (k + 1) ≤ (keys v0).length * (k + 1) := Nat.mul_le_mul_right _ cnt_le
  unfold mb
  exact h.sml.mono (by omega)
/-- nothing is left -/
theorem PtI.done {n k l : Nat} {v0 v : Piv} {row left : List Int} (h : PtI n k l v0 row n v left) (nd : (keys v0).Nodup) : Gd n (mb (keys v0).length l k) v ∧ EqvR n v0 row v := by
  have hz : left = zeros n := vec_ext (by rw [h.len]; simp [zeros]) fun j hj => by rw [h.pre j (by rw [← h.len]; exact hj), zeros_get]
  refine ⟨⟨by rw [h.ks]; exact nd, h.shp, fun i r e => h.sm_all e⟩, ⟨fun r hr => (h.fw r hr).trans fun z hz' => ?_, fun r hr => h.bw r (.inl hr)⟩⟩
  rcases hz' with q | rfl
  · exact .gen q
  · rw [hz]; exact .zero
/-- what is left becomes a pivot's row -/
theorem PtI.insert {n k l i : Nat} {v0 v v' : Piv} {row left new : List Int} (h : PtI n k l v0 row i v left) (nd : (keys v0).Nodup) (hi : i < n) (hk : i ∉ keys v) (hnew : (new = left ∧ 0 < left.getD i 0) ∨ (new = left.map (fun x => -x) ∧ left.getD i 0 < 0)) (hv : ∀ j, pget v' j = if j = i then some new else pget v j) (hks : keys v' = keys v ++ [i]) :
    Gd n (mb (keys v0).length l k) v' ∧ EqvR n v0 row v' := by
  have hneg : left.map (fun x => -x) = comb (-1) left 0 left := vec_ext (by rw [comb_len rfl]; simp) fun j hj => by
    have hj' : j < left.length := by simpa using hj
    rw [comb_get rfl, getD_lt hj, getD_lt hj']
    simp
  have hcomb : ∃ c : Int, (c = 1 ∨ c = -1) ∧ new = comb c left 0 left ∧ 0 < new.getD i 0 := by
    rcases hnew with ⟨e, q⟩ | ⟨e, q⟩
    · exact ⟨1, .inl rfl, by rw [e, comb_fst rfl], by rw [e]; exact q⟩
    · refine ⟨-1, .inr rfl, by rw [e, hneg], ?_⟩
      rw [e, hneg, comb_get rfl]; omega
  obtain ⟨c, hc, hn, hpos⟩ := hcomb
  have hln : new.length = n := by rw [hn, comb_len rfl, h.len]
  have hback : left = comb c new 0 new := vec_ext (by rw [comb_len rfl, hln, h.len]) fun j _ => by
    rw [comb_get rfl, hn, comb_get rfl]
    rcases hc with rfl | rfl <;> grind
  have mnew : pivRows v' new := ⟨i, by rw [hv, if_pos rfl]⟩
  refine ⟨⟨?_, fun j r e => ?_, fun j r e => ?_⟩, ⟨fun r hr => (h.fw r hr).trans fun z hz => ?_, fun r ⟨j, hj⟩ => ?_⟩⟩
  · rw [hks, h.ks]
    exact List.nodup_append.mpr ⟨nd, by simp, fun a ha b hb => by
      have : b = i := by simpa using hb
      subst this
      exact fun z => hk (by rw [h.ks, ← z]; exact ha)⟩
  · rw [hv] at e
    split at e
    · rename_i z; subst z; cases e
      exact ⟨hi, hln, fun m hm => by rw [hn, comb_get rfl, h.pre m hm]; simp, hpos⟩
    · exact h.shp j r e
  · rw [hv] at e
    split at e
    · cases e
      intro z hz
      have : z.natAbs ∈ left.map Int.natAbs := by
        rcases hnew with ⟨e, q⟩ | ⟨e, q⟩
        · rw [e] at hz; exact List.mem_map.mpr ⟨z, hz, rfl⟩
        · rw [e] at hz
          obtain ⟨w, hw, rfl⟩ := List.mem_map.mp hz
          exact List.mem_map.mpr ⟨w, hw, by simp⟩
      obtain ⟨w, hw, e⟩ := List.mem_map.mp this
      exact (h.sm_left w hw).of_le (by omega)
    · exact h.sm_all e
  · rcases hz with ⟨j, hj⟩ | rfl
    · refine .gen ⟨j, ?_⟩
      rw [hv, if_neg (fun z => hk (by rw [← z]; exact key_of hj))]
      exact hj
    · rw [hback]; exact .comb _ _ (.gen mnew) (.gen mnew)
  · rw [hv] at hj
    split at hj
    · cases hj
      have := h.bw left (.inr rfl)
      rw [hn]; exact .comb _ _ this this
    · exact h.bw r (.inl ⟨j, hj⟩)
section
variable {P : Program} {w : World} {K : PySem.W.Frag} {mg : Str → Option Value} {base : Heap}
structure PutIn where
  e : EO
  t : Bool
  row : List Int
  k : Nat
  l : Nat
structure PutPre (i : PutIn) : Prop where
  gd : Gd i.e.n i.k i.e.piv
  len : i.row.length = i.e.n
  sm : SmL i.l i.row
  n : i.e.n ≤ 60
  p : i.e.piv.length < 60
  rs : i.e.rests.length < 1000
  sz : nb i.e.piv.length i.l i.k + i.k + 2 ≤ bigB
theorem ok_put (E : EnvP K mg base) (ht : P.given.tree = none) : CalM P w K mg base (CE K) "put" 36 ps_Elimination_put
    (spG K PutPre (fun i => [.raw (.ref i.e.q), sInts i.t i.row]) (fun i => i.e.own K) fun i d O' => d = .non ∧ ∃ v' rs', O' = EO.own K { i.e with piv := v', rests := rs' } ∧ v'.length ≤ i.e.piv.length + 1 ∧ rs'.length ≤ i.e.rests.length + 1 ∧ Gd i.e.n (nb i.e.piv.length i.l i.k) v' ∧ EqvR i.e.n i.e.piv i.row v' ∧ (keys v' = keys i.e.piv ∨ ∃ j, j ∉ keys i.e.piv ∧ keys v' = keys i.e.piv ++ [j]) ∧ Red v') :=
  E.cal_Elimination_put fun fd F => fn_G F sc_Elimination_put (fun _ => rfl) fun i hp cdv A outer s H hr => by
    obtain ⟨e, t, row, k, l⟩ := i
    obtain ⟨gd, hlen, hsm, hn, hpl, hrs, hsz⟩ := hp
    simp only at gd hlen hsm hn hpl hrs hsz
    have hkl : (keys e.piv).length = e.piv.length := keys_len
    have hmb : mb e.piv.length l k + 1 ≤ nb e.piv.length l k := by
      unfold nb
      have : 1 * (mb e.piv.length l k + 1) ≤ (e.piv.length + 1) * (mb e.piv.length l k + 1) := Nat.mul_le_mul_right _ (by omega)
      omega
    refine bl_set 2 sc_Elimination_put.nd (evn_listQ E.b_list (ev_var 1)).ev ?_
    refine bl_for1 (xs := List.range e.n) (gD := fun i : Nat => .int (i : Nat)) 3 (fun i r o => ∃ v left t3 t4, r = [some (.raw (.ref e.q)), some (sInts t row), some (dInts left), t3, t4] ∧ o = EO.own K { e with piv := v } ∧ PtI e.n k l e.piv row i v left) PassesOwn.never sc_Elimination_put.nd
      (ei_rangeT E.b_range (ev_own (e := e) E EO.m0 (ev_var 0)) (by omega)) ⟨e.piv, row, none, none, rfl, rfl, .start gd hlen hsm⟩ (fun i x r o hx ho => ?_) (fun r o ho => ?_)
    · obtain ⟨v, left, t3, t4, rfl, rfl, hI⟩ := ho
      obtain ⟨hin, hxe⟩ := List.getElem?_eq_some_iff.mp hx
      have hin' : i < e.n := by simpa using hin
      have hxi : x = i := by simpa using hxe.symm
      subst hxi
      have aat : atI left ((x : Nat) : Int) = some (left.getD x 0) := by
        have := atI_in (xs := left) (i := ((x : Nat) : Int)) (d := 0) (by omega) (by have := hI.len; omega)
        simpa using this
      have din : DHas K (EO.own K { e with piv := v }) e.dc (Sum.inl (x : Int)) ((pget v x).map dInts) := by
        have := dhas_dct (K := K) (k := Sum.inl (x : Int)) (EO.m1 (K := K) (e := { e with piv := v }))
        rwa [val_kv] at this
      refine bl_if (et_and2 (et_neI (ev_ixM (ev_var 2) (ev_var 3) aat) ev_int) fun _ => et_din (k := Sum.inl (x : Int)) hr (ev_var 3) (ev_piv (e := { e with piv := v }) E EO.m0 (ev_var 0)) din rfl) (fun hq => ?_) (fun hq => ?_)
      · rw [Bool.and_eq_true] at hq
        have hne : left.getD x 0 ≠ 0 := by simpa using hq.1
        have hks : x ∈ keys v := by
          have := hq.2
          rw [Option.isSome_map] at this
          exact pget_key.mp this
        obtain ⟨kr, hkr⟩ := pget_some hks
        have sk := hI.shp x kr hkr
        have hlv : v.length = e.piv.length := by rw [← keys_len, hI.ks, keys_len]
        refine bl_setR 2 sc_Elimination_put.nd (evr_meth (C := CE K) (q := e.q) (Rx := []) ⟨{ e with piv := v }, x, left, kr⟩ (ok_crossed E ht) hr ⟨hkr, by rw [sk.len, hI.len], by rw [sk.len]; exact hin', sk.pos, hne, ⟨mb e.piv.length l k + k, ?_, ?_, by omega⟩, by show v.length < 1000; omega⟩
          (ev_var 0) (isins EO.m0 rfl) (ea_cons (ev_var 3) (ea_cons (ev_var 2) ea_nil)) rfl (by rw [List.append_nil]; exact .refl _)) ?_
        · exact (hI.sma x kr (Nat.le_refl _) hkr).mono (by omega)
        · have := hI.sm_left
          rw [hkl] at this
          exact this.mono (by omega)
        · rintro d o ⟨o', ⟨v', y', rfl, rfl, hc⟩, rfl⟩
          refine bl_nil (bl_nil ⟨v', y', _, _, rfl, by rw [List.append_nil]; rfl, hI.cross gd.nd hkr hc⟩)
      · refine bl_if (et_neI (ev_ixM (ev_var 2) (ev_var 3) aat) ev_int) (fun hq2 => ?_) (fun hq2 => ?_)
        · have hne : left.getD x 0 ≠ 0 := by simpa using hq2
          have hks : x ∉ keys v := fun z => by
            have h2 := pget_key.mpr z
            rw [Option.isSome_map, h2, Bool.and_true, hq2] at hq
            cases hq
          have hlv : v.length = e.piv.length := by rw [← keys_len, hI.ks, keys_len]
          have hnew : ∃ new : List Int, (new = left ∧ 0 < left.getD x 0) ∨ (new = left.map (fun x => -x) ∧ left.getD x 0 < 0) := by
            rcases Int.lt_or_gt_of_ne hne with q | q
            · exact ⟨_, .inr ⟨rfl, q⟩⟩
            · exact ⟨_, .inl ⟨rfl, q⟩⟩
          obtain ⟨new, hnew⟩ := hnew
          obtain ⟨g2, q2⟩ := hI.insert (v' := pset v x new) gd.nd hin' hks hnew (fun j => pget_pset) (keys_pset_new hks)
          rw [hkl] at g2
          have hpl2 : (pset v x new).length = v.length + 1 := by rw [← keys_len, keys_pset_new hks, List.length_append, keys_len]; rfl
          refine bl_dput (k := Sum.inl (x : Int)) (d := dInts new) hr (O1 := EO.own K { e with piv := v }) ?_ (ev_piv (e := { e with piv := v }) E EO.m0 (ev_var 0)) (ev_var 3) (dput_dct (j := 1) rfl (by rw [kvD_len]; show v.length < 1000000; omega)) ?_
          · rcases hnew with ⟨e1, q⟩ | ⟨e1, q⟩
            · subst e1
              exact (ev_if (p := true) (d1 := dInts new) (d2 := .non) (O2 := EO.own K { e with piv := v }) (O3 := EO.own K { e with piv := v }) ((et_gt (ev_ixM (ev_var 2) (ev_var 3) aat) ev_int).eq (decide_eq_true q)) (fun _ => ev_var 2) fun z => by cases z).eq2 rfl rfl
            · subst e1
              exact (ev_if (p := false) (d1 := .non) (d2 := dInts (left.map fun x => -x)) (O2 := EO.own K { e with piv := v }) (O3 := EO.own K { e with piv := v }) ((et_gt (ev_ixM (ev_var 2) (ev_var 3) aat) ev_int).eq (decide_eq_false (by omega))) (fun z => by cases z)
                fun _ => ((EvL.ev (evl_map1 (f := fun x : Int => .int (-x)) 4 sc_Elimination_put.nd (ei_list (ev_var 2)) (blkOk_by (N := N_Elimination_put) (sc := defScope s_Elimination_put) (by decide +kernel)) (fun _ _ _ _ _ => pg_name sc_Elimination_put.nd rfl (Or.inl rfl)) (fun z hz _ _ _ _ _ => ev_neg (ev_var 4)))).eq (by show D.lst _ = D.lst ((left.map fun x => -x).map D.int); rw [List.map_map]; rfl))).eq2 rfl rfl
          · have hput : (EO.own K { e with piv := v }).set 1 (Own.dct e.dc (dputD (kvD v) (Sum.inl (x : Int)) (dInts new))) = EO.own K { e with piv := pset v x new } := by
              show [_, Own.dct e.dc (dputD (kvD v) (Sum.inl (x : Int)) (dInts new)), _] = _
              rw [put_kv]
            refine bl_O hput ?_
            refine bl_exprR (evr_meth0 (C := CE K) (q := e.q) (Rx := []) ({ e with piv := pset v x new }, mb e.piv.length l k) (ok_reduce E ht) (hr.mono (by decide)) ⟨g2, by show (pset v x new).length < 64; omega, by
              show (pset v x new).length * (mb e.piv.length l k + 1) ≤ bigB
              rw [hpl2, hlv]; unfold nb at hsz; omega, by show mb e.piv.length l k ≤ bigB; omega, by show e.n ≤ 1000; omega⟩ (ev_var 0) (isins EO.m0 rfl) rfl (by rw [List.append_nil]; exact .refl _)) ?_
            rintro d o ⟨o', ⟨rfl, v', rfl, hk', g3, q3, r3⟩, rfl⟩
            have hk2 : keys v' = keys e.piv ++ [x] := by rw [hk', ← hI.ks]; exact keys_pset_new hks
            refine bl_ret0 ⟨rfl, v', e.rests, by rw [List.append_nil]; rfl, ?_, by show e.rests.length ≤ e.rests.length + 1; omega, ?_, q2.then q3, .inr ⟨x, by rw [← hI.ks]; exact hks, hk2⟩, r3⟩
            · show v'.length ≤ e.piv.length + 1
              rw [← keys_len, hk', keys_len]; show (pset v x new).length ≤ _; omega
            · have g4 : Gd e.n ((pset v x new).length * (mb e.piv.length l k + 1)) v' := g3
              rw [hpl2, hlv] at g4
              exact g4
        · have h0 : left.getD x 0 = 0 := by simpa using hq2
          exact bl_nil (bl_nil (bl_nil ⟨v, left, _, _, rfl, rfl, hI.skip gd.nd h0⟩))
    · obtain ⟨v, left, t3, t4, rfl, rfl, hI⟩ := ho
      rw [List.length_range] at hI
      have hlv : v.length = e.piv.length := by rw [← keys_len, hI.ks, keys_len]
      obtain ⟨g2, q2⟩ := hI.done gd.nd
      rw [hkl] at g2
      refine bl_app 2 (ev_rst (e := { e with piv := v }) E EO.m0 (ev_var 0)) rfl (evn_slice (ev_var 2) (eo_some (ev_own (e := { e with piv := v }) E EO.m0 (ev_var 0))) eo_none).ev rfl (by show e.rests.length < 1000000; omega) ?_
      refine bl_O (O := EO.own K { e with piv := v, rests := e.rests ++ [.lst (cutD (left.map D.int) (some (e.n : Int)) none)] }) rfl ?_
      refine bl_exprR (evr_meth0 (C := CE K) (q := e.q) (Rx := []) ({ e with piv := v, rests := e.rests ++ [.lst (cutD (left.map D.int) (some (e.n : Int)) none)] }, mb e.piv.length l k) (ok_reduce E ht) (hr.mono (by decide)) ⟨g2, by show v.length < 64; omega, by
        show v.length * (mb e.piv.length l k + 1) ≤ bigB
        rw [hlv]
        unfold nb at hsz
        rw [Nat.add_mul] at hsz; omega, by show mb e.piv.length l k ≤ bigB; omega, by show e.n ≤ 1000; omega⟩ (ev_var 0) (isins EO.m0 rfl) rfl (by rw [List.append_nil]; exact .refl _)) ?_
      rintro d o ⟨o', ⟨rfl, v', rfl, hk', g3, q3, r3⟩, rfl⟩
      refine bl_nil ⟨rfl, v', _, by rw [List.append_nil]; rfl, ?_, by simp, ?_, q2.then q3, .inl (hk'.trans hI.ks), r3⟩
      · show v'.length ≤ e.piv.length + 1
        rw [← keys_len, hk', keys_len]; show v.length ≤ _; omega
      · have g4 : Gd e.n (v.length * (mb e.piv.length l k + 1)) v' := g3
        rw [hlv] at g4
        refine ⟨g4.nd, g4.shp, fun i r e2 => (g4.sm i r e2).mono ?_⟩
        show e.piv.length * (mb e.piv.length l k + 1) ≤ (e.piv.length + 1) * (mb e.piv.length l k + 1)
        exact Nat.mul_le_mul_right _ (by omega)
end
end Pr
namespace Pr
open PySem L2 GL
/-! ### rows that are independent, and the size of what they span -/
def linc (n : Nat) : List Int → List (List Int) → List Int
  | y :: ys, e :: es => comb y e 1 (linc n ys es)
  | _, _ => zeros n
def Ind (n : Nat) (E : List (List Int)) : Prop := ∀ y : List Int, y.length = E.length → linc n y E = zeros n → ∀ a ∈ y, a = 0
theorem linc_len {n : Nat} : ∀ {y : List Int} {E : List (List Int)}, (∀ e ∈ E, e.length = n) → (linc n y E).length = n
  | [], E, _ => by cases E <;> exact zeros_len
  | y :: ys, [], _ => zeros_len
  | y :: ys, e :: es, h => by
    have h1 := h e List.mem_cons_self
    have h2 := linc_len (y := ys) (E := es) fun e he => h e (List.mem_cons_of_mem _ he)
    show (comb y e 1 (linc n ys es)).length = n
    rw [comb_len (h1.trans h2.symm), h1]
theorem linc_spn {n : Nat} {G : List Int → Prop} : ∀ {y : List Int} {E : List (List Int)}, (∀ e ∈ E, Spn n G e) → Spn n G (linc n y E)
  | [], E, _ => by cases E <;> exact .zero
  | y :: ys, [], _ => .zero
  | y :: ys, e :: es, h => .comb _ _ (h e List.mem_cons_self) (linc_spn fun e he => h e (List.mem_cons_of_mem _ he))
theorem linc_get {n : Nat} (j : Nat) : ∀ {y : List Int} {E : List (List Int)}, (∀ e ∈ E, e.length = n) → (linc n y E).getD j 0 = dot (E.map fun e => e.getD j 0) y
  | [], E, _ => by
    have : linc n [] E = zeros n := by cases E <;> rfl
    rw [this, zeros_get]
    simp [dot]
  | y :: ys, [], _ => by
    show (zeros n).getD j 0 = _
    rw [zeros_get]; simp [dot]
  | y :: ys, e :: es, h => by
    have h1 := h e List.mem_cons_self
    have ht := fun e he => h e (List.mem_cons_of_mem _ he)
    have h2 := linc_len (n := n) (y := ys) (E := es) ht
    show (comb y e 1 (linc n ys es)).getD j 0 = _
    rw [comb_get (h1.trans h2.symm), linc_get j ht]
    simp only [dot, List.map_cons, List.zip_cons_cons, List.sum_cons]
    grind
theorem linL_lead {n i : Nat} : ∀ {ts : List (Nat × List Int)} {x : List Int}, Tri n ts → LinL n ts x → x.getD i 0 ≠ 0 → (∀ j, j < i → x.getD j 0 = 0) → ∃ q ∈ ts, q.1 = i
  | [], x, _, h, hi, _ => absurd (by rw [show x = zeros n from h, zeros_get]) hi
  | (p, b) :: t, x, ht, ⟨y, z, hz, e⟩, hi, h0 => by
    have lb := ht.1.len
    have lz := linL_len (fun q hq => (tri_len ht.2.2 q hq).len) hz
    have zp := linL_pre ht.2.2 ht.2.1 hz
    have hpos : 0 < b.getD p 0 := ht.1.pos
    rcases Nat.lt_trichotomy i p with q | q | q
    · rw [e, comb_get (lb.trans lz.symm), ht.1.pre i q, zp i (by omega)] at hi
      simp at hi
    · exact ⟨(p, b), List.mem_cons_self, q.symm⟩
    · have e1 := h0 p q
      rw [e, comb_get (lb.trans lz.symm), zp p (Nat.le_refl _)] at e1
      have hy : y = 0 := by
        have e2 : y * b.getD p 0 = 0 := by simpa using e1
        rcases Int.mul_eq_zero.mp e2 with w | w
        · exact w
        · omega
      subst hy
      have ex : x = z := by rw [e, comb_snd (lb.trans lz.symm)]
      rw [ex] at hi h0
      obtain ⟨r, hr, e⟩ := linL_lead ht.2.2 hz hi h0
      exact ⟨r, List.mem_cons_of_mem _ hr, e⟩
abbrev rowOf (v : Piv) (i : Nat) : List Int := (pget v i).getD []
/-- the pivots' rows in order -/
theorem piv_tri {n k : Nat} {v : Piv} (g : Gd n k v) : ∃ ts : List (Nat × List Int), Tri n ts ∧ (∀ q : Nat × List Int, q ∈ ts ↔ pget v q.1 = some q.2) ∧ ts.length = v.length := by
  obtain ⟨js, hp, hs⟩ := sorted_ex (keys v) g.nd
  have key : ∀ js : List Nat, js.Pairwise (· < ·) → (∀ j ∈ js, j ∈ keys v) → Tri n (js.map fun j => (j, rowOf v j)) := fun js => by
    induction js with
    | nil => intro _ _; trivial
    | cons j js ih =>
      intro hs hk
      obtain ⟨h1, h2⟩ := List.pairwise_cons.mp hs
      obtain ⟨r, hr⟩ := pget_some (hk j List.mem_cons_self)
      have S := g.shp j r hr
      refine ⟨?_, fun q hq => ?_, ih h2 fun i hi => hk i (List.mem_cons_of_mem _ hi)⟩
      · show Shp' n j (rowOf v j)
        unfold rowOf
        rw [hr]
        exact ⟨S.lt, S.len, S.pre, S.pos⟩
      · obtain ⟨i, hi, rfl⟩ := List.mem_map.mp hq
        exact h1 i hi
  refine ⟨js.map fun j => (j, rowOf v j), key js hs fun j hj => hp.mem_iff.mp hj, fun q => ?_, by rw [List.length_map, hp.length_eq, keys_len]⟩
  constructor
  · intro h
    obtain ⟨j, hj, rfl⟩ := List.mem_map.mp h
    obtain ⟨r, hr⟩ := pget_some (hp.mem_iff.mp hj)
    show pget v j = some (rowOf v j)
    unfold rowOf
    rw [hr]; rfl
  · intro h
    refine List.mem_map.mpr ⟨q.1, hp.mem_iff.mpr (key_of h), ?_⟩
    show (q.1, rowOf v q.1) = q
    unfold rowOf
    rw [h]; rfl
theorem spn_lin {n k : Nat} {v : Piv} (g : Gd n k v) {ts : List (Nat × List Int)} (ht : Tri n ts) (hq : ∀ q : Nat × List Int, q ∈ ts ↔ pget v q.1 = some q.2) {x : List Int} (h : Spn n (pivRows v) x) : LinL n ts x :=
  linL_of (fun q h => (tri_len ht q h).len) (h.trans fun r ⟨i, hi⟩ => .gen ⟨i, (hq (i, r)).mpr hi⟩)
/-- a row that brings a new pivot is no fraction of what was there -/
theorem new_free {n k k' : Nat} {v v' : Piv} {row : List Int} {i : Nat} {c : Int} (g : Gd n k v) (g' : Gd n k' v') (hr : row.length = n) (e : EqvR n v row v') (hi : i ∉ keys v) (hi' : i ∈ keys v') (hc : c ≠ 0) : ¬ Spn n (pivRows v) (comb c row 0 row) := fun hs => by
  obtain ⟨ts, ht, hq, _⟩ := piv_tri g
  have all : ∀ r, Spn n (fun z => pivRows v z ∨ z = row) r → r.length = n ∧ Spn n (pivRows v) (comb c r 0 r) := fun r h => by
    induction h with
    | gen q =>
      rcases q with ⟨j, hj⟩ | rfl
      · exact ⟨(g.shp j _ hj).len, .comb _ _ (.gen ⟨j, hj⟩) (.gen ⟨j, hj⟩)⟩
      · exact ⟨hr, hs⟩
    | zero => exact ⟨zeros_len, .comb _ _ .zero .zero⟩
    | @comb x y a b _ _ h1 h2 =>
      have lxy := h1.1.trans h2.1.symm
      refine ⟨by rw [comb_len lxy, h1.1], ?_⟩
      have e1 : comb c (comb a x b y) 0 (comb a x b y) = comb a (comb c x 0 x) b (comb c y 0 y) := by
        have l1 : (comb c x 0 x).length = (comb c y 0 y).length := by rw [comb_len rfl, comb_len rfl]; exact lxy
        refine vec_ext (by rw [comb_len rfl, comb_len lxy, comb_len l1, comb_len rfl]) fun j _ => ?_
        rw [comb_get rfl, comb_get lxy, comb_get l1, comb_get rfl, comb_get rfl]
        grind
      rw [e1]
      exact .comb _ _ h1.2 h2.2
  obtain ⟨r, hr1⟩ := pget_some hi'
  have S := g'.shp i r hr1
  obtain ⟨_, hx⟩ := all r (e.bw r ⟨i, hr1⟩)
  have hl := spn_lin g ht hq hx
  have hp := S.pos
  obtain ⟨q, hqm, hqe⟩ := linL_lead (i := i) ht hl (by
    rw [comb_get rfl]
    intro z
    have z2 : c * r.getD i 0 = 0 := by simpa using z
    rcases Int.mul_eq_zero.mp z2 with w | w
    · exact hc w
    · omega) (fun j hj => by rw [comb_get rfl, S.pre j hj]; simp)
  exact hi (by rw [← hqe]; exact key_of ((hq q).mp hqm))
theorem ind_cons {n : Nat} {G : List Int → Prop} {E : List (List Int)} {row : List Int} (hl : ∀ e ∈ E, e.length = n) (hr : row.length = n) (h : Ind n E) (hE : ∀ e ∈ E, Spn n G e) (hf : ∀ c : Int, c ≠ 0 → ¬ Spn n G (comb c row 0 row)) : Ind n (row :: E) := fun y hy h0 => by
  cases y with
  | nil => simp at hy
  | cons a ys =>
    have h0 : comb a row 1 (linc n ys E) = zeros n := h0
    have ll := linc_len (n := n) (y := ys) hl
    by_cases ha : a = 0
    · subst ha
      have e1 : linc n ys E = zeros n := by rw [← h0, comb_snd (hr.trans ll.symm)]
      intro b hb
      rcases List.mem_cons.mp hb with rfl | hb
      · rfl
      · exact h ys (by simpa using hy) e1 b hb
    · refine (hf a ha ?_).elim
      have e2 : comb a row 0 row = comb (-1) (linc n ys E) 0 (linc n ys E) := by
        refine vec_ext (by rw [comb_len rfl, comb_len rfl, ll, hr]) fun j _ => ?_
        have e3 : (comb a row 1 (linc n ys E)).getD j 0 = 0 := by rw [h0, zeros_get]
        rw [comb_get (hr.trans ll.symm)] at e3
        rw [comb_get rfl, comb_get rfl]
        omega
      rw [e2]
      exact .comb _ _ (linc_spn hE) (linc_spn hE)
/-- the size of the reduced rows of what p independent rows of size m span -/
def hkb (p m : Nat) : Nat := p * (m + 6) + 4
theorem dot_le {j k : Nat} : ∀ {x y : List Int} {n : Nat}, SmL j x → SmL k y → x.length ≤ n → (dot x y).natAbs ≤ n * (2 ^ j * 2 ^ k)
  | [], y, n, _, _, _ => by simp [dot]
  | x :: xs, [], n, _, _, _ => by simp [dot]
  | x :: xs, y :: ys, 0, _, _, h => by simp at h
  | x :: xs, y :: ys, n + 1, h, hs, hl => by
    have ih := dot_le (x := xs) (y := ys) (n := n) (fun z hz => h z (List.mem_cons_of_mem _ hz)) (fun z hz => hs z (List.mem_cons_of_mem _ hz)) (by simpa using hl)
    have h1 : x.natAbs < 2 ^ j := h x List.mem_cons_self
    have h2 : y.natAbs < 2 ^ k := hs y List.mem_cons_self
    have e : dot (x :: xs) (y :: ys) = x * y + dot xs ys := by simp [dot]
    rw [e, Nat.add_mul]
    have h3 : (x * y).natAbs ≤ 2 ^ j * 2 ^ k := by
      rw [Int.natAbs_mul]
      exact Nat.mul_le_mul (Nat.le_of_lt h1) (Nat.le_of_lt h2)
    have := Int.natAbs_add_le (x * y) (dot xs ys)
    omega
theorem lat_bound {n k m : Nat} {v : Piv} {E : List (List Int)} (g : Gd n k v) (r : Red v) (hn : n ≤ 16) (hv : v.length ≤ n) (hE : E.length = v.length) (hl : ∀ e ∈ E, e.length = n) (hs : ∀ e ∈ E, Spn n (pivRows v) e) (hm : ∀ e ∈ E, SmL m e) (hi : Ind n E) : Gd n (hkb v.length m) v := by
  obtain ⟨ts, ht, hq, htl⟩ := piv_tri g
  have circ : ∀ q ∈ ts, ∃ c, Circ n (5 + m + (v.length - 1) * (m + 6)) ts q.1 c := fun q hqm => by
    let A : List (List Int) := (ts.filter fun u => decide (u.1 ≠ q.1)).map fun u => E.map fun e => e.getD u.1 0
    have hA : A.length < E.length := by
      rw [hE, ← htl]
      show ((ts.filter _).map _).length < _
      rw [List.length_map]
      have : (ts.filter fun u => decide (u.1 ≠ q.1)).length < ts.length := by
        refine Nat.lt_of_le_of_ne (List.length_filter_le _ _) fun z => ?_
        have := List.length_filter_eq_length_iff.mp z q hqm
        simp at this
      exact this
    obtain ⟨y, y1, y2, y3, y4⟩ := siegel (n := E.length) (S := m) (l := 4) (A := A) hA (fun a ha => by
      obtain ⟨u, _, rfl⟩ := List.mem_map.mp ha
      intro x hx
      obtain ⟨e, he, rfl⟩ := List.mem_map.mp hx
      exact (hm e he).get _) (by rw [hE]; show v.length ≤ 16; omega)
    have hx := linc_spn (y := y) hs
    have hlin := spn_lin g ht hq hx
    have oth : ∀ u ∈ ts, u.1 ≠ q.1 → (linc n y E).getD u.1 0 = 0 := fun u hu hne => by
      rw [linc_get u.1 hl]
      exact y3 _ (List.mem_map.mpr ⟨u, List.mem_filter.mpr ⟨hu, by simpa using hne⟩, rfl⟩)
    refine ⟨linc n y E, hlin, fun z => y2 ?_, oth, fun j => ?_⟩
    · have h0 := linL_null ht hlin fun u hu => by
        by_cases h : u.1 = q.1
        · rw [h]; exact z
        · exact oth u hu h
      refine vec_ext (by rw [y1, zeros_len]) fun j hj => ?_
      rw [zeros_get, getD_lt hj]
      exact hi y y1 h0 _ (List.getElem_mem _)
    · rw [linc_get j hl]
      have b1 := dot_le (n := 16) (x := E.map fun e => e.getD j 0) (y := y) (j := m) (k := A.length * (m + 4 + 2) + 1) (fun x hx => by
        obtain ⟨e, he, rfl⟩ := List.mem_map.mp hx
        exact (hm e he).get _) y4 (by rw [List.length_map, hE]; omega)
      refine Nat.le_trans b1 ?_
      have e1 : (16 : Nat) * (2 ^ m * 2 ^ (A.length * (m + 4 + 2) + 1)) = 2 ^ (4 + (m + (A.length * (m + 4 + 2) + 1))) := by
        rw [Nat.pow_add 2 4, Nat.pow_add 2 m]
      rw [e1]
      refine Nat.pow_le_pow_right (by decide) ?_
      have e6 : m + 4 + 2 = m + 6 := rfl
      rw [e6]
      have h2 : A.length * (m + 6) ≤ (v.length - 1) * (m + 6) := Nat.mul_le_mul_right _ (by omega)
      omega
  have key := hnf_size ht (fun a ha b hb hab => by
    have := r a.1 b.1 a.2 b.2 hab ((hq a).mp ha) ((hq b).mp hb)
    omega) circ
  refine ⟨g.nd, g.shp, fun i x hx z hz => ?_⟩
  have hx' := (hq (i, x)).mpr hx
  obtain ⟨j, hj, e⟩ := List.getElem_of_mem hz
  have b := key (i, x) hx' j
  rw [show ((i, x) : Nat × List Int).2 = x from rfl, getD_lt hj, e, htl] at b
  show z.natAbs < 2 ^ hkb v.length m
  have hpos : 1 ≤ v.length := by
    have : i ∈ keys v := key_of hx
    have := List.length_pos_of_mem this
    rw [keys_len] at this
    exact this
  have e2 : hkb v.length m = 5 + m + (v.length - 1) * (m + 6) + 5 := by
    unfold hkb
    have : v.length * (m + 6) = (v.length - 1) * (m + 6) + (m + 6) := by
      have h3 : v.length = (v.length - 1) + 1 := by omega
      rw [h3, Nat.add_mul]
      simp
    omega
  rw [e2, Nat.pow_add]
  have h4 : v.length * 2 ^ (5 + m + (v.length - 1) * (m + 6)) ≤ 16 * 2 ^ (5 + m + (v.length - 1) * (m + 6)) := Nat.mul_le_mul_right _ (by omega)
  have h5 : 0 < 2 ^ (5 + m + (v.length - 1) * (m + 6)) := Nat.two_pow_pos _
  omega
end Pr
namespace Pr
open PySem L2 GL
theorem nb_mono {p q l k k' : Nat} (h : p ≤ q) (hk : k ≤ k') : nb p l k ≤ nb q l k' := by
  unfold nb mb
  have : p * (k + 1) ≤ q * (k' + 1) := Nat.mul_le_mul h (by omega)
  exact Nat.mul_le_mul (by omega) (by omega)
theorem hkb_mono {p q m : Nat} (h : p ≤ q) : hkb p m ≤ hkb q m := by
  unfold hkb
  have : p * (m + 6) ≤ q * (m + 6) := Nat.mul_le_mul_right _ h
  omega
theorem hkb_ok {p l : Nat} (hp : p ≤ 16) (hl : l ≤ 13000) : nb p l (hkb p l) + hkb p l + 2 ≤ bigB := by
  have h1 := nb_mono (l := l) hp (hkb_mono (m := l) hp)
  have h2 := hkb_mono (m := l) hp
  have e1 : nb 16 l (hkb 16 l) = 17 * (l + 16 * (16 * (l + 6) + 4 + 1) + 1) := rfl
  have e2 : hkb 16 l = 16 * (l + 6) + 4 := rfl
  have e3 : bigB = 60000000 := rfl
  omega
theorem piv_le {n k : Nat} {v : Piv} (g : Gd n k v) : v.length ≤ n := by
  have := g.nd.length_le_of_subset (l₂ := List.range n) fun i hi => by
    obtain ⟨r, hr⟩ := pget_some hi
    exact List.mem_range.mpr (g.shp i r hr).lt
  rwa [keys_len, List.length_range] at this
theorem Gd.mono {n j k : Nat} {v : Piv} (h : Gd n j v) (l : j ≤ k) : Gd n k v := ⟨h.nd, h.shp, fun i r e => (h.sm i r e).mono l⟩
theorem Gd.nil {n k : Nat} : Gd n k [] := ⟨.nil, fun i r e => (by cases e), fun i r e => (by cases e)⟩
section
variable {P : Program} {w : World} {K : PySem.W.Frag} {mg : Str → Option Value} {base : Heap}
theorem ok_kept_rows (E : EnvP K mg base) : CalM P w K mg base (CE K) "kept_rows" 1 ps_Elimination_kept_rows
    (spG K (fun e : EO => (keys e.piv).Nodup ∧ e.piv.length < 64) (fun e => [.raw (.ref e.q)]) (fun e => e.own K) fun e d O' => O' = e.own K ∧ ∃ js : List Nat, js.Perm (keys e.piv) ∧ js.Pairwise (· < ·) ∧ d = .lst (js.map fun j => dInts (rowOf e.piv j))) :=
  E.cal_Elimination_kept_rows fun fd F => fn_G F sc_Elimination_kept_rows (fun _ => rfl) fun e hp cdv A outer s H hr => by
    obtain ⟨nd, hlen⟩ := hp
    obtain ⟨js, hp, hs⟩ := sorted_ex (keys e.piv) nd
    have hjl : js.length = e.piv.length := by rw [hp.length_eq, keys_len]
    have dk : ∀ {K' : PySem.W.Frag}, DKeys K' (e.own K) e.dc (js.map fun i : Nat => (i : Int)) := fun {K'} => dkeys_dct EO.m1 kvD_keys (hp.symm.map _)
    have hsi : (js.map fun i : Nat => (i : Int)).Pairwise (· < ·) := by
      rw [List.pairwise_map]
      exact hs.imp fun h => by omega
    exact bl_ret (EvL.ev (evl_map1 (xs := js) (gD := fun i : Nat => .int (i : Nat)) (f := fun j => dInts (rowOf e.piv j)) 1 sc_Elimination_kept_rows.nd (ei_list ((evn_sortedD E.b_sorted (ev_piv (e := e) E EO.m0 (ev_var 0)) dk hsi (by rw [List.length_map]; omega)).ev.eq (by rw [List.map_map]; rfl)))
      (blkOk_by (N := N_Elimination_kept_rows) (sc := defScope s_Elimination_kept_rows) (by decide +kernel)) (fun _ _ _ _ _ => pg_name sc_Elimination_kept_rows.nd rfl (Or.inl rfl))
      (fun j hj _ _ _ _ _ => ev_pget (e := e) E hr EO.m0 EO.m1 (ev_var 0) (ev_var 1) (by
        obtain ⟨r, e2⟩ := pget_some (hp.mem_iff.mp hj)
        rw [e2]; unfold rowOf; rw [e2]; rfl)))) ⟨rfl, js, hp, hs, rfl⟩
structure ElIn where
  t : Bool
  t' : Bool
  xss : List (List Int)
  n : Nat
  l : Nat
structure ElPre (i : ElIn) : Prop where
  n : i.n ≤ 16
  m : i.xss.length ≤ 900
  len : ∀ xs ∈ i.xss, xs.length = i.n
  sm : ∀ xs ∈ i.xss, SmL i.l xs
  sz : i.l ≤ 13000
structure Spans (n : Nat) (xss : List (List Int)) (v : Piv) : Prop where
  fw : ∀ xs ∈ xss, Spn n (pivRows v) xs
  bw : ∀ r, pivRows v r → Spn n (fun z => z ∈ xss) r
theorem Spans.snoc {n : Nat} {xss : List (List Int)} {v v' : Piv} {row : List Int} (h : Spans n xss v) (e : EqvR n v row v') : Spans n (xss ++ [row]) v' := by
  refine ⟨fun xs hx => ?_, fun r hr => (e.bw r hr).trans fun z hz => ?_⟩
  · rcases List.mem_append.mp hx with q | q
    · exact (h.fw xs q).trans fun z hz => e.fw z (.inl hz)
    · exact e.fw xs (.inr (by simpa using q))
  · rcases hz with q | rfl
    · exact (h.bw z q).trans fun y hy => .gen (List.mem_append_left _ hy)
    · exact .gen (List.mem_append_right _ (by simp))
theorem ok_eliminated (E0' : EnvP K mg base) (ht : P.given.tree = none) : CalP P w K mg base "eliminated" 37 ps_eliminated
    (spG K ElPre (fun i => [dRows i.t i.t' i.xss, .int i.n]) (fun _ => []) fun i d O' => ∃ e : EO, d = .raw (.ref e.q) ∧ O' = e.own K ∧ e.n = i.n ∧ e.piv.length ≤ i.xss.length ∧ Gd i.n (hkb e.piv.length i.l) e.piv ∧ Spans i.n i.xss e.piv ∧ Red e.piv) :=
  E0'.cal_eliminated fun fd F => fn_G F sc_eliminated (fun _ => rfl) fun i hp cdv A outer s H hr => by
    obtain ⟨t, t', xss, n, l⟩ := i
    obtain ⟨hn, hm, hlen, hsm, hsz⟩ := hp
    simp only at hn hm hlen hsm hsz
    refine bl_setR 2 sc_eliminated.nd (evr_make (fun q dx => (q, dx, n)) (ok_init E0') (hr.mono (by decide)) (fun _ _ => trivial) (ea_cons (ev_var 1) ea_nil) (fun _ _ => rfl) (fun _ _ => rfl) (fun _ _ _ _ h => h.1)) ?_
    rintro d o ⟨q, dx, o', rfl, ⟨_, dc, rr, rfl⟩, rfl⟩
    refine bl_for1 (xs := xss) (gD := sInts t') 3 (fun i r o => ∃ v rs t3, r = [some (dRows t t' xss), some (.int n), some (.raw (.ref q)), t3] ∧ o = EO.own K ⟨q, dx, dc, rr, n, v, rs⟩ ∧ v.length ≤ i ∧ rs.length ≤ i ∧ Gd n (hkb v.length l) v ∧ Spans n (xss.take i) v ∧ Red v ∧ ∃ E : List (List Int), E.length = v.length ∧ (∀ e ∈ E, e ∈ xss.take i) ∧ Ind n E) PassesOwn.never sc_eliminated.nd
      (ei_sq (ev_var 0)) ⟨[], [], none, rfl, by rw [List.append_nil]; rfl, Nat.le_refl _, Nat.le_refl _, .nil, ⟨fun _ h => by simp at h, fun r ⟨_, h⟩ => by cases h⟩, fun i j r s _ h => (by cases h), [], rfl, fun _ h => (by cases h), fun y hy _ a ha => (by
        have e : y = [] := List.eq_nil_of_length_eq_zero hy
        rw [e] at ha; cases ha)⟩ (fun i x r o hx ho => ?_) (fun r o ho => ?_)
    · obtain ⟨v, rs, t3, rfl, rfl, h1, h2, h3, h4, h5, E, E1, E2, E3⟩ := ho
      obtain ⟨hi, hxe⟩ := List.getElem?_eq_some_iff.mp hx
      have hxm : x ∈ xss := List.mem_of_getElem? hx
      have hvn := piv_le h3
      have hs := hkb_ok (p := v.length) (l := l) (by omega) hsz
      refine bl_exprR (evr_meth (C := CE K) (q := q) (Rx := []) ⟨⟨q, dx, dc, rr, n, v, rs⟩, t', x, hkb v.length l, l⟩ (ok_put E0' ht) hr ⟨h3, hlen x hxm, hsm x hxm, by show n ≤ 60; omega, by show v.length < 60; omega, by show rs.length < 1000; omega, by show nb v.length l (hkb v.length l) + hkb v.length l + 2 ≤ bigB; omega⟩
        (ev_var 2) (isins (EO.m0 (e := ⟨q, dx, dc, rr, n, v, rs⟩)) rfl) (ea_cons (ev_var 3) ea_nil) rfl (by rw [List.append_nil]; exact .refl _)) ?_
      rintro d o ⟨o', ⟨rfl, v', rs', rfl, g1, g2, g3, g4, g5, g6⟩, rfl⟩
      have g3 : Gd n (nb v.length l (hkb v.length l)) v' := g3
      have g4 : EqvR n v x v' := g4
      have g5 : keys v' = keys v ∨ ∃ j, j ∉ keys v ∧ keys v' = keys v ++ [j] := g5
      have hsp := h4.snoc g4
      have etk : xss.take i ++ [x] = xss.take (i + 1) := by rw [List.take_succ, hx, Option.toList_some]
      rw [etk] at hsp
      have htk : ∀ e, e ∈ xss.take i → e ∈ xss.take (i + 1) := fun e he => by rw [← etk]; exact List.mem_append_left _ he
      have hin : ∀ {m e}, e ∈ xss.take m → e ∈ xss := fun h => List.mem_of_mem_take h
      obtain ⟨E', F1, F2, F3⟩ : ∃ E' : List (List Int), E'.length = v'.length ∧ (∀ e ∈ E', e ∈ xss.take (i + 1)) ∧ Ind n E' := by
        rcases g5 with e | ⟨j, hj, e⟩
        · exact ⟨E, by rw [E1, ← keys_len, ← keys_len, e], fun e he => htk e (E2 e he), E3⟩
        · refine ⟨x :: E, by rw [List.length_cons, E1, ← keys_len (v := v'), e, List.length_append, keys_len]; rfl, fun e he => ?_, ind_cons (G := pivRows v) (fun e he => hlen e (hin (E2 e he))) (hlen x hxm) E3 (fun e he => h4.fw e (E2 e he)) fun c hc => new_free h3 g3 (hlen x hxm) g4 hj (by rw [e]; simp) hc⟩
          rcases List.mem_cons.mp he with rfl | he
          · rw [← etk]; simp
          · exact htk e (E2 e he)
      have hb := lat_bound g3 g6 hn (piv_le g3) F1 (fun e he => hlen e (hin (F2 e he))) (fun e he => hsp.fw e (F2 e he)) (fun e he => hsm e (hin (F2 e he))) F3
      exact bl_nil ⟨v', rs', _, rfl, by rw [List.append_nil]; rfl, by have : v'.length ≤ v.length + 1 := g1; omega, by have : rs'.length ≤ rs.length + 1 := g2; omega, hb, hsp, g6, E', F1, F2, F3⟩
    · obtain ⟨v, rs, t3, rfl, rfl, h1, h2, h3, h4, h5, _⟩ := ho
      rw [List.take_length] at h4
      exact bl_ret (ev_var 2) ⟨_, rfl, rfl, rfl, h1, h3, h4, h5⟩
structure NfPre (i : ElIn) : Prop where
  el : ElPre i
  lo : 1 ≤ i.n
theorem ok_normal_form (E : EnvP K mg base) (ht : P.given.tree = none) : CalK P w K mg base "normal_form" 38 ps_normal_form 1 ["width"] (fun a b => a ++ b)
    (spG K NfPre (fun i => [dRows i.t i.t' i.xss, .int i.n]) (fun _ => []) fun i d O' => O' = [] ∧ ∃ (v : Piv) (js : List Nat), js.Perm (keys v) ∧ js.Pairwise (· < ·) ∧ d = .lst (js.map fun j => dInts (rowOf v j)) ∧ Gd i.n (hkb v.length i.l) v ∧ Spans i.n i.xss v ∧ v.length ≤ i.xss.length ∧ Red v) :=
  E.calK_normal_form fun fd F => fn_G F sc_normal_form (fun _ => rfl) fun i hp cdv A outer s H hr => by
    obtain ⟨t, t', xss, n, l⟩ := i
    obtain ⟨he, hlo⟩ := hp
    have hhi : n ≤ 16 := he.n
    simp only at hlo
    refine bl_expr (ev_callV (t, t', xss, (n : Int)) (ok_require_rows E) (hr.mono (by decide)) ⟨by show (1 : Int) ≤ (n : Int); omega, by show (n : Int) ≤ 16; omega, fun xs hx => by have : xs.length = n := he.len xs hx; show (xs.length : Int) = (n : Int); omega⟩ (ea_cons (ev_var 0) (ea_cons (ev_var 1) ea_nil))) ?_
    refine bl_retR (R := fun d o => o = [] ∧ ∃ (v : Piv) (js : List Nat), js.Perm (keys v) ∧ js.Pairwise (· < ·) ∧ d = .lst (js.map fun j => dInts (rowOf v j)) ∧ Gd n (hkb v.length l) v ∧ Spans n xss v ∧ v.length ≤ xss.length ∧ Red v) (EvR.drop (evr_meth0R (C := CE K) (ok_kept_rows E) (hr.mono (by decide)) (evr_call (OI := fun _ => []) (⟨t, t', xss, n, l⟩ : ElIn) (ok_eliminated E ht) hr he (ea_cons (ev_var 0) (ea_cons (ev_var 1) ea_nil)) (.refl _))
      (R' := fun d o => ∃ (v : Piv) (js : List Nat) (e : EO), js.Perm (keys v) ∧ js.Pairwise (· < ·) ∧ d = .lst (js.map fun j => dInts (rowOf v j)) ∧ Gd n (hkb v.length l) v ∧ Spans n xss v ∧ v.length ≤ xss.length ∧ Red v) ?_) ?_) fun d o h => h
    · rintro d o ⟨o', ⟨e, rfl, rfl, h1, h2, h3, h4, h5⟩, rfl⟩
      have h2' : e.piv.length ≤ xss.length := h2
      have hm := he.m
      simp only at hm
      refine ⟨e, e.q, [], rfl, isins (List.mem_append_left _ EO.m0) rfl, ⟨h3.nd, by have : e.piv.length ≤ n := piv_le h3; omega⟩, rfl, .refl _, ?_⟩
      rintro d' o' ⟨rfl, js, g1, g2, rfl⟩
      exact ⟨e.piv, js, e, g1, g2, rfl, h3, h4, h2, h5⟩
    · rintro d o ⟨v, js, e, g1, g2, rfl, g3, g4, g5, g6⟩
      exact ⟨[], o, .refl _, rfl, v, js, g1, g2, rfl, g3, g4, g5, g6⟩
end
end Pr
namespace Pr
open PySem L2 GL
/-! ### the kernel's step -/
/-- the nearest quotient -/
def nq (v d : Int) : Int := if d > 0 then (2 * v + (if d < 0 then -d else d)).fdiv (2 * (if d < 0 then -d else d)) else -((2 * v + (if d < 0 then -d else d)).fdiv (2 * (if d < 0 then -d else d)))
theorem nq_near {v d : Int} (h : d ≠ 0) : 2 * (v - nq v d * d).natAbs ≤ d.natAbs ∧ 2 * ((nq v d).natAbs * d.natAbs) ≤ 2 * v.natAbs + d.natAbs := by
  have hs : (if d < 0 then -d else d) = (d.natAbs : Int) := by split <;> omega
  have key : ∀ s : Int, 0 < s → -s ≤ 2 * v - 2 * ((2 * v + s).fdiv (2 * s) * s) ∧ 2 * v - 2 * ((2 * v + s).fdiv (2 * s) * s) ≤ s := fun s hp => by
    have := (fdm (2 * v + s) (2 * s) (by omega)).1 (by omega)
    have e : (2 * v + s).fdiv (2 * s) * (2 * s) = 2 * ((2 * v + s).fdiv (2 * s) * s) := by grind
    omega
  have hk := key d.natAbs (by omega)
  have hqd : nq v d * d = (2 * v + d.natAbs).fdiv (2 * d.natAbs) * d.natAbs := by
    unfold nq
    rw [hs]
    by_cases hp : d > 0
    · rw [if_pos hp]
      congr 1
      omega
    · rw [if_neg hp, Int.neg_mul_comm]
      congr 1
      omega
  rw [hqd]
  refine ⟨by omega, ?_⟩
  rw [← Int.natAbs_mul, hqd]
  omega
/-- the rows spanned alike -/
structure EqL (n : Nat) (us vs : List (List Int)) : Prop where
  fw : ∀ v ∈ us, Spn n (fun z => z ∈ vs) v
  bw : ∀ v ∈ vs, Spn n (fun z => z ∈ us) v
theorem EqL.refl {n : Nat} {us : List (List Int)} : EqL n us us := ⟨fun _ h => .gen h, fun _ h => .gen h⟩
theorem EqL.trans {n : Nat} {us vs ws : List (List Int)} (a : EqL n us vs) (b : EqL n vs ws) : EqL n us ws := ⟨fun v h => (a.fw v h).trans b.fw, fun v h => (b.bw v h).trans a.bw⟩
/-- a multiple of one row taken from another one -/
theorem eql_sub {n : Nat} {vs : List (List Int)} {i j : Nat} {x y : List Int} {q : Int} (hi : vs[i]? = some x) (hj : vs[j]? = some y) (hij : i ≠ j) (hl : x.length = y.length) : EqL n vs (vs.set i (comb 1 x q y)) := by
  have hil := (List.getElem?_eq_some_iff.mp hi).1
  have my : y ∈ vs.set i (comb 1 x q y) := List.mem_of_getElem? (i := j) (by rw [List.getElem?_set_ne hij]; exact hj)
  have mx : comb 1 x q y ∈ vs.set i (comb 1 x q y) := List.mem_of_getElem? (i := i) (by rw [List.getElem?_set_self hil])
  refine ⟨fun v hv => ?_, fun v hv => ?_⟩
  · obtain ⟨k, hk⟩ := List.getElem?_of_mem hv
    by_cases h : i = k
    · subst h
      rw [hi] at hk; cases hk
      have e : x = comb 1 (comb 1 x q y) (-q) y := by
        have l1 := comb_len (a := 1) (b := q) hl
        refine vec_ext (by rw [comb_len (l1.trans hl), l1]) fun j _ => ?_
        rw [comb_get (l1.trans hl), comb_get hl]; grind
      have z := Spn.comb (n := n) (G := fun z => z ∈ vs.set i (comb 1 x q y)) 1 (-q) (.gen mx) (.gen my)
      rwa [← e] at z
    · exact .gen (List.mem_of_getElem? (i := k) (by rw [List.getElem?_set_ne h]; exact hk))
  · rcases List.mem_or_eq_of_mem_set hv with h | h
    · exact .gen h
    · rw [h]
      exact .comb _ _ (.gen (List.mem_of_getElem? hi)) (.gen (List.mem_of_getElem? hj))
structure KSt (n C : Nat) (a : List Int) (us vs : List (List Int)) (mx p : Nat) : Prop where
  ln : vs.length = us.length
  len : ∀ v ∈ vs, v.length = n
  eq : EqL n us vs
  sz : ∀ v ∈ vs, ∀ x ∈ v, x.natAbs * (mx * mx) ≤ C
  tp : ∀ (i : Nat) v, vs[i]? = some v → (dot v a).natAbs ≤ mx ∧ (i ≠ p → 2 * (dot v a).natAbs ≤ mx)
/-- within a pass: as many as j are done -/
structure PSt (n C : Nat) (a : List Int) (us ws vs : List (List Int)) (mx at' μ j : Nat) : Prop where
  ln : vs.length = us.length
  len : ∀ v ∈ vs, v.length = n
  eq : EqL n us vs
  top : vs[at']? = ws[at']?
  old : ∀ i, j ≤ i → vs[i]? = ws[i]?
  sz : ∀ v ∈ vs, ∀ x ∈ v, x.natAbs * (μ * μ) ≤ C
  new : ∀ (i : Nat) v, i < j → i ≠ at' → vs[i]? = some v → 2 * (dot v a).natAbs ≤ μ
theorem PSt.start {n C : Nat} {a : List Int} {us vs : List (List Int)} {mx p at' μ : Nat} (h : KSt n C a us vs mx p) (hμ : μ ≤ mx) : PSt n C a us vs vs mx at' μ 0 :=
  ⟨h.ln, h.len, h.eq, rfl, fun _ _ => rfl, fun v hv x hx => Nat.le_trans (Nat.mul_le_mul_left _ (Nat.mul_le_mul hμ hμ)) (h.sz v hv x hx), fun i v hi => by omega⟩
theorem PSt.fin {n C : Nat} {a : List Int} {us ws vs : List (List Int)} {mx at' μ : Nat} {y : List Int} (h : PSt n C a us ws vs mx at' μ vs.length) (hy : ws[at']? = some y) (ht : (dot y a).natAbs = μ) : KSt n C a us vs μ at' :=
  ⟨h.ln, h.len, h.eq, h.sz, fun i v hv => by
    by_cases hi : i = at'
    · subst hi
      rw [h.top, hy] at hv
      cases hv
      exact ⟨by omega, fun z => absurd rfl z⟩
    · have := h.new i v (List.getElem?_eq_some_iff.mp hv).1 hi hv
      exact ⟨by omega, fun _ => this⟩⟩
theorem PSt.skip {n C : Nat} {a : List Int} {us ws vs : List (List Int)} {mx at' μ j : Nat} (h : PSt n C a us ws vs mx at' μ j) (hj : j = at' ∨ ∀ v, vs[j]? = some v → dot v a = 0) : PSt n C a us ws vs mx at' μ (j + 1) :=
  ⟨h.ln, h.len, h.eq, h.top, fun i hi => h.old i (by omega), h.sz, fun i v hi hne hv => by
    rcases Nat.lt_or_ge i j with q | q
    · exact h.new i v q hne hv
    · have : i = j := by omega
      subst this
      rcases hj with e | e
      · exact absurd e hne
      · rw [e v hv]; simp⟩
theorem psz {C mx μ xi xa q t : Nat} (h2 : 2 * μ ≤ mx) (hq : 2 * (q * μ) ≤ 2 * t + μ) (ht : t ≤ mx) (hi : xi * (mx * mx) ≤ C) (ha : xa * (mx * mx) ≤ C) : (xi + q * xa) * (μ * μ) ≤ C := by
  have e1 : 4 * (μ * μ) ≤ mx * mx := by
    have := Nat.mul_le_mul h2 h2
    have e : 2 * μ * (2 * μ) = 4 * (μ * μ) := by grind
    omega
  have e2 : 2 * (μ * mx) ≤ mx * mx := by
    have := Nat.mul_le_mul_right mx h2
    have e : 2 * μ * mx = 2 * (μ * mx) := by grind
    omega
  have a1 : 4 * (xi * (μ * μ)) ≤ C := by
    have := Nat.mul_le_mul_left xi e1
    have e : xi * (4 * (μ * μ)) = 4 * (xi * (μ * μ)) := by grind
    omega
  have a2 : 2 * (q * μ * μ) ≤ 2 * (μ * mx) + μ * μ := by
    have := Nat.mul_le_mul_right μ (Nat.le_trans hq (show 2 * t + μ ≤ 2 * mx + μ by omega))
    have e3 : 2 * (q * μ) * μ = 2 * (q * μ * μ) := by grind
    have e4 : (2 * mx + μ) * μ = 2 * (μ * mx) + μ * μ := by grind
    omega
  have a3 : 4 * (2 * (q * μ * μ)) ≤ 5 * (mx * mx) := by omega
  have a4 : 8 * (q * xa * (μ * μ)) ≤ 5 * C := by
    have := Nat.mul_le_mul_left xa a3
    have e3 : xa * (4 * (2 * (q * μ * μ))) = 8 * (q * xa * (μ * μ)) := by grind
    have e4 : xa * (5 * (mx * mx)) = 5 * (xa * (mx * mx)) := by grind
    omega
  have e5 : (xi + q * xa) * (μ * μ) = xi * (μ * μ) + q * xa * (μ * μ) := Nat.add_mul _ _ _
  omega
theorem PSt.step {n C : Nat} {a : List Int} {us ws vs : List (List Int)} {mx p at' μ j : Nat} {x y : List Int} (k : KSt n C a us ws mx p) (h : PSt n C a us ws vs mx at' μ j) (h2 : 2 * μ ≤ mx) (hx : vs[j]? = some x) (hy : vs[at']? = some y) (hne : j ≠ at') (hμ : (dot y a).natAbs = μ) (h0 : 0 < μ) (hal : a.length = n) :
    PSt n C a us ws (vs.set j (comb 1 x (-(nq (dot x a) (dot y a))) y)) mx at' μ (j + 1) := by
  have mx' := List.mem_of_getElem? hx
  have my := List.mem_of_getElem? hy
  have lx := h.len x mx'
  have ly := h.len y my
  have hl := lx.trans ly.symm
  have hjl := (List.getElem?_eq_some_iff.mp hx).1
  have wx : ws[j]? = some x := by rw [← h.old j (Nat.le_refl _)]; exact hx
  have wy : ws[at']? = some y := by rw [← h.top]; exact hy
  obtain ⟨n1, n2⟩ := nq_near (v := dot x a) (d := dot y a) (by omega)
  have tx := (k.tp j x wx).1
  refine ⟨by rw [List.length_set]; exact h.ln, fun v hv => ?_, h.eq.trans (eql_sub hx hy hne hl), ?_, fun i hi => ?_, fun v hv z hz => ?_, fun i v hi hia hv => ?_⟩
  · rcases List.mem_or_eq_of_mem_set hv with q | q
    · exact h.len v q
    · rw [q, comb_len hl, lx]
  · rw [List.getElem?_set_ne hne]; exact h.top
  · rw [List.getElem?_set_ne (by omega)]; exact h.old i (by omega)
  · rcases List.mem_or_eq_of_mem_set hv with q | q
    · exact h.sz v q z hz
    · rw [q] at hz
      obtain ⟨w, hw, rfl⟩ := List.mem_map.mp hz
      obtain ⟨q1, q2⟩ := List.of_mem_zip hw
      have b1 := k.sz x (List.mem_of_getElem? wx) w.1 q1
      have b2 := k.sz y (List.mem_of_getElem? wy) w.2 q2
      have c1 := psz (q := (nq (dot x a) (dot y a)).natAbs) h2 (by rw [← hμ]; exact n2) tx b1 b2
      refine Nat.le_trans (Nat.mul_le_mul_right _ ?_) c1
      have e1 : (-(nq (dot x a) (dot y a)) * w.2).natAbs = (nq (dot x a) (dot y a)).natAbs * w.2.natAbs := by rw [Int.natAbs_mul, Int.natAbs_neg]
      have e2 : (1 * w.1).natAbs = w.1.natAbs := by rw [Int.one_mul]
      have := Int.natAbs_add_le (1 * w.1) (-(nq (dot x a) (dot y a)) * w.2)
      omega
  · by_cases hij : j = i
    · subst hij
      rw [List.getElem?_set_self hjl] at hv
      cases hv
      rw [dot_comb hl, Int.one_mul, Int.neg_mul, ← Int.sub_eq_add_neg, ← hμ]
      exact n1
    · rw [List.getElem?_set_ne hij] at hv
      exact h.new i v (by omega) hia hv
end Pr
namespace Pr
open PySem L2 GL
def sx (r : List Int) : List (List Int) := [r ++ [1], r ++ [-1]]
def sgn : Nat → List (List Int)
  | 0 => [[1]]
  | i + 1 => (sgn i).flatMap sx
def sD (xss : List (List Int)) : List (List D) := xss.map fun xs => xs.map D.int
theorem sgn_len : ∀ i, (sgn i).length = 2 ^ i
  | 0 => rfl
  | i + 1 => by
    show ((sgn i).flatMap sx).length = _
    have key : ∀ l : List (List Int), (l.flatMap sx).length = 2 * l.length := fun l => by
      induction l with
      | nil => rfl
      | cons a l ih => simp [List.flatMap_cons, ih, sx]; omega
    rw [key, sgn_len i, Nat.pow_succ]; omega
theorem sgn_mem : ∀ {i : Nat} {s : List Int}, s ∈ sgn i → s.length = i + 1 ∧ ∀ x ∈ s, x = 1 ∨ x = -1
  | 0, s, h => by
    have : s = [1] := by simpa [sgn] using h
    subst this
    exact ⟨rfl, fun x hx => .inl (by simpa using hx)⟩
  | i + 1, s, h => by
    obtain ⟨r, hr, hs⟩ := List.mem_flatMap.mp (show s ∈ (sgn i).flatMap sx from h)
    obtain ⟨l1, l2⟩ := sgn_mem hr
    have : s = r ++ [1] ∨ s = r ++ [-1] := by simpa [sx] using hs
    rcases this with rfl | rfl
    · exact ⟨by simp [l1], fun x hx => by
        rcases List.mem_append.mp hx with q | q
        · exact l2 x q
        · exact .inl (by simpa using q)⟩
    · exact ⟨by simp [l1], fun x hx => by
        rcases List.mem_append.mp hx with q | q
        · exact l2 x q
        · exact .inr (by simpa using q)⟩
/-- the rows made so far -/
def outS (l : List (List Int)) (a j : Nat) : List (List Int) := (l.take a).flatMap sx ++ ((l[a]?.map sx).getD []).take j
theorem outS_next {l : List (List Int)} {a : Nat} {r : List Int} (h : l[a]? = some r) : outS l (a + 1) 0 = outS l a 2 := by
  unfold outS
  rw [List.take_succ, h]
  simp [sx]
theorem outS_j0 {l : List (List Int)} {a : Nat} {r : List Int} (h : l[a]? = some r) : outS l a 1 = outS l a 0 ++ [r ++ [1]] := by
  unfold outS
  rw [h]; simp [sx]
theorem outS_j1 {l : List (List Int)} {a : Nat} {r : List Int} (h : l[a]? = some r) : outS l a 2 = outS l a 1 ++ [r ++ [-1]] := by
  unfold outS
  rw [h]; simp [sx]
theorem outS_all {l : List (List Int)} : outS l l.length 0 = l.flatMap sx := by simp [outS]
theorem outS_len {l : List (List Int)} {a j : Nat} : (outS l a j).length ≤ 2 * l.length + 2 := by
  have key : ∀ l : List (List Int), (l.flatMap sx).length = 2 * l.length := fun l => by
    induction l with
    | nil => rfl
    | cons a l ih => simp [List.flatMap_cons, ih, sx]; omega
  unfold outS
  rw [List.length_append, key, List.length_take, List.length_take]
  have : ((l[a]?.map sx).getD []).length ≤ 2 := by
    cases l[a]? with
    | none => simp
    | some r => simp [sx]
  omega
theorem rows_snoc {as : List Addr} {xss : List (List D)} {q : Addr} {xs : List D} (h : as.length = xss.length) : (Own.lst q xs :: rows as xss).Perm (rows (as ++ [q]) (xss ++ [xs])) := by
  unfold rows
  rw [List.zip_append h, List.map_append]
  exact (List.perm_append_comm (l₁ := [Own.lst q xs]))
section
variable {P : Program} {w : World} {K : PySem.W.Frag} {mg : Str → Option Value} {base : Heap}
theorem ok_require_sign_width (E : EnvP K mg base) : CalP P w K mg base "require_sign_width" 2 ps_require_sign_width (spV K (fun i : Int => 1 ≤ i ∧ i ≤ 10) (fun i => [.int i]) fun _ => .non) :=
  E.cal_require_sign_width fun fd F => fn_G F sc_require_sign_width (fun _ => rfl) fun i hp cdv A outer s H hr =>
    bl_ifF (et_or2 (p := false) (q := false) (et_not (p := true) (ev_callV i (ok_is_integer E) hr trivial (ea_cons (ev_var 0) ea_nil)).et) fun _ => et_not (p := true) ((et_leLe (by with_unfolding_all rfl) ev_int (ev_var 0) (ev_gint E.c_MAX_SIGN_WIDTH)).eq (by simp [hp.1, hp.2]))) (bl_nil (bl_nil ⟨rfl, rfl⟩))
theorem ok_all_signs (E : EnvP K mg base) : CalP P w K mg base "all_signs" 1 ps_all_signs
    (spG K (fun n : Nat => 1 ≤ n ∧ n ≤ 10) (fun n => [.int n]) (fun _ => []) fun n d O' => ∃ q as, d = .raw (.ref q) ∧ as.length = (sgn (n - 1)).length ∧ O' = Own.lst q (refs as) :: rows as (sD (sgn (n - 1)))) :=
  E.cal_all_signs fun fd F => fn_G F sc_all_signs (fun _ => rfl) fun n hp cdv A outer s H hr => by
    obtain ⟨hn1, hn2⟩ := hp
    refine bl_setR 1 sc_all_signs.nd (evr_lst (ear_cons (Rs := fun ds o => ∃ z, ds = [.raw (.ref z)] ∧ o = [Own.lst z [.int 1]]) (evn_lst (ds := [.int 1]) (ea_cons ev_int ea_nil)).r fun d o ⟨z, h1, h2⟩ => ?_) (fun ds o ⟨z, h1, h2⟩ => by subst h1; exact Nat.le_of_ble_eq_true rfl)) ?_
    · subst h1 h2
      exact fun B H σ hO hS Q k => ea_nil B H σ hO hS Q fun vs B' H' n r => k _ _ vs B' H' ⟨z, by rfl, rfl⟩ n r
    rintro d o ⟨q, ds, o', ⟨z, rfl, rfl⟩, rfl, rfl⟩
    refine bl_for1 (xs := List.range (n - 1)) (gD := fun i : Nat => .int (i : Nat)) 2 (fun i r o => ∃ q as t2 t3 t4, r = [some (.int n), some (.raw (.ref q)), t2, t3, t4] ∧ as.length = (sgn i).length ∧ o = Own.lst q (refs as) :: rows as (sD (sgn i))) PassesOwn.never sc_all_signs.nd
      (ei_rangeT E.b_range ((ev_sub (ev_var 0) ev_int).eq (by rw [show ((n : Int) - 1) = ((n - 1 : Nat) : Int) by omega])) (by omega)) ⟨q, [z], none, none, none, rfl, rfl, rfl⟩ (fun i x r o hx ho => ?_) (fun r o ho => ?_)
    · obtain ⟨q, as, t2, t3, t4, rfl, hl, rfl⟩ := ho
      have hi : i < n - 1 := by simpa using (List.getElem?_eq_some_iff.mp hx).1
      have hbig : (sgn i).length ≤ 512 := by
        rw [sgn_len]
        exact Nat.pow_le_pow_right (n := 2) (by decide) (show i ≤ 9 by omega)
      refine bl_freezeT 1 (Rx := []) (q := q) (as := as) (xss := sD (sgn i)) (by simp [sD, hl]) (by rw [List.append_nil]) rfl ?_
      refine bl_setL 1 (evl_2I (ds := (sD (sgn i)).map D.lst) (es := fun _ => [.int 1, .int (-1)]) (g := gName 3) (g1 := gName 4) (is := [3]) (is1 := [4]) (vs1 := [4]) (own := [("row", 3), ("sign", 4)]) (tt1 := tYes) (keep := fun _ _ => true)
        (I := fun a j acc o => ∃ bs, acc = refs bs ∧ bs.length = (outS (sgn i) a j).length ∧ o.Perm (rows bs (sD (outS (sgn i) a j))))
        (ρt := fun a => [some (.int n), some (.lst ((sD (sgn i)).map D.lst)), some (.int (x : Nat)), ((((sD (sgn i)).map D.lst)[a]?)), none]) (ρu := fun a j => [some (.int n), some (.lst ((sD (sgn i)).map D.lst)), some (.int (x : Nat)), ((((sD (sgn i)).map D.lst)[a]?)), ([D.int 1, D.int (-1)][j]?)])
        rfl sc_all_signs.nd (ei_list (ev_var 1)) (blkOk_by (N := N_all_signs) (sc := defScope s_all_signs) (by decide +kernel)) (by simp) (fun _ _ _ _ _ => pg_name sc_all_signs.nd rfl (Or.inl rfl)) (fun _ _ _ _ _ => pg_name sc_all_signs.nd rfl (Or.inl rfl)) (fun _ _ _ _ _ => pts_nil) (by simp) (by simp)
        ⟨[], rfl, rfl, .refl _⟩ (fun a d hd => ?_) (fun a d acc Oi hd hI s H0 C cl fp => ei_tup (ev_tup (ea_cons ev_int (ea_cons (ev_neg ev_int) ea_nil)))) (fun a j e he => ?_) (fun a j d e acc Oi hd he hI B H σ hO hS Q k => k B H (.refl hO)) (fun a j d e acc Oi hd he _ hI => ?_) (fun a j d e acc Oi hd he hk => by cases hk) (fun a d acc Oi hd hI => ?_) (fun a j acc Oi hI => ?_)) (fun q' xs o hI => ?_)
      · have := gok_name (K := K) (d := d) (ρ := [some (.int n), some (.lst ((sD (sgn i)).map D.lst)), some (.int (x : Nat)), none, none]) 3
        rw [hd]
        exact this
      · have := gok_name (K := K) (d := e) (ρ := [some (.int n), some (.lst ((sD (sgn i)).map D.lst)), some (.int (x : Nat)), ((((sD (sgn i)).map D.lst)[a]?)), none]) 4
        rw [he]
        exact this
      · obtain ⟨bs, rfl, hb, hp⟩ := hI
        obtain ⟨r, hr1, hd1⟩ : ∃ r, (sgn i)[a]? = some r ∧ d = dInts r := by
          rw [sD, List.map_map, List.getElem?_map] at hd
          cases q1 : (sgn i)[a]? with
          | none => rw [q1] at hd; cases hd
          | some r => rw [q1] at hd; cases hd; exact ⟨r, rfl, rfl⟩
        have hrl : r.length ≤ 100 := by
          have := (sgn_mem (List.mem_of_getElem? hr1)).1
          omega
        subst hd1
        obtain ⟨z, hz1, hz2⟩ : ∃ z : Int, e = .int z ∧ outS (sgn i) a (j + 1) = outS (sgn i) a j ++ [r ++ [z]] := by
          match j, he with
          | 0, he => cases he; exact ⟨1, rfl, outS_j0 hr1⟩
          | 1, he => cases he; exact ⟨-1, rfl, outS_j1 hr1⟩
          | (j + 2), he => simp at he
        subst hz1
        intro s H0 C cl fp
        refine EvR.mono (EvN.r (xs := r.map D.int ++ [D.int z]) (O1 := Oi) (evn_cat (ev_var (d := dInts r) 3 (congrArg some hd)) (evn_lst (ea_cons (ev_var (d := .int z) 4 (congrArg some he)) ea_nil)).ev (by rw [List.length_map]; show r.length + 1 ≤ 1000000; omega))) fun d' o' ⟨q2, g1, g2⟩ => ?_
        subst g1 g2
        refine ⟨bs ++ [q2], by simp [refs], by rw [hz2]; simp [hb], ?_⟩
        rw [hz2]
        have e1 : sD (outS (sgn i) a j ++ [r ++ [z]]) = sD (outS (sgn i) a j) ++ [r.map D.int ++ [D.int z]] := by simp [sD]
        rw [e1]
        exact (hp.cons _).trans (rows_snoc (by rw [hb]; simp [sD]))
      · obtain ⟨bs, rfl, hb, hp⟩ := hI
        have hr1 : ∃ r, (sgn i)[a]? = some r := by
          rw [sD, List.map_map, List.getElem?_map] at hd
          cases q1 : (sgn i)[a]? with
          | none => rw [q1] at hd; cases hd
          | some r => exact ⟨r, rfl⟩
        obtain ⟨r, hr1⟩ := hr1
        have e2 : outS (sgn i) a [D.int 1, D.int (-1)].length = outS (sgn i) (a + 1) 0 := (outS_next hr1).symm
        rw [e2] at hb hp
        exact ⟨bs, rfl, hb, hp⟩
      · obtain ⟨bs, rfl, hb, hp⟩ := hI
        have := outS_len (l := sgn i) (a := a) (j := j)
        show (bs.map _).length < 1000000
        rw [List.length_map]
        omega
      · obtain ⟨bs, rfl, hb, hp⟩ := hI
        have e3 : outS (sgn i) ((sD (sgn i)).map D.lst).length 0 = sgn (i + 1) := by
          rw [List.length_map, show (sD (sgn i)).length = (sgn i).length by simp [sD], outS_all]
          rfl
        rw [e3] at hb hp
        exact bl_perm (hp.cons _) (bl_nil ⟨q', bs, _, _, _, rfl, hb, rfl⟩)
    · obtain ⟨q, as, t2, t3, t4, rfl, hl, rfl⟩ := ho
      rw [List.length_range] at hl ⊢
      exact bl_ret (ev_var 1) ⟨q, as, rfl, hl, rfl⟩
end
end Pr
namespace Pr
open PySem L2 GL
def orth (xss : List (List Int)) (s : List Int) : Prop := ∀ xs ∈ xss, dot xs s = 0
theorem rows_get {as : List Addr} {xss : List (List D)} {i : Nat} {a : Addr} {xs : List D} (h1 : as[i]? = some a) (h2 : xss[i]? = some xs) : (rows as xss)[i]? = some (Own.lst a xs) := by
  unfold rows
  have : (as.zip xss)[i]? = some (a, xs) := List.getElem?_zip_eq_some.mpr ⟨h1, h2⟩
  rw [List.getElem?_map, this]; rfl
theorem spans_orth {n : Nat} {xss : List (List Int)} {v : Piv} {js : List Nat} {s : List Int} (h : Spans n xss v) (hl : ∀ xs ∈ xss, xs.length = n) (hg : ∀ i r, pget v i = some r → r.length = n) (hp : js.Perm (keys v)) : (js.all fun j => decide (dot (rowOf v j) s = 0)) = true ↔ orth xss s := by
  rw [List.all_eq_true]
  constructor
  · intro h1 xs hx
    refine (h.fw xs hx).orth (fun r ⟨i, hi⟩ => hg i r hi) fun r ⟨i, hi⟩ => ?_
    have := h1 i (hp.mem_iff.mpr (key_of hi))
    have e : rowOf v i = r := by unfold rowOf; rw [hi]; rfl
    rw [e] at this
    simpa using this
  · intro h1 j hj
    obtain ⟨r, hr⟩ := pget_some (hp.mem_iff.mp hj)
    have e : rowOf v j = r := by unfold rowOf; rw [hr]; rfl
    rw [e]
    have := (h.bw r ⟨j, hr⟩).orth hl h1
    simp [this]
section
variable {P : Program} {w : World} {K : PySem.W.Frag} {mg : Str → Option Value} {base : Heap}
structure SsPre (i : ElIn) : Prop where
  nf : NfPre i
  n : i.n ≤ 10
theorem ok_sign_shift (E : EnvP K mg base) (ht : P.given.tree = none) : CalK P w K mg base "sign_shift" 39 ps_sign_shift 1 ["width"] (fun a b => a ++ b)
    (spG K SsPre (fun i => [dRows i.t i.t' i.xss, .int i.n]) (fun _ => []) fun i d O' => (d = .non ∧ O' = [] ∧ ∀ s ∈ sgn (i.n - 1), ¬ orth i.xss s) ∨ ∃ a s, d = .raw (.ref a) ∧ O' = [Own.lst a (s.map D.int)] ∧ s ∈ sgn (i.n - 1) ∧ orth i.xss s) :=
  E.calK_sign_shift fun fd F => fn_G F sc_sign_shift (fun _ => rfl) fun i hp cdv A outer s0 H hr => by
    obtain ⟨t, t', xss, n, l⟩ := i
    obtain ⟨hnf, hn⟩ := hp
    have hlo := hnf.lo
    have hlen := hnf.el.len
    simp only at hn hlo hlen
    refine bl_expr (ev_callV (n : Int) (ok_require_sign_width E) (hr.mono (by decide)) ⟨by omega, by omega⟩ (ea_cons (ev_var 1) ea_nil)) ?_
    refine bl_expr (ev_callV (t, t', xss, (n : Int)) (ok_require_rows E) (hr.mono (by decide)) ⟨by show (1 : Int) ≤ (n : Int); omega, by show (n : Int) ≤ 16; omega, fun xs hx => by have : xs.length = n := hlen xs hx; show (xs.length : Int) = (n : Int); omega⟩ (ea_cons (ev_var 0) (ea_cons (ev_var 1) ea_nil))) ?_
    refine bl_setR 2 sc_sign_shift.nd (evr_callK (OI := fun _ => []) (⟨t, t', xss, n, l⟩ : ElIn) (ok_normal_form E ht) hr hnf (ea_cons (ev_var 0) ea_nil) (ek_cons (ev_var 1) ek_nil) rfl (.refl _)) ?_
    rintro d o ⟨o', ⟨rfl, v, js, g1, g2, rfl, g3, g4, g5, g6⟩, rfl⟩
    have g3 : Gd n (hkb v.length l) v := g3
    have hkb : hkb v.length l ≤ bigB := by
      have h1 := piv_le g3
      have h2 : l ≤ 13000 := hnf.el.sz
      have h3 := hkb_mono (m := l) (show v.length ≤ 16 by omega)
      have e2 : hkb 16 l = 16 * (l + 6) + 4 := rfl
      have e3 : bigB = 60000000 := rfl
      omega
    have hrl : ∀ i r, pget v i = some r → r.length = n := fun i r e => (g3.shp i r e).len
    refine bl_forR (tg := .Name "signs" _) (g := gName 3) PassesOwn.never rfl (eir_list (evr_call (OI := fun _ => []) n (ok_all_signs E) (hr.mono (by decide)) ⟨hlo, hn⟩ (ea_cons (ev_var 1) ea_nil) (.refl _)) (Rs := fun ds o => ∃ as, ds = refs as ∧ as.length = (sgn (n - 1)).length ∧ o = rows as (sD (sgn (n - 1)))) ?_) (pg_name sc_sign_shift.nd rfl (Or.inr rfl)) ?_
    · rintro d o ⟨o', ⟨q, as, rfl, hl, rfl⟩, rfl⟩
      exact ⟨q, refs as, rows as (sD (sgn (n - 1))), rfl, by rw [List.append_nil], as, rfl, hl, rfl⟩
    rintro ds o ⟨as, rfl, hl, rfl⟩
    refine ⟨fun i r o => ∃ t3, r = [some (dRows t t' xss), some (.int n), some (.lst (js.map fun j => dInts (rowOf v j))), t3, none] ∧ o = rows as (sD (sgn (n - 1))) ∧ ∀ j s, j < i → (sgn (n - 1))[j]? = some s → ¬ orth xss s, ⟨none, rfl, rfl, fun j s hj => by omega⟩, fun i d r o hd hI => ?_, fun r o hI => ?_⟩
    · obtain ⟨t3, rfl, rfl, hno⟩ := hI
      rw [refs, List.getElem?_map] at hd
      obtain ⟨a, ha, rfl⟩ : ∃ a, as[i]? = some a ∧ d = .raw (.ref a) := by
        cases q : as[i]? with
        | none => rw [q] at hd; cases hd
        | some a => rw [q] at hd; cases hd; exact ⟨a, rfl, rfl⟩
      have hil : i < (sgn (n - 1)).length := by rw [← hl]; exact (List.getElem?_eq_some_iff.mp ha).1
      have hs : (sgn (n - 1))[i]? = some (sgn (n - 1))[i] := List.getElem?_eq_getElem hil
      generalize (sgn (n - 1))[i] = s at hs
      have hsm := List.mem_of_getElem? hs
      obtain ⟨s1, s2⟩ := sgn_mem hsm
      have hrow : (rows as (sD (sgn (n - 1))))[i]? = some (Own.lst a (s.map D.int)) := rows_get ha (by rw [sD, List.getElem?_map, hs]; rfl)
      have hmem := List.mem_of_getElem? hrow
      refine ⟨_, [3], gok_name 3, ?_⟩
      have ssm : SmL 1 s := fun x hx => by
        rcases s2 x hx with rfl | rfl <;> (unfold Sm; decide)
      refine bl_if (q := js.all fun j => decide (dot (rowOf v j) s = 0)) (Et.lend (ρ' := [some (dRows t t' xss), some (.int n), some (.lst (js.map fun j => dInts (rowOf v j))), some (dInts s), none]) (Ev.et (ev_allM E.b_all (EvL.ev (evl_map1 (f := fun j => .bl (decide (dot (rowOf v j) s = 0))) (gD := fun j => dInts (rowOf v j)) 4 sc_sign_shift.nd (ei_list (ev_var 2)) (blkOk_by (N := N_sign_shift) (sc := defScope s_sign_shift) (by decide +kernel)) (fun _ _ _ _ _ => pg_name sc_sign_shift.nd rfl (Or.inl rfl))
          (fun j hj _ _ _ _ _ => ev_eqI (ev_callV (rowOf v j, s) (ok_product E) (hr.mono (by decide)) ⟨_, 1, ?_, ssm, hkb, by decide⟩ (ea_cons (ev_var 4) (ea_cons (ev_var 3) ea_nil))) ev_int))))) ?_) (fun hq => ?_) (fun hq => ?_)
      · obtain ⟨r, hr1⟩ := pget_some (g1.mem_iff.mp hj)
        show SmL _ (rowOf v j)
        unfold rowOf
        rw [hr1]
        exact g3.sm j r hr1
      · exact Lent.own (ρ' := [some (dRows t t' xss), some (.int n), some (.lst (js.map fun j => dInts (rowOf v j))), some (.raw (.ref a)), none]) 3 .refl rfl hmem
      · refine bl_lose (O1 := [Own.lst a (s.map D.int)]) (R := (rows as (sD (sgn (n - 1)))).eraseIdx i) (perm_at hrow) ?_
        exact bl_ret (ev_var 3) (.inr ⟨a, s, rfl, rfl, hsm, (spans_orth g4 hlen hrl g1).mp hq⟩)
      · refine bl_nil (bl_nil ⟨_, rfl, rfl, fun j s' hj hs' => ?_⟩)
        rcases Nat.lt_or_ge j i with q | q
        · exact hno j s' q hs'
        · have : j = i := by omega
          subst this
          rw [hs] at hs'
          cases hs'
          intro z
          rw [(spans_orth g4 hlen hrl g1).mpr z] at hq
          cases hq
    · obtain ⟨t3, rfl, rfl, hno⟩ := hI
      refine bl_lose (O1 := []) (.refl _) ?_
      refine bl_ret ev_non (.inl ⟨rfl, rfl, fun s hs => ?_⟩)
      obtain ⟨j, hj, e⟩ := List.getElem_of_mem hs
      refine hno j s ?_ (by rw [List.getElem?_eq_getElem hj, e])
      rw [refs, List.length_map, hl]; exact hj
end
end Pr
namespace Pr
open PySem L2 GL
section
variable {P : Program} {w : World} {K : PySem.W.Frag} {mg : Str → Option Value} {base : Heap}
def oD : Option Nat → D
  | none => .non
  | some i => .int (i : Nat)
/-- the index of the least entry other than 0, in size -/
def smC (vs : List Int) (x : Int) : Option Nat → Bool
  | none => decide (x ≠ 0)
  | some j => decide (x ≠ 0) && decide (x.natAbs < (vs.getD j 0).natAbs)
def smStep (vs : List Int) (f : Option Nat) (p : Int × Nat) : Option Nat := if smC vs p.1 f = true then some p.2 else f
theorem smC_ne {vs : List Int} {x : Int} {f : Option Nat} (h : smC vs x f = true) : x ≠ 0 := by
  cases f with
  | none => simpa [smC] using h
  | some j =>
    unfold smC at h
    rw [Bool.and_eq_true] at h
    simpa using h.1
theorem smC_lt {vs : List Int} {x : Int} {j : Nat} (h : smC vs x (some j) = true) : x.natAbs < (vs.getD j 0).natAbs := by
  unfold smC at h
  rw [Bool.and_eq_true] at h
  exact of_decide_eq_true h.2
theorem smC_no {vs : List Int} {x : Int} {j : Nat} (h : ¬ smC vs x (some j) = true) (h0 : x ≠ 0) : (vs.getD j 0).natAbs ≤ x.natAbs := by
  refine Nat.le_of_not_lt fun z => h ?_
  unfold smC
  rw [Bool.and_eq_true]
  exact ⟨decide_eq_true h0, decide_eq_true z⟩
def smallest (vs : List Int) : Option Nat := vs.zipIdx.foldl (smStep vs) none
structure SmI (vs : List Int) (i : Nat) (f : Option Nat) : Prop where
  no : f = none → ∀ j, j < i → vs.getD j 0 = 0
  yes : ∀ k, f = some k → k < i ∧ vs.getD k 0 ≠ 0 ∧ ∀ j, j < i → vs.getD j 0 ≠ 0 → (vs.getD k 0).natAbs ≤ (vs.getD j 0).natAbs
theorem SmI.step {vs : List Int} {i : Nat} {f : Option Nat} (h : SmI vs i f) : SmI vs (i + 1) (smStep vs f (vs.getD i 0, i)) := by
  unfold smStep
  split
  · rename_i hc
    refine ⟨fun z => (by cases z), fun k hk => ?_⟩
    cases hk
    refine ⟨by show i < i + 1; omega, smC_ne hc, fun j hj hne => ?_⟩
    show (vs.getD i 0).natAbs ≤ (vs.getD j 0).natAbs
    rcases Nat.lt_or_ge j i with q | q
    · cases f with
      | none => exact absurd (h.no rfl j q) hne
      | some k =>
        have h1 := (h.yes k rfl).2.2 j q hne
        have h2 := smC_lt hc
        omega
    · have : j = i := by omega
      rw [this]; exact Nat.le_refl _
  · rename_i hc
    refine ⟨fun z j hj => ?_, fun k hk => ?_⟩
    · subst z
      rcases Nat.lt_or_ge j i with q | q
      · exact h.no rfl j q
      · have : j = i := by omega
        subst this
        exact Classical.byContradiction fun z => hc (by unfold smC; exact decide_eq_true z)
    · subst hk
      obtain ⟨h1, h2, h3⟩ := h.yes k rfl
      refine ⟨by omega, h2, fun j hj hne => ?_⟩
      rcases Nat.lt_or_ge j i with q | q
      · exact h3 j q hne
      · have : j = i := by omega
        subst this
        exact smC_no hc hne
theorem smF {vs : List Int} : ∀ i, i ≤ vs.length → SmI vs i ((vs.zipIdx.take i).foldl (smStep vs) none)
  | 0, _ => ⟨fun _ j hj => (by omega), fun k hk => (by cases hk)⟩
  | i + 1, hi => by
    have ih := (smF (vs := vs) i (by omega)).step
    have e : vs.zipIdx[i]? = some (vs.getD i 0, i) := by
      have hl : i < vs.length := by omega
      rw [List.getElem?_zipIdx, List.getElem?_eq_getElem hl, getD_lt hl]
      simp
    rw [List.take_succ, e, Option.toList_some, List.foldl_append]
    exact ih
theorem smallest_ok {vs : List Int} : SmI vs vs.length (smallest vs) := by
  have := smF (vs := vs) vs.length (Nat.le_refl _)
  rwa [List.take_of_length_le (by simp)] at this
theorem ok_smallest_index (E : EnvP K mg base) : CalP P w K mg base "smallest_index" 1 ps_smallest_index (spV K (fun _ : List Int => True) (fun vs => [dInts vs]) fun vs => oD (smallest vs)) :=
  E.cal_smallest_index fun fd F => fn_G F sc_smallest_index (fun _ => rfl) fun vs hp cdv A outer s H hr => by
    refine bl_set 1 sc_smallest_index.nd ev_non ?_
    refine bl_for2 (xs := vs.zipIdx) (g1 := fun q => .int (q.2 : Nat)) (g2 := fun q => .int q.1) 2 3 (fun i r o => o = [] ∧ ∃ t2 t3, r = [some (dInts vs), some (oD ((vs.zipIdx.take i).foldl (smStep vs) none)), t2, t3]) PassesOwn.never sc_smallest_index.nd (ei_enumT E.b_enumerate (ev_var 0)) ⟨rfl, none, none, rfl⟩
      (fun i x r o hx ho => ?_) (fun r o ho => ?_) (pg2 (pg_name sc_smallest_index.nd rfl (Or.inl rfl)) (pg_name sc_smallest_index.nd rfl (Or.inl rfl)))
    · obtain ⟨rfl, t2, t3, rfl⟩ := ho
      have hil : i < vs.length := by simpa using (List.getElem?_eq_some_iff.mp hx).1
      have hs := smF (vs := vs) i (by omega)
      have e1 : (vs.zipIdx.take (i + 1)).foldl (smStep vs) none = smStep vs ((vs.zipIdx.take i).foldl (smStep vs) none) x := by
        rw [List.take_succ, hx, Option.toList_some, List.foldl_append]; rfl
      rw [e1]
      generalize (vs.zipIdx.take i).foldl (smStep vs) none = f at hs ⊢
      have hcond : Et (cxOf CX0 P w K mg base N_smallest_index "smallest_index" (defScope s_smallest_index) (He.fAd K ("smallest_index", none)) cdv A outer s H E0).nox (match (defBody s_smallest_index) with | _ :: .For _ _ (.If c _ _ _ :: _) _ _ :: _ => c | _ => .Constant .none 0 ⟨0, 0, 0, 0⟩) [some (dInts vs), some (oD f), some (.int (x.2 : Nat)), some (.int x.1)] []
          (smC vs x.1 f) [] := by
        by_cases h0 : x.1 = 0
        · exact (et_andF ((et_neI (ev_var 3) ev_int).eq (by simp [h0]))).eq (by cases f <;> simp [smC, h0])
        · cases f with
          | none => exact (et_andT ((et_neI (ev_var 3) ev_int).eq (by simp [h0])) (et_orT (et_isN (d := .non) (ev_var 1)))).eq (by simp [smC, h0])
          | some j =>
            have hj := (hs.yes j rfl).1
            have hat : atI vs ((j : Nat) : Int) = some (vs.getD j 0) := by
              have := atI_in (xs := vs) (i := ((j : Nat) : Int)) (d := 0) (by omega) (by omega)
              simpa using this
            refine (et_andT ((et_neI (ev_var 3) ev_int).eq (by simp [h0])) (et_orF (et_isN (d := .int (j : Nat)) (ev_var 1)) (et_lt (ev_abs E.b_abs (ev_var 3)) (ev_abs E.b_abs (ev_ixM (xs := vs) (g := D.int) (ev_var 0) (ev_var 1) hat))))).eq ?_
            have e3 : (decide ((if x.1 < 0 then -x.1 else x.1) < (if vs.getD j 0 < 0 then -vs.getD j 0 else vs.getD j 0))) = decide (x.1.natAbs < (vs.getD j 0).natAbs) := decide_eq_decide.mpr (by
              constructor
              · intro h; split at h <;> split at h <;> omega
              · intro h; split <;> split <;> omega)
            rw [e3]
            show decide (x.1.natAbs < (vs.getD j 0).natAbs) = (decide (x.1 ≠ 0) && decide (x.1.natAbs < (vs.getD j 0).natAbs))
            rw [decide_eq_true h0, Bool.true_and]
      refine bl_if hcond (fun hq => ?_) (fun hq => ?_)
      · refine bl_set 1 sc_smallest_index.nd (ev_var 2) (bl_nil (bl_nil ⟨rfl, some (.int (x.2 : Nat)), some (.int x.1), ?_⟩))
        have e2 : smStep vs f x = some x.2 := by unfold smStep; rw [if_pos hq]
        rw [e2]; rfl
      · refine bl_nil (bl_nil ⟨rfl, some (.int (x.2 : Nat)), some (.int x.1), ?_⟩)
        have e2 : smStep vs f x = f := by unfold smStep; rw [if_neg (by rw [hq]; decide)]
        rw [e2]
        rfl
    · obtain ⟨rfl, t2, t3, rfl⟩ := ho
      refine bl_ret (ev_var 1) ⟨?_, rfl⟩
      rw [List.take_length]
      rfl
theorem ok_nearest_quotient (E : EnvP K mg base) (ht : P.given.tree = none) : CalP P w K mg base "nearest_quotient" 34 ps_nearest_quotient (spV K (fun i : Int × Int => i.2 ≠ 0 ∧ ∃ k, Sm k i.1 ∧ Sm k i.2 ∧ k ≤ bigB) (fun i => [.int i.1, .int i.2]) fun i => .int (nq i.1 i.2)) :=
  E.cal_nearest_quotient fun fd F => fn_G F sc_nearest_quotient (fun _ => rfl) fun i hp cdv A outer s H hr => by
    obtain ⟨v, d⟩ := i
    obtain ⟨h0, k, k1, k2, kk⟩ := hp
    simp only at h0 k1 k2
    have S := seer_of (w := w) (outer := outer) (H := H) (XE := E0) (CX := CX0) (N := N_nearest_quotient) E ht rfl rfl hr
    have s2 : Sm 2 2 := by unfold Sm; decide
    have sd : Sm k (if d < 0 then -d else d) := k2.of_le (by split <;> omega)
    refine bl_set 2 sc_nearest_quotient.nd (ev_abs E.b_abs (ev_var 1)) ?_
    refine bl_set 3 sc_nearest_quotient.nd (ev_fdivA S (ev_add (ev_mul ev_int (ev_var 0) (s2.ok k1 (by decide) kk)) (ev_var 2)) (ev_mul ev_int (ev_var 2) (s2.ok sd (by decide) kk)) (by split <;> omega)) ?_
    by_cases hd : 0 < d
    · refine bl_ret (O1 := []) ((ev_if (p := true) (d1 := .int (nq v d)) (d2 := .non) (O2 := []) (O3 := []) ((et_gt (ev_var 1) ev_int).eq (decide_eq_true hd)) (fun _ => (ev_var 3).eq (by unfold nq; rw [if_pos hd])) fun z => by cases z).eq rfl) ⟨rfl, rfl⟩
    · refine bl_ret (O1 := []) ((ev_if (p := false) (d1 := .non) (d2 := .int (nq v d)) (O2 := []) (O3 := []) ((et_gt (ev_var 1) ev_int).eq (decide_eq_false hd)) (fun z => by cases z) fun _ => (ev_neg (ev_var 3)).eq (by unfold nq; rw [if_neg hd])).eq rfl) ⟨rfl, rfl⟩
end
end Pr
namespace Pr
open PySem L2 GL
/-! ### what is left of a step -/
structure KOut (n C : Nat) (a : List Int) (us ks : List (List Int)) : Prop where
  len : ∀ v ∈ ks, v.length = n
  zero : ∀ v ∈ ks, dot v a = 0
  sz : ∀ v ∈ ks, ∀ x ∈ v, x.natAbs ≤ C
  bw : ∀ v ∈ ks, Spn n (fun z => z ∈ us) v
  fw : ∀ x, Spn n (fun z => z ∈ us) x → dot x a = 0 → Spn n (fun z => z ∈ ks) x
  cnt : ks.length < us.length ∨ (ks.length = us.length ∧ ∀ v ∈ us, dot v a = 0)
theorem one_left {n : Nat} {a : List Int} {vs ks : List (List Int)} {w : List Int} (hw : w.length = n) (hwa : dot w a ≠ 0) (hl : ∀ v ∈ vs, v.length = n) (hk : ∀ v ∈ vs, v = w ∨ v ∈ ks) (hkl : ∀ v ∈ ks, v.length = n) (hk0 : ∀ v ∈ ks, dot v a = 0) {x : List Int} (h : Spn n (fun z => z ∈ vs) x) : ∃ (c : Int) (y : List Int), y.length = n ∧ Spn n (fun z => z ∈ ks) y ∧ x = comb c w 1 y := by
  induction h with
  | @gen v g =>
    rcases hk v g with rfl | q
    · exact ⟨1, zeros n, zeros_len, .zero, by rw [comb_zeros hw, comb_fst rfl]⟩
    · exact ⟨0, v, hl v g, .gen q, by rw [comb_snd (hw.trans (hl v g).symm)]⟩
  | zero => exact ⟨0, zeros n, zeros_len, .zero, by rw [comb_snd (hw.trans zeros_len.symm)]⟩
  | @comb x y p q _ _ h1 h2 =>
    obtain ⟨c, u, lu, su, rfl⟩ := h1
    obtain ⟨d, v, lv, sv, rfl⟩ := h2
    have l1 := hw.trans lu.symm
    have l2 := hw.trans lv.symm
    have l3 : (comb c w 1 u).length = (comb d w 1 v).length := by rw [comb_len l1, comb_len l2]
    have l4 : u.length = v.length := lu.trans lv.symm
    have l5 : w.length = (comb p u q v).length := by rw [comb_len l4]; exact l1
    refine ⟨p * c + q * d, comb p u q v, by rw [comb_len l4]; exact lu, .comb _ _ su sv, vec_ext (by rw [comb_len l3, comb_len l1, comb_len l5]) fun j _ => ?_⟩
    rw [comb_get l3, comb_get l1, comb_get l2, comb_get l5, comb_get l4]
    grind
/-- at most one row has a product other than 0 -/
theorem kout {n C : Nat} {a : List Int} {us vs : List (List Int)} {mx p : Nat} (k : KSt n C a us vs mx p) (hmx : 0 < mx) (h1 : (vs.filter fun v => !decide (dot v a = 0)).length ≤ 1) : KOut n C a us (vs.filter fun v => decide (dot v a = 0)) := by
  have hkm : ∀ v, v ∈ (vs.filter fun v => decide (dot v a = 0)) ↔ v ∈ vs ∧ dot v a = 0 := fun v => by rw [List.mem_filter]; simp
  have hnm : ∀ v, v ∈ (vs.filter fun v => !decide (dot v a = 0)) ↔ v ∈ vs ∧ dot v a ≠ 0 := fun v => by rw [List.mem_filter]; simp
  have hlen : (vs.filter fun v => decide (dot v a = 0)).length + (vs.filter fun v => !decide (dot v a = 0)).length = vs.length := by
    have key : ∀ l : List (List Int), (l.filter fun v => decide (dot v a = 0)).length + (l.filter fun v => !decide (dot v a = 0)).length = l.length := fun l => by
      induction l with
      | nil => rfl
      | cons x l ih =>
        by_cases h : dot x a = 0 <;> simp [h] <;> omega
    exact key vs
  refine ⟨fun v hv => k.len v ((hkm v).mp hv).1, fun v hv => ((hkm v).mp hv).2, fun v hv x hx => ?_, fun v hv => k.eq.bw v ((hkm v).mp hv).1, fun x hx h0 => ?_, ?_⟩
  · have := k.sz v ((hkm v).mp hv).1 x hx
    have h2 : 1 ≤ mx * mx := Nat.mul_pos hmx hmx
    have := Nat.mul_le_mul_left x.natAbs h2
    omega
  · have hv := hx.trans k.eq.fw
    cases hc : (vs.filter fun v => !decide (dot v a = 0)) with
    | nil =>
      refine hv.trans fun v hm => .gen ((hkm v).mpr ⟨hm, Classical.byContradiction fun z => ?_⟩)
      have := (hnm v).mpr ⟨hm, z⟩
      rw [hc] at this; cases this
    | cons w t =>
      have hw := (hnm w).mp (by rw [hc]; exact List.mem_cons_self)
      have ht : t = [] := by
        rw [hc] at h1
        exact List.eq_nil_of_length_eq_zero (by simpa using h1)
      obtain ⟨c, y, ly, sy, rfl⟩ := one_left (ks := vs.filter fun v => decide (dot v a = 0)) (k.len w hw.1) hw.2 k.len (fun v hm => by
        by_cases h : dot v a = 0
        · exact .inr ((hkm v).mpr ⟨hm, h⟩)
        · have := (hnm v).mpr ⟨hm, h⟩
          rw [hc, ht] at this
          exact .inl (by simpa using this)) (fun v hm => k.len v ((hkm v).mp hm).1) (fun v hm => ((hkm v).mp hm).2) hv
      have lwy := (k.len w hw.1).trans ly.symm
      have hy0 : dot y a = 0 := sy.orth (fun v hm => k.len v ((hkm v).mp hm).1) fun v hm => ((hkm v).mp hm).2
      rw [dot_comb lwy, hy0] at h0
      have hc0 : c = 0 := by
        have e : c * dot w a = 0 := by simpa using h0
        rcases Int.mul_eq_zero.mp e with q | q
        · exact q
        · exact absurd q hw.2
      rw [hc0, comb_snd lwy]
      exact sy
  · cases hc : (vs.filter fun v => !decide (dot v a = 0)) with
    | nil =>
      rw [hc] at hlen
      refine .inr ⟨by rw [← k.ln]; simpa using hlen, fun v hv => (k.eq.fw v hv).orth k.len fun u hu => Classical.byContradiction fun z => ?_⟩
      have := (hnm u).mpr ⟨hu, z⟩
      rw [hc] at this; cases this
    | cons w t =>
      rw [hc] at hlen
      have := k.ln
      simp only [List.length_cons] at hlen
      exact .inl (by omega)
/-- there is a product other than 0 besides the one at p -/
theorem two_left {ts : List Int} {p : Nat} (h : 1 < (ts.filter fun t => !decide (t = 0)).length) : ∃ i, i ≠ p ∧ ∃ t, ts[i]? = some t ∧ t ≠ 0 := by
  refine Classical.byContradiction fun hn => ?_
  have hz : ∀ i t, i ≠ p → ts[i]? = some t → t = 0 := fun i t hi ht => Classical.byContradiction fun z => hn ⟨i, hi, t, ht, z⟩
  have key : ∀ (l : List Int) (s : Nat), (∀ i t, i + s ≠ p → l[i]? = some t → t = 0) → (l.filter fun t => !decide (t = 0)).length ≤ 1 := fun l => by
    induction l with
    | nil => intro s _; simp
    | cons x l ih =>
      intro s hs
      by_cases hx : x = 0
      · have := ih (s + 1) fun i t hi ht => hs (i + 1) t (by omega) (by simpa using ht)
        simpa [hx] using this
      · have hsp : s = p := Classical.byContradiction fun z => hx (hs 0 x (by omega) (by simp))
        have hall : ∀ t ∈ l, t = 0 := fun t ht => by
          obtain ⟨i, hi⟩ := List.getElem?_of_mem ht
          exact hs (i + 1) t (by omega) (by simpa using hi)
        have : (l.filter fun t => !decide (t = 0)) = [] := List.filter_eq_nil_iff.mpr fun t ht => by simp [hall t ht]
        simp [hx, this]
  have := key ts 0 fun i t hi ht => hz i t (by omega) ht
  omega
end Pr
namespace Pr
open PySem L2 GL
theorem KSt.start {n K T : Nat} {a : List Int} {us : List (List Int)} (hl : ∀ v ∈ us, v.length = n) (hs : ∀ v ∈ us, SmL K v) (ht : ∀ v ∈ us, (dot v a).natAbs ≤ 2 ^ T) : KSt n (2 ^ (K + 2 * T + 2)) a us us (2 ^ (T + 1)) 0 :=
  ⟨rfl, hl, .refl, fun v hv x hx => by
    have h1 : x.natAbs < 2 ^ K := hs v hv x hx
    have e : 2 ^ (K + 2 * T + 2) = 2 ^ K * (2 ^ (T + 1) * 2 ^ (T + 1)) := by
      rw [← Nat.pow_add, ← Nat.pow_add]
      congr 1
      omega
    rw [e]
    exact Nat.mul_le_mul_right _ (Nat.le_of_lt h1), fun i v hv => by
    have := ht v (List.mem_of_getElem? hv)
    rw [Nat.pow_succ]
    omega⟩
theorem KSt.entry {n c : Nat} {a : List Int} {us vs : List (List Int)} {mx p : Nat} (k : KSt n (2 ^ c) a us vs mx p) (hmx : 0 < mx) {v : List Int} (hv : v ∈ vs) : SmL (c + 1) v := fun x hx => by
  have := k.sz v hv x hx
  have h2 : 1 ≤ mx * mx := Nat.mul_pos hmx hmx
  have := Nat.mul_le_mul_left x.natAbs h2
  have : 0 < 2 ^ c := Nat.two_pow_pos c
  show x.natAbs < 2 ^ (c + 1)
  rw [Nat.pow_succ]
  omega
theorem PSt.entry {n c : Nat} {a : List Int} {us ws vs : List (List Int)} {mx at' μ j : Nat} (k : PSt n (2 ^ c) a us ws vs mx at' μ j) (hμ : 0 < μ) {v : List Int} (hv : v ∈ vs) : SmL (c + 1) v := fun x hx => by
  have := k.sz v hv x hx
  have h2 : 1 ≤ μ * μ := Nat.mul_pos hμ hμ
  have := Nat.mul_le_mul_left x.natAbs h2
  have : 0 < 2 ^ c := Nat.two_pow_pos c
  show x.natAbs < 2 ^ (c + 1)
  rw [Nat.pow_succ]
  omega
abbrev prods (vs : List (List Int)) (a : List Int) : List Int := vs.map fun v => dot v a
abbrev kOwn (vq pq : Addr) (vs : List (List Int)) (a : List Int) : List Own := [Own.lst vq (vs.map dInts), Own.lst pq ((prods vs a).map D.int)]
theorem zip_zero {a : List Int} : ∀ vs : List (List Int), ((vs.zip (prods vs a)).filter fun q => decide (q.2 = 0)).map (fun q => dInts q.1) = (vs.filter fun v => decide (dot v a = 0)).map dInts
  | [] => rfl
  | v :: vs => by
    have ih := zip_zero (a := a) vs
    unfold prods at ih ⊢
    rw [List.map_cons, List.zip_cons_cons, List.filter_cons, List.filter_cons]
    by_cases h : dot v a = 0
    · simp only [h, decide_true, if_true, List.map_cons, ih]
    · simp only [h, decide_false, Bool.false_eq_true, if_false, ih]
theorem prods_cnt {a : List Int} (vs : List (List Int)) : ((prods vs a).filter fun z => !decide (z = 0)).length = (vs.filter fun v => !decide (dot v a = 0)).length := by
  unfold prods
  rw [List.filter_map, List.length_map]; rfl
section
variable {P : Program} {w : World} {K : PySem.W.Frag} {mg : Str → Option Value} {base : Heap}
structure KsIn where
  us : List (List Int)
  a : List Int
  n : Nat
  k : Nat
  s : Nat
  t : Nat
structure KsPre (i : KsIn) : Prop where
  len : ∀ v ∈ i.us, v.length = i.n
  al : i.a.length = i.n
  sm : ∀ v ∈ i.us, SmL i.k v
  as : SmL i.s i.a
  ts : ∀ v ∈ i.us, (dot v i.a).natAbs ≤ 2 ^ i.t
  m : i.us.length ≤ 100
  b : i.k + 2 * i.t + 10 ≤ bigB
  bs : i.s ≤ bigB
theorem ok_kernel_step (E : EnvP K mg base) (ht : P.given.tree = none) : CalP P w K mg base "kernel_step" 35 ps_kernel_step
    (spG K KsPre (fun i => [dRows2 i.us, dInts i.a]) (fun _ => []) fun i d O' => O' = [] ∧ ∃ ks, d = dRows2 ks ∧ KOut i.n (2 ^ (i.k + 2 * i.t + 2)) i.a i.us ks) :=
  E.cal_kernel_step fun fd F => fn_G F sc_kernel_step (fun _ => rfl) fun i hp cdv A outer s0 H hr => by
    obtain ⟨us, a, n, k, s, t⟩ := i
    obtain ⟨hlen, hal, hsm, has, hts, hm, hb, hbs⟩ := hp
    simp only at hlen hal hsm has hts hm hb hbs
    have K0 := KSt.start hlen hsm hts
    refine bl_setL 2 (evl_map1 (xs := us) (gD := dInts) (f := dInts) 3 sc_kernel_step.nd (ei_list (ev_var 0)) (blkOk_by (N := N_kernel_step) (sc := defScope s_kernel_step) (by decide +kernel)) (fun _ _ _ _ _ => pg_name sc_kernel_step.nd rfl (Or.inl rfl)) (fun v hv _ _ _ _ _ => (evn_listL E.b_list (ev_var 3)).ev)) ?_
    rintro vq _ _ ⟨rfl, rfl⟩
    refine bl_setL 4 (EvL.lend (ys := (prods us a).map D.int) (ρ' := [some (dRows2 us), some (dInts a), some (dRows2 us), none, none, none, none, none, none]) ((evl_map1 (xs := us) (gD := dInts) (f := fun v => .int (dot v a)) 3 sc_kernel_step.nd (ei_list (ev_var 2)) (blkOk_by (N := N_kernel_step) (sc := defScope s_kernel_step) (by decide +kernel)) (fun _ _ _ _ _ => pg_name sc_kernel_step.nd rfl (Or.inl rfl)) (fun v hv _ _ _ _ _ => ev_callV (v, a) (ok_product E) (hr.mono (by decide)) ⟨k, s, hsm v hv, has, by show k ≤ bigB; omega, hbs⟩ (ea_cons (ev_var 3) (ea_cons (ev_var 1) ea_nil)))).mono fun ys o ⟨h1, h2⟩ => ⟨by rw [h1, List.map_map]; rfl, h2⟩)
      (Lent.own (ρ' := [some (dRows2 us), some (dInts a), some (.raw (.ref vq)), none, none, none, none, none, none]) 2 .refl rfl List.mem_cons_self) (by rw [List.all_map]; exact List.all_eq_true.mpr fun _ _ => rfl)) ?_
    rintro pq _ _ ⟨rfl, rfl⟩
    refine bl_perm (O1 := kOwn vq pq us a) (List.Perm.swap _ _ _) ?_
    refine bl_while (fun m r o => ∃ vs p t6 t7 t8, r = [some (dRows2 us), some (dInts a), some (.raw (.ref vq)), none, some (.raw (.ref pq)), none, t6, t7, t8] ∧ o = kOwn vq pq vs a ∧ KSt n (2 ^ (k + 2 * t + 2)) a us vs m p ∧ 0 < m ∧ m ≤ 2 ^ (t + 1)) PassesOwn.never (2 ^ (t + 1)) ⟨us, 0, none, none, none, rfl, rfl, K0, Nat.two_pow_pos _, Nat.le_refl _⟩ ?_
    rintro mx r o ⟨vs, p, t6, t7, t8, rfl, rfl, hK, hmx, hmx2⟩
    have hvl : vs.length ≤ 100 := by rw [hK.ln]; exact hm
    have lp : Lent (cxOf CX0 P w K mg base N_kernel_step "kernel_step" (defScope s_kernel_step) (He.fAd K ("kernel_step", none)) cdv A outer s0 H E0).nox.K (kOwn vq pq vs a) [some (dRows2 us), some (dInts a), some (.raw (.ref vq)), none, some (.raw (.ref pq)), none, t6, t7, t8] [some (dRows2 us), some (dInts a), some (.raw (.ref vq)), none, some (dInts (prods vs a)), none, t6, t7, t8] :=
      Lent.own (X := (cxOf CX0 P w K mg base N_kernel_step "kernel_step" (defScope s_kernel_step) (He.fAd K ("kernel_step", none)) cdv A outer s0 H E0).nox) (ρ' := [some (dRows2 us), some (dInts a), some (.raw (.ref vq)), none, some (.raw (.ref pq)), none, t6, t7, t8]) 4 .refl rfl (by simp)
    refine ⟨decide (1 < (((prods vs a).filter fun z => !decide (z = 0)).length : Int)), kOwn vq pq vs a, Et.lend (ρ' := [some (dRows2 us), some (dInts a), some (.raw (.ref vq)), none, some (dInts (prods vs a)), none, t6, t7, t8]) ((et_gt (ev_lenL E.b_len (EvL.ev (evl_filter1 (xs := prods vs a) (gD := D.int) (f := D.int) (q := fun z => !decide (z = 0)) 5 sc_kernel_step.nd (ei_list (ev_var 4)) (blkOk_by (N := N_kernel_step) (sc := defScope s_kernel_step) (by decide +kernel)) (fun _ _ _ _ _ => pg_name sc_kernel_step.nd rfl (Or.inl rfl)) (fun z hz _ _ _ _ _ => et_neI (ev_var 5) ev_int) (fun z hz _ _ _ _ _ _ => ev_var 5)))) ev_int).eq (by rw [List.length_map])) lp, fun hq => ?_, fun hq => ?_⟩
    · have hcnt : 1 < ((prods vs a).filter fun z => !decide (z = 0)).length := by
        have := of_decide_eq_true hq
        omega
      obtain ⟨i2, hi2, t2, ht2, htn⟩ := two_left (p := p) hcnt
      have hi2l := (List.getElem?_eq_some_iff.mp ht2).1
      have hi2g : (prods vs a).getD i2 0 = t2 := by rw [getD_lt hi2l]; exact (List.getElem?_eq_some_iff.mp ht2).2
      have SI := smallest_ok (vs := prods vs a)
      obtain ⟨kk, hkk⟩ : ∃ kk, smallest (prods vs a) = some kk := by
        cases h : smallest (prods vs a) with
        | none => exact absurd (SI.no h i2 hi2l) (by rw [hi2g]; exact htn)
        | some kk => exact ⟨kk, rfl⟩
      obtain ⟨s1, s2, s3⟩ := SI.yes kk hkk
      have hkl : kk < vs.length := by simpa using s1
      have hy : vs[kk]? = some vs[kk] := List.getElem?_eq_getElem hkl
      generalize vs[kk] = y at hy
      have pget : ∀ {ws : List (List Int)} {j : Nat} {x : List Int}, ws[j]? = some x → (prods ws a).getD j 0 = dot x a := fun {ws j x} h => by
        have hl := (List.getElem?_eq_some_iff.mp h).1
        rw [getD_lt (by simpa using hl)]
        simp only [List.getElem_map]
        rw [(List.getElem?_eq_some_iff.mp h).2]
      rw [pget hy] at s2 s3
      have h0 : 0 < (dot y a).natAbs := by omega
      have h2 : 2 * (dot y a).natAbs ≤ mx := by
        have a1 := s3 i2 hi2l (by rw [hi2g]; exact htn)
        have hv2 : vs[i2]? = some (vs[i2]'(by simpa using hi2l)) := List.getElem?_eq_getElem _
        have a2 := (hK.tp i2 _ hv2).2 hi2
        rw [pget hv2] at a1
        omega
      refine bl_set 6 sc_kernel_step.nd ((Ev.lend (ev_callV (prods vs a) (ok_smallest_index E) (hr.mono (by decide)) trivial (ea_cons (ev_var 4) ea_nil)) lp (by rw [hkk]; rfl)).eq (show oD (smallest (prods vs a)) = D.int (kk : Nat) by rw [hkk]; rfl)) ?_
      refine bl_for1 (xs := List.range vs.length) (gD := fun i : Nat => .int (i : Nat)) 7 (fun j r o => ∃ vs' t7 t8, r = [some (dRows2 us), some (dInts a), some (.raw (.ref vq)), none, some (.raw (.ref pq)), none, some (.int (kk : Nat)), t7, t8] ∧ o = kOwn vq pq vs' a ∧ PSt n (2 ^ (k + 2 * t + 2)) a us vs vs' mx kk (dot y a).natAbs j) PassesOwn.never sc_kernel_step.nd
        (ei_rangeT E.b_range ((ev_lenO E.b_len 0 (ev_var 2) rfl).eq (by rw [List.length_map])) (by omega)) ⟨vs, _, _, rfl, rfl, .start hK (by omega)⟩ (fun j x r o hx ho => ?_) (fun r o ho => ?_)
      · obtain ⟨vs', t7, t8, rfl, rfl, hP⟩ := ho
        have hvv : vs'.length = vs.length := by rw [hP.ln, hK.ln]
        have hjl : j < vs.length := by simpa using (List.getElem?_eq_some_iff.mp hx).1
        have hxj : x = j := by
          have := (List.getElem?_eq_some_iff.mp hx).2
          simpa using this.symm
        subst hxj
        have hvx : vs'[x]? = some (vs'[x]'(by omega)) := List.getElem?_eq_getElem _
        generalize vs'[x]'(by omega) = vx at hvx
        have hvy : vs'[kk]? = some y := by rw [hP.top]; exact hy
        have hat : ∀ {i : Nat} {z : List Int}, vs'[i]? = some z → atI ((prods vs' a).map D.int) ((i : Nat) : Int) = some (.int (dot z a)) := fun {i z} h => by
          refine atI_nat ?_
          rw [List.map_map, List.getElem?_map, h]; rfl
        have hav : ∀ {i : Nat} {z : List Int}, vs'[i]? = some z → atI (vs'.map dInts) ((i : Nat) : Int) = some (dInts z) := fun {i z} h => by
          refine atI_nat ?_
          rw [List.getElem?_map, h]; rfl
        refine bl_if (et_and2 (et_neI (ev_var 7) (ev_var 6)) fun _ => et_neI (ev_ixO 1 (ev_var 4) (ev_var 7) rfl (hat hvx)) ev_int) (fun hq => ?_) (fun hq => ?_)
        · rw [Bool.and_eq_true] at hq
          have hne : x ≠ kk := fun z => by
            subst z
            simp at hq
          have hdx : dot vx a ≠ 0 := by simpa using hq.2
          have tx := (hK.tp x vx (by rw [← hP.old x (Nat.le_refl _)]; exact hvx)).1
          have smx : Sm (t + 2) (dot vx a) := by
            unfold Sm
            have : 2 ^ (t + 2) = 2 * 2 ^ (t + 1) := by rw [Nat.pow_succ 2 (t + 1)]; omega
            have := Nat.two_pow_pos (t + 1)
            omega
          have smy : Sm (t + 2) (dot y a) := by
            unfold Sm
            have : 2 ^ (t + 2) = 2 * 2 ^ (t + 1) := by rw [Nat.pow_succ 2 (t + 1)]; omega
            omega
          have smq : Sm (t + 2) (-(nq (dot vx a) (dot y a))) := by
            refine Sm.neg ?_
            unfold Sm
            have n2 := (nq_near (v := dot vx a) (d := dot y a) s2).2
            have e3 : (nq (dot vx a) (dot y a)).natAbs * 1 ≤ (nq (dot vx a) (dot y a)).natAbs * (dot y a).natAbs := Nat.mul_le_mul_left _ h0
            have : 2 ^ (t + 2) = 2 * 2 ^ (t + 1) := by rw [Nat.pow_succ 2 (t + 1)]; omega
            have := Nat.two_pow_pos (t + 1)
            omega
          have ex := hP.entry h0 (List.mem_of_getElem? hvx)
          have ey := hP.entry h0 (List.mem_of_getElem? hvy)
          have hlx := hP.len vx (List.mem_of_getElem? hvx)
          have hly := hP.len y (List.mem_of_getElem? hvy)
          have o1 : Sm 1 1 := by unfold Sm; decide
          refine bl_set 8 sc_kernel_step.nd (ev_callV (dot vx a, dot y a) (ok_nearest_quotient E ht) hr ⟨s2, t + 2, smx, smy, by omega⟩ (ea_cons (ev_ixO 1 (ev_var 4) (ev_var 7) rfl (hat hvx)) (ea_cons (ev_ixO 1 (ev_var 4) (ev_var 6) rfl (hat hvy)) ea_nil))) ?_
          refine bl_put (i := (x : Nat)) (j := x) 0 (ev_callV (1, vx, -(nq (dot vx a) (dot y a)), y) (ok_summed E) (hr.mono (by decide)) ⟨1, _, _, _, o1, ex, smq, ey, by decide, by omega, by omega, by omega⟩
            (ea_cons ev_int (ea_cons (ev_ixO 0 (ev_var 2) (ev_var 7) rfl (hav hvx)) (ea_cons (ev_neg (ev_var 8)) (ea_cons (ev_ixO 0 (ev_var 2) (ev_var 6) rfl (hav hvy)) ea_nil))))) (ev_var 2) (ev_var 7) rfl (by unfold ixN; rw [List.length_map, if_pos (by omega), if_pos (by omega)]; simp) ?_
          refine bl_augS (m := dot vx a) (n := nq (dot vx a) (dot y a) * dot y a) (j := x) 1 (ev_var 4) (ev_var 7) rfl (by rw [List.map_map, List.getElem?_map, hvx]; rfl) (ev_mul (ev_var 8) (ev_ixO 1 (ev_var 4) (ev_var 6) rfl (hat hvy)) ?_) ip_sub ?_
          · have h3 := smq.neg
            rw [Int.neg_neg] at h3
            exact h3.ok smy (by omega) (by omega)
          · refine bl_nil (bl_nil ⟨vs'.set x (comb 1 vx (-(nq (dot vx a) (dot y a))) y), _, _, rfl, ?_, hP.step hK h2 hvx hvy hne rfl h0 hal⟩)
            show [Own.lst vq ((vs'.map dInts).set x (dInts (comb 1 vx (-(nq (dot vx a) (dot y a))) y))), Own.lst pq (((prods vs' a).map D.int).set x (.int (dot vx a - nq (dot vx a) (dot y a) * dot y a)))] = [Own.lst vq ((vs'.set x _).map dInts), Own.lst pq ((prods (vs'.set x _) a).map D.int)]
            have e1 : dot (comb 1 vx (-(nq (dot vx a) (dot y a))) y) a = dot vx a - nq (dot vx a) (dot y a) * dot y a := by
              rw [dot_comb (hlx.trans hly.symm), Int.one_mul, Int.neg_mul, Int.sub_eq_add_neg]
            rw [List.map_set, prods, prods, List.map_set, List.map_set, e1]
        · refine bl_nil (bl_nil ⟨vs', _, _, rfl, rfl, hP.skip ?_⟩)
          by_cases hk2 : x = kk
          · exact .inl hk2
          · refine .inr fun v hv => ?_
            rw [hvx] at hv
            cases hv
            have e4 : decide (((x : Nat) : Int) = ((kk : Nat) : Int)) = false := decide_eq_false (by omega)
            rw [e4] at hq
            simpa using hq
      · obtain ⟨vs', t7, t8, rfl, rfl, hP⟩ := ho
        rw [List.length_range] at hP
        have hvv : vs'.length = vs.length := by rw [hP.ln, hK.ln]
        rw [← hvv] at hP
        exact bl_nil ⟨(dot y a).natAbs, by omega, vs', kk, _, _, _, rfl, rfl, hP.fin hy rfl, h0, by omega⟩
    · have hcnt : (vs.filter fun v => !decide (dot v a = 0)).length ≤ 1 := by
        have := of_decide_eq_false hq
        rw [prods_cnt] at this
        omega
      refine bl_freezeL 2 (.refl _) rfl (bl_freezeL 4 (.refl _) rfl ?_)
      refine bl_ret (EvL.ev ((evl_filter2 (xs := vs.zip (prods vs a)) (g1 := fun q => dInts q.1) (g2 := fun q => .int q.2) (f := fun q => dInts q.1) (q := fun q => decide (q.2 = 0)) 3 5 sc_kernel_step.nd (ei_zipT (xs := vs) (ys := prods vs a) (gx := dInts) (gy := D.int) E.b_zip (ea_cons (ev_var 2) (ea_cons (ev_var 4) ea_nil))) (blkOk_by (N := N_kernel_step) (sc := defScope s_kernel_step) (by decide +kernel)) (fun _ _ _ _ _ => pg2 (pg_name sc_kernel_step.nd rfl (Or.inl rfl)) (pg_name sc_kernel_step.nd rfl (Or.inl rfl)))
        (fun q hq _ _ _ _ _ => et_eqI (ev_var 5) ev_int) (fun q hq _ _ _ _ _ _ => ev_var 3)).mono fun ys o ⟨h1, h2⟩ => ⟨h1.trans (zip_zero vs), h2⟩)) ⟨rfl, _, rfl, kout hK hmx hcnt⟩
end
end Pr
namespace Pr
open PySem L2 GL
/-! ### a kernel's rows and their size -/
theorem dot_comm : ∀ a b : List Int, dot a b = dot b a
  | [], [] => rfl
  | [], _ :: _ => by simp [dot]
  | _ :: _, [] => by simp [dot]
  | a :: as, b :: bs => by
    have ih := dot_comm as bs
    simp only [dot, List.zip_cons_cons, List.map_cons, List.sum_cons] at ih ⊢
    rw [ih, Int.mul_comm]
/-- a unit row -/
def uv (n i : Nat) (f : Int) : List Int := (List.range n).map fun j => if j = i then f else 0
theorem uv_len {n i : Nat} {f : Int} : (uv n i f).length = n := by simp [uv]
theorem uv_get {n i j : Nat} {f : Int} (h : j < n) : (uv n i f).getD j 0 = if j = i then f else 0 := by
  rw [getD_lt (by rw [uv_len]; exact h)]
  simp [uv]
theorem uv_sm {n i : Nat} : SmL 1 (uv n i 1) := fun x hx => by
  obtain ⟨j, _, rfl⟩ := List.mem_map.mp hx
  show Sm 1 (if j = i then 1 else 0)
  split <;> (unfold Sm; decide)
theorem dot_get : ∀ {a x : List Int} {n : Nat}, a.length = n → x.length = n → (∀ j, j < n → a.getD j 0 * x.getD j 0 = 0) → dot a x = 0
  | [], _, _, _, _, _ => by simp [dot]
  | _ :: _, [], _, _, _, _ => by simp [dot]
  | a :: as, x :: xs, n, h1, h2, h => by
    have e : dot (a :: as) (x :: xs) = a * x + dot as xs := by simp [dot]
    have h0 : a * x = 0 := h 0 (by rw [← h1]; simp)
    rw [e, dot_get (a := as) (x := xs) rfl (by simp at h1 h2; omega) (fun j hj => by
      have := h (j + 1) (by rw [← h1]; simp; exact hj)
      simpa using this), h0]
    rfl
theorem dot_uv {n i : Nat} {x : List Int} (hx : x.length = n) (hi : i < n) : dot (uv n i 1) x = x.getD i 0 := by
  have key : ∀ (x : List Int) (s i : Nat), i < x.length → dot ((List.range' s x.length).map fun j => if j = s + i then (1 : Int) else 0) x = x.getD i 0 := fun x => by
    induction x with
    | nil => intro s i h; simp at h
    | cons y ys ih =>
      intro s i h
      have e : dot ((List.range' s (y :: ys).length).map fun j => if j = s + i then (1 : Int) else 0) (y :: ys) = (if s = s + i then 1 else 0) * y + dot ((List.range' (s + 1) ys.length).map fun j => if j = s + i then (1 : Int) else 0) ys := by
        simp [dot, List.range'_succ]
      rw [e]
      cases i with
      | zero =>
        have : dot ((List.range' (s + 1) ys.length).map fun j => if j = s + 0 then (1 : Int) else 0) ys = 0 := by
          refine dot_get (n := ys.length) (by simp) rfl fun j hj => ?_
          rw [getD_lt (by simpa using hj)]
          have hne : ¬ s + 1 + j = s := by omega
          simp [hne]
        rw [this]; simp
      | succ i =>
        have := ih (s + 1) i (by simpa using h)
        rw [show s + 1 + i = s + (i + 1) by omega] at this
        rw [this]
        have : ¬ s = s + (i + 1) := by omega
        simp [this]
  have := key x 0 i (by omega)
  rw [hx] at this
  unfold uv
  rw [List.range_eq_range']
  simpa using this
def KB (S : Nat) : Nat := 15 * S + 111
theorem ker_bound {n k S : Nat} {v : Piv} {E : List (List Int)} (g : Gd n k v) (r : Red v) (hn : n ≤ 16) (hE : E.length + v.length ≤ n) (hl : ∀ e ∈ E, e.length = n) (hs : ∀ e ∈ E, SmL S e) (al : ∀ x : List Int, x.length = n → (∀ e ∈ E, dot x e = 0) → Spn n (pivRows v) x) : Gd n (KB S) v := by
  obtain ⟨ts, ht, hq, htl⟩ := piv_tri g
  have circ : ∀ q ∈ ts, ∃ c, Circ n (15 * S + 106) ts q.1 c := fun q hqm => by
    let A : List (List Int) := E ++ (ts.filter fun u => decide (u.1 ≠ q.1)).map fun u => uv n u.1 1
    have hf : (ts.filter fun u => decide (u.1 ≠ q.1)).length < ts.length := by
      refine Nat.lt_of_le_of_ne (List.length_filter_le _ _) fun z => ?_
      have := List.length_filter_eq_length_iff.mp z q hqm
      simp at this
    have hA : A.length < n := by
      show (E ++ (ts.filter _).map _).length < n
      rw [List.length_append, List.length_map]
      omega
    obtain ⟨y, y1, y2, y3, y4⟩ := siegel (n := n) (S := S + 1) (l := 4) (A := A) hA (fun a ha => by
      rcases List.mem_append.mp ha with h | h
      · exact (hs a h).mono (by omega)
      · obtain ⟨u, _, rfl⟩ := List.mem_map.mp h
        exact uv_sm.mono (by omega)) hn
    have hx := al y y1 fun e he => by rw [dot_comm]; exact y3 e (List.mem_append_left _ he)
    have hlin := spn_lin g ht hq hx
    have oth : ∀ u ∈ ts, u.1 ≠ q.1 → y.getD u.1 0 = 0 := fun u hu hne => by
      have := y3 (uv n u.1 1) (List.mem_append_right _ (List.mem_map.mpr ⟨u, List.mem_filter.mpr ⟨hu, by simpa using hne⟩, rfl⟩))
      rwa [dot_uv y1 (tri_len ht u hu).lt] at this
    refine ⟨y, hlin, fun z => y2 ?_, oth, fun j => ?_⟩
    · exact linL_null ht hlin fun u hu => by
        by_cases h : u.1 = q.1
        · rw [h]; exact z
        · exact oth u hu h
    · have h1 : Sm _ (y.getD j 0) := y4.get j
      have h2 : A.length * (S + 1 + 4 + 2) + 1 ≤ 15 * S + 106 := by
        have := Nat.mul_le_mul_right (S + 1 + 4 + 2) (show A.length ≤ 15 by omega)
        omega
      exact Nat.le_of_lt (h1.mono h2)
  have key := hnf_size ht (fun a ha b hb hab => by
    have := r a.1 b.1 a.2 b.2 hab ((hq a).mp ha) ((hq b).mp hb)
    omega) circ
  refine ⟨g.nd, g.shp, fun i x hx z hz => ?_⟩
  have hx' := (hq (i, x)).mpr hx
  obtain ⟨j, hj, e⟩ := List.getElem_of_mem hz
  have b := key (i, x) hx' j
  rw [show ((i, x) : Nat × List Int).2 = x from rfl, getD_lt hj, e, htl] at b
  show z.natAbs < 2 ^ KB S
  have e2 : KB S = 15 * S + 106 + 5 := rfl
  rw [e2, Nat.pow_add]
  have h4 : v.length * 2 ^ (15 * S + 106) ≤ 16 * 2 ^ (15 * S + 106) := Nat.mul_le_mul_right _ (by omega)
  have h5 : 0 < 2 ^ (15 * S + 106) := Nat.two_pow_pos _
  omega
/-- the rows of v are the kernel of the rows taken, in normal form -/
structure KerI (n S : Nat) (tk : List (List Int)) (v : Piv) : Prop where
  gd : Gd n (KB S) v
  red : Red v
  zero : ∀ r, pivRows v r → ∀ x ∈ tk, dot r x = 0
  ex : ∃ E : List (List Int), E.length + v.length ≤ n ∧ (∀ e ∈ E, e ∈ tk) ∧ ∀ x : List Int, x.length = n → (∀ e ∈ E, dot x e = 0) → Spn n (pivRows v) x
theorem KerI.all {n S : Nat} {tk : List (List Int)} {v : Piv} (h : KerI n S tk v) {x : List Int} (hx : x.length = n) (h0 : ∀ y ∈ tk, dot x y = 0) : Spn n (pivRows v) x := by
  obtain ⟨E, _, h2, h3⟩ := h.ex
  exact h3 x hx fun e he => h0 e (h2 e he)
theorem KerI.orth {n S : Nat} {tk : List (List Int)} {v : Piv} (h : KerI n S tk v) {x : List Int} (hx : Spn n (pivRows v) x) : x.length = n ∧ ∀ y ∈ tk, dot x y = 0 :=
  ⟨hx.len fun r ⟨i, hi⟩ => (h.gd.shp i r hi).len, fun y hy => hx.orth (fun r ⟨i, hi⟩ => (h.gd.shp i r hi).len) fun r hr => h.zero r hr y hy⟩
/-- the first basis -/
def unitP (n : Nat) : Piv := (List.range n).map fun i => (i, uv n i 1)
theorem unitP_get {n i : Nat} (h : i < n) : pget (unitP n) i = some (uv n i 1) := by
  have key : ∀ (m s : Nat), s ≤ i → i < s + m → pget ((List.range' s m).map fun i => (i, uv n i 1)) i = some (uv n i 1) := fun m => by
    induction m with
    | zero => intro s h1 h2; omega
    | succ m ih =>
      intro s h1 h2
      rw [List.range'_succ, List.map_cons, pget_cons]
      by_cases h : s = i
      · rw [if_pos h, h]
      · rw [if_neg h]; exact ih (s + 1) (by omega) (by omega)
  have := key n 0 (by omega) (by omega)
  unfold unitP
  rw [List.range_eq_range']
  exact this
theorem unitP_keys {n : Nat} : keys (unitP n) = List.range n := by
  unfold keys unitP
  rw [List.map_map]
  exact List.map_id _
theorem unitP_of {n i : Nat} {r : List Int} (h : pget (unitP n) i = some r) : i < n ∧ r = uv n i 1 := by
  have h1 : i < n := by
    have := key_of h
    rw [unitP_keys] at this
    simpa using this
  rw [unitP_get h1] at h
  exact ⟨h1, by cases h; rfl⟩
theorem KerI.start {n S : Nat} : KerI n S [] (unitP n) := by
  refine ⟨⟨by rw [unitP_keys]; exact List.nodup_range, fun i r h => ?_, fun i r h => ?_⟩, fun i j r s hij h1 h2 => ?_, fun _ _ _ h => (by cases h), [], (by simp [unitP]), fun _ h => (by cases h), fun x hx _ => ?_⟩
  · obtain ⟨h1, rfl⟩ := unitP_of h
    refine ⟨h1, uv_len, fun j hj => ?_, ?_⟩
    · rw [uv_get (by omega), if_neg (by omega)]
    · rw [uv_get h1, if_pos rfl]; decide
  · obtain ⟨h1, rfl⟩ := unitP_of h
    exact uv_sm.mono (by unfold KB; omega)
  · obtain ⟨h3, rfl⟩ := unitP_of h1
    obtain ⟨h4, rfl⟩ := unitP_of h2
    rw [uv_get h4, uv_get h4, if_neg (by omega), if_pos rfl]
    decide
  · have key : ∀ m, m ≤ n → ∃ y : List Int, Spn n (pivRows (unitP n)) y ∧ y.length = n ∧ ∀ j, j < n → y.getD j 0 = if j < m then x.getD j 0 else 0 := fun m => by
      induction m with
      | zero => intro _; exact ⟨zeros n, .zero, zeros_len, fun j _ => by rw [zeros_get]; simp⟩
      | succ m ih =>
        intro hm
        obtain ⟨y, h1, h2, h3⟩ := ih (by omega)
        have hl := h2.trans (uv_len (n := n) (i := m) (f := 1)).symm
        refine ⟨comb 1 y (x.getD m 0) (uv n m 1), .comb _ _ h1 (.gen ⟨m, unitP_get (by omega)⟩), by rw [comb_len hl, h2], fun j hj => ?_⟩
        rw [comb_get hl, h3 j hj, uv_get hj]
        by_cases h : j = m
        · subst h; simp
        · have : (j < m + 1) ↔ (j < m) := by omega
          simp [h, this]
    obtain ⟨y, h1, h2, h3⟩ := key n (Nat.le_refl _)
    have e : x = y := vec_ext (hx.trans h2.symm) fun j hj => by rw [h3 j (by omega), if_pos (by omega)]
    rw [e]; exact h1
/-- a step: a row a taken, the basis us made to ks, these to normal form -/
theorem KerI.step {n S C k : Nat} {tk us ks : List (List Int)} {v v' : Piv} {js : List Nat} {a : List Int} (h : KerI n S tk v) (hn : n ≤ 16) (hp : js.Perm (keys v)) (hus : us = js.map (rowOf v)) (ko : KOut n C a us ks) (hal : a.length = n) (ht : ∀ x ∈ tk ++ [a], x.length = n) (hsa : ∀ x ∈ tk ++ [a], SmL S x)
    (g : Gd n k v') (r : Red v') (sp : Spans n ks v') (hl : v'.length ≤ ks.length) : KerI n S (tk ++ [a]) v' := by
  obtain ⟨E, e1, e2, e3⟩ := h.ex
  have ul : us.length = v.length := by rw [hus, List.length_map, hp.length_eq, keys_len]
  have uin : ∀ u ∈ us, pivRows v u := fun u hu => by
    rw [hus] at hu
    obtain ⟨j, hj, rfl⟩ := List.mem_map.mp hu
    obtain ⟨r, hr⟩ := pget_some (hp.mem_iff.mp hj)
    exact ⟨j, by unfold rowOf; rw [hr]; rfl⟩
  have uof : ∀ u, pivRows v u → u ∈ us := fun u ⟨i, hi⟩ => by
    rw [hus]
    exact List.mem_map.mpr ⟨i, hp.mem_iff.mpr (key_of hi), by unfold rowOf; rw [hi]; rfl⟩
  have zero : ∀ x, pivRows v' x → ∀ y ∈ tk ++ [a], dot x y = 0 := fun x hx y hy => by
    have s1 := sp.bw x hx
    rcases List.mem_append.mp hy with q | q
    · have s2 : Spn n (pivRows v) x := (s1.trans ko.bw).trans fun u hu => .gen (uin u hu)
      exact (h.orth s2).2 y q
    · have : y = a := by simpa using q
      subst this
      exact s1.orth ko.len ko.zero
  obtain ⟨E', f1, f2, f3⟩ : ∃ E' : List (List Int), E'.length + v'.length ≤ n ∧ (∀ e ∈ E', e ∈ tk ++ [a]) ∧ ∀ x : List Int, x.length = n → (∀ e ∈ E', dot x e = 0) → Spn n (pivRows v') x := by
    have fin : ∀ x : List Int, Spn n (pivRows v) x → dot x a = 0 → Spn n (pivRows v') x := fun x hx h0 => by
      have := ko.fw x (hx.trans fun u hu => .gen (uof u hu)) h0
      exact this.trans fun u hu => sp.fw u hu
    rcases ko.cnt with c | ⟨c1, c2⟩
    · refine ⟨a :: E, by rw [List.length_cons]; omega, fun e he => ?_, fun x hx h0 => fin x (e3 x hx fun e he => h0 e (List.mem_cons_of_mem _ he)) (h0 a List.mem_cons_self)⟩
      rcases List.mem_cons.mp he with rfl | he
      · simp
      · exact List.mem_append_left _ (e2 e he)
    · refine ⟨E, by omega, fun e he => List.mem_append_left _ (e2 e he), fun x hx h0 => ?_⟩
      have s := e3 x hx h0
      refine fin x s ?_
      exact s.orth (fun r ⟨i, hi⟩ => (h.gd.shp i r hi).len) fun r hr => c2 r (uof r hr)
  exact ⟨ker_bound g r hn f1 (fun e he => ht e (f2 e he)) (fun e he => hsa e (f2 e he)) f3, r, zero, E', f1, f2, f3⟩
end Pr
namespace Pr
open PySem L2 GL
section
variable {P : Program} {w : World} {K : PySem.W.Frag} {mg : Str → Option Value} {base : Heap}
theorem ok_require_index (E : EnvP K mg base) : CalP P w K mg base "require_index" 2 ps_require_index (spV K (fun i : Int × Int => 0 ≤ i.1 ∧ i.1 < i.2) (fun i => [.int i.1, .int i.2]) fun _ => .non) :=
  E.cal_require_index fun fd F => fn_G F sc_require_index (fun _ => rfl) fun i hp cdv A outer s H hr =>
    bl_ifF (et_or2 (p := false) (q := false) (et_not (p := true) (ev_callV i.1 (ok_is_integer E) hr trivial (ea_cons (ev_var 0) ea_nil)).et) fun _ => et_not (p := true) ((et_leLt (by with_unfolding_all rfl) ev_int (ev_var 0) (ev_var 1)).eq (by simp [hp.1, hp.2]))) (bl_nil (bl_nil ⟨rfl, rfl⟩))
theorem ok_require_row (E : EnvP K mg base) : CalP P w K mg base "require_row" 6 ps_require_row (spV K (fun i : Bool × List Int × Int => i.2.1.length = i.2.2 ∧ 1 ≤ i.2.2 ∧ i.2.2 ≤ 16) (fun i => [sInts i.1 i.2.1, .int i.2.2]) fun i => dInts i.2.1) :=
  E.cal_require_row fun fd F => fn_G F sc_require_row (fun _ => rfl) fun i hp cdv A outer s H hr => by
    refine bl_ifF (et_not (ev_callKV i (ok_is_row E) (hr.mono (by decide)) hp (ea_cons (ev_var 0) ea_nil) (ek_cons (ev_var 1) ek_nil) rfl).et) (bl_nil ?_)
    exact bl_ret (evn_listQ E.b_list (ev_var 0)).ev ⟨rfl, rfl⟩
structure UrIn where
  i : Nat
  n : Nat
theorem uv_D {n i : Nat} {f : Int} : ((List.range n).map fun j => if j = i then D.int f else D.int 0) = (uv n i f).map D.int := by
  unfold uv
  rw [List.map_map]
  refine List.map_congr_left fun j _ => ?_
  show _ = D.int (if j = i then f else 0)
  split <;> rfl
theorem ok_unit_row (E : EnvP K mg base) : CalK P w K mg base "unit_row" 4 ps_unit_row 1 ["width"] (fun a b => a ++ b ++ [V.int 1]) (spN K (fun i : UrIn => i.i < i.n ∧ i.n ≤ 16) (fun i => [.int i.i, .int i.n, .int 1]) fun i => (uv i.n i.i 1).map D.int) :=
  E.calD_unit_row fun fd F => fn_G F sc_unit_row (fun _ => rfl) fun i hp cdv A outer s H hr => by
    obtain ⟨i, n⟩ := i
    obtain ⟨h1, h2⟩ := hp
    simp only at h1 h2
    refine bl_expr (ev_callV (n : Int) (ok_require_width E) hr ⟨by omega, by omega⟩ (ea_cons (ev_var 1) ea_nil)) ?_
    refine bl_expr (ev_callV ((i : Int), (n : Int)) (ok_require_index E) (hr.mono (by decide)) ⟨by show (0 : Int) ≤ i; omega, by show (i : Int) < n; omega⟩ (ea_cons (ev_var 0) (ea_cons (ev_var 1) ea_nil))) ?_
    refine bl_ifF (et_not (p := true) (ev_callV 1 (ok_is_integer E) (hr.mono (by decide)) trivial (ea_cons (ev_var 2) ea_nil)).et) (bl_nil ?_)
    refine bl_retN (EvL.evn ((evl_map1 (xs := List.range n) (gD := fun j : Nat => .int (j : Nat)) (f := fun j => if j = i then D.int 1 else D.int 0) 3 sc_unit_row.nd (ei_rangeT E.b_range (ev_var 1) (by omega)) (blkOk_by (N := N_unit_row) (sc := defScope s_unit_row) (by decide +kernel)) (fun _ _ _ _ _ => pg_name sc_unit_row.nd rfl (Or.inl rfl))
      (fun j hj _ _ _ _ _ => ((ev_if (et_eqI (ev_var 3) (ev_var 0)) (fun _ => ev_var 2) (fun _ => ev_int)).eq2 (by
        by_cases h : j = i
        · simp [h]
        · have : ¬ ((j : Int) = (i : Int)) := by omega
          simp [h, this]) (by split <;> rfl)))).mono fun ys o ⟨e1, e2⟩ => ⟨e1.trans uv_D, e2⟩)) fun q => ⟨q, rfl, rfl⟩
/-- a kernel's rows as a value -/
def dKer (v : Piv) (js : List Nat) : D := .lst (js.map fun j => dInts (rowOf v j))
structure KrPre (i : ElIn) : Prop where
  n : 1 ≤ i.n ∧ i.n ≤ 16
  m : i.xss.length ≤ 900
  len : ∀ xs ∈ i.xss, xs.length = i.n
  sm : ∀ xs ∈ i.xss, SmL i.l xs
  sz : i.l ≤ 265
theorem ok_kernel_rows (E : EnvP K mg base) (ht : P.given.tree = none) : CalK P w K mg base "kernel_rows" 39 ps_kernel_rows 1 ["width"] (fun a b => a ++ b)
    (spG K KrPre (fun i => [dRows i.t i.t' i.xss, .int i.n]) (fun _ => []) fun i d O' => O' = [] ∧ ∃ (v : Piv) (js : List Nat), d = dKer v js ∧ js.Perm (keys v) ∧ js.Pairwise (· < ·) ∧ KerI i.n i.l i.xss v) :=
  E.calK_kernel_rows fun fd F => fn_G F sc_kernel_rows (fun _ => rfl) fun i hp cdv A outer s H hr => by
    obtain ⟨t, t', xss, n, S⟩ := i
    obtain ⟨⟨h1, h2⟩, hm, hlen, hsm, hsz⟩ := hp
    simp only at h1 h2 hm hlen hsm hsz
    refine bl_set 2 sc_kernel_rows.nd (ev_callV (t, t', xss, (n : Int)) (ok_require_rows E) (hr.mono (by decide)) ⟨by show (1 : Int) ≤ (n : Int); omega, by show (n : Int) ≤ 16; omega, fun xs hx => by have : xs.length = n := hlen xs hx; show (xs.length : Int) = (n : Int); omega⟩ (ea_cons (ev_var 0) (ea_cons (ev_var 1) ea_nil))) ?_
    refine bl_setLV 3 (evl_map1 (xs := List.range n) (gD := fun j : Nat => .int (j : Nat)) (f := fun j => dInts (uv n j 1)) 4 sc_kernel_rows.nd (ei_rangeT E.b_range (ev_var 1) (by omega)) (blkOk_by (N := N_kernel_rows) (sc := defScope s_kernel_rows) (by decide +kernel)) (fun _ _ _ _ _ => pg_name sc_kernel_rows.nd rfl (Or.inl rfl))
      (fun j hj _ _ _ _ _ => (evn_callG (⟨j, n⟩ : UrIn) (ok_unit_row E) (hr.mono (by decide)) ⟨by simpa using hj, h2⟩ (ea_cons (ev_var 4) ea_nil) (ek_cons (ev_var 1) ek_nil) (fun B vs us r1 r2 => (r1.append r2).append (.cons rfl .nil))).ev)) ?_ (hl := Nat.le_of_ble_eq_true rfl)
    refine bl_for1 (xs := xss) (gD := dInts) 5 (fun i r o => ∃ v js t5, r = [some (dRows t t' xss), some (.int n), some (dRows2 xss), some (dKer v js), none, t5] ∧ o = [] ∧ js.Perm (keys v) ∧ js.Pairwise (· < ·) ∧ KerI n S (xss.take i) v) PassesOwn.never sc_kernel_rows.nd (ei_list (ev_var 2))
      ⟨unitP n, List.range n, none, ?_, rfl, by rw [unitP_keys], List.pairwise_lt_range, .start⟩ (fun i x r o hx ho => ?_) (fun r o ho => ?_)
    · have e : dKer (unitP n) (List.range n) = .lst ((List.range n).map fun j => dInts (uv n j 1)) := by
        unfold dKer
        congr 1
        refine List.map_congr_left fun j hj => ?_
        have : rowOf (unitP n) j = uv n j 1 := by unfold rowOf; rw [unitP_get (by simpa using hj)]; rfl
        rw [this]
      rw [e]; rfl
    · obtain ⟨v, js, t5, rfl, rfl, hp, hs, hK⟩ := ho
      obtain ⟨hi, hxe⟩ := List.getElem?_eq_some_iff.mp hx
      have hxm : x ∈ xss := List.mem_of_getElem? hx
      have hvn := piv_le hK.gd
      have hin : ∀ u ∈ js.map (rowOf v), ∃ i, pget v i = some u := fun u hu => by
        obtain ⟨j, hj, rfl⟩ := List.mem_map.mp hu
        obtain ⟨r, hr⟩ := pget_some (hp.mem_iff.mp hj)
        exact ⟨j, by unfold rowOf; rw [hr]; rfl⟩
      have ul : ∀ u ∈ js.map (rowOf v), u.length = n := fun u hu => let ⟨i, hi⟩ := hin u hu; (hK.gd.shp i u hi).len
      have us : ∀ u ∈ js.map (rowOf v), SmL (KB S) u := fun u hu => let ⟨i, hi⟩ := hin u hu; hK.gd.sm i u hi
      have ucnt : (js.map (rowOf v)).length ≤ 16 := by rw [List.length_map, hp.length_eq, keys_len]; omega
      have eB : KB S = 15 * S + 111 := rfl
      have eb : bigB = 60000000 := rfl
      have dts : ∀ u ∈ js.map (rowOf v), (dot u x).natAbs ≤ 2 ^ (KB S + S + 4) := fun u hu => by
        have := dot_le (n := 16) (us u hu) (hsm x hxm) (by rw [ul u hu]; omega)
        have e : 2 ^ (KB S + S + 4) = 16 * (2 ^ KB S * 2 ^ S) := by
          rw [Nat.pow_add, Nat.pow_add, Nat.mul_comm]
        omega
      refine bl_setR 3 sc_kernel_rows.nd (R := fun d o => o = [] ∧ ∃ (v' : Piv) (js' : List Nat), d = dKer v' js' ∧ js'.Perm (keys v') ∧ js'.Pairwise (· < ·) ∧ KerI n S (xss.take (i + 1)) v') ?_ (fun d o ⟨e1, v', js', e2, g1, g2, g3⟩ => ?_)
      · refine evr_callAK (ok_normal_form E ht) (hr.mono (by decide)) (Ra := fun ds o => o = [] ∧ ∃ ks, ds = [dRows2 ks] ∧ KOut n (2 ^ (KB S + 2 * (KB S + S + 4) + 2)) x (js.map (rowOf v)) ks) (zs := [.int n]) (ear_cons (evr_call (Rx := []) (⟨js.map (rowOf v), x, n, KB S, S, KB S + S + 4⟩ : KsIn) (ok_kernel_step E ht) (hr.mono (by decide)) ⟨ul, hlen x hxm, us, hsm x hxm, dts, by show (js.map (rowOf v)).length ≤ 100; omega, by show KB S + 2 * (KB S + S + 4) + 10 ≤ bigB; omega, by show S ≤ bigB; omega⟩
            (ea_cons ((ev_var 3).eq (show dKer v js = dRows2 (js.map (rowOf v)) by unfold dKer dRows2; rw [List.map_map]; rfl)) (ea_cons (ev_var 5) ea_nil)) (.refl _)) fun d o ⟨o', ⟨q1, ks, q2, q3⟩, q4⟩ => ?_) (fun ds o h => ek_cons (ev_var 1) ek_nil) ?_
        · subst q1 q2 q4
          exact fun B H σ hO hS Q k => ea_nil B H σ hO hS Q fun vs B' H' n r => k _ _ vs B' H' ⟨rfl, ks, rfl, q3⟩ n r
        · rintro ds o ⟨rfl, ks, rfl, ko⟩
          have kl : ks.length ≤ 16 := by
            rcases ko.cnt with c | ⟨c, _⟩ <;> omega
          refine ⟨rfl, ⟨false, false, ks, n, KB S + 2 * (KB S + S + 4) + 3⟩, [], fun B vs us r1 r2 => r1.append r2, ⟨⟨h2, by show ks.length ≤ 900; omega, ko.len, fun u hu y hy => ?_, by show KB S + 2 * (KB S + S + 4) + 3 ≤ 13000; omega⟩, h1⟩, .refl _, fun d o' h => ?_⟩
          · have := ko.sz u hu y hy
            show y.natAbs < 2 ^ (KB S + 2 * (KB S + S + 4) + 2 + 1)
            have e3 := Nat.two_pow_pos (KB S + 2 * (KB S + S + 4) + 2)
            rw [Nat.pow_succ]
            omega
          · obtain ⟨e1, v', js', g1, g2, g3, g4, g5, g6, g7⟩ := h
            have g6 : v'.length ≤ ks.length := g6
            refine ⟨by rw [e1, List.append_nil], v', js', g3, g1, g2, ?_⟩
            have etk : xss.take (i + 1) = xss.take i ++ [x] := by rw [List.take_succ, hx, Option.toList_some]
            rw [etk]
            exact hK.step h2 hp rfl ko (hlen x hxm) (fun y hy => hlen y (by rw [← etk] at hy; exact List.mem_of_mem_take hy)) (fun y hy => hsm y (by rw [← etk] at hy; exact List.mem_of_mem_take hy)) g4 g7 g5 g6
      · subst e1 e2
        exact bl_nil ⟨v', js', _, rfl, rfl, g1, g2, g3⟩
    · obtain ⟨v, js, t5, rfl, rfl, hp, hs, hK⟩ := ho
      rw [List.take_length] at hK
      exact bl_ret (ev_var 3) ⟨rfl, v, js, rfl, hp, hs, hK⟩
end
end Pr
namespace GL
open PySem L2
section
variable {X : Cx} {ρ : Ro} {O O1 : List Own} {elt iter iter1 : Expr} {scope : Scope} {n m : Str} {pn pm pos : Pos} {α β : Type}
def mapO {α β : Type} (f : α → β) (o : Option α) : List β := match o with | some x => [f x] | none => []
theorem take_fm {α β : Type} {f : α → List β} {xs : List α} {a : Nat} {x : α} (h : xs[a]? = some x) : (xs.take (a + 1)).flatMap f = (xs.take a).flatMap f ++ f x := by
  rw [List.take_succ, h, Option.toList_some, List.flatMap_append]; simp
theorem fm_le {α β : Type} {f : α → List β} {xs : List α} {a b : Nat} {x : α} (h : xs[a]? = some x) : ((xs.take a).flatMap f ++ (f x).take b).length ≤ (xs.flatMap f).length := by
  have e : xs.flatMap f = (xs.take (a + 1)).flatMap f ++ (xs.drop (a + 1)).flatMap f := by rw [← List.flatMap_append, List.take_append_drop]
  rw [e, take_fm h]
  simp only [List.length_append, List.length_take]
  omega
/-- two fors over values -/
theorem evl_map2I {xs : List α} {gD : α → D} {ys : α → List β} {gE : β → D} {f : α → β → D} (i j : Nat) (hN : X.N.Nodup) (hi : Ei X (.Name n pn) iter ρ O (xs.map gD) O1) (ok : BlkOk X.N X.env.scope scope [(n, i), (m, j)])
    (hg : InBlk X scope fun Y => PG Y (.Name n pn) (gName i)) (hg1 : InBlk X scope fun Y => PG Y (.Name m pm) (gName j))
    (hi1 : ∀ x ∈ xs, InBlk X scope fun Y => Ei Y (.Name m pm) iter1 (((ρ.set j none).set i none).set i (some (gD x))) O1 ((ys x).map gE) O1)
    (hy : ∀ x ∈ xs, ∀ y ∈ ys x, InBlk X scope fun Y => Ev Y elt (((((ρ.set j none).set i none).set i (some (gD x))).set j none).set j (some (gE y))) O1 (f x y) O1)
    (hlen : (xs.flatMap fun x => (ys x).map (f x)).length < lim) (hc : X.calm = true := by rfl)
    (hs : ∀ x, foldedSetIterable iter X.env x = pure x := by intro _; rfl) (hs1 : ∀ env x, foldedSetIterable iter1 env x = pure x := by intro _ _; rfl) :
    EvL X (.ListComp elt [⟨.Name n pn, iter, [], 0⟩, ⟨.Name m pm, iter1, [], 0⟩] scope pos) ρ O fun zs o => zs = (xs.flatMap fun x => (ys x).map (f x)) ∧ o = O1 := by
  let F : α → List D := fun x => (ys x).map (f x)
  let ρ0 : Ro := (ρ.set j none).set i none
  refine EvL.mono (evl_2I (ds := xs.map gD) (es := fun a => match xs[a]? with | some x => (ys x).map gE | none => []) (g := gName i) (g1 := gName j) (is := [i]) (is1 := [j]) (vs1 := [j]) (own := [(n, i), (m, j)]) (tt1 := tYes) (keep := fun _ _ => true)
    (I := fun a b acc o => o = O1 ∧ acc = (xs.take a).flatMap F ++ (match xs[a]? with | some x => (F x).take b | none => []))
    (ρt := fun a => match xs[a]? with | some x => ρ0.set i (some (gD x)) | none => ρ0) (ρu := fun a b => match xs[a]? with | some x => (match (ys x)[b]? with | some y => ((ρ0.set i (some (gD x))).set j none).set j (some (gE y)) | none => ρ0) | none => ρ0)
    hc hN hi ok (by simp) hg hg1 (fun _ _ _ _ _ => pts_nil) (by simp) (by simp) ⟨rfl, by cases xs <;> simp⟩ (fun a d hd => ?_) (fun a d acc Oi hd hI s H0 C cl fp => ?_) (fun a b e he => ?_) (fun a b d e acc Oi hd he hI B H σ hO hS Q k => k B H (.refl hO)) (fun a b d e acc Oi hd he _ hI => ?_) (fun a b d e acc Oi hd he hk => by cases hk) (fun a d acc Oi hd hI => ?_) (fun a b acc Oi hI => ?_) hs hs1) fun zs o ⟨h1, h2⟩ => ⟨?_, h1⟩
  · rw [List.getElem?_map] at hd
    cases hx : xs[a]? with
    | none => rw [hx] at hd; cases hd
    | some x =>
      rw [hx] at hd; cases hd
      exact gok_name i
  · rw [List.getElem?_map] at hd
    obtain ⟨rfl, _⟩ := hI
    cases hx : xs[a]? with
    | none => rw [hx] at hd; cases hd
    | some x => exact hi1 x (List.mem_of_getElem? hx) s H0 C cl fp
  · cases hx : xs[a]? with
    | none => simp [hx] at he
    | some x =>
      simp only [hx] at he ⊢
      rw [List.getElem?_map] at he
      cases hz : (ys x)[b]? with
      | none => rw [hz] at he; cases he
      | some y =>
        rw [hz] at he; cases he
        exact gok_name j
  · obtain ⟨rfl, h2⟩ := hI
    cases hx : xs[a]? with
    | none => simp [hx] at he
    | some x =>
      simp only [hx] at he h2 ⊢
      rw [List.getElem?_map] at he
      cases hz : (ys x)[b]? with
      | none => rw [hz] at he; cases he
      | some y =>
        intro s H0 C cl fp
        refine ((hy x (List.mem_of_getElem? hx) y (List.mem_of_getElem? hz) s H0 C cl fp).r).mono fun d' o' ⟨q1, q2⟩ => ⟨q2, ?_⟩
        rw [h2, q1, List.append_assoc]
        congr 1
        rw [List.take_succ (l := F x)]
        congr 1
        show _ = ((ys x).map (f x))[b]?.toList
        rw [List.getElem?_map, hz]; rfl
  · obtain ⟨rfl, h2⟩ := hI
    cases hx : xs[a]? with
    | none => rw [List.getElem?_map, hx] at hd; cases hd
    | some x =>
      simp only [hx] at h2
      refine ⟨rfl, ?_⟩
      rw [h2, take_fm hx]
      have e : (F x).take ((ys x).map gE).length = F x := by
        rw [List.take_of_length_le]
        show ((ys x).map (f x)).length ≤ _
        simp
      rw [e]
      cases xs[a + 1]? <;> simp
  · obtain ⟨rfl, h2⟩ := hI
    refine Nat.lt_of_le_of_lt ?_ hlen
    rw [h2]
    cases hx : xs[a]? with
    | none =>
      have e : xs.flatMap F = (xs.take a).flatMap F ++ (xs.drop a).flatMap F := by rw [← List.flatMap_append, List.take_append_drop]
      show _ ≤ (xs.flatMap F).length
      rw [e]
      simp
    | some x => exact fm_le hx
  · rw [h2, List.length_map, List.take_length]
    have : xs[xs.length]? = none := by simp
    rw [this]; simp [F]
end
section
variable {X : Cx} {ρ : Ro} {O O1 : List Own} {e elt iter iter1 tg : Expr} {scope : Scope} {n m : Str} {pn pm pos : Pos} {α β : Type} {R : D → List Own → Prop}
/-- a list that is a value, by a relation -/
theorem eir_lstV {Rs : List D → List Own → Prop} (h : EvR X e ρ O R) (hr : ∀ d o, R d o → ∃ xs, d = .lst xs ∧ Rs xs o) : EiR X tg e ρ O Rs := ⟨_, pi_list pe_w, fun B H σ hO hS Rk k => h B H σ hO hS _ fun d o v B1 H1 r n1 r1 => by
  obtain ⟨xs, rfl, h2⟩ := hr d o r
  obtain ⟨a, vs, rfl, e1, l1, rr⟩ := r1
  have hlst : SqL X.K H1 a vs := SqL.of (n1.st.ext _ _ e1)
  exact ⟨a, rfl, ⟨vs, hlst⟩, k _ xs o B1 H1 h2 n1 (src_list e1 l1 rr)⟩⟩
/-- .. with a fact P -/
theorem evl_map2IP {P : Prop} {xs : List α} {gD : α → D} {ys : α → List β} {gE : β → D} {f : α → β → D} (i j : Nat) (hN : X.N.Nodup) (hi : EiR X (.Name n pn) iter ρ O fun ds o => P ∧ ds = xs.map gD ∧ o = O1) (ok : BlkOk X.N X.env.scope scope [(n, i), (m, j)])
    (hg : InBlk X scope fun Y => PG Y (.Name n pn) (gName i)) (hg1 : InBlk X scope fun Y => PG Y (.Name m pm) (gName j))
    (hi1 : P → ∀ x ∈ xs, InBlk X scope fun Y => Ei Y (.Name m pm) iter1 (((ρ.set j none).set i none).set i (some (gD x))) O1 ((ys x).map gE) O1)
    (hy : P → ∀ x ∈ xs, ∀ y ∈ ys x, InBlk X scope fun Y => Ev Y elt (((((ρ.set j none).set i none).set i (some (gD x))).set j none).set j (some (gE y))) O1 (f x y) O1)
    (hlen : P → (xs.flatMap fun x => (ys x).map (f x)).length < lim) (hc : X.calm = true := by rfl)
    (hs : ∀ x, foldedSetIterable iter X.env x = pure x := by intro _; rfl) (hs1 : ∀ env x, foldedSetIterable iter1 env x = pure x := by intro _ _; rfl) :
    EvL X (.ListComp elt [⟨.Name n pn, iter, [], 0⟩, ⟨.Name m pm, iter1, [], 0⟩] scope pos) ρ O fun zs o => P ∧ zs = (xs.flatMap fun x => (ys x).map (f x)) ∧ o = O1 := by
  by_cases hP : P
  · refine EvL.mono (evl_map2I i j hN ?_ ok hg hg1 (hi1 hP) (hy hP) (hlen hP) hc hs hs1) fun zs o h => ⟨hP, h⟩
    obtain ⟨wi, h1, h2⟩ := hi
    exact ⟨wi, h1, fun B H σ hO hS Rk k => h2 B H σ hO hS Rk fun J ds o B1 H1 ⟨_, e1, e2⟩ n1 s => by subst e1 e2; exact k J B1 H1 n1 s⟩
  · obtain ⟨wi, hpi, hit⟩ := hi
    have hte : ∀ (s : Shared) (H : Hp) (C : Addr) (cl : List (Str × Addr)) (fp : List Addr), PE (X.blk s H scope (compEnvC scope cl C X.env) fp) elt (fun σ' H' Q' => InBlk X scope fun Y => wE Y elt σ' H' Q') := fun s H0 C cl fp => ⟨fun pins s' σ' H' Q' I h => h s H0 C cl fp pins s' I⟩
    have hpi1 : ∀ (s : Shared) (H : Hp) (C : Addr) (cl : List (Str × Addr)) (fp : List Addr), PI (X.blk s H scope (compEnvC scope cl C X.env) fp) (.Name m pm) iter1 (fun σ' H' R' => InBlk X scope fun Y => wI Y (.Name m pm) iter1 σ' H' R') := fun s H0 C cl fp => ⟨fun pins s' σ' H' R' I h => h s H0 C cl fp pins s' I⟩
    exact ⟨tLc2 wi (gName i) tYes (fun σ' H' R' => InBlk X scope fun Y => wI Y (.Name m pm) iter1 σ' H' R') (gName j) tYes (fun σ' H' Q' => InBlk X scope fun Y => wE Y elt σ' H' Q') [i, j] [j], pe_lc2 hc hN hpi ok (by simp) hg (fun _ _ _ _ _ => pts_nil) hpi1 hg1 (fun _ _ _ _ _ => pts_nil) hte hs hs1, fun i y py spos hy hyl hsw => ps_setLc2 hc hN hy hyl hsw hpi ok (by simp) hg (fun _ _ _ _ _ => pts_nil) hpi1 hg1 (fun _ _ _ _ _ => pts_nil) hte hs hs1, fun B H σ hO' hS Q k => hit B H σ hO' hS _ fun J ds o B1 H1 ⟨hp, _⟩ n1 src => absurd hp hP⟩
end
/-! ### built-ins over relations -/
section
variable {X : Cx} {ρ : Ro} {O O1 : List Own} {a e : Expr} {es : List Expr} {pos p : Pos} {Ra : List D → List Own → Prop} {R : D → List Own → Prop}
theorem ear_one (h : EvR X e ρ O R) (hs : starEach [e] X.env = [(false, eval e X.env)] := by rfl) : EaR X [e] ρ O fun ds o => ∃ d, ds = [d] ∧ R d o := ear_cons h (fun d o hr => fun B H σ hO hS Q k => ea_nil B H σ hO hS Q fun vs B' H' n r => k _ _ vs B' H' ⟨d, rfl, hr⟩ n r) hs
theorem evr_bcall {x : Str} {id : String} {r : List V → Hp → VK → Prop} (hc : CallR X (.builtin id) r) (hm : X.mg x = none) (hv : bootBuiltins x = some (.builtin id)) (ha : EaR X (e :: es) ρ O Ra) (h : ∀ ds o, Ra ds o → ∃ d' o', CallG X r o ds d' o' ∧ R d' o')
    (hg : Gl X x := by rfl) (hn : x ≠ "__name__" := by decide) (hdb : (x == ("__debug__" : Str)) = false := by decide)
    (he : starEach (e :: es) X.env = (false, eval e X.env) :: starEach es X.env := by rfl) (hpl : (backTo pos (starEach es X.env)).any (·.1) = false := by rfl) : EvR X (.Call (.Name x p) (e :: es) [] pos) ρ O R := fun B H σ hO hS Q k =>
  w_pe (pe_callB hc hg hm hv pa_w hn hdb he hpl) (ha B H σ hO hS _ fun ds o vs B1 H1 hr n1 r1 => by
    obtain ⟨d', o', hc', hR⟩ := h ds o hr
    exact hc' B1 H1 vs n1.st r1 Q fun v B2 H2 n2 r2 => k d' o' v B2 H2 hR (n1.trans n2) r2)
theorem callG_all {O : List Own} {xs : List Bool} : CallG X (rAll X.K) O [.lst (xs.map D.bl)] (.bl (xs.all id)) O := fun B H vs hO r Q k => by
  obtain ⟨v, rfl, q, ws, rfl, e1, l1, rr⟩ := one r
  rw [reps_bls rr] at e1
  exact ⟨q, xs, rfl, SqL.of (hO.ext _ _ e1), k _ B H (.refl hO) rfl⟩
end
theorem ei_range2T {X : Cx} {ρ : Ro} {O O1 : List Own} {a e tg : Expr} {p pos : Pos} {lo n : Nat} (T : X.mg "range" = none) (h : Ea X [a, e] ρ O [.int (lo : Nat), .int (n : Nat)] O1) (hn : n ≤ 1000000) (hl : lo ≤ 1000000) (hg : Gl X "range" := by rfl)
    (hs : starEach [a, e] X.env = [(false, eval a X.env), (false, eval e X.env)] := by rfl) (hs2 : starEach [e] X.env = [(false, eval e X.env)] := by rfl) :
    Ei X tg (.Call (.Name "range" p) [a, e] [] pos) ρ O ((List.range (n - lo)).map fun i : Nat => D.int ((lo : Int) + (i : Nat))) O1 := by
  have := ei_range2 (tg := tg) (p := p) (pos := pos) T h (by omega) (by omega) (by omega) (by omega) (by omega) hg hs hs2
  have e2 : ((n : Int) - (lo : Int)).toNat = n - lo := by omega
  rw [e2] at this
  exact this
/-! ### a weaker promise -/
section
variable {P : Program} {w : World} {K : PySem.W.Frag} {mg : Str → Option Value} {base : Heap} {x : Str} {k n : Nat} {ps ks : List Str} {gV : List V → List V → List V} {ι κ : Type} {pre : ι → Prop} {dI : ι → List D} {OI : ι → List Own} {RI : ι → D → List Own → Prop}
  {pre' : κ → Prop} {dI' : κ → List D} {OI' : κ → List Own} {RI' : κ → D → List Own → Prop}
theorem spG.weak (f : κ → ι) (hp : ∀ i, pre' i → pre (f i)) (hd : ∀ i, pre' i → dI (f i) = dI' i) (ho : ∀ i, pre' i → OI (f i) = OI' i) (hr : ∀ i d o, pre' i → RI (f i) d o → RI' i d o) {vs : List V} {H : Hp} {Q : VK} {E : XK} (h : spG K pre' dI' OI' RI' vs H Q E) : spG K pre dI OI RI vs H Q E := by
  obtain ⟨i, B, hp', hO, hv, hq⟩ := h
  exact ⟨f i, B, hp i hp', by rw [ho i hp']; exact hO, by rw [hd i hp']; exact hv, fun d O' v B' H' h1 h2 h3 => hq d O' v B' H' (hr i d O' hp' h1) (by rw [← ho i hp']; exact h2) h3⟩
theorem FnG.weak {f : Addr} {fd : FuncData} {CX : CXT} {sp sp' : Sp} (F : FnG P w K mg base CX k f fd ps sp) (h : ∀ vs H Q E, sp' vs H Q E → sp vs H Q E) : FnG P w K mg base CX k f fd ps sp' :=
  ⟨fun vs H Q E z => F.len vs H Q E (h vs H Q E z), fun A outer s H args us vs Q E r e0 b vl z => F.run A outer s H args us vs Q E r e0 b vl (h vs H Q E z)⟩
theorem CalP.weak (F : CalP P w K mg base x k ps (spG K pre dI OI RI)) (f : κ → ι) (hp : ∀ i, pre' i → pre (f i)) (hd : ∀ i, pre' i → dI (f i) = dI' i) (ho : ∀ i, pre' i → OI (f i) = OI' i) (hr : ∀ i d o, pre' i → RI (f i) d o → RI' i d o) : CalP P w K mg base x k ps (spG K pre' dI' OI' RI') := by
  obtain ⟨a, fd, h1, h2, h3, h4⟩ := F.ex
  exact ⟨a, fd, h1, h2, h3.weak fun vs H Q E z => spG.weak f hp hd ho hr z, h4⟩
theorem CalK.weak (F : CalK P w K mg base x k ps n ks gV (spG K pre dI OI RI)) (f : κ → ι) (hp : ∀ i, pre' i → pre (f i)) (hd : ∀ i, pre' i → dI (f i) = dI' i) (ho : ∀ i, pre' i → OI (f i) = OI' i) (hr : ∀ i d o, pre' i → RI (f i) d o → RI' i d o) : CalK P w K mg base x k ps n ks gV (spG K pre' dI' OI' RI') := by
  obtain ⟨a, fd, g, h1, h2, h3, h4⟩ := F.ex
  exact ⟨a, fd, g, h1, h2, h3.weak fun vs H Q E z => spG.weak f hp hd ho hr z, h4⟩
end
end GL
namespace Pr
open PySem L2 GL
/-! ### reduced rows are told by what they span -/
theorem linL_small {n : Nat} : ∀ {ts : List (Nat × List Int)} {x : List Int}, Tri n ts → LinL n ts x → (∀ q ∈ ts, (x.getD q.1 0).natAbs < (q.2.getD q.1 0).natAbs) → x = zeros n
  | [], x, _, h, _ => h
  | (p, b) :: t, x, ht, ⟨y, z, hz, e⟩, h0 => by
    have lb := ht.1.len
    have lz := linL_len (fun q hq => (tri_len ht.2.2 q hq).len) hz
    have zp := linL_pre ht.2.2 ht.2.1 hz p (Nat.le_refl _)
    have e1 : (x.getD p 0).natAbs < (b.getD p 0).natAbs := h0 (p, b) List.mem_cons_self
    rw [e, comb_get (lb.trans lz.symm), zp, Int.mul_zero, Int.add_zero, Int.natAbs_mul] at e1
    have hy : y = 0 := by
      refine Classical.byContradiction fun hn => ?_
      have := Nat.le_mul_of_pos_left (b.getD p 0).natAbs (show 0 < y.natAbs by omega)
      omega
    subst hy
    have ex : x = z := by rw [e, comb_snd (lb.trans lz.symm)]
    rw [ex]
    exact linL_small ht.2.2 hz fun q hq => by rw [← ex]; exact h0 q (List.mem_cons_of_mem _ hq)
theorem same_get {n k k' : Nat} {v v' : Piv} (g : Gd n k v) (g' : Gd n k' v') (r : Red v) (r' : Red v') (h1 : ∀ x, pivRows v x → Spn n (pivRows v') x) (h2 : ∀ x, pivRows v' x → Spn n (pivRows v) x) {i : Nat} {x : List Int} (hx : pget v i = some x) : pget v' i = some x := by
  obtain ⟨ts, ht, hq, _⟩ := piv_tri g
  obtain ⟨ts', ht', hq', _⟩ := piv_tri g'
  have sx := g.shp i x hx
  have keyOf : ∀ {ts ts' : List (Nat × List Int)} {v v' : Piv} {k' : Nat} {i : Nat} {x : List Int}, Gd n k' v' → Tri n ts' → (∀ q : Nat × List Int, q ∈ ts' ↔ pget v' q.1 = some q.2) → Shp n i x → Spn n (pivRows v') x → ∃ y, pget v' i = some y := fun {ts ts' v v' k' i x} g' ht' hq' sx hs => by
    have hne : x.getD i 0 ≠ 0 := by
      have := sx.pos
      omega
    obtain ⟨q, h1, h2⟩ := linL_lead ht' (spn_lin g' ht' hq' hs) hne sx.pre
    exact ⟨q.2, by rw [← h2]; exact (hq' q).mp h1⟩
  obtain ⟨y, hy⟩ := keyOf (ts := ts) (v := v) g' ht' hq' sx (h1 x ⟨i, hx⟩)
  have sy := g'.shp i y hy
  have piv : ∀ {j : Nat} {a b : List Int}, pget v j = some a → pget v' j = some b → a.getD j 0 = b.getD j 0 := fun {j a b} ha hb => by
    have sa := g.shp j a ha
    have sb := g'.shp j b hb
    have d1 := linL_dvd (k := j) (bk := b) ht' (spn_lin g' ht' hq' (h1 a ⟨j, ha⟩)) ((hq' (j, b)).mpr hb) fun q _ hk => sa.pre q.1 hk
    have d2 := linL_dvd (k := j) (bk := a) ht (spn_lin g ht hq (h2 b ⟨j, hb⟩)) ((hq (j, a)).mpr ha) fun q _ hk => sb.pre q.1 hk
    exact Int.dvd_antisymm (Int.le_of_lt sa.pos) (Int.le_of_lt sb.pos) d2 d1
  have e : x = y := by
    have hl := sx.len.trans sy.len.symm
    have hd : comb 1 x (-1) y = zeros n := by
      refine linL_small ht' (spn_lin g' ht' hq' (.comb 1 (-1) (h1 x ⟨i, hx⟩) (.gen ⟨i, hy⟩))) fun q hm => ?_
      rw [comb_get hl]
      have hb := (hq' q).mp hm
      have sb := g'.shp _ _ hb
      have hpos := sb.pos
      rcases Nat.lt_trichotomy q.1 i with h | h | h
      · rw [sx.pre q.1 h, sy.pre q.1 h, show (1 * (0 : Int) + -1 * 0) = 0 by decide]; omega
      · have := piv hx hy
        rw [h, this]
        have : q.2.getD i 0 = y.getD i 0 := by
          have e2 : pget v' i = some q.2 := by rw [← h]; exact hb
          rw [hy] at e2; cases e2; rfl
        rw [this]
        have := sy.pos
        omega
      · obtain ⟨c, hc⟩ := keyOf (ts := ts') (v := v') g ht hq sb (h2 q.2 ⟨q.1, hb⟩)
        have a1 := r i q.1 x c h hx hc
        have a2 := r' i q.1 y q.2 h hy hb
        have a3 := piv hc hb
        omega
    refine vec_ext hl fun j _ => ?_
    have e2 : (comb 1 x (-1) y).getD j 0 = (zeros n).getD j 0 := by rw [hd]
    rw [comb_get hl, zeros_get] at e2
    omega
  rw [e]; exact hy
theorem sorted_same : ∀ {xs ys : List Nat}, xs.Pairwise (· < ·) → ys.Pairwise (· < ·) → (∀ i, i ∈ xs ↔ i ∈ ys) → xs = ys
  | [], [], _, _, _ => rfl
  | [], y :: ys, _, _, h => absurd ((h y).mpr List.mem_cons_self) (by simp)
  | x :: xs, [], _, _, h => absurd ((h x).mp List.mem_cons_self) (by simp)
  | x :: xs, y :: ys, hx, hy, h => by
    obtain ⟨x1, x2⟩ := List.pairwise_cons.mp hx
    obtain ⟨y1, y2⟩ := List.pairwise_cons.mp hy
    have e : x = y := by
      rcases List.mem_cons.mp ((h x).mp List.mem_cons_self) with e | e
      · exact e
      · rcases List.mem_cons.mp ((h y).mpr List.mem_cons_self) with e2 | e2
        · exact e2.symm
        · have := x1 y e2
          have := y1 x e
          omega
    subst e
    rw [sorted_same x2 y2 fun i => ?_]
    constructor
    · intro hi
      rcases List.mem_cons.mp ((h i).mp (List.mem_cons_of_mem _ hi)) with e | e
      · have := x1 i hi; omega
      · exact e
    · intro hi
      rcases List.mem_cons.mp ((h i).mpr (List.mem_cons_of_mem _ hi)) with e | e
      · have := y1 i hi; omega
      · exact e
theorem same_rows {n k k' : Nat} {v v' : Piv} {js js' : List Nat} (g : Gd n k v) (g' : Gd n k' v') (r : Red v) (r' : Red v') (h1 : ∀ x, pivRows v x → Spn n (pivRows v') x) (h2 : ∀ x, pivRows v' x → Spn n (pivRows v) x)
    (p : js.Perm (keys v)) (p' : js'.Perm (keys v')) (s : js.Pairwise (· < ·)) (s' : js'.Pairwise (· < ·)) : js.map (rowOf v) = js'.map (rowOf v') := by
  have key : ∀ i x, pget v i = some x ↔ pget v' i = some x := fun i x => ⟨same_get g g' r r' h1 h2, same_get g' g r' r h2 h1⟩
  have ej : js = js' := sorted_same s s' fun i => by
    rw [p.mem_iff, p'.mem_iff]
    constructor
    · intro h
      obtain ⟨x, hx⟩ := pget_some h
      exact key_of ((key i x).mp hx)
    · intro h
      obtain ⟨x, hx⟩ := pget_some h
      exact key_of ((key i x).mpr hx)
  subst ej
  refine List.map_congr_left fun j hj => ?_
  obtain ⟨x, hx⟩ := pget_some (p.mem_iff.mp hj)
  unfold rowOf
  rw [hx, (key j x).mp hx]
/-- the kernel's rows -/
def IsKer (n : Nat) (xss : List (List Int)) (ks : List (List Int)) : Prop := ∃ (v : Piv) (js : List Nat) (S : Nat), ks = js.map (rowOf v) ∧ js.Perm (keys v) ∧ js.Pairwise (· < ·) ∧ KerI n S xss v
theorem isKer_one {n : Nat} {xss ks ks' : List (List Int)} (h : IsKer n xss ks) (h' : IsKer n xss ks') : ks = ks' := by
  obtain ⟨v, js, S, rfl, p, s, K⟩ := h
  obtain ⟨v', js', S', rfl, p', s', K'⟩ := h'
  refine same_rows K.gd K'.gd K.red K'.red (fun x hx => ?_) (fun x hx => ?_) p p' s s'
  · have := K.orth (.gen hx)
    exact K'.all this.1 this.2
  · have := K'.orth (.gen hx)
    exact K.all this.1 this.2
open Classical in
noncomputable def ker (n : Nat) (xss : List (List Int)) : List (List Int) := if h : ∃ ks, IsKer n xss ks then choose h else []
theorem ker_eq {n : Nat} {xss ks : List (List Int)} (h : IsKer n xss ks) : ker n xss = ks := by
  have hx : ∃ ks, IsKer n xss ks := ⟨ks, h⟩
  unfold ker
  rw [dif_pos hx]
  exact isKer_one (Classical.choose_spec hx) h
/-- a row is known: its product with every row of the kernel is 0 -/
def Kn (n : Nat) (xss : List (List Int)) (r : List Int) : Prop := ∀ x : List Int, x.length = n → (∀ y ∈ xss, dot x y = 0) → dot x r = 0
structure KerF (n S : Nat) (xss : List (List Int)) : Prop where
  len : ∀ u ∈ ker n xss, u.length = n
  sm : ∀ u ∈ ker n xss, SmL (KB S) u
  zero : ∀ u ∈ ker n xss, ∀ y ∈ xss, dot u y = 0
  all : ∀ x : List Int, x.length = n → (∀ y ∈ xss, dot x y = 0) → Spn n (fun z => z ∈ ker n xss) x
  cnt : (ker n xss).length ≤ n
theorem kerF {n S : Nat} {xss : List (List Int)} {v : Piv} {js : List Nat} (p : js.Perm (keys v)) (s : js.Pairwise (· < ·)) (K : KerI n S xss v) : js.map (rowOf v) = ker n xss ∧ KerF n S xss := by
  have e := ker_eq ⟨v, js, S, rfl, p, s, K⟩
  have hin : ∀ u ∈ ker n xss, ∃ i, pget v i = some u := fun u hu => by
    rw [e] at hu
    obtain ⟨j, hj, rfl⟩ := List.mem_map.mp hu
    obtain ⟨r, hr⟩ := pget_some (p.mem_iff.mp hj)
    exact ⟨j, by unfold rowOf; rw [hr]; rfl⟩
  refine ⟨e.symm, fun u hu => ?_, fun u hu => ?_, fun u hu => K.zero u (hin u hu), fun x hx h0 => (K.all hx h0).trans fun z hz => .gen ?_, ?_⟩
  · obtain ⟨i, hi⟩ := hin u hu
    exact (K.gd.shp i u hi).len
  · obtain ⟨i, hi⟩ := hin u hu
    exact K.gd.sm i u hi
  · obtain ⟨i, hi⟩ := hz
    show z ∈ ker n xss
    rw [e]
    exact List.mem_map.mpr ⟨i, p.mem_iff.mpr (key_of hi), by unfold rowOf; rw [hi]; rfl⟩
  · rw [e, List.length_map, p.length_eq, keys_len]
    exact piv_le K.gd
theorem KerF.kn {n S : Nat} {xss : List (List Int)} (h : KerF n S xss) (r : List Int) : ((ker n xss).all fun u => decide (dot u r = 0)) = true ↔ Kn n xss r := by
  rw [List.all_eq_true]
  constructor
  · intro h1 x hx h0
    exact (h.all x hx h0).orth h.len fun u hu => by simpa using h1 u hu
  · intro h1 u hu
    have := h1 u (h.len u hu) (h.zero u hu)
    simp [this]
section
variable {P : Program} {w : World} {K : PySem.W.Frag} {mg : Str → Option Value} {base : Heap}
theorem ok_kernel (E : EnvP K mg base) (ht : P.given.tree = none) : CalK P w K mg base "kernel_rows" 39 ps_kernel_rows 1 ["width"] (fun a b => a ++ b)
    (spG K KrPre (fun i => [dRows i.t i.t' i.xss, .int i.n]) (fun _ => []) fun i d O' => O' = [] ∧ d = dRows2 (ker i.n i.xss) ∧ KerF i.n i.l i.xss) := by
  refine (ok_kernel_rows (P := P) (w := w) E ht).weak id (fun i h => h) (fun i _ => rfl) (fun i _ => rfl) fun i d o hp ⟨e1, pv, js, e2, p, s, K⟩ => ?_
  obtain ⟨e3, K2⟩ := kerF p s K
  refine ⟨e1, ?_, K2⟩
  rw [e2]
  have e4 : js.map (rowOf pv) = ker i.n i.xss := e3
  rw [← e4]
  unfold dKer dRows2
  rw [List.map_map]; rfl
end
end Pr
namespace Pr
open PySem L2 GL
open Classical in
noncomputable def knB (n : Nat) (xss : List (List Int)) (r : List Int) : Bool := decide (Kn n xss r)
theorem fm_one {α β : Type} {g : α → β} : ∀ {xs : List α}, (xs.flatMap fun x => [g x]) = xs.map g
  | [] => rfl
  | x :: xs => by rw [List.flatMap_cons, fm_one]; rfl
theorem KerF.knB {n S : Nat} {xss : List (List Int)} (h : KerF n S xss) (r : List Int) : ((ker n xss).all fun u => decide (dot u r = 0)) = knB n xss r := by
  classical
  unfold Pr.knB
  by_cases hk : Kn n xss r
  · rw [(h.kn r).mpr hk]; simp [hk]
  · have : ¬ ((ker n xss).all fun u => decide (dot u r = 0)) = true := fun z => hk ((h.kn r).mp z)
    rw [Bool.not_eq_true] at this
    rw [this]; simp [hk]
section
variable {P : Program} {w : World} {K : PySem.W.Frag} {mg : Str → Option Value} {base : Heap}
structure KnIn where
  el : ElIn
  tr : Bool
  r : List Int
structure KnPre (i : KnIn) : Prop where
  el : KrPre i.el
  rl : i.r.length = i.el.n
  rs : SmL 100000 i.r
theorem ok_all_known (E : EnvP K mg base) (ht : P.given.tree = none) : CalA P w K mg base "all_known" 41 2 ["width"]
    (spG K KnPre (fun i => [dRows i.el.t i.el.t' i.el.xss] ++ [sInts i.tr i.r] ++ [.int i.el.n]) (fun _ => []) fun i d O' => d = .bl (knB i.el.n i.el.xss i.r) ∧ O' = []) :=
  E.calS_all_known (dA := fun i : KnIn => [dRows i.el.t i.el.t' i.el.xss]) (dK := fun i => [.int i.el.n]) (dR := fun i => sInts i.tr i.r) (fun _ => rfl) (fun _ => rfl) fun i hp cdv A outer s H _ hr => by
    obtain ⟨⟨t, t', xss, n, S⟩, tr, r⟩ := i
    obtain ⟨hel, hrl, hrs⟩ := hp
    have ⟨⟨h1, h2⟩, hm, hlen, hsm, hsz⟩ := hel
    simp only at h1 h2 hm hlen hsm hsz hrl hrs
    refine bl_set 3 sc_all_known.nd (ev_callV (t, t', xss, (n : Int)) (ok_require_rows E) (hr.mono (by decide)) ⟨by show (1 : Int) ≤ (n : Int); omega, by show (n : Int) ≤ 16; omega, fun xs hx => by have : xs.length = n := hlen xs hx; show (xs.length : Int) = (n : Int); omega⟩ (ea_cons (ev_var 0) (ea_cons (ev_var 1) ea_nil))) ?_
    refine bl_set 4 sc_all_known.nd (EvL.ev (evl_map1 (xs := [r]) (gD := sInts tr) (f := dInts) 5 sc_all_known.nd (ei_tup (ev_var 2)) (blkOk_by (N := N_all_known) (sc := defScope s_all_known) (by decide +kernel)) (fun _ _ _ _ _ => pg_name sc_all_known.nd rfl (Or.inl rfl))
      (fun x hx _ _ _ _ _ => ev_callV (tr, x, (n : Int)) (ok_require_row E) (hr.mono (by decide)) ⟨by
        have : x = r := by simpa using hx
        subst this
        show (x.length : Int) = n
        omega, by show (1 : Int) ≤ n; omega, by show (n : Int) ≤ 16; omega⟩ (ea_cons (ev_var 5) (ea_cons (ev_var 1) ea_nil))))) ?_
    refine bl_retR (evr_bcall (cr_all rfl) E.b_all (by decide +kernel) (ear_one (EvL.rv (evl_map2IP (P := KerF n S xss) (xs := ker n xss) (gD := dInts) (ys := fun _ => [r]) (gE := dInts) (f := fun u r => .bl (decide (dot u r = 0))) 6 5 sc_all_known.nd
      (eir_lstV (evr_callK (OI := fun _ => []) (Rx := []) (⟨false, false, xss, n, S⟩ : ElIn) (ok_kernel E ht) (hr.mono (by decide)) ⟨⟨h1, h2⟩, hm, hlen, hsm, hsz⟩ (ea_cons (ev_var 3) ea_nil) (ek_cons (ev_var 1) ek_nil) rfl (.refl _)) fun d o ⟨o', ⟨e1, e2, e3⟩, e4⟩ => ⟨_, e2, e3, rfl, by rw [e4, e1] <;> rfl⟩) (blkOk_by (N := N_all_known) (sc := defScope s_all_known) (by decide +kernel))
      (fun _ _ _ _ _ => pg_name sc_all_known.nd rfl (Or.inl rfl)) (fun _ _ _ _ _ => pg_name sc_all_known.nd rfl (Or.inl rfl)) (fun KF u hu _ _ _ _ _ => ei_list (ev_var 4)) (fun KF u hu y hy _ _ _ _ _ => ?_) (fun KF => ?_)))) (R := fun d o => d = .bl (knB n xss r) ∧ o = []) ?_) (fun d o h => h)
    · have hy : y = r := by simpa using hy
      subst hy
      exact ev_eqI (ev_callV (u, y) (ok_product E) (hr.mono (by decide)) ⟨_, 100000, KF.sm u hu, hrs, by have : KB S = 15 * S + 111 := rfl; have : bigB = 60000000 := rfl; omega, by decide⟩ (ea_cons (ev_var 6) (ea_cons (ev_var 5) ea_nil))) ev_int
    · have := KF.cnt
      show ((ker n xss).flatMap fun x => [D.bl (decide (dot x r = 0))]).length < lim
      rw [fm_one, List.length_map]
      exact Nat.lt_of_le_of_lt (Nat.le_trans this h2) (by decide)
    · rintro ds o ⟨d, rfl, xs, ⟨KF, rfl, rfl⟩, rfl⟩
      refine ⟨.bl (((ker n xss).map fun u => decide (dot u r = 0)).all id), [], ?_, ?_⟩
      · have e : ((ker n xss).flatMap fun x => [r].map ((fun u r => D.bl (decide (dot u r = 0))) x)) = ((ker n xss).map fun u => decide (dot u r = 0)).map D.bl := by
          rw [List.map_map]
          exact fm_one
        rw [e]
        exact callG_all
      · refine ⟨?_, rfl⟩
        rw [← KF.knB, List.all_map]; rfl
theorem ok_is_known (E : EnvP K mg base) (ht : P.given.tree = none) : CalK P w K mg base "is_known" 42 ps_is_known 2 ["width"] (fun a b => a ++ b)
    (spV K KnPre (fun i => [dRows i.el.t i.el.t' i.el.xss, sInts i.tr i.r, .int i.el.n]) fun i => .bl (knB i.el.n i.el.xss i.r)) :=
  E.calK_is_known fun fd F => fn_G F sc_is_known (fun _ => rfl) fun i hp cdv A outer s H hr =>
    bl_retR (evr_callA2 (OI := fun _ => []) (Rx := []) i (ok_all_known E ht) hr hp (ea_cons (ev_var 0) (ea_cons (ev_var 1) ea_nil)) (ek_cons (ev_var 2) ek_nil) rfl (.refl _)) fun d o ⟨o', ⟨e1, e2⟩, e3⟩ => ⟨e1, by rw [e3, e2]; rfl⟩
end
end Pr
namespace Pr
open PySem L2 GL
/-- the row that completing_rows looks at -/
def cmR (n : Nat) (s : List Int) (j : Nat) : List Int := (uv n j 1).set 0 (-(s.getD j 0))
noncomputable def cmF (n : Nat) (xss : List (List Int)) (s : List Int) : Nat → List (List Int)
  | 0 => []
  | i + 1 => if knB n (xss ++ cmF n xss s i) (cmR n s (i + 1)) then cmF n xss s i else cmF n xss s i ++ [cmR n s (i + 1)]
theorem cmR_len {n j : Nat} {s : List Int} : (cmR n s j).length = n := by simp [cmR, uv_len]
theorem cmR_sm {n j : Nat} {s : List Int} (hs : SmL 1 s) : SmL 1 (cmR n s j) := fun x hx => by
  rcases List.mem_or_eq_of_mem_set hx with h | h
  · exact uv_sm x h
  · rw [h]; exact (hs.get j).neg
theorem cmF_mem {n : Nat} {xss : List (List Int)} {s : List Int} : ∀ {i : Nat} {r : List Int}, r ∈ cmF n xss s i → ∃ j, j < i ∧ r = cmR n s (j + 1)
  | 0, r, h => by cases h
  | i + 1, r, h => by
    unfold cmF at h
    split at h
    · obtain ⟨j, h1, h2⟩ := cmF_mem h
      exact ⟨j, by omega, h2⟩
    · rcases List.mem_append.mp h with h | h
      · obtain ⟨j, h1, h2⟩ := cmF_mem h
        exact ⟨j, by omega, h2⟩
      · exact ⟨i, by omega, by simpa using h⟩
theorem cmF_len {n : Nat} {xss : List (List Int)} {s : List Int} : ∀ {i : Nat}, (cmF n xss s i).length ≤ i
  | 0 => Nat.le_refl _
  | i + 1 => by
    have := cmF_len (n := n) (xss := xss) (s := s) (i := i)
    unfold cmF
    split
    · omega
    · rw [List.length_append]; simp; omega
section
variable {P : Program} {w : World} {K : PySem.W.Frag} {mg : Str → Option Value} {base : Heap}
structure CmPre (i : ElIn) : Prop where
  n : 1 ≤ i.n ∧ i.n ≤ 10
  m : i.xss.length ≤ 800
  len : ∀ xs ∈ i.xss, xs.length = i.n
  sm : ∀ xs ∈ i.xss, SmL i.l xs
  sz : i.l ≤ 264
def CmRes (n : Nat) (xss : List (List Int)) (d : D) (O' : List Own) : Prop :=
  (d = .non ∧ O' = [] ∧ ∀ s ∈ sgn (n - 1), ¬ orth xss s) ∨ ∃ q as s, d = .raw (.ref q) ∧ s ∈ sgn (n - 1) ∧ orth xss s ∧ as.length = (cmF n xss s (n - 1)).length ∧ O' = Own.lst q (refs as) :: rows as (sD (cmF n xss s (n - 1)))
theorem ok_completing_rows (E : EnvP K mg base) (ht : P.given.tree = none) : CalK P w K mg base "completing_rows" 44 ps_completing_rows 1 ["width"] (fun a b => a ++ b)
    (spG K CmPre (fun i => [dRows i.t i.t' i.xss, .int i.n]) (fun _ => []) fun i d O' => CmRes i.n i.xss d O') :=
  E.calK_completing_rows fun fd F => fn_G F sc_completing_rows (fun _ => rfl) fun i hp cdv A outer s0 H hr => by
    obtain ⟨t, t', xss, n, l⟩ := i
    obtain ⟨⟨h1, h2⟩, hm, hlen, hsm, hsz⟩ := hp
    simp only at h1 h2 hm hlen hsm hsz
    refine bl_setR 2 sc_completing_rows.nd (evr_callK (OI := fun _ => []) (Rx := []) (⟨t, t', xss, n, l⟩ : ElIn) (ok_sign_shift E ht) (hr.mono (by decide)) ⟨⟨⟨by show n ≤ 16; omega, by show xss.length ≤ 900; omega, hlen, hsm, by show l ≤ 13000; omega⟩, h1⟩, h2⟩ (ea_cons (ev_var 0) ea_nil) (ek_cons (ev_var 1) ek_nil) rfl (.refl _)) ?_
    rintro d o ⟨o', hd, rfl⟩
    rw [List.append_nil]
    rcases hd with ⟨rfl, rfl, hno⟩ | ⟨a, s, rfl, rfl, hs, ho⟩
    · exact bl_ifT (et_isN (d := .non) (ev_var 2)) (bl_ret ev_non (.inl ⟨rfl, rfl, hno⟩))
    have hs : s ∈ sgn (n - 1) := hs
    have ho : orth xss s := ho
    refine bl_freezeL 2 (.refl _) rfl ?_
    refine bl_ifF (et_isN (d := dInts s) (ev_var 2)) (bl_nil ?_)
    obtain ⟨s1, s2⟩ := sgn_mem hs
    have hs1 : s.length = n := by omega
    have ssm : SmL 1 s := fun x hx => by
      rcases s2 x hx with rfl | rfl <;> (unfold Sm; decide)
    refine bl_setN 3 sc_completing_rows.nd (evn_lst ea_nil) fun q => ?_
    refine bl_for1 (xs := List.range (n - 1)) (gD := fun i : Nat => .int (1 + (i : Nat))) 4 (fun i r o => ∃ as t4 t5, r = [some (dRows t t' xss), some (.int n), some (dInts s), some (.raw (.ref q)), t4, t5, none] ∧ as.length = (cmF n xss s i).length ∧ o = Own.lst q (refs as) :: rows as (sD (cmF n xss s i))) PassesOwn.never sc_completing_rows.nd
      (ei_range2T E.b_range (lo := 1) (ea_cons ev_int (ea_cons (ev_var 1) ea_nil)) (by omega) (by omega)) ⟨[], none, none, rfl, rfl, rfl⟩ (fun i x r o hx ho' => ?_) (fun r o ho' => ?_)
    · obtain ⟨as, t4, t5, rfl, hl, rfl⟩ := ho'
      have hi : i < n - 1 := by simpa using (List.getElem?_eq_some_iff.mp hx).1
      have hxi : x = i := by
        have := (List.getElem?_eq_some_iff.mp hx).2
        simpa using this.symm
      subst hxi
      refine bl_setN 5 sc_completing_rows.nd (evn_callG (⟨x + 1, n⟩ : UrIn) (ok_unit_row E) (hr.mono (by decide)) ⟨by show x + 1 < n; omega, by show n ≤ 16; omega⟩ (ea_cons ((ev_var 4).eq (show D.int (1 + (x : Nat)) = D.int ((x + 1 : Nat) : Int) by congr 1; omega)) ea_nil) (ek_cons (ev_var 1) ek_nil) (fun B vs us r1 r2 => (r1.append r2).append (.cons rfl .nil))) fun z => ?_
      refine bl_put (i := 0) (j := 0) 0 (ev_neg (i := s.getD (x + 1) 0) (ev_ixL (ev_var 2) (ev_var 4) ?_)) (ev_var 5) ev_int rfl (by
        have h0 : 0 < n := h1
        unfold ixN
        simp [uv_len, h0]) ?_
      · have : (1 + (x : Nat) : Int) = ((x + 1 : Nat) : Int) := by omega
        rw [this]
        refine atI_nat ?_
        rw [List.getElem?_map, List.getElem?_eq_getElem (by omega), getD_lt (by omega)]; rfl
      have er : ((uv n (x + 1) 1).map D.int).set 0 (.int (-(s.getD (x + 1) 0))) = (cmR n s (x + 1)).map D.int := by
        unfold cmR
        rw [List.map_set]
      show Bl _ _ _ (Own.lst z (((uv n (x + 1) 1).map D.int).set 0 (.int (-(s.getD (x + 1) 0)))) :: Own.lst q (refs as) :: rows as (sD (cmF n xss s x))) _
      rw [er]
      have hcf : ∀ r ∈ cmF n xss s x, r.length = n ∧ SmL 1 r := fun r hr => by
        obtain ⟨j, _, rfl⟩ := cmF_mem hr
        exact ⟨cmR_len, cmR_sm ssm⟩
      have hcl := cmF_len (n := n) (xss := xss) (s := s) (i := x)
      refine bl_if (q := !knB n (xss ++ cmF n xss s x) (cmR n s (x + 1))) (Et.lend (ρ' := [some (dRows t t' xss), some (.int n), some (dInts s), some (.lst ((sD (cmF n xss s x)).map D.lst)), some (.int (1 + (x : Nat))), some (dInts (cmR n s (x + 1))), none])
        (et_not (ev_callKV (⟨⟨false, false, xss ++ cmF n xss s x, n, l + 1⟩, false, cmR n s (x + 1)⟩ : KnIn) (ok_is_known E ht) (hr.mono (by decide)) ⟨⟨⟨h1, Nat.le_trans h2 (by decide)⟩, ?_, ?_, ?_, Nat.succ_le_succ hsz⟩, cmR_len, (cmR_sm ssm).mono (by decide)⟩
          (ea_cons ((evn_cat (EvL.ev (evl_map1 (xs := xss) (gD := sInts t') (f := dInts) 6 sc_completing_rows.nd (ei_sq (ev_var 0)) (blkOk_by (N := N_completing_rows) (sc := defScope s_completing_rows) (by decide +kernel)) (fun _ _ _ _ _ => pg_name sc_completing_rows.nd rfl (Or.inl rfl)) (fun y hy _ _ _ _ _ => (evn_listQ E.b_list (ev_var 6)).ev))) (ev_var 3) ?_).ev.eq ?_) (ea_cons (ev_var 5) ea_nil)) (ek_cons (ev_var 1) ek_nil) rfl).et) ?_) (fun hq => ?_) (fun hq => ?_)
      · show (xss ++ cmF n xss s x).length ≤ 900
        rw [List.length_append]; omega
      · intro y hy
        rcases List.mem_append.mp hy with h | h
        · exact hlen y h
        · exact (hcf y h).1
      · intro y hy
        rcases List.mem_append.mp hy with h | h
        · exact (hsm y h).mono (Nat.le_succ _)
        · exact (hcf y h).2.mono (Nat.le_add_left 1 l)
      · rw [List.length_map, List.length_map]
        simp only [sD, List.length_map]
        exact Nat.le_trans (show _ ≤ 900 by omega) (by decide)
      · show D.lst _ = D.lst ((xss ++ cmF n xss s x).map dInts)
        rw [List.map_append]
        simp only [sD, List.map_map]
        rfl
      · refine Lent.own (ρ' := [some (dRows t t' xss), some (.int n), some (dInts s), some (.lst ((sD (cmF n xss s x)).map D.lst)), some (.int (1 + (x : Nat))), some (.raw (.ref z)), none]) 5 (Lent.own2 (ρ' := [some (dRows t t' xss), some (.int n), some (dInts s), some (.raw (.ref q)), some (.int (1 + (x : Nat))), some (.raw (.ref z)), none]) (as := as) 3 .refl rfl ?_ ?_ ?_) rfl ?_
        · exact List.mem_cons_of_mem _ List.mem_cons_self
        · simp [sD, hl]
        · exact fun w hw => List.mem_cons_of_mem _ (List.mem_cons_of_mem _ hw)
        · exact List.mem_cons_self
      · have e2 : cmF n xss s (x + 1) = cmF n xss s x ++ [cmR n s (x + 1)] := by
          show (if _ then _ else _) = _
          rw [if_neg (by simpa using hq)]
        refine bl_app (ys := refs as) (xs := refs as) (d := .raw (.ref z)) 1 (ev_var 3) rfl (ev_var 5) rfl (by simp only [refs, List.length_map]; exact Nat.lt_of_le_of_lt (show as.length ≤ 10 by omega) (by decide)) ?_
        refine bl_perm (O1 := Own.lst q (refs (as ++ [z])) :: rows (as ++ [z]) (sD (cmF n xss s (x + 1)))) ?_ (bl_nil (bl_nil ⟨as ++ [z], _, _, rfl, by rw [e2]; simp [hl], rfl⟩))
        rw [e2]
        have e3 : sD (cmF n xss s x ++ [cmR n s (x + 1)]) = sD (cmF n xss s x) ++ [(cmR n s (x + 1)).map D.int] := by simp [sD]
        have e4 : refs (as ++ [z]) = refs as ++ [.raw (.ref z)] := by simp [refs]
        rw [e3, e4]
        refine (List.Perm.swap _ _ _).trans (List.Perm.cons _ ?_)
        exact rows_snoc (by rw [hl]; simp [sD])
      · have e2 : cmF n xss s (x + 1) = cmF n xss s x := by
          show (if _ then _ else _) = _
          rw [if_pos (by simpa using hq)]
        refine bl_drop 0 rfl (bl_nil (bl_nil ⟨as, _, _, rfl, by rw [e2]; exact hl, by rw [e2]; rfl⟩))
    · obtain ⟨as, t4, t5, rfl, hl, rfl⟩ := ho'
      rw [List.length_range] at hl ⊢
      exact bl_ret (ev_var 3) (.inr ⟨q, as, s, rfl, hs, ho, hl, rfl⟩)
end
end Pr
namespace GL
open PySem L2
open PySem.Spec PyProof.Rows
section
variable {X : Cx} {ρ : Ro} {O O1 O2 : List Own} {a e : Expr} {d : D} {pos p apos : Pos} {rest : List Stmt} {U : Out}
def rClearG : V → List V → Hp → VK → Prop := fun x vs H Q => ∃ l xs, x = .ref l ∧ vs = [] ∧ H l = some (.lst xs) ∧ Q .non (upd H l (.lst []))
theorem mt_clearG : MtM X "list.clear" rClearG := by
  intro pins s σ H x vs v us Q I rx rv h
  obtain ⟨l, xs, rfl, rfl, hH, q⟩ := h
  cases rx
  have hus := rv.zero
  subst hus
  obtain ⟨z, its, n, r, hl, e⟩ := I.lstM hH
  refine call_meets PySem.F.slot_list_clear ⟨_, e, rfl⟩ PySem.F.entry_list_clear (PySem.F.args_list_clear_1 _) (AutoSeq1.list_clear_list_0 l its.toArray n (by rw [List.size_toArray]; omega)) ⟨e, ?_⟩
  refine ⟨.non, _, I.lset (its' := []) hH e (by simp) .nil ?_, rfl, q⟩
  exact Nat.zero_le _
/-- xs.clear() -/
theorem bl_clear {xs : List D} {q : Addr} (k : Nat) (ha : Ev X a ρ O (.raw (.ref q)) O1) (hk : O1[k]? = some (Own.lst q xs)) (kk : Bl X rest ρ (O1.set k (Own.lst q [])) U)
    (hpe : ∀ {ta : TE}, PE X a ta → PE X (.Call (.Attribute a "clear" apos) [] [] p) (tBM0 X.K "list" rClearG ta) := by intro _ h1; exact pe_bm0 PySem.F.plainAttrs_list PySem.F.slot_list_clear PySem.F.type_list_clear mt_clearG h1)
    (hs : swapsWith (.Call (.Attribute a "clear" apos) [] [] p) none pos.line X.env = pure false := by rfl) : Bl X (.Expr (.Call (.Attribute a "clear" apos) [] [] p) pos :: rest) ρ O U := fun B H σ hO hS D hD =>
  w_pb (pss_cons (ps_expr (hpe pe_w) hs) pb_w) (ha B H σ hO hS _ fun x B1 H1 n1 r1 => by
    cases (show x = .ref q from r1)
    obtain ⟨vs, e1, l1, rr⟩ := own_list n1.st hk
    refine ⟨tyv_list e1, q, vs, rfl, rfl, e1, ?_⟩
    have nn := n1.trans (own_put n1.st hk (ys := []) (Nat.zero_le _) .nil)
    exact kk B1 _ σ nn.st (hS.mono nn.base) D (hD.from nn))
/-- xs.index(z), ints -/
theorem ev_index {xs : List Int} {z : Int} {j : Nat} (ha : Ev X a ρ O (.lst (xs.map D.int)) O1) (he : Ev X e ρ O1 (.int z) O2) (hj : xs[j]? = some z) (hno : ∀ m, m < j → xs[m]? ≠ some z)
    (hpe : ∀ {ta te : TE}, PE X a ta → PE X e te → PE X (.Call (.Attribute a "index" apos) [e] [] pos) (tBM X.K "list" (rIndex X.K) ta (tCons te tNil)) := by intro _ _ h1 h2; exact pe_bm PySem.F.plainAttrs_list PySem.F.slot_list_index PySem.F.type_list_index mt_index h1 (pa_cons h2 pa_nil)) :
    Ev X (.Call (.Attribute a "index" apos) [e] [] pos) ρ O (.int j) O2 := fun B H σ hO hS Q k =>
  w_pe (hpe pe_w pe_w) (ha B H σ hO hS _ fun x B1 H1 n1 r1 => by
    obtain ⟨q, vs, rfl, e1, l1, rr⟩ := r1
    rw [reps_ints rr] at e1
    refine ⟨.inl ⟨rfl, _, SqL.of (n1.st.ext _ _ e1)⟩, he B1 H1 σ n1.st (hS.mono n1.base) _ fun y B2 H2 n2 r2 => ?_⟩
    cases (show y = .int z from r2)
    refine ⟨q, xs.map V.int, .int z, j, .int z, rfl, rfl, SqL.of (n2.st.ext _ _ (n2.base _ _ e1)), rfl, ?_, by rw [List.getElem?_map, hj]; rfl, by simp [eqV], fun m z' hm hz' => ?_, k _ B2 H2 (n1.trans n2) rfl⟩
    · rw [List.all_map]; exact List.all_eq_true.mpr fun _ _ => rfl
    · rw [List.getElem?_map] at hz'
      cases hx : xs[m]? with
      | none => rw [hx] at hz'; cases hz'
      | some w =>
        rw [hx] at hz'; cases hz'
        have : w ≠ z := fun h => hno m hm (by rw [hx, h])
        simp [eqV, this])
end
end GL
namespace Pr
open PySem L2 GL
/-! ### the law's own step -/
def hQt (k at' : Nat) (s d : Int) : Int := if k = at' then 0 else s.fdiv d
/-- what a pass makes of the vector at k -/
def hN (a y : List Int) (at' k : Nat) (w : List Int) : List Int := comb 1 w (-(hQt k at' (dot w a) (dot y a))) y
theorem hN_at {a y : List Int} {at' : Nat} : hN a y at' at' y = y := by
  unfold hN hQt
  rw [if_pos rfl]
  exact comb_fst rfl
theorem hN_len {a y w : List Int} {at' k : Nat} (h : w.length = y.length) : (hN a y at' k w).length = w.length := comb_len h
theorem hN_dot {a y w : List Int} {at' k : Nat} (h : w.length = y.length) : dot (hN a y at' k w) a = dot w a - hQt k at' (dot w a) (dot y a) * dot y a := by
  unfold hN
  rw [dot_comb h, Int.one_mul, Int.neg_mul, Int.sub_eq_add_neg]
/-- a floor quotient -/
theorem fd_bd {s d : Int} (hd : d ≠ 0) : (s.fdiv d).natAbs * d.natAbs ≤ s.natAbs + d.natAbs ∧ (s - s.fdiv d * d).natAbs < d.natAbs := by
  obtain ⟨f1, f2⟩ := fdm s d hd
  have e := Int.natAbs_mul (s.fdiv d) d
  rcases Int.lt_or_gt_of_ne hd with q | q
  · have := f2 q
    omega
  · have := f1 q
    omega
theorem fd_same {s d : Int} (hd : d ≠ 0) (hs : 0 ≤ s * d) : (s.fdiv d).natAbs * d.natAbs + (s - s.fdiv d * d).natAbs = s.natAbs := by
  obtain ⟨f1, f2⟩ := fdm s d hd
  have e := Int.natAbs_mul (s.fdiv d) d
  rcases Int.lt_or_gt_of_ne hd with q | q
  · have f := f2 q
    have hl : s ≤ 0 := by
      rcases Int.lt_or_le 0 s with z | z
      · have := Int.mul_neg_of_pos_of_neg z q; omega
      · exact z
    have h3 : s.fdiv d * d ≤ 0 := by
      have : 0 ≤ s.fdiv d := by
        rw [← Int.neg_fdiv_neg]
        exact Int.fdiv_nonneg (by omega) (by omega)
      exact Int.mul_nonpos_of_nonneg_of_nonpos this (by omega)
    omega
  · have f := f1 q
    have hl : 0 ≤ s := by
      rcases Int.lt_or_le s 0 with z | z
      · have := Int.mul_neg_of_neg_of_pos z q; omega
      · exact z
    have h3 : 0 ≤ s.fdiv d * d := Int.mul_nonneg (Int.fdiv_nonneg hl (by omega)) (by omega)
    omega
/-- how many products are 0 -/
def zc (vs : List (List Int)) (a : List Int) : Nat := (vs.filter fun v => decide (dot v a = 0)).length
/-- behind a pass: the sums are of one sign, below M but for the one at p, which is M -/
structure HSt (C : Nat) (a : List Int) (vs : List (List Int)) (M p : Nat) : Prop where
  pos : 0 < M
  at' : ∃ y, vs[p]? = some y ∧ (dot y a).natAbs = M
  tp : ∀ (i : Nat) v, vs[i]? = some v → (dot v a).natAbs ≤ M ∧ (i ≠ p → (dot v a).natAbs < M)
  sg : (∀ v ∈ vs, 0 ≤ dot v a) ∨ ∀ v ∈ vs, dot v a ≤ 0
  sz : ∀ m, (∀ v ∈ vs, dot v a ≠ 0 → m ≤ (dot v a).natAbs) → ∀ v ∈ vs, ∀ x ∈ v, x.natAbs * (M * m) ≤ C * 2 ^ zc vs a
theorem HSt.entry {C M p : Nat} {a : List Int} {vs : List (List Int)} (h : HSt C a vs M p) {v : List Int} (hv : v ∈ vs) : ∀ x ∈ v, x.natAbs ≤ C * 2 ^ vs.length := fun x hx => by
  have h1 := h.sz 1 (fun v _ hn => by omega) v hv x hx
  have h2 : x.natAbs * 1 ≤ x.natAbs * (M * 1) := Nat.mul_le_mul_left _ (by have := h.pos; omega)
  have h3 : C * 2 ^ zc vs a ≤ C * 2 ^ vs.length := Nat.mul_le_mul_left _ (Nat.pow_le_pow_right (by decide) (List.length_filter_le _ _))
  omega
/-- a list made anew place by place -/
structure Made (f : Nat → List Int → List Int) (ws vs : List (List Int)) (j : Nat) : Prop where
  len : vs.length = ws.length
  new : ∀ i, i < j → vs[i]? = (ws[i]?).map (f i)
  old : ∀ i, j ≤ i → vs[i]? = ws[i]?
theorem Made.start {f : Nat → List Int → List Int} {ws : List (List Int)} : Made f ws ws 0 := ⟨rfl, fun i h => by omega, fun _ _ => rfl⟩
theorem Made.step {f : Nat → List Int → List Int} {ws vs : List (List Int)} {j : Nat} {x : List Int} (h : Made f ws vs j) (hx : ws[j]? = some x) : Made f ws (vs.set j (f j x)) (j + 1) := by
  have hj : j < vs.length := by rw [h.len]; exact (List.getElem?_eq_some_iff.mp hx).1
  refine ⟨by rw [List.length_set]; exact h.len, fun i hi => ?_, fun i hi => ?_⟩
  · by_cases e : j = i
    · subst e
      rw [List.getElem?_set_self hj, hx]; rfl
    · rw [List.getElem?_set_ne e]; exact h.new i (by omega)
  · rw [List.getElem?_set_ne (by omega)]; exact h.old i (by omega)
theorem Made.mem {f : Nat → List Int → List Int} {ws vs : List (List Int)} (h : Made f ws vs ws.length) {v : List Int} (hv : v ∈ vs) : ∃ i w, ws[i]? = some w ∧ vs[i]? = some v ∧ v = f i w := by
  obtain ⟨i, hi⟩ := List.getElem?_of_mem hv
  have hil := (List.getElem?_eq_some_iff.mp hi).1
  have e := h.new i (by rw [← h.len]; exact hil)
  rw [hi] at e
  cases q : ws[i]? with
  | none => rw [q] at e; cases e
  | some w =>
    rw [q] at e
    cases e
    exact ⟨i, w, q, hi, rfl⟩
theorem zc_mono {a : List Int} {f : Nat → List Int → List Int} : ∀ {ws vs : List (List Int)} (s : Nat), vs.length = ws.length → (∀ (i : Nat) (w v : List Int), ws[i]? = some w → vs[i]? = some v → dot w a = 0 → dot v a = 0) → zc ws a ≤ zc vs a ∧ ((∃ (i : Nat) (w v : List Int), ws[i]? = some w ∧ vs[i]? = some v ∧ dot w a ≠ 0 ∧ dot v a = 0) → zc ws a + 1 ≤ zc vs a)
  | [], [], _, _, _ => ⟨Nat.le_refl _, fun ⟨i, w, v, h, _⟩ => by simp at h⟩
  | [], _ :: _, _, h, _ => by simp at h
  | _ :: _, [], _, h, _ => by simp at h
  | w :: ws, v :: vs, s, hl, h => by
    obtain ⟨i1, i2⟩ := zc_mono (f := f) (ws := ws) (vs := vs) (s + 1) (by simpa using hl) fun i w v h1 h2 => h (i + 1) w v (by simpa using h1) (by simpa using h2)
    have h0 := h 0 w v (by simp) (by simp)
    have c : ∀ (u : List Int) (us : List (List Int)), zc (u :: us) a = zc us a + if dot u a = 0 then 1 else 0 := fun u us => by
      unfold zc
      by_cases hu : dot u a = 0 <;> simp [hu]
    rw [c, c]
    refine ⟨?_, ?_⟩
    · by_cases hw : dot w a = 0
      · rw [if_pos hw, if_pos (h0 hw)]; omega
      · rw [if_neg hw]; omega
    · rintro ⟨i, w', v', h1, h2, h3, h4⟩
      cases i with
      | zero =>
        simp at h1 h2
        subst h1 h2
        rw [if_neg h3, if_pos h4]; omega
      | succ i =>
        have := i2 ⟨i, w', v', by simpa using h1, by simpa using h2, h3, h4⟩
        by_cases hw : dot w a = 0
        · rw [if_pos hw, if_pos (h0 hw)]; omega
        · rw [if_neg hw]; omega
/-- what a pass keeps -/
theorem pass_core {C C' M m0 : Nat} {a y : List Int} {ws vs : List (List Int)} {at' n : Nat} (hy : ws[at']? = some y) (hm : (dot y a).natAbs = m0) (h0 : 0 < m0) (hM : m0 ≤ M) (hl : ∀ v ∈ ws, v.length = n) (mk : Made (hN a y at') ws vs ws.length)
    (grow : ∀ (i : Nat) w, ws[i]? = some w → ∀ m', (∀ v ∈ vs, dot v a ≠ 0 → m' ≤ (dot v a).natAbs) → ∀ x ∈ w, ∀ z ∈ y, (x.natAbs + (hQt i at' (dot w a) (dot y a)).natAbs * z.natAbs) * (m0 * m') ≤ C' * 2 ^ zc vs a) : HSt C' a vs m0 at' := by
  have hyl := hl y (List.mem_of_getElem? hy)
  have hwl : ∀ {i : Nat} {w : List Int}, ws[i]? = some w → w.length = y.length := fun h => (hl _ (List.mem_of_getElem? h)).trans hyl.symm
  have hatl := (List.getElem?_eq_some_iff.mp hy).1
  have hvy : vs[at']? = some y := by
    rw [mk.new at' hatl, hy]
    show some (hN a y at' at' y) = _
    rw [hN_at]
  have hne : dot y a ≠ 0 := by omega
  have small : ∀ {i : Nat} {w : List Int}, ws[i]? = some w → i ≠ at' → (dot (hN a y at' i w) a).natAbs < m0 := fun {i w} hw hi => by
    rw [hN_dot (hwl hw)]
    have := (fd_bd (s := dot w a) hne).2
    unfold hQt
    rw [if_neg hi, ← hm]
    exact this
  refine ⟨h0, ⟨y, hvy, hm⟩, fun i v hv => ?_, ?_, fun m' hm' v hv x hx => ?_⟩
  · have hil := (List.getElem?_eq_some_iff.mp hv).1
    rw [mk.new i (by rw [← mk.len]; exact hil)] at hv
    cases q : ws[i]? with
    | none => rw [q] at hv; cases hv
    | some w =>
      rw [q] at hv; cases hv
      by_cases hi : i = at'
      · subst hi
        rw [hy] at q; cases q
        rw [hN_at]
        exact ⟨by omega, fun z => absurd rfl z⟩
      · have := small q hi
        exact ⟨by omega, fun _ => this⟩
  · have sgn : ∀ v ∈ vs, (0 < dot y a → 0 ≤ dot v a) ∧ (dot y a < 0 → dot v a ≤ 0) := fun v hv => by
      obtain ⟨i, w, h1, h2, rfl⟩ := mk.mem hv
      by_cases hi : i = at'
      · subst hi
        rw [hy] at h1; cases h1
        rw [hN_at]
        exact ⟨fun h => by omega, fun h => by omega⟩
      · rw [hN_dot (hwl h1)]
        unfold hQt
        rw [if_neg hi]
        obtain ⟨f1, f2⟩ := fdm (dot w a) (dot y a) hne
        exact ⟨fun h => (f1 h).1, fun h => (f2 h).2⟩
    rcases Int.lt_or_gt_of_ne hne with q | q
    · exact .inr fun v hv => (sgn v hv).2 q
    · exact .inl fun v hv => (sgn v hv).1 q
  · obtain ⟨i, w, h1, h2, rfl⟩ := mk.mem hv
    obtain ⟨p, hp, rfl⟩ := List.mem_map.mp hx
    obtain ⟨q1, q2⟩ := List.of_mem_zip hp
    refine Nat.le_trans (Nat.mul_le_mul_right _ ?_) (grow i w h1 m' hm' p.1 q1 p.2 q2)
    have e1 : (-(hQt i at' (dot w a) (dot y a)) * p.2).natAbs = (hQt i at' (dot w a) (dot y a)).natAbs * p.2.natAbs := by rw [Int.natAbs_mul, Int.natAbs_neg]
    have e2 : (1 * p.1).natAbs = p.1.natAbs := by rw [Int.one_mul]
    have := Int.natAbs_add_le (1 * p.1) (-(hQt i at' (dot w a) (dot y a)) * p.2)
    omega
/-- the first pass -/
theorem pass_first {K T m0 : Nat} {a y : List Int} {ws vs : List (List Int)} {at' n : Nat} (hs : ∀ v ∈ ws, SmL K v) (ht : ∀ v ∈ ws, (dot v a).natAbs ≤ 2 ^ T) (hy : ws[at']? = some y) (hm : (dot y a).natAbs = m0) (h0 : 0 < m0) (hl : ∀ v ∈ ws, v.length = n) (mk : Made (hN a y at') ws vs ws.length) : HSt (2 ^ (K + 2 * T + 2)) a vs m0 at' := by
  have hmT : m0 ≤ 2 ^ T := by rw [← hm]; exact ht y (List.mem_of_getElem? hy)
  have hne : dot y a ≠ 0 := by omega
  refine pass_core (C := 0) (M := 2 ^ T) hy hm h0 hmT hl mk fun i w hw m' hm' x hx z hz => ?_
  have b1 : x.natAbs ≤ 2 ^ K := Nat.le_of_lt (hs w (List.mem_of_getElem? hw) x hx)
  have b2 : z.natAbs ≤ 2 ^ K := Nat.le_of_lt (hs y (List.mem_of_getElem? hy) z hz)
  have hm2 : m' ≤ m0 := by
    have hvy : y ∈ vs := by
      refine List.mem_of_getElem? (i := at') ?_
      rw [mk.new at' (List.getElem?_eq_some_iff.mp hy).1, hy]
      show some (hN a y at' at' y) = _
      rw [hN_at]
    have := hm' y hvy hne
    omega
  have hqb : (hQt i at' (dot w a) (dot y a)).natAbs * m0 ≤ 2 ^ T + m0 := by
    unfold hQt
    split
    · simp
    · have := (fd_bd (s := dot w a) hne).1
      have := ht w (List.mem_of_getElem? hw)
      rw [hm] at *
      omega
  generalize (hQt i at' (dot w a) (dot y a)).natAbs = t at hqb
  have c1 : (x.natAbs + t * z.natAbs) ≤ 2 ^ K * (1 + t) := by
    rw [Nat.mul_add, Nat.mul_one, Nat.mul_comm (2 ^ K) t]
    have := Nat.mul_le_mul_left t b2
    omega
  have c2 : (1 + t) * m0 ≤ 3 * 2 ^ T := by
    rw [Nat.add_mul, Nat.one_mul]; omega
  have c3 : (1 + t) * (m0 * m') ≤ 3 * 2 ^ T * 2 ^ T := by
    rw [← Nat.mul_assoc]
    exact Nat.mul_le_mul c2 (Nat.le_trans hm2 hmT)
  have c4 : (x.natAbs + t * z.natAbs) * (m0 * m') ≤ 2 ^ K * (3 * 2 ^ T * 2 ^ T) := by
    refine Nat.le_trans (Nat.mul_le_mul_right _ c1) ?_
    rw [Nat.mul_assoc]
    exact Nat.mul_le_mul_left _ c3
  have e : 2 ^ (K + 2 * T + 2) = 2 ^ K * (4 * 2 ^ T * 2 ^ T) := by
    rw [show K + 2 * T + 2 = K + (2 + T + T) by omega, Nat.pow_add, Nat.pow_add 2 (2 + T), Nat.pow_add 2 2]
  have c5 : 2 ^ K * (3 * 2 ^ T * 2 ^ T) ≤ 2 ^ (K + 2 * T + 2) := by
    rw [e]
    exact Nat.mul_le_mul_left _ (Nat.mul_le_mul_right _ (Nat.mul_le_mul_right _ (by decide)))
  have c6 : 2 ^ (K + 2 * T + 2) * 1 ≤ 2 ^ (K + 2 * T + 2) * 2 ^ zc vs a := Nat.mul_le_mul_left _ (Nat.two_pow_pos _)
  omega
/-- a later one -/
theorem pass_next {C M m0 p : Nat} {a y : List Int} {ws vs : List (List Int)} {at' n : Nat} (k : HSt C a ws M p) (hy : ws[at']? = some y) (hm : (dot y a).natAbs = m0) (h0 : 0 < m0) (least : ∀ v ∈ ws, dot v a ≠ 0 → m0 ≤ (dot v a).natAbs) (hl : ∀ v ∈ ws, v.length = n) (mk : Made (hN a y at') ws vs ws.length) : HSt C a vs m0 at' := by
  have hne : dot y a ≠ 0 := by omega
  have hmM : m0 ≤ M := by rw [← hm]; exact (k.tp at' y hy).1
  have hyl := hl y (List.mem_of_getElem? hy)
  refine pass_core (C := 0) (M := M) hy hm h0 hmM hl mk fun i w hw m' hm' x hx z hz => ?_
  have wm := List.mem_of_getElem? hw
  have b1 := k.sz m0 least w wm x hx
  have b2 := k.sz m0 least y (List.mem_of_getElem? hy) z hz
  have hvy : vs[at']? = some y := by
    rw [mk.new at' (List.getElem?_eq_some_iff.mp hy).1, hy]
    show some (hN a y at' at' y) = _
    rw [hN_at]
  have hm2 : m' ≤ m0 := by
    have := hm' y (List.mem_of_getElem? hvy) hne
    omega
  have hwl : w.length = y.length := (hl w wm).trans hyl.symm
  have hvi : vs[i]? = some (hN a y at' i w) := by rw [mk.new i (List.getElem?_eq_some_iff.mp hw).1, hw]; rfl
  have hsw := (k.tp i w hw).1
  -- the zeros stay
  obtain ⟨z1, z2⟩ := zc_mono (a := a) (f := hN a y at') (ws := ws) (vs := vs) 0 mk.len fun i w v h1 h2 h3 => by
    have hil := (List.getElem?_eq_some_iff.mp h1).1
    rw [mk.new i hil, h1] at h2
    cases h2
    rw [hN_dot ((hl w (List.mem_of_getElem? h1)).trans hyl.symm), h3]
    unfold hQt
    split <;> simp
  have pz : 2 ^ zc ws a ≤ 2 ^ zc vs a := Nat.pow_le_pow_right (by decide) z1
  -- what is to be shown of the quotient
  suffices hk : ∃ f, (1 + (hQt i at' (dot w a) (dot y a)).natAbs) * m' ≤ f * M ∧ f * 2 ^ zc ws a ≤ 2 ^ zc vs a by
    obtain ⟨f, k1, k2⟩ := hk
    generalize (hQt i at' (dot w a) (dot y a)).natAbs = t at k1
    have c1 : (x.natAbs + t * z.natAbs) * (M * m0) ≤ (1 + t) * (C * 2 ^ zc ws a) := by
      rw [Nat.add_mul, Nat.add_mul, Nat.one_mul, Nat.mul_assoc]
      exact Nat.add_le_add b1 (Nat.mul_le_mul_left _ b2)
    have c2 : (x.natAbs + t * z.natAbs) * (m0 * m') * M ≤ C * 2 ^ zc vs a * M := by
      have e1 : ∀ A : Nat, A * (m0 * m') * M = A * (M * m0) * m' := fun A => by ac_rfl
      rw [e1]
      refine Nat.le_trans (Nat.mul_le_mul_right m' c1) ?_
      have e2 : (1 + t) * (C * 2 ^ zc ws a) * m' = C * 2 ^ zc ws a * ((1 + t) * m') := by
        rw [Nat.mul_comm (1 + t), Nat.mul_assoc]
      rw [e2]
      refine Nat.le_trans (Nat.mul_le_mul_left _ k1) ?_
      have e3 : C * 2 ^ zc ws a * (f * M) = C * (f * 2 ^ zc ws a) * M := by
        rw [Nat.mul_assoc, Nat.mul_assoc, ← Nat.mul_assoc (2 ^ zc ws a), Nat.mul_comm (2 ^ zc ws a) f]
      rw [e3]
      exact Nat.mul_le_mul_right _ (Nat.mul_le_mul_left _ k2)
    exact Nat.le_of_mul_le_mul_right c2 k.pos
  by_cases hi : i = at'
  · refine ⟨1, ?_, by omega⟩
    unfold hQt
    rw [if_pos hi]
    show (1 + 0) * m' ≤ 1 * M
    omega
  · by_cases hw0 : dot w a = 0
    · refine ⟨1, ?_, by omega⟩
      unfold hQt
      rw [if_neg hi, hw0, Int.zero_fdiv]
      show (1 + 0) * m' ≤ 1 * M
      omega
    · have hsame : 0 ≤ dot w a * dot y a := by
        rcases k.sg with q | q
        · exact Int.mul_nonneg (q w wm) (q y (List.mem_of_getElem? hy))
        · exact Int.mul_nonneg_of_nonpos_of_nonpos (q w wm) (q y (List.mem_of_getElem? hy))
      have hf := fd_same hne hsame
      have hd := hN_dot (a := a) (at' := at') (k := i) hwl
      have hqe : hQt i at' (dot w a) (dot y a) = (dot w a).fdiv (dot y a) := by unfold hQt; rw [if_neg hi]
      rw [hqe] at hd ⊢
      rw [hm] at hf
      generalize ((dot w a).fdiv (dot y a)).natAbs = t at hf
      by_cases hr : dot (hN a y at' i w) a = 0
      · refine ⟨2, ?_, ?_⟩
        · rw [← hd, hr] at hf
          have := Nat.mul_le_mul_left (1 + t) hm2
          rw [Nat.add_mul, Nat.one_mul] at this ⊢
          have e : (1 + t) * m0 = m0 + t * m0 := by rw [Nat.add_mul, Nat.one_mul]
          simp at hf
          have h5 := Nat.mul_le_mul_left t hm2
          omega
        · have := z2 ⟨i, w, _, hw, hvi, hw0, hr⟩
          have h6 : 2 ^ (zc ws a + 1) ≤ 2 ^ zc vs a := Nat.pow_le_pow_right (by decide) this
          rw [Nat.pow_succ] at h6
          omega
      · refine ⟨1, ?_, by omega⟩
        have h4 := hm' _ (List.mem_of_getElem? hvi) hr
        rw [hd] at h4
        have h5 := Nat.mul_le_mul_left t hm2
        rw [Nat.add_mul, Nat.one_mul]
        omega
end Pr
namespace Pr
open PySem L2 GL
structure Pot where
  a : Int
  b : Int
structure OkP (p : Pot) : Prop where
  a : 0 ≤ p.a
  b : 0 ≤ p.b
  b' : p.b < 2147483648
abbrev Pot.own (q : Addr) (p : Pot) : Own := Own.lst q [.int p.a, .int p.b]
def dg (p : Pot) (m : Int) : Int × Pot :=
  if 0 < p.a then (p.a % m, ⟨p.a / m, p.b⟩)
  else (((p.b * 39373 + 12227) % 2147483629 * ((p.b * 39373 + 12227) % 2147483629) % 2147483563 / 13) % m, ⟨p.a, (p.b * 39373 + 12227) % 2147483629⟩)
theorem dg_ok {p : Pot} {m : Int} (h : OkP p) (hm : 1 ≤ m) : OkP (dg p m).2 ∧ 0 ≤ (dg p m).1 ∧ (dg p m).1 < m := by
  unfold dg
  split
  · exact ⟨⟨Int.ediv_nonneg h.a (by omega), h.b, h.b'⟩, Int.emod_nonneg _ (by omega), Int.emod_lt_of_pos _ (by omega)⟩
  · refine ⟨⟨h.a, Int.emod_nonneg _ (by decide), ?_⟩, Int.emod_nonneg _ (by omega), Int.emod_lt_of_pos _ (by omega)⟩
    have := Int.emod_lt_of_pos (p.b * 39373 + 12227) (show (0 : Int) < 2147483629 by decide)
    show (p.b * 39373 + 12227) % 2147483629 < (2147483648 : Int)
    omega
theorem sm_b {p : Pot} (h : OkP p) : Sm 31 p.b := by
  unfold Sm
  have := h.b; have := h.b'
  have e : (2 : Nat) ^ 31 = 2147483648 := by decide
  omega
theorem sm_c {k : Nat} {x : Int} (h : x.natAbs < 2 ^ k := by decide) : Sm k x := h
section
variable {P : Program} {w : World} {K : PySem.W.Frag} {mg : Str → Option Value} {base : Heap}
theorem ok_law_digit (E : EnvP K mg base) : CalP P w K mg base "_law_digit" 1 ps_law_digit
    (spW K (fun i : Addr × Pot × Int => OkP i.2.1 ∧ 1 ≤ i.2.2 ∧ i.2.2.natAbs.log2 < 9000) (fun i => [.raw (.ref i.1), .int i.2.2]) (fun i => i.2.1.own i.1) (fun i => .int (dg i.2.1 i.2.2).1) fun i => (dg i.2.1 i.2.2).2.own i.1) :=
  E.cal_law_digit fun fd F => fn_G F sc_law_digit (fun _ => rfl) fun i hp cdv A outer s H hr => by
    obtain ⟨q, p, m⟩ := i
    obtain ⟨ok, hm, hl⟩ := hp
    simp only at ok hm hl
    have m0 : (0 : Int) < m := by omega
    refine bl_if (et_gt (ev_ixO 0 (ev_var 0) (ev_int (i := 0)) rfl rfl) ev_int) (fun hq => ?_) (fun hq => ?_)
    · have ha : 0 < p.a := by simpa using hq
      refine bl_unpS 0 2 sc_law_digit.nd (z := 0) (j := 0) (ev_divmodW E.b_divmod (ea_cons (ev_ixO 0 (ev_var 0) (ev_int (i := 0)) rfl rfl) (ea_cons (ev_var 1) ea_nil)) ⟨m0, hl⟩) (ev_var 0) ev_int rfl rfl ?_
      have e : dg p m = (p.a % m, ⟨p.a / m, p.b⟩) := by unfold dg; rw [if_pos ha]
      refine bl_ret (ev_var 2) ⟨?_, ?_⟩
      · show D.int (p.a % m) = .int (dg p m).1
        rw [e]
      · show [Own.lst q [.int (p.a / m), .int p.b]] = [(dg p m).2.own q]
        rw [e]
    · have ha : ¬ 0 < p.a := by simpa using hq
      have e : dg p m = (((p.b * 39373 + 12227) % 2147483629 * ((p.b * 39373 + 12227) % 2147483629) % 2147483563 / 13) % m, ⟨p.a, (p.b * 39373 + 12227) % 2147483629⟩) := by unfold dg; rw [if_neg ha]
      have s1 : Sm 31 ((p.b * 39373 + 12227) % 2147483629) := by
        unfold Sm
        have h1 := Int.emod_nonneg (p.b * 39373 + 12227) (show (2147483629 : Int) ≠ 0 by decide)
        have h2 := Int.emod_lt_of_pos (p.b * 39373 + 12227) (show (0 : Int) < 2147483629 by decide)
        have e : (2 : Nat) ^ 31 = 2147483648 := by decide
        omega
      refine bl_nil ?_
      refine bl_put (j := 1) 0 (ev_modP (ev_add (ev_mul (ev_ixO 0 (ev_var 0) (ev_int (i := 1)) rfl rfl) ev_int ((sm_b ok).ok (k := 31) sm_c (by decide) (by decide))) ev_int) ev_int (by decide)) (ev_var 0) (ev_int (i := 1)) rfl rfl ?_
      refine bl_ret (ev_modP (ev_divP (ev_modP (ev_mul (ev_ixO 0 (ev_var 0) (ev_int (i := 1)) rfl rfl) (ev_ixO 0 (ev_var 0) (ev_int (i := 1)) rfl rfl) (s1.ok s1 (by decide) (by decide))) ev_int (by decide)) ev_int (by decide)) (ev_var 1) m0) ⟨?_, ?_⟩
      · show D.int _ = .int (dg p m).1
        rw [e]
      · show [Own.lst q [.int p.a, .int _]] = [(dg p m).2.own q]
        rw [e]
theorem ok_law_pot (E : EnvP K mg base) : CalP P w K mg base "_law_pot" 1 ps_law_pot
    (spG K (fun i : Addr × List Int × Nat => i.2.2 ≤ 1000) (fun i => [.raw (.ref i.1), .int (i.2.2 : Nat)]) (fun i => [Own.scr i.1 i.2.1]) fun i d O' => ∃ q p, d = .raw (.ref q) ∧ O' = [Pot.own q p, Own.scr i.1 i.2.1] ∧ OkP p) :=
  E.cal_law_pot fun fd F => fn_G F sc_law_pot (fun _ => rfl) fun i hp cdv A outer s H hr => by
    obtain ⟨p, ns, k⟩ := i
    simp only at hp
    have hk : ∀ B H, OSt K [Own.scr p ns] B H → SqL K H p (ns.map V.int) := fun B H hO => Same.sqL hO.ext (hO.all _ List.mem_cons_self)
    have hcell : ∃ c : Int, Ev (cxOf CX0 P w K mg base N_law_pot "_law_pot" (defScope s_law_pot) (He.fAd K ("_law_pot", none)) cdv A outer s H E0).nox (match defBody s_law_pot with | (.Assign _ e _) :: _ => e | _ => .Constant .none 0 ⟨0, 0, 0, 0⟩) [some (.raw (.ref p)), some (.int (k : Nat)), none] [Own.scr p ns] (.int c) [Own.scr p ns] := by
      by_cases h : k < ns.length
      · have hi : atI (ns.map V.int) ((k : Nat) : Int) = some (.int (ns.getD k 0)) := by
          rw [atI_nat (v := V.int (ns.getD k 0)) (by simp [h])]
        exact ⟨ns.getD k 0, (ev_if (p := true) (d1 := .int (ns.getD k 0)) (d2 := .int 0) (O2 := [Own.scr p ns]) (O3 := [Own.scr p ns]) ((et_lt (ev_var 1) (ev_lenS E.b_len (ev_var 0) hk)).eq (by simp [h])) (fun _ => ev_ixS (ev_var 0) (ev_var 1) hk hi) fun z => by cases z).eq2 rfl rfl⟩
      · exact ⟨0, (ev_if (p := false) (d1 := .int 0) (d2 := .int 0) (O2 := [Own.scr p ns]) (O3 := [Own.scr p ns]) ((et_lt (ev_var 1) (ev_lenS E.b_len (ev_var 0) hk)).eq (by simp [h])) (fun z => by cases z) fun _ => ev_int).eq2 rfl rfl⟩
    obtain ⟨c, hc⟩ := hcell
    refine bl_set 2 sc_law_pot.nd hc ?_
    have sm : Sm 31 ((if c < 0 then -c else c) % 2147483587) := by
      unfold Sm
      have h1 := Int.emod_nonneg (if c < 0 then -c else c) (show (2147483587 : Int) ≠ 0 by decide)
      have h2 := Int.emod_lt_of_pos (if c < 0 then -c else c) (show (0 : Int) < 2147483587 by decide)
      have e : (2 : Nat) ^ 31 = 2147483648 := by decide
      omega
    have sk : Sm 31 (k : Int) := by
      unfold Sm
      have e : (2 : Nat) ^ 31 = 2147483648 := by decide
      omega
    refine bl_retN (evn_lst (ds := [.int (if (if c < 0 then -c else c) - 10 ^ (18 : Int).toNat > 0 then (if c < 0 then -c else c) - 10 ^ (18 : Int).toNat else 0), .int (((if c < 0 then -c else c) % 2147483587 * 48271 + 60013 * (k : Nat) + 41) % 2147483647)])
      (ea_cons (ev_max2 E.b_max (ea_cons ev_int (ea_cons (ev_sub (ev_abs E.b_abs (ev_var 2)) (ev_pow ev_int ev_int ⟨by decide, by decide, by decide⟩)) ea_nil))) (ea_cons (ev_modP (ev_add (ev_add (ev_mul (ev_modP (ev_abs E.b_abs (ev_var 2)) ev_int (by decide)) ev_int (sm.ok (k := 31) sm_c (by decide) (by decide))) (ev_mul ev_int (ev_var 1) ((sm_c (k := 31)).ok sk (by decide) (by decide)))) ev_int) ev_int (by decide)) ea_nil))) fun q => ⟨q, ⟨_, _⟩, rfl, rfl, ?_, ?_, ?_⟩
    · show 0 ≤ (if (if c < 0 then -c else c) - 10 ^ (18 : Int).toNat > 0 then (if c < 0 then -c else c) - 10 ^ (18 : Int).toNat else 0 : Int)
      split <;> omega
    · exact Int.emod_nonneg _ (by decide)
    · have := Int.emod_lt_of_pos ((if c < 0 then -c else c) % 2147483587 * 48271 + 60013 * (k : Nat) + 41) (show (0 : Int) < 2147483647 by decide)
      show ((if c < 0 then -c else c) % 2147483587 * 48271 + 60013 * (k : Nat) + 41) % 2147483647 < (2147483648 : Int)
      omega
theorem ok_law_dot (E : EnvP K mg base) : CalP P w K mg base "_law_dot" 1 ps_law_dot (spV K (fun i : List Int × List Int => ∃ j k, SmL j i.1 ∧ SmL k i.2 ∧ j ≤ bigB ∧ k ≤ bigB) (fun i => [dInts i.1, dInts i.2]) fun i => .int (dot i.1 i.2)) :=
  E.cal_law_dot fun fd F => fn_G F sc_law_dot (fun _ => rfl) fun i ⟨j, k, hj, hk, lj, lk⟩ cdv A outer s H hr =>
    bl_ret (ev_sumM E.b_sum (EvL.ev (evl_map2 2 3 sc_law_dot.nd (ei_zipT E.b_zip (ea_cons (ev_var 0) (ea_cons (ev_var 1) ea_nil))) (blkOk_by (N := N_law_dot) (sc := defScope s_law_dot) (by decide +kernel))
      (fun _ _ _ _ _ => pg2 (pg_name sc_law_dot.nd rfl (Or.inl rfl)) (pg_name sc_law_dot.nd rfl (Or.inl rfl)))
      (fun x hx _ _ _ _ _ => ev_mul (ev_var 2) (ev_var 3) ((hj _ (List.of_mem_zip hx).1).ok (hk _ (List.of_mem_zip hx).2) lj lk))))) ⟨rfl, rfl⟩
end
end Pr
namespace Pr
open PySem L2 GL
structure Kb (n C : Nat) (us vs : List (List Int)) : Prop where
  ln : vs.length = us.length
  len : ∀ v ∈ vs, v.length = n
  eq : EqL n us vs
  sz : ∀ v ∈ vs, ∀ x ∈ v, x.natAbs ≤ C
/-- at most one row has a product other than 0 -/
theorem kout2 {n C : Nat} {a : List Int} {us vs : List (List Int)} (k : Kb n C us vs) (h1 : (vs.filter fun v => !decide (dot v a = 0)).length ≤ 1) : KOut n C a us (vs.filter fun v => decide (dot v a = 0)) := by
  have hkm : ∀ v, v ∈ (vs.filter fun v => decide (dot v a = 0)) ↔ v ∈ vs ∧ dot v a = 0 := fun v => by rw [List.mem_filter]; simp
  have hnm : ∀ v, v ∈ (vs.filter fun v => !decide (dot v a = 0)) ↔ v ∈ vs ∧ dot v a ≠ 0 := fun v => by rw [List.mem_filter]; simp
  have hlen : (vs.filter fun v => decide (dot v a = 0)).length + (vs.filter fun v => !decide (dot v a = 0)).length = vs.length := by
    have key : ∀ l : List (List Int), (l.filter fun v => decide (dot v a = 0)).length + (l.filter fun v => !decide (dot v a = 0)).length = l.length := fun l => by
      induction l with
      | nil => rfl
      | cons x l ih =>
        by_cases h : dot x a = 0 <;> simp [h] <;> omega
    exact key vs
  refine ⟨fun v hv => k.len v ((hkm v).mp hv).1, fun v hv => ((hkm v).mp hv).2, fun v hv x hx => ?_, fun v hv => k.eq.bw v ((hkm v).mp hv).1, fun x hx h0 => ?_, ?_⟩
  · exact k.sz v ((hkm v).mp hv).1 x hx
  · have hv := hx.trans k.eq.fw
    cases hc : (vs.filter fun v => !decide (dot v a = 0)) with
    | nil =>
      refine hv.trans fun v hm => .gen ((hkm v).mpr ⟨hm, Classical.byContradiction fun z => ?_⟩)
      have := (hnm v).mpr ⟨hm, z⟩
      rw [hc] at this; cases this
    | cons w t =>
      have hw := (hnm w).mp (by rw [hc]; exact List.mem_cons_self)
      have ht : t = [] := by
        rw [hc] at h1
        exact List.eq_nil_of_length_eq_zero (by simpa using h1)
      obtain ⟨c, y, ly, sy, rfl⟩ := one_left (ks := vs.filter fun v => decide (dot v a = 0)) (k.len w hw.1) hw.2 k.len (fun v hm => by
        by_cases h : dot v a = 0
        · exact .inr ((hkm v).mpr ⟨hm, h⟩)
        · have := (hnm v).mpr ⟨hm, h⟩
          rw [hc, ht] at this
          exact .inl (by simpa using this)) (fun v hm => k.len v ((hkm v).mp hm).1) (fun v hm => ((hkm v).mp hm).2) hv
      have lwy := (k.len w hw.1).trans ly.symm
      have hy0 : dot y a = 0 := sy.orth (fun v hm => k.len v ((hkm v).mp hm).1) fun v hm => ((hkm v).mp hm).2
      rw [dot_comb lwy, hy0] at h0
      have hc0 : c = 0 := by
        have e : c * dot w a = 0 := by simpa using h0
        rcases Int.mul_eq_zero.mp e with q | q
        · exact q
        · exact absurd q hw.2
      rw [hc0, comb_snd lwy]
      exact sy
  · cases hc : (vs.filter fun v => !decide (dot v a = 0)) with
    | nil =>
      rw [hc] at hlen
      refine .inr ⟨by rw [← k.ln]; simpa using hlen, fun v hv => (k.eq.fw v hv).orth k.len fun u hu => Classical.byContradiction fun z => ?_⟩
      have := (hnm u).mpr ⟨hu, z⟩
      rw [hc] at this; cases this
    | cons w t =>
      rw [hc] at hlen
      have := k.ln
      simp only [List.length_cons] at hlen
      exact .inl (by omega)
theorem first_idx {z : Int} : ∀ {xs : List Int}, z ∈ xs → ∃ j : Nat, xs[j]? = some z ∧ ∀ m : Nat, m < j → xs[m]? ≠ some z
  | x :: xs, h => by
    by_cases e : x = z
    · exact ⟨0, by simp [e], fun m hm => by omega⟩
    · rcases List.mem_cons.mp h with q | q
      · exact absurd q.symm e
      · obtain ⟨j, h1, h2⟩ := first_idx q
        refine ⟨j + 1, by simpa using h1, fun m hm => ?_⟩
        cases m with
        | zero => simpa using e
        | succ m => simpa using h2 m (by omega)
def absI (z : Int) : Int := if z < 0 then -z else z
theorem absI_eq (z : Int) : absI z = (z.natAbs : Int) := by
  unfold absI
  split <;> omega
theorem comb_sub (t : Int) (x y : List Int) : ((x.zip y).map fun p => D.int (p.1 - t * p.2)) = (comb 1 x (-t) y).map D.int := by
  unfold comb
  rw [List.map_map]
  refine List.map_congr_left fun p _ => ?_
  show D.int (p.1 - t * p.2) = D.int (1 * p.1 + -t * p.2)
  rw [Int.one_mul, Int.neg_mul, Int.sub_eq_add_neg]
section
variable {P : Program} {w : World} {K : PySem.W.Frag} {mg : Str → Option Value} {base : Heap}
structure HaPre (i : KsIn) : Prop where
  len : ∀ v ∈ i.us, v.length = i.n
  al : i.a.length = i.n
  sm : ∀ v ∈ i.us, SmL i.k v
  as : SmL i.s i.a
  ts : ∀ v ∈ i.us, (dot v i.a).natAbs ≤ 2 ^ i.t
  m : i.us.length ≤ 16
  b : i.k + 2 * i.t + 30 ≤ bigB
  bs : i.s ≤ bigB
def HaOut (n C : Nat) (a : List Int) (us ks : List (List Int)) : Prop := KOut n C a us ks ∧ (ks = us ∨ ks.length < us.length)
theorem ok_law_halved (E : EnvP K mg base) (ht : P.given.tree = none) : CalP P w K mg base "_law_halved" 36 ps_law_halved
    (spG K HaPre (fun i => [dRows2 i.us, dInts i.a]) (fun _ => []) fun i d O' => O' = [] ∧ ∃ ks, d = dRows2 ks ∧ HaOut i.n (2 ^ (i.k + 2 * i.t + 18)) i.a i.us ks) :=
  E.cal_law_halved fun fd F => fn_G F sc_law_halved (fun _ => rfl) fun i hp cdv A outer s0 H hr => by
    obtain ⟨us, a, n, k, s, t⟩ := i
    obtain ⟨hlen, hal, hsm, has, hts, hm, hb, hbs⟩ := hp
    simp only at hlen hal hsm has hts hm hb hbs
    have S := seer_of (w := w) (outer := outer) (H := H) (XE := E0) (CX := CX0) (N := N_law_halved) E ht rfl rfl (hr.mono (by decide))
    refine bl_setL 2 (evl_map1 (xs := us) (gD := dInts) (f := dInts) 3 sc_law_halved.nd (ei_list (ev_var 0)) (blkOk_by (N := N_law_halved) (sc := defScope s_law_halved) (by decide +kernel)) (fun _ _ _ _ _ => pg_name sc_law_halved.nd rfl (Or.inl rfl)) (fun v hv _ _ _ _ _ => (evn_listL E.b_list (ev_var 3)).ev)) ?_
    rintro vq _ _ ⟨rfl, rfl⟩
    refine bl_setL 4 (EvL.lend (ys := (prods us a).map D.int) (ρ' := [some (dRows2 us), some (dInts a), some (dRows2 us), none, none, none, none, none, none, none, none, none]) ((evl_map1 (xs := us) (gD := dInts) (f := fun v => .int (dot v a)) 3 sc_law_halved.nd (ei_list (ev_var 2)) (blkOk_by (N := N_law_halved) (sc := defScope s_law_halved) (by decide +kernel)) (fun _ _ _ _ _ => pg_name sc_law_halved.nd rfl (Or.inl rfl)) (fun v hv _ _ _ _ _ => ev_callV (v, a) (ok_law_dot E) (hr.mono (by decide)) ⟨k, s, hsm v hv, has, by show k ≤ bigB; omega, hbs⟩ (ea_cons (ev_var 3) (ea_cons (ev_var 1) ea_nil)))).mono fun ys o ⟨h1, h2⟩ => ⟨by rw [h1, List.map_map]; rfl, h2⟩)
      (Lent.own (ρ' := [some (dRows2 us), some (dInts a), some (.raw (.ref vq)), none, none, none, none, none, none, none, none, none]) 2 .refl rfl List.mem_cons_self) (by rw [List.all_map]; exact List.all_eq_true.mpr fun _ _ => rfl)) ?_
    rintro pq _ _ ⟨rfl, rfl⟩
    refine bl_perm (O1 := kOwn vq pq us a) (List.Perm.swap _ _ _) ?_
    refine bl_while (fun m r o => ∃ vs t6 t7 t8 t9, r = [some (dRows2 us), some (dInts a), some (.raw (.ref vq)), none, some (.raw (.ref pq)), none, t6, t7, t8, t9, none, none] ∧ o = kOwn vq pq vs a ∧ vs.length = us.length ∧ (∀ v ∈ vs, v.length = n) ∧ EqL n us vs ∧ ((vs = us ∧ m = 2 ^ t + 1) ∨ (m ≤ 2 ^ t ∧ ∃ p, HSt (2 ^ (k + 2 * t + 2)) a vs m p))) PassesOwn.never (2 ^ t + 1) ⟨us, none, none, none, none, rfl, rfl, rfl, hlen, .refl, .inl ⟨rfl, rfl⟩⟩ ?_
    rintro mx r o ⟨vs, t6, t7, t8, t9, rfl, rfl, hln, hvl, heq, hst⟩
    have hvl16 : vs.length ≤ 16 := by omega
    -- sizes as they stand
    have esm : ∀ v ∈ vs, SmL (k + 2 * t + 19) v := fun v hv => by
      rcases hst with ⟨e, _⟩ | ⟨_, p, h⟩
      · rw [e] at hv
        exact (hsm v hv).mono (by omega)
      · intro x hx
        have h1 := h.entry hv x hx
        have h2 : 2 ^ (k + 2 * t + 2) * 2 ^ vs.length ≤ 2 ^ (k + 2 * t + 2) * 2 ^ 16 := Nat.mul_le_mul_left _ (Nat.pow_le_pow_right (by decide) hvl16)
        have h4 : 2 ^ (k + 2 * t + 2) * 2 ^ 16 = 2 ^ (k + 2 * t + 2 + 16) := (Nat.pow_add _ _ _).symm
        have h3 : 2 ^ (k + 2 * t + 2 + 16) < 2 ^ (k + 2 * t + 19) := Nat.pow_lt_pow_right (by decide) (by omega)
        show x.natAbs < 2 ^ (k + 2 * t + 19)
        omega
    have tsm : ∀ v ∈ vs, (dot v a).natAbs ≤ 2 ^ t := fun v hv => by
      rcases hst with ⟨e, _⟩ | ⟨hle, p, h⟩
      · rw [e] at hv
        exact hts v hv
      · obtain ⟨i, hi⟩ := List.getElem?_of_mem hv
        exact Nat.le_trans (h.tp i v hi).1 hle
    have lp : Lent (cxOf CX0 P w K mg base N_law_halved "_law_halved" (defScope s_law_halved) (He.fAd K ("_law_halved", none)) cdv A outer s0 H E0).nox.K (kOwn vq pq vs a) [some (dRows2 us), some (dInts a), some (.raw (.ref vq)), none, some (.raw (.ref pq)), none, t6, t7, t8, t9, none, none] [some (dRows2 us), some (dInts a), some (.raw (.ref vq)), none, some (dInts (prods vs a)), none, t6, t7, t8, t9, none, none] :=
      Lent.own (X := (cxOf CX0 P w K mg base N_law_halved "_law_halved" (defScope s_law_halved) (He.fAd K ("_law_halved", none)) cdv A outer s0 H E0).nox) (ρ' := [some (dRows2 us), some (dInts a), some (.raw (.ref vq)), none, some (.raw (.ref pq)), none, t6, t7, t8, t9, none, none]) 4 .refl rfl (by simp)
    refine ⟨decide (1 < (((prods vs a).filter fun z => !decide (z = 0)).length : Int)), kOwn vq pq vs a, Et.lend (ρ' := [some (dRows2 us), some (dInts a), some (.raw (.ref vq)), none, some (dInts (prods vs a)), none, t6, t7, t8, t9, none, none]) ((et_gt (ev_lenL E.b_len (EvL.ev (evl_filter1 (xs := prods vs a) (gD := D.int) (f := D.int) (q := fun z => !decide (z = 0)) 5 sc_law_halved.nd (ei_list (ev_var 4)) (blkOk_by (N := N_law_halved) (sc := defScope s_law_halved) (by decide +kernel)) (fun _ _ _ _ _ => pg_name sc_law_halved.nd rfl (Or.inl rfl)) (fun z hz _ _ _ _ _ => et_neI (ev_var 5) ev_int) (fun z hz _ _ _ _ _ _ => ev_var 5)))) ev_int).eq (by rw [List.length_map])) lp, fun hq => ?_, fun hq => ?_⟩
    · have hcnt : 1 < ((prods vs a).filter fun z => !decide (z = 0)).length := by
        have := of_decide_eq_true hq
        omega
      have SI := smallest_ok (vs := prods vs a)
      obtain ⟨k0, hk0⟩ : ∃ k0, smallest (prods vs a) = some k0 := by
        obtain ⟨i2, hi2, t2, ht2, htn⟩ := two_left (p := vs.length) hcnt
        cases h : smallest (prods vs a) with
        | none =>
          have hl2 := (List.getElem?_eq_some_iff.mp ht2).1
          exact absurd (SI.no h i2 hl2) (by rw [getD_lt hl2, (List.getElem?_eq_some_iff.mp ht2).2]; exact htn)
        | some k0 => exact ⟨k0, rfl⟩
      obtain ⟨s1, s2, s3⟩ := SI.yes k0 hk0
      generalize hs0 : (prods vs a).getD k0 0 = s0v at s2 s3
      have hmem0 : s0v ∈ prods vs a := by rw [← hs0, getD_lt s1]; exact List.getElem_mem _
      obtain ⟨kk, hkk, hkf⟩ := first_idx (z := absI s0v) (xs := (prods vs a).map absI) (List.mem_map.mpr ⟨s0v, hmem0, rfl⟩)
      have hkl : kk < vs.length := by
        have := (List.getElem?_eq_some_iff.mp hkk).1
        simpa using this
      have hy : vs[kk]? = some vs[kk] := List.getElem?_eq_getElem hkl
      generalize vs[kk] = y at hy
      have hym : (dot y a).natAbs = s0v.natAbs := by
        unfold prods at hkk
        rw [List.map_map, List.getElem?_map, hy] at hkk
        have e : absI (dot y a) = absI s0v := by simpa using hkk
        rw [absI_eq, absI_eq] at e
        omega
      have h0 : 0 < s0v.natAbs := by omega
      have least : ∀ v ∈ vs, dot v a ≠ 0 → s0v.natAbs ≤ (dot v a).natAbs := fun v hv hn => by
        obtain ⟨i, hi⟩ := List.getElem?_of_mem hv
        have hil := (List.getElem?_eq_some_iff.mp hi).1
        have e : (prods vs a).getD i 0 = dot v a := by
          rw [getD_lt (by simpa using hil)]
          simp only [List.getElem_map]
          rw [(List.getElem?_eq_some_iff.mp hi).2]
        have := s3 i (by simpa using hil) (by rw [e]; exact hn)
        rwa [e] at this
      have hyv := List.mem_of_getElem? hy
      have hyl := hvl y hyv
      have hne : dot y a ≠ 0 := by omega
      refine bl_set 6 sc_law_halved.nd (Ev.lend (d := .int (absI s0v)) (ev_minL (xs := ((prods vs a).filter fun z => !decide (z = 0)).map absI) E.b_min ((EvL.ev (evl_filter1 (xs := prods vs a) (gD := D.int) (f := fun z => .int (absI z)) (q := fun z => !decide (z = 0)) 5 sc_law_halved.nd (ei_list (ev_var 4)) (blkOk_by (N := N_law_halved) (sc := defScope s_law_halved) (by decide +kernel)) (fun _ _ _ _ _ => pg_name sc_law_halved.nd rfl (Or.inl rfl)) (fun z hz _ _ _ _ _ => et_neI (ev_var 5) ev_int) (fun z hz _ _ _ _ _ _ => ev_abs E.b_abs (ev_var 5)))).eq (by rw [List.map_map]; rfl)) ?_ ?_) lp rfl) ?_
      · exact List.mem_map.mpr ⟨s0v, List.mem_filter.mpr ⟨hmem0, by simpa using s2⟩, rfl⟩
      · intro x hx
        obtain ⟨z, hz, rfl⟩ := List.mem_map.mp hx
        obtain ⟨hz1, hz2⟩ := List.mem_filter.mp hz
        obtain ⟨v, hv, rfl⟩ := List.mem_map.mp hz1
        rw [absI_eq, absI_eq]
        have := least v hv (by simpa using hz2)
        omega
      refine bl_set 7 sc_law_halved.nd (Ev.lend (d := .int (kk : Nat)) (ρ' := [some (dRows2 us), some (dInts a), some (.raw (.ref vq)), none, some (dInts (prods vs a)), none, some (.int (absI s0v)), t7, t8, t9, none, none]) (ev_index (xs := (prods vs a).map absI) (z := absI s0v) ((EvL.ev (evl_map1 (xs := prods vs a) (gD := D.int) (f := fun z => .int (absI z)) 5 sc_law_halved.nd (ei_list (ev_var 4)) (blkOk_by (N := N_law_halved) (sc := defScope s_law_halved) (by decide +kernel)) (fun _ _ _ _ _ => pg_name sc_law_halved.nd rfl (Or.inl rfl)) (fun z hz _ _ _ _ _ => ev_abs E.b_abs (ev_var 5)))).eq (by rw [show (fun z => D.int (absI z)) = D.int ∘ absI from rfl, ← List.map_map])) (ev_var 6) hkk hkf) (Lent.own (ρ' := [some (dRows2 us), some (dInts a), some (.raw (.ref vq)), none, some (.raw (.ref pq)), none, some (.int (absI s0v)), t7, t8, t9, none, none]) 4 .refl rfl (by simp)) rfl) ?_
      refine bl_for1 (xs := List.range vs.length) (gD := fun i : Nat => .int (i : Nat)) 8 (fun j r o => ∃ vs' t8 t9, r = [some (dRows2 us), some (dInts a), some (.raw (.ref vq)), none, some (.raw (.ref pq)), none, some (.int (absI s0v)), some (.int (kk : Nat)), t8, t9, none, none] ∧ o = kOwn vq pq vs' a ∧ Made (hN a y kk) vs vs' j ∧ (∀ v ∈ vs', v.length = n) ∧ EqL n us vs') PassesOwn.never sc_law_halved.nd
        (ei_rangeT E.b_range ((ev_lenO E.b_len 0 (ev_var 2) rfl).eq (by rw [List.length_map])) (by omega)) ⟨vs, _, _, rfl, rfl, .start, hvl, heq⟩ (fun j x r o hx ho => ?_) (fun r o ho => ?_)
      · obtain ⟨vs', t8, t9, rfl, rfl, mk, hvl', heq'⟩ := ho
        have hjl : j < vs.length := by simpa using (List.getElem?_eq_some_iff.mp hx).1
        have hxj : x = j := by
          have := (List.getElem?_eq_some_iff.mp hx).2
          simpa using this.symm
        subst hxj
        have hwx : vs[x]? = some vs[x] := List.getElem?_eq_getElem hjl
        generalize vs[x] = vx at hwx
        have hvx : vs'[x]? = some vx := by rw [mk.old x (Nat.le_refl _)]; exact hwx
        have hvy : vs'[kk]? = some y := by
          rcases Nat.lt_or_ge kk x with h | h
          · rw [mk.new kk h, hy]
            show some (hN a y kk kk y) = _
            rw [hN_at]
          · rw [mk.old kk h]; exact hy
        have hvv : vs'.length = vs.length := mk.len
        have hat : ∀ {ws : List (List Int)} {i : Nat} {z : List Int}, ws[i]? = some z → atI ((prods ws a).map D.int) ((i : Nat) : Int) = some (.int (dot z a)) := fun {ws i z} h => by
          refine atI_nat ?_
          rw [List.map_map, List.getElem?_map, h]; rfl
        have hav : ∀ {i : Nat} {z : List Int}, vs'[i]? = some z → atI (vs'.map dInts) ((i : Nat) : Int) = some (dInts z) := fun {i z} h => by
          refine atI_nat ?_
          rw [List.getElem?_map, h]; rfl
        have tx := tsm vx (List.mem_of_getElem? hwx)
        have ty := tsm y hyv
        have hlx := hvl vx (List.mem_of_getElem? hwx)
        have qsm : Sm (t + 2) (hQt x kk (dot vx a) (dot y a)) := by
          unfold hQt Sm
          have e4 : 2 ^ (t + 2) = 4 * 2 ^ t := by rw [Nat.pow_add]; omega
          have := Nat.two_pow_pos t
          split
          · show (0 : Int).natAbs < _
            omega
          · have b := (fd_bd (s := dot vx a) hne).1
            have := Nat.mul_le_mul_left ((dot vx a).fdiv (dot y a)).natAbs (show 1 ≤ (dot y a).natAbs by omega)
            omega
        generalize hqd : hQt x kk (dot vx a) (dot y a) = tt at qsm
        refine bl_set 9 sc_law_halved.nd ((ev_if (p := !decide (((x : Nat) : Int) = ((kk : Nat) : Int))) (et_neI (ev_var 8) (ev_var 7)) (fun _ => ev_fdivA S (ev_ixO 1 (ev_var 4) (ev_var 8) rfl (hat hvx)) (ev_ixO 1 (ev_var 4) (ev_var 7) rfl (hat hvy)) hne) (fun _ => ev_int)).eq2 (d1 := .int tt) (by
          rw [← hqd]
          unfold hQt
          by_cases h : x = kk
          · subst h; simp
          · have : ¬ ((x : Nat) : Int) = ((kk : Nat) : Int) := by omega
            simp [h, this]) (by split <;> rfl)) ?_
        refine bl_put (i := (x : Nat)) (j := x) (d := dInts (comb 1 vx (-tt) y)) 0 ((EvL.ev (evl_map2 (xs := vx.zip y) (g1 := fun p => .int p.1) (g2 := fun p => .int p.2) (f := fun p => .int (p.1 - tt * p.2)) 10 11 sc_law_halved.nd (ei_zipT (xs := vx) (ys := y) (gx := D.int) (gy := D.int) E.b_zip (ea_cons (ev_ixO 0 (ev_var 2) (ev_var 8) rfl (hav hvx)) (ea_cons (ev_ixO 0 (ev_var 2) (ev_var 7) rfl (hav hvy)) ea_nil))) (blkOk_by (N := N_law_halved) (sc := defScope s_law_halved) (by decide +kernel)) (fun _ _ _ _ _ => pg2 (pg_name sc_law_halved.nd rfl (Or.inl rfl)) (pg_name sc_law_halved.nd rfl (Or.inl rfl)))
            (fun p hp _ _ _ _ _ => ev_sub (ev_var 10) (ev_mul (ev_var 9) (ev_var 11) (qsm.ok (esm y hyv _ (List.of_mem_zip hp).2) (by omega) (by omega)))))).eq (by show D.lst _ = D.lst _; rw [comb_sub])) (ev_var 2) (ev_var 8) rfl (by unfold ixN; rw [List.length_map, if_pos (by omega), if_pos (by omega)]; simp) ?_
        have hset : (vs'.map dInts).set x (dInts (comb 1 vx (-tt) y)) = (vs'.set x (comb 1 vx (-tt) y)).map dInts := by rw [List.map_set]
        have hO : (kOwn vq pq vs' a).set 0 (Own.lst vq ((vs'.map dInts).set x (dInts (comb 1 vx (-tt) y)))) = [Own.lst vq ((vs'.set x (comb 1 vx (-tt) y)).map dInts), Own.lst pq ((prods vs' a).map D.int)] := by
          rw [hset]; rfl
        rw [hO]
        have etn : hN a y kk x vx = comb 1 vx (-tt) y := by unfold hN; rw [hqd]
        refine bl_put (i := (x : Nat)) (j := x) (d := .int (dot vx a - tt * dot y a)) 1 (ev_sub (ev_ixO 1 (ev_var 4) (ev_var 8) rfl (hat hvx)) (ev_mul (ev_var 9) (ev_ixO 1 (ev_var 4) (ev_var 7) rfl (hat hvy)) (qsm.ok (show Sm (t + 1) (dot y a) by unfold Sm; rw [Nat.pow_succ]; have := Nat.two_pow_pos t; omega) (by omega) (by omega)))) (ev_var 4) (ev_var 8) rfl (by unfold ixN; rw [List.length_map, List.length_map, if_pos (by omega), if_pos (by omega)]; simp) ?_
        refine bl_nil ⟨vs'.set x (hN a y kk x vx), _, _, rfl, ?_, mk.step hwx, fun v hv => ?_, ?_⟩
        · rw [etn]
          show [Own.lst vq ((vs'.set x (comb 1 vx (-tt) y)).map dInts), Own.lst pq (((prods vs' a).map D.int).set x (.int (dot vx a - tt * dot y a)))] = [Own.lst vq ((vs'.set x _).map dInts), Own.lst pq ((prods (vs'.set x _) a).map D.int)]
          have e1 : dot (comb 1 vx (-tt) y) a = dot vx a - tt * dot y a := by
            rw [dot_comb (hlx.trans hyl.symm), Int.one_mul, Int.neg_mul, Int.sub_eq_add_neg]
          rw [List.map_set, prods, prods, List.map_set, List.map_set, e1]
        · rcases List.mem_or_eq_of_mem_set hv with h | h
          · exact hvl' v h
          · rw [h, hN_len (hlx.trans hyl.symm), hlx]
        · by_cases h : x = kk
          · subst h
            rw [hvy] at hvx
            cases hvx
            rw [hN_at]
            have : vs'.set x y = vs' := by
              refine List.ext_getElem? fun i => ?_
              by_cases hi : x = i
              · subst hi
                rw [List.getElem?_set_self (by omega), hvy]
              · rw [List.getElem?_set_ne hi]
            rw [this]; exact heq'
          · rw [etn]
            exact heq'.trans (eql_sub hvx hvy h (hlx.trans hyl.symm))
      · obtain ⟨vs', t8, t9, rfl, rfl, mk, hvl', heq'⟩ := ho
        rw [List.length_range] at mk
        have hln' : vs'.length = us.length := by rw [mk.len]; exact hln
        rcases hst with ⟨e, em⟩ | ⟨hle, p, h⟩
        · have hk2 : s0v.natAbs ≤ 2 ^ t := by rw [← hym]; exact tsm y hyv
          have := pass_first (K := k) (T := t) (fun v hv => hsm v (by rw [← e]; exact hv)) tsm hy hym h0 hvl mk
          exact bl_nil ⟨s0v.natAbs, by omega, vs', _, _, _, _, rfl, rfl, hln', hvl', heq', .inr ⟨hk2, kk, this⟩⟩
        · have hlt : s0v.natAbs < mx := by
            obtain ⟨i2, hi2, t2, ht2, htn⟩ := two_left (p := p) hcnt
            have hi2l := (List.getElem?_eq_some_iff.mp ht2).1
            have hv2 : vs[i2]? = some (vs[i2]'(by simpa using hi2l)) := List.getElem?_eq_getElem _
            generalize vs[i2]'(by simpa using hi2l) = v2 at hv2
            have e2 : dot v2 a = t2 := by
              unfold prods at ht2
              rw [List.getElem?_map, hv2] at ht2
              simpa using ht2
            have a1 := least v2 (List.mem_of_getElem? hv2) (by rw [e2]; exact htn)
            have a2 := (h.tp i2 v2 hv2).2 hi2
            omega
          exact bl_nil ⟨s0v.natAbs, hlt, vs', _, _, _, _, rfl, rfl, hln', hvl', heq', .inr ⟨by omega, kk, pass_next h hy hym h0 least hvl mk⟩⟩
    · have hcnt : (vs.filter fun v => !decide (dot v a = 0)).length ≤ 1 := by
        have := of_decide_eq_false hq
        rw [prods_cnt] at this
        omega
      refine bl_freezeL 2 (.refl _) rfl (bl_freezeL 4 (.refl _) rfl ?_)
      refine bl_ret (EvL.ev ((evl_filter2 (xs := vs.zip (prods vs a)) (g1 := fun q => dInts q.1) (g2 := fun q => .int q.2) (f := fun q => dInts q.1) (q := fun q => decide (q.2 = 0)) 3 5 sc_law_halved.nd (ei_zipT (xs := vs) (ys := prods vs a) (gx := dInts) (gy := D.int) E.b_zip (ea_cons (ev_var 2) (ea_cons (ev_var 4) ea_nil))) (blkOk_by (N := N_law_halved) (sc := defScope s_law_halved) (by decide +kernel)) (fun _ _ _ _ _ => pg2 (pg_name sc_law_halved.nd rfl (Or.inl rfl)) (pg_name sc_law_halved.nd rfl (Or.inl rfl)))
        (fun q hq _ _ _ _ _ => et_eqI (ev_var 5) ev_int) (fun q hq _ _ _ _ _ _ => ev_var 3)).mono fun ys o ⟨h1, h2⟩ => ⟨h1.trans (zip_zero vs), h2⟩)) ⟨rfl, _, rfl, kout2 ⟨hln, hvl, heq, fun v hv x hx => ?_⟩ hcnt, ?_⟩
      · show x.natAbs ≤ 2 ^ (k + 2 * t + 18)
        rcases hst with ⟨e, _⟩ | ⟨_, p, h⟩
        · rw [e] at hv
          have h2 : x.natAbs < 2 ^ k := hsm v hv x hx
          have h3 : 2 ^ k ≤ 2 ^ (k + 2 * t + 18) := Nat.pow_le_pow_right (by decide) (by omega)
          omega
        · have h2 := h.entry hv x hx
          have h3 : 2 ^ (k + 2 * t + 2) * 2 ^ vs.length ≤ 2 ^ (k + 2 * t + 2) * 2 ^ 16 := Nat.mul_le_mul_left _ (Nat.pow_le_pow_right (by decide) hvl16)
          have h4 : 2 ^ (k + 2 * t + 2) * 2 ^ 16 = 2 ^ (k + 2 * t + 18) := (Nat.pow_add _ _ _).symm
          exact Nat.le_trans h2 (Nat.le_trans h3 (Nat.le_of_eq h4))
      · have hfl : (vs.filter fun v => decide (dot v a = 0)).length ≤ vs.length := List.length_filter_le _ _
        by_cases hall : ∀ v ∈ vs, dot v a = 0
        · left
          rcases hst with ⟨e, _⟩ | ⟨_, p, h⟩
          · rw [← e]
            exact List.filter_eq_self.mpr fun v hv => by simp [hall v hv]
          · obtain ⟨y, hy, hm'⟩ := h.at'
            have := hall y (List.mem_of_getElem? hy)
            have := h.pos
            omega
        · right
          rw [← hln]
          refine Nat.lt_of_le_of_ne hfl fun e => hall fun v hv => ?_
          have := List.length_filter_eq_length_iff.mp e v hv
          simpa using this
end
end Pr
namespace GL
open PySem L2
section
variable {X : Cx} {ρ : Ro} {O O1 : List Own} {pos : Pos}
/-- a comprehension over a relation -/
theorem evl_IR {elt tg iter : Expr} {ifs : List Expr} {scope : Scope} {own : List (Str × Nat)} {g : TG} {is : List Nat} {tt : TT} {Rs R : List D → List Own → Prop}
    (hc : X.calm = true) (hN : X.N.Nodup) (hi : EiR X tg iter ρ O Rs) (ok : BlkOk X.N X.env.scope scope own)
    (hg : InBlk X scope fun Y => PG Y tg g) (ht : InBlk X scope fun Y => PTs Y ifs tt) (his : ∀ i ∈ is, i ∈ own.map (·.2))
    (kk : ∀ ds O1, Rs ds O1 → ∃ (I : Nat → List D → List Own → Prop) (keep : Nat → Bool) (ρt : Nat → Ro), I 0 [] O1 ∧
      (∀ i d, ds[i]? = some d → GOk X.K g d (wipeR ρ (own.map (·.2))) (ρt i) is) ∧
      (∀ i d acc Oi, ds[i]? = some d → I i acc Oi → ∀ (B H : Hp) (σ : L2.St), OSt X.K Oi B H → Slots X.K B σ (ρt i) → ∀ Q : Bool → Hp → Prop, (∀ B' H', Next X.K Oi B H Oi B' H' → Q (keep i) H') → tt σ H Q) ∧
      (∀ i d acc Oi, ds[i]? = some d → keep i = true → I i acc Oi → InBlk X scope fun Y => EvR Y elt (ρt i) Oi fun y O' => I (i + 1) (acc ++ [y]) O') ∧
      (∀ i d acc Oi, ds[i]? = some d → keep i = false → I i acc Oi → I (i + 1) acc Oi) ∧ ∀ xs o, I ds.length xs o → R xs o)
    (hs : ∀ x, foldedSetIterable iter X.env x = pure x := by intro _; rfl) :
    EvL X (.ListComp elt [⟨tg, iter, ifs, 0⟩] scope pos) ρ O R := by
  obtain ⟨wi, hpi, hit⟩ := hi
  have hte : ∀ (s : Shared) (H : Hp) (C : Addr) (cl : List (Str × Addr)) (fp : List Addr), PE (X.blk s H scope (compEnvC scope cl C X.env) fp) elt (fun σ' H' Q' => InBlk X scope fun Y => wE Y elt σ' H' Q') := fun s H0 C cl fp => ⟨fun pins s' σ' H' Q' I h => h s H0 C cl fp pins s' I⟩
  refine ⟨tLc wi g tt (fun σ' H' Q' => InBlk X scope fun Y => wE Y elt σ' H' Q') (own.map (·.2)), pe_lc hc hN hpi ok hg ht hte hs, fun i y py spos hy hyl hsw => ps_setLc hc hN hy hyl hsw hpi ok hg ht hte hs, fun B H σ hO' hS Q k => ?_⟩
  refine hit B H σ hO' hS _ fun J ds O1 B1 H1 hR n1 src => fun Dl hD => ?_
  obtain ⟨I, keep, ρt, h0, hgo, htt, hy, hn, hfin⟩ := kk ds O1 hR
  have n0 := n1.trans (Next.newL n1.st hD (ds := []) (vs := []) (by show 0 ≤ 1000000; decide) .nil)
  refine ⟨fun i m H' => m = ds.length - i ∧ i ≤ ds.length ∧ ∃ Bi acc Oi, I i acc Oi ∧ acc.length ≤ i ∧ Same B1 Bi ∧ Next X.K O B H (Own.lst Dl acc :: Oi) Bi H', ⟨ds.length, by simp, Nat.zero_le _, B1, [], O1, h0, Nat.le_refl _, fun _ _ h => h, n0⟩, ?_⟩
  rintro i m Hi ⟨rfl, hle, Bi, acc, Oi, hI, hli, sB, ni⟩
  by_cases hlt : i < ds.length
  · refine .inr ⟨src.go i Hi hlt (sB.trans ni.st.ext), fun H' => i + 1 ≤ ds.length ∧ ∃ Bj acc' Oj, I (i + 1) acc' Oj ∧ acc'.length ≤ i + 1 ∧ Same B1 Bj ∧ Next X.K O B H (Own.lst Dl acc' :: Oj) Bj H', fun H' ⟨h1, h2⟩ => ⟨ds.length - (i + 1), by omega, rfl, h1, h2⟩, fun x H' yy => ?_⟩
    obtain ⟨Bi', d, hd, nx, rx⟩ := src.yld i Hi x H' Bi hlt sB ni.st.ext yy
    have ny := ni.trans (nx.pure ni.st)
    have sB' := sB.trans nx.base
    refine hgo i d hd Bi' x _ H' _ rx ny.st.ext ((hS.mono ny.base).wipe _) fun σ2 s2 w2 => ⟨?_, ?_⟩
    · have := w2 (own.map (·.2)) his
      rw [this, wipe_wipe]
    · have st0 : OSt X.K Oi Bi' H' := (ny.st.perm (O' := Oi ++ [Own.lst Dl acc]) (List.perm_append_comm (l₁ := [Own.lst Dl acc]))).left
      refine htt i d acc Oi hd hI Bi' H' σ2 st0 s2 _ fun B3 H3 n3 => ?_
      have m3 : Next X.K O B H (Own.lst Dl acc :: Oi) B3 H3 := ny.trans ((Next.beside (R := [Own.lst Dl acc]) (ny.st.perm (List.perm_append_comm (l₁ := [Own.lst Dl acc]))) n3).perm (List.perm_append_comm (l₂ := [Own.lst Dl acc])) (List.perm_append_comm (l₂ := [Own.lst Dl acc])))
      cases hk : keep i with
      | true =>
        refine iteT ?_
        intro s H0 C cl fp
        refine hy i d acc Oi hd hk hI s H0 C cl fp B3 H3 σ2 n3.st (s2.mono n3.base) _ fun y O' v B4 H4 hI' n4 r4 => ?_
        have m4 : Next X.K O B H (Own.lst Dl acc :: O') B4 H4 := m3.trans ((Next.beside (R := [Own.lst Dl acc]) (m3.st.perm (List.perm_append_comm (l₁ := [Own.lst Dl acc]))) n4).perm (List.perm_append_comm (l₂ := [Own.lst Dl acc])) (List.perm_append_comm (l₂ := [Own.lst Dl acc])))
        obtain ⟨us, ha, hl, hr⟩ := m4.st.all (Own.lst Dl acc) List.mem_cons_self
        have hds := src.le
        refine ⟨us, ha, by rw [hr.length]; exact lim_lt (by omega), by omega, B4, _, _, hI', by rw [List.length_append]; simp; omega, (sB'.trans n3.base).trans n4.base, ?_⟩
        have nw := Next.write (K := X.K) (B := B4) (H := H4) (p := Dl) (o := .lst (us ++ [v])) (w := Own.lst Dl acc) (w' := Own.lst Dl (acc ++ [y])) (m4.st.left (O := [_])) List.mem_cons_self rfl ⟨_, upd_same, by rw [List.length_append]; simp; omega, hr.snoc r4⟩
        exact m4.trans (Next.beside (O := [_]) (R := O') m4.st nw)
      | false => exact iteF ⟨by omega, B3, acc, Oi, hn i d acc Oi hd hk hI, by omega, sB'.trans n3.base, m3⟩
  · have e : i = ds.length := by omega
    subst e
    exact .inl ⟨src.stop Hi (sB.trans ni.st.ext), k Dl acc Oi Bi Hi (hfin acc Oi hI) ni⟩


/-- [f(x) for x in ..] over a relation -/
theorem evl_map1R {α : Type} {elt iter : Expr} {scope : Scope} {gD f : α → D} {n : Str} {pn : Pos} {R : List α → List Own → Prop} (i : Nat) (hN : X.N.Nodup) (hi : EiR X (.Name n pn) iter ρ O fun ds o => ∃ xs : List α, ds = xs.map gD ∧ R xs o)
    (ok : BlkOk X.N X.env.scope scope [(n, i)]) (hg : InBlk X scope fun Y => PG Y (.Name n pn) (gName i)) (hy : ∀ xs o, R xs o → ∀ x ∈ xs, InBlk X scope fun Y => Ev Y elt ((ρ.set i none).set i (some (gD x))) o (f x) o)
    (hc : X.calm = true := by rfl) (hs : ∀ x, foldedSetIterable iter X.env x = pure x := by intro _; rfl) : EvL X (.ListComp elt [⟨.Name n pn, iter, [], 0⟩] scope pos) ρ O fun ys o => ∃ xs, R xs o ∧ ys = xs.map f := by
  refine evl_IR (own := [(n, i)]) (is := [i]) (tt := tYes) hc hN hi ok hg (fun _ _ _ _ _ => pts_nil) (by simp) ?_ hs
  rintro ds O1 ⟨xs, rfl, hR⟩
  refine ⟨fun j acc o => acc = (xs.take j).map f ∧ o = O1, fun _ => true, fun j => (ρ.set i none).set i (some ((xs[j]?.map gD).getD .non)), ⟨by simp, rfl⟩, fun j d hd => ?_, fun j d acc Oi hd hI B H σ hO hS Q k => k B H (.refl hO), fun j d acc Oi hd _ hI => ?_, fun j d acc Oi hd z => (by cases z), fun ys o ⟨h1, h2⟩ => ⟨xs, by rw [h2]; exact hR, by rw [h1, List.length_map, List.take_length]⟩⟩
  · rw [List.getElem?_map] at hd
    cases e : xs[j]? with
    | none => rw [e] at hd; cases hd
    | some x =>
      rw [e] at hd; cases hd
      simp only [e, Option.map_some, Option.getD_some]
      exact gok_name i
  · rw [List.getElem?_map] at hd
    obtain ⟨h1, h2⟩ := hI
    cases e : xs[j]? with
    | none => rw [e] at hd; cases hd
    | some x =>
      simp only [e, Option.map_some, Option.getD_some]
      subst h2
      intro s H C cl fp
      refine ((hy xs Oi hR x (List.mem_of_getElem? e) s H C cl fp).r).mono fun d o ⟨q1, q2⟩ => ⟨?_, q2⟩
      rw [h1, q1, List.take_succ, e, Option.toList_some, List.map_append]; rfl
theorem et_neS {i j : Str} {a b : Expr} {O2 : List Own} (ha : Ev X a ρ O (.str i) O1) (hb : Ev X b ρ O1 (.str j) O2) : Et X (.Compare a [.NotEq] [b] pos) ρ O (!decide (i = j)) O2 := et_cmp op_ne (nomark _) ha hb op2_neS
end
end GL
namespace Pr
open PySem L2 GL
/-- bits behind c reductions -/
def LB (S : Nat) : Nat → Nat
  | 0 => 1
  | c + 1 => 3 * LB S c + 2 * S + 27
theorem LB_mono {S : Nat} : ∀ {c d : Nat}, c ≤ d → LB S c ≤ LB S d
  | c, 0, h => by
    have : c = 0 := by omega
    subst this; exact Nat.le_refl _
  | c, d + 1, h => by
    rcases Nat.lt_or_ge c (d + 1) with q | q
    · have := LB_mono (S := S) (c := c) (d := d) (by omega)
      show _ ≤ 3 * LB S d + 2 * S + 27
      omega
    · have : c = d + 1 := by omega
      subst this; exact Nat.le_refl _
theorem LB_le {S : Nat} : ∀ c, LB S c + (S + 14) ≤ 3 ^ c * (S + 15)
  | 0 => by show 1 + (S + 14) ≤ 1 * (S + 15); omega
  | c + 1 => by
    have := LB_le (S := S) c
    show 3 * LB S c + 2 * S + 27 + (S + 14) ≤ 3 ^ (c + 1) * (S + 15)
    rw [Nat.pow_succ, Nat.mul_comm (3 ^ c) 3, Nat.mul_assoc]
    omega
structure LkI (n S : Nat) (tk vs : List (List Int)) : Prop where
  len : ∀ v ∈ vs, v.length = n
  cnt : vs.length ≤ n
  sm : ∀ v ∈ vs, SmL (LB S (n - vs.length)) v
  zero : ∀ v ∈ vs, ∀ x ∈ tk, dot v x = 0
  ex : ∃ E : List (List Int), E.length + vs.length ≤ n ∧ (∀ e ∈ E, e ∈ tk) ∧ ∀ x : List Int, x.length = n → (∀ e ∈ E, dot x e = 0) → Spn n (fun z => z ∈ vs) x
theorem LkI.all {n S : Nat} {tk vs : List (List Int)} (h : LkI n S tk vs) {x : List Int} (hx : x.length = n) (h0 : ∀ y ∈ tk, dot x y = 0) : Spn n (fun z => z ∈ vs) x := by
  obtain ⟨E, _, h2, h3⟩ := h.ex
  exact h3 x hx fun e he => h0 e (h2 e he)
theorem LkI.start {n S : Nat} : LkI n S [] ((List.range n).map fun i => uv n i 1) := by
  have hm : ∀ v, v ∈ (List.range n).map (fun i => uv n i 1) → ∃ i, i < n ∧ v = uv n i 1 := fun v hv => by
    obtain ⟨i, hi, rfl⟩ := List.mem_map.mp hv
    exact ⟨i, by simpa using hi, rfl⟩
  refine ⟨fun v hv => ?_, by simp, fun v hv => ?_, fun _ _ _ h => (by cases h), [], by simp, fun _ h => (by cases h), fun x hx _ => ?_⟩
  · obtain ⟨i, _, rfl⟩ := hm v hv
    exact uv_len
  · obtain ⟨i, _, rfl⟩ := hm v hv
    have : n - ((List.range n).map fun i => uv n i 1).length = 0 := by simp
    rw [this]
    exact uv_sm
  · obtain ⟨E, _, h2, h3⟩ := (KerI.start (n := n) (S := S)).ex
    refine (h3 x hx fun e he => by cases h2 e he).trans fun z ⟨i, hi⟩ => .gen ?_
    obtain ⟨h4, rfl⟩ := unitP_of hi
    exact List.mem_map.mpr ⟨i, by simpa using h4, rfl⟩
theorem LkI.step {n S : Nat} {tk us ks : List (List Int)} {a : List Int} (h : LkI n S tk us) (ko : HaOut n (2 ^ (LB S (n - us.length) + 2 * (LB S (n - us.length) + S + 4) + 18)) a us ks) : LkI n S (tk ++ [a]) ks := by
  obtain ⟨ko, hk⟩ := ko
  obtain ⟨E, e1, e2, e3⟩ := h.ex
  have zero : ∀ v ∈ ks, ∀ x ∈ tk ++ [a], dot v x = 0 := fun v hv x hx => by
    rcases List.mem_append.mp hx with q | q
    · exact (ko.bw v hv).orth h.len fun u hu => h.zero u hu x q
    · have : x = a := by simpa using q
      subst this
      exact ko.zero v hv
  rcases hk with rfl | hlt
  · exact ⟨h.len, h.cnt, h.sm, zero, E, e1, fun e he => List.mem_append_left _ (e2 e he), e3⟩
  · refine ⟨ko.len, by have := h.cnt; omega, fun v hv x hx => ?_, zero, a :: E, by rw [List.length_cons]; omega, fun e he => ?_, fun x hx h0 => ?_⟩
    · have h1 := ko.sz v hv x hx
      have h2 : LB S (n - us.length + 1) ≤ LB S (n - ks.length) := LB_mono (by have := h.cnt; omega)
      have h3 : 2 ^ LB S (n - us.length + 1) ≤ 2 ^ LB S (n - ks.length) := Nat.pow_le_pow_right (by decide) h2
      have h4 : LB S (n - us.length + 1) = LB S (n - us.length) + 2 * (LB S (n - us.length) + S + 4) + 18 + 1 := by
        show 3 * LB S (n - us.length) + 2 * S + 27 = _
        omega
      rw [h4, Nat.pow_succ] at h3
      have := Nat.two_pow_pos (LB S (n - us.length) + 2 * (LB S (n - us.length) + S + 4) + 18)
      show x.natAbs < 2 ^ LB S (n - ks.length)
      omega
    · rcases List.mem_cons.mp he with rfl | he
      · simp
      · exact List.mem_append_left _ (e2 e he)
    · exact ko.fw x (e3 x hx fun e he => h0 e (List.mem_cons_of_mem _ he)) (h0 a List.mem_cons_self)
theorem LkI.knB {n S : Nat} {tk vs : List (List Int)} (h : LkI n S tk vs) (r : List Int) : (vs.all fun u => decide (dot u r = 0)) = knB n tk r := by
  classical
  unfold Pr.knB
  by_cases hk : Kn n tk r
  · have : (vs.all fun u => decide (dot u r = 0)) = true := List.all_eq_true.mpr fun u hu => by
      have := hk u (h.len u hu) (h.zero u hu)
      simp [this]
    rw [this]; simp [hk]
  · have : ¬ (vs.all fun u => decide (dot u r = 0)) = true := fun z => hk fun x hx h0 => (h.all hx h0).orth h.len fun u hu => by
      have := List.all_eq_true.mp z u hu
      simpa using this
    rw [Bool.not_eq_true] at this
    rw [this]; simp [hk]
section
variable {P : Program} {w : World} {K : PySem.W.Frag} {mg : Str → Option Value} {base : Heap}
structure LkIn where
  tk : List (List Int)
  n : Nat
  S : Nat
structure LkPre (i : LkIn) : Prop where
  n : 1 ≤ i.n ∧ i.n ≤ 10
  len : ∀ x ∈ i.tk, x.length = i.n
  sm : ∀ x ∈ i.tk, SmL i.S x
  sz : i.S ≤ 265
theorem LB_ok {S c : Nat} (hS : S ≤ 265) (hc : c ≤ 10) : 3 * LB S c + 2 * S + 40 ≤ bigB := by
  have h1 := LB_le (S := S) 10
  have h2 := LB_mono (S := S) hc
  have e : bigB = 60000000 := rfl
  have e2 : 3 ^ 10 = 59049 := rfl
  rw [e2] at h1
  omega
theorem ok_law_kernel (E : EnvP K mg base) (ht : P.given.tree = none) : CalP P w K mg base "_law_kernel" 37 ps_law_kernel
    (spG K LkPre (fun i => [dRows2 i.tk, .int i.n]) (fun _ => []) fun i d O' => O' = [] ∧ ∃ vs, d = dRows2 vs ∧ LkI i.n i.S i.tk vs) :=
  E.cal_law_kernel fun fd F => fn_G F sc_law_kernel (fun _ => rfl) fun i hp cdv A outer s0 H hr => by
    obtain ⟨tk, n, S⟩ := i
    obtain ⟨⟨h1, h2⟩, hlen, hsm, hsz⟩ := hp
    simp only at h1 h2 hlen hsm hsz
    refine bl_setLV 2 (evl_map1 (xs := List.range n) (gD := fun i : Nat => .int (i : Nat)) (f := fun i => dInts (uv n i 1)) 4 sc_law_kernel.nd (ei_rangeT E.b_range (ev_var 1) (by omega)) (blkOk_by (N := N_law_kernel) (sc := defScope s_law_kernel) (by decide +kernel)) (fun _ _ _ _ _ => pg_name sc_law_kernel.nd rfl (Or.inr rfl))
      (fun i hi s H C cl fp => (EvL.ev ((evl_map1 (xs := List.range n) (gD := fun i : Nat => .int (i : Nat)) (f := fun j => if j = i then D.int 1 else D.int 0) 3 sc_law_kernel.nd (ei_rangeT E.b_range (ev_var 1) (by omega)) (blkOk_by (by rfl)) (fun _ _ _ _ _ => pg_name sc_law_kernel.nd rfl (Or.inl rfl))
        (fun j hj _ _ _ _ _ => (ev_intB E.b_int (ev_eqI (ev_var 3) (ev_var 4))).eq (by
          by_cases h : j = i
          · simp [h]
          · have : ¬ ((j : Int) = (i : Int)) := by omega
            simp [h, this]))).mono fun ys o ⟨e1, e2⟩ => ⟨e1.trans uv_D, e2⟩)))) ?_ (hl := Nat.le_of_ble_eq_true rfl)
    refine bl_for1 (xs := tk) (gD := dInts) 5 (fun i r o => ∃ vs t5, r = [some (dRows2 tk), some (.int n), some (dRows2 vs), none, none, t5] ∧ o = [] ∧ LkI n S (tk.take i) vs) PassesOwn.never sc_law_kernel.nd (ei_list (ev_var 0))
      ⟨(List.range n).map fun i => uv n i 1, none, by unfold dRows2; rw [List.map_map]; rfl, rfl, .start⟩ (fun i x r o hx ho => ?_) (fun r o ho => ?_)
    · obtain ⟨vs, t5, rfl, rfl, hK⟩ := ho
      have hxm : x ∈ tk := List.mem_of_getElem? hx
      have hb := LB_ok (S := S) (c := n - vs.length) hsz (by omega)
      have hvn := hK.cnt
      refine bl_setR 2 sc_law_kernel.nd (evr_call (Rx := []) (⟨vs, x, n, LB S (n - vs.length), S, LB S (n - vs.length) + S + 4⟩ : KsIn) (ok_law_halved E ht) hr ⟨hK.len, hlen x hxm, hK.sm, hsm x hxm, fun v hv => ?_, by show vs.length ≤ 16; omega, by show LB S (n - vs.length) + 2 * (LB S (n - vs.length) + S + 4) + 30 ≤ bigB; omega, by show S ≤ bigB; have e : bigB = 60000000 := rfl; omega⟩ (ea_cons (ev_var 2) (ea_cons (ev_var 5) ea_nil)) (.refl _)) ?_
      · have := dot_le (n := 16) (hK.sm v hv) (hsm x hxm) (by rw [hK.len v hv]; omega)
        have e : 2 ^ (LB S (n - vs.length) + S + 4) = 16 * (2 ^ LB S (n - vs.length) * 2 ^ S) := by
          rw [Nat.pow_add, Nat.pow_add, Nat.mul_comm]
        show (dot v x).natAbs ≤ 2 ^ (LB S (n - vs.length) + S + 4)
        omega
      · rintro d o ⟨o', ⟨rfl, ks, rfl, ko⟩, rfl⟩
        have etk : tk.take (i + 1) = tk.take i ++ [x] := by rw [List.take_succ, hx, Option.toList_some]
        exact bl_nil ⟨ks, _, rfl, rfl, by rw [etk]; exact hK.step ko⟩
    · obtain ⟨vs, t5, rfl, rfl, hK⟩ := ho
      rw [List.take_length] at hK
      exact bl_ret (ev_var 2) ⟨rfl, vs, rfl, hK⟩
structure LnPre (i : LkIn × List Int) : Prop where
  lk : LkPre i.1
  rl : i.2.length = i.1.n
  rs : SmL 265 i.2
theorem ok_law_is_known (E : EnvP K mg base) (ht : P.given.tree = none) : CalP P w K mg base "_law_is_known" 38 ps_law_is_known
    (spV K LnPre (fun i => [dRows2 i.1.tk, .int i.1.n, dInts i.2]) fun i => .bl (knB i.1.n i.1.tk i.2)) :=
  E.cal_law_is_known fun fd F => fn_G F sc_law_is_known (fun _ => rfl) fun i hp cdv A outer s0 H hr => by
    obtain ⟨⟨tk, n, S⟩, r⟩ := i
    obtain ⟨hlk, hrl, hrs⟩ := hp
    have ⟨⟨h1, h2⟩, hlen, hsm, hsz⟩ := hlk
    simp only at h1 h2 hlen hsm hsz hrl hrs
    refine bl_retR (evr_bcall (cr_all rfl) E.b_all (by decide +kernel) (ear_one (EvL.rv (evl_map1R (α := List Int) (gD := dInts) (f := fun u => .bl (decide (dot u r = 0))) (R := fun vs o => LkI n S tk vs ∧ o = []) 3 sc_law_is_known.nd
      (eir_lstV (evr_call (Rx := []) (⟨tk, n, S⟩ : LkIn) (ok_law_kernel E ht) hr hlk (ea_cons (ev_var 0) (ea_cons (ev_var 1) ea_nil)) (.refl _)) fun d o ⟨o', ⟨e1, vs, e2, e3⟩, e4⟩ => ⟨_, e2, vs, rfl, e3, by rw [e4, e1]; rfl⟩) (blkOk_by (N := N_law_is_known) (sc := defScope s_law_is_known) (by decide +kernel))
      (fun _ _ _ _ _ => pg_name sc_law_is_known.nd rfl (Or.inl rfl)) (fun vs o hR u hu _ _ _ _ _ => ?_)))) (R := fun d o => d = .bl (knB n tk r) ∧ o = []) ?_) (fun d o h => h)
    · obtain ⟨hK, rfl⟩ := hR
      exact ev_eqI (ev_callV (u, r) (ok_law_dot E) (hr.mono (by decide)) ⟨_, 265, hK.sm u hu, hrs, by have := LB_ok (S := S) (c := n - vs.length) hsz (by omega); omega, by decide⟩ (ea_cons (ev_var 3) (ea_cons (ev_var 2) ea_nil))) ev_int
    · rintro ds o ⟨d, rfl, xs, ⟨vs, ⟨hK, rfl⟩, rfl⟩, rfl⟩
      refine ⟨.bl ((vs.map fun u => decide (dot u r = 0)).all id), [], ?_, ?_⟩
      · have e : (vs.map fun u => D.bl (decide (dot u r = 0))) = (vs.map fun u => decide (dot u r = 0)).map D.bl := by rw [List.map_map]; rfl
        rw [e]
        exact callG_all
      · refine ⟨?_, rfl⟩
        rw [← hK.knB, List.all_map]; rfl
end
end Pr
namespace Pr
open PySem L2 GL
theorem atI_mem {α : Type} {ys : List α} {z : Int} (h0 : 0 ≤ z) (h1 : z < ys.length) : ∃ y, atI ys z = some y ∧ y ∈ ys := by
  obtain ⟨j, rfl⟩ : ∃ j : Nat, z = j := ⟨z.toNat, by omega⟩
  have hj : j < ys.length := by omega
  exact ⟨ys[j], atI_nat (by simp [hj]), List.getElem_mem _⟩
def sgl : Nat → List (List Int)
  | 0 => [[1]]
  | i + 1 => (sgl i).map (· ++ [1]) ++ (sgl i).map (· ++ [-1])
theorem sgl_mem : ∀ {i : Nat} {s : List Int}, s ∈ sgl i ↔ s ∈ sgn i
  | 0, s => Iff.rfl
  | i + 1, s => by
    show s ∈ (sgl i).map (· ++ [1]) ++ (sgl i).map (· ++ [-1]) ↔ s ∈ (sgn i).flatMap sx
    rw [List.mem_append, List.mem_map, List.mem_map, List.mem_flatMap]
    constructor
    · rintro (⟨r, h, rfl⟩ | ⟨r, h, rfl⟩)
      · exact ⟨r, sgl_mem.mp h, by simp [sx]⟩
      · exact ⟨r, sgl_mem.mp h, by simp [sx]⟩
    · rintro ⟨r, h, hs⟩
      have : s = r ++ [1] ∨ s = r ++ [-1] := by simpa [sx] using hs
      rcases this with rfl | rfl
      · exact .inl ⟨r, sgl_mem.mpr h, rfl⟩
      · exact .inr ⟨r, sgl_mem.mpr h, rfl⟩
theorem sgl_len : ∀ i, (sgl i).length = 2 ^ i
  | 0 => rfl
  | i + 1 => by
    show ((sgl i).map (· ++ [1]) ++ (sgl i).map (· ++ [-1])).length = _
    rw [List.length_append, List.length_map, List.length_map, sgl_len i, Nat.pow_succ]; omega
section
variable {P : Program} {w : World} {K : PySem.W.Frag} {mg : Str → Option Value} {base : Heap}
theorem ok_law_signs (E : EnvP K mg base) : CalP P w K mg base "_law_signs" 1 ps_law_signs (spV K (fun n : Nat => 1 ≤ n ∧ n ≤ 10) (fun n => [.int (n : Nat)]) fun n => dRows2 (sgl (n - 1))) :=
  E.cal_law_signs fun fd F => fn_G F sc_law_signs (fun _ => rfl) fun n hp cdv A outer s H hr => by
    obtain ⟨h1, h2⟩ := hp
    refine bl_set 1 sc_law_signs.nd (evn_lst (ds := [dInts [1]]) (ea_cons (evn_lst (ds := [.int 1]) (ea_cons ev_int ea_nil)).ev ea_nil)).ev ?_
    refine bl_for1 (xs := List.range (n - 1)) (gD := fun i : Nat => .int (i : Nat)) 2 (fun i r o => ∃ t2, r = [some (.int n), some (dRows2 (sgl i)), t2, none] ∧ o = []) PassesOwn.never sc_law_signs.nd
      (ei_rangeT E.b_range ((ev_sub (ev_var 0) ev_int).eq (by rw [show ((n : Int) - 1) = ((n - 1 : Nat) : Int) by omega])) (by omega)) ⟨none, rfl, rfl⟩ (fun i x r o hx ho => ?_) (fun r o ho => ?_)
    · obtain ⟨t2, rfl, rfl⟩ := ho
      have hi : i < n - 1 := by simpa using (List.getElem?_eq_some_iff.mp hx).1
      have hbig : (sgl i).length ≤ 512 := by
        rw [sgl_len]
        exact Nat.pow_le_pow_right (n := 2) (by decide) (show i ≤ 9 by omega)
      have hrow : ∀ r ∈ sgl i, r.length ≤ 100 := fun r hr => by
        have := (sgn_mem (sgl_mem.mp hr)).1
        omega
      refine bl_set 1 sc_law_signs.nd (evn_cat (EvL.ev (evl_map1 (xs := sgl i) (gD := dInts) (f := fun r => dInts (r ++ [1])) 3 sc_law_signs.nd (ei_list (ev_var 1)) (blkOk_by (N := N_law_signs) (sc := defScope s_law_signs) (by decide +kernel)) (fun _ _ _ _ _ => pg_name sc_law_signs.nd rfl (Or.inl rfl))
          (fun r hr _ _ _ _ _ => ((evn_cat (ev_var 3) (evn_lst (ds := [.int 1]) (ea_cons ev_int ea_nil)).ev (by rw [List.length_map]; have := hrow r hr; show r.length + 1 ≤ 1000000; omega)).ev).eq (by simp))))
        (EvL.ev (evl_map1 (xs := sgl i) (gD := dInts) (f := fun r => dInts (r ++ [-1])) 3 sc_law_signs.nd (ei_list (ev_var 1)) (blkOk_by (N := N_law_signs) (sc := defScope s_law_signs) (by decide +kernel)) (fun _ _ _ _ _ => pg_name sc_law_signs.nd rfl (Or.inl rfl))
          (fun r hr _ _ _ _ _ => ((evn_cat (ev_var 3) (evn_lst (ds := [.int (-1)]) (ea_cons (ev_neg ev_int) ea_nil)).ev (by rw [List.length_map]; have := hrow r hr; show r.length + 1 ≤ 1000000; omega)).ev).eq (by simp))))
        (by rw [List.length_map, List.length_map]; show _ ≤ 1000000; omega)).ev ?_
      refine bl_nil ⟨some (.int (x : Nat)), ?_, rfl⟩
      show [_, some (D.lst ((sgl i).map (fun r => dInts (r ++ [1])) ++ (sgl i).map (fun r => dInts (r ++ [-1])))), _, _] = [_, some (D.lst (((sgl i).map (· ++ [1]) ++ (sgl i).map (· ++ [-1])).map dInts)), _, _]
      rw [List.map_append, List.map_map, List.map_map]
      rfl
    · obtain ⟨t2, rfl, rfl⟩ := ho
      rw [List.length_range]
      exact bl_ret (ev_var 1) ⟨rfl, rfl⟩
theorem p10 : (10 : Int) ^ (12 : Int).toNat = 1000000000000 := by decide +kernel
theorem p11 : (10 : Int) ^ (11 : Int).toNat = 100000000000 := by decide +kernel
theorem p40 : (10 : Int) ^ (40 : Int).toNat = 10000000000000000000000000000000000000000 := by decide +kernel
theorem mulc {i j : Int} (h : i.natAbs.log2 + j.natAbs.log2 < 134000000 := by decide) : GL.MulOk i j := h
theorem ev_digit {X : Cx} {ρ : Ro} {R : List Own} {a b : Expr} {p' pos : Pos} {q : Addr} {p : Pot} {m : Int} (E : EnvP X.K X.mg X.base) (hr : Rm 1 X.A) (ok : OkP p) (hm : 1 ≤ m) (hl : m.natAbs.log2 < 9000) (ha : Ev X a ρ (p.own q :: R) (.raw (.ref q)) (p.own q :: R)) (hb : Ev X b ρ (p.own q :: R) (.int m) (p.own q :: R))
    (hg : Gl X "_law_digit" := by rfl) (he : starEach [a, b] X.env = (false, eval a X.env) :: starEach [b] X.env := by rfl) (he2 : starEach [b] X.env = [(false, eval b X.env)] := by rfl) (hpl : (backTo pos (starEach [b] X.env)).any (·.1) = false := by rfl) :
    Ev X (.Call (.Name "_law_digit" p') [a, b] [] pos) ρ (p.own q :: R) (.int (dg p m).1) ((dg p m).2.own q :: R) :=
  (ev_callW (q, p, m) 0 (ok_law_digit E) hr ⟨ok, hm, hl⟩ (ea_cons ha (ea_cons hb ea_nil (by rw [he2] <;> rfl)) he) rfl hg (by decide) he hpl).eqO rfl
theorem ok_law_integer (E : EnvP K mg base) : CalP P w K mg base "_law_integer" 2 ps_law_integer
    (spG K (fun i : Addr × Pot => OkP i.2) (fun i => [.raw (.ref i.1)]) (fun i => [i.2.own i.1]) fun i d O' => ∃ x p', d = .int x ∧ Sm 134 x ∧ OkP p' ∧ O' = [p'.own i.1]) :=
  E.cal_law_integer fun fd F => fn_G F sc_law_integer (fun _ => rfl) fun i hp cdv A outer s H hr => by
    obtain ⟨q, p⟩ := i
    simp only at hp
    have hr1 := hr.mono (show 1 ≤ 1 by decide)
    obtain ⟨k1, l1, u1⟩ := dg_ok (m := 8) hp (by decide)
    generalize hz1 : (dg p 8).1 = z1 at l1 u1
    generalize hp1 : (dg p 8).2 = p1 at k1
    obtain ⟨k2, l2, u2⟩ := dg_ok (m := 41) k1 (by decide)
    obtain ⟨k3, l3, u3⟩ := dg_ok (m := 1000000000000) k1 (by decide)
    generalize hz3 : (dg p1 1000000000000).1 = z3 at l3 u3
    generalize hp3 : (dg p1 1000000000000).2 = p3 at k3
    obtain ⟨k4, l4, u4⟩ := dg_ok (m := 2 * 10000000000000000000000000000000000000000 - 1) k3 (by decide)
    generalize hz4 : (dg p3 (2 * 10000000000000000000000000000000000000000 - 1)).1 = z4 at l4 u4
    have e134 : (2 : Nat) ^ 134 = 21778071482940061661655974875633165533184 := by decide
    refine bl_set 1 sc_law_integer.nd ((ev_digit (q := q) (p := p) (m := 8) (R := []) E hr hp (by decide) (by decide) (ev_var 0) ev_int).eq2 (by rw [hz1]) (by rw [hp1])) ?_
    refine bl_if (et_lt (ev_var 1) ev_int) (fun hq => ?_) (fun hq => ?_)
    · have hw : z1 < 5 := by simpa using hq
      obtain ⟨y, hy1, hy2⟩ := atI_mem (ys := [(0 : Int), 1, 1, -1, 2]) l1 hw
      refine bl_ret (ev_ixM (xs := [(0 : Int), 1, 1, -1, 2]) (g := D.int) (evn_lst (ea_cons ev_int (ea_cons ev_int (ea_cons ev_int (ea_cons (ev_neg ev_int) (ea_cons ev_int ea_nil)))))).ev (ev_var 1) hy1) ⟨y, _, rfl, ?_, k1, rfl⟩
      have : y = 0 ∨ y = 1 ∨ y = -1 ∨ y = 2 := by
        simp at hy2
        omega
      unfold Sm
      omega
    · have hw : ¬ z1 < 5 := by simpa using hq
      refine bl_nil (bl_if (et_eqI (ev_var 1) ev_int) (fun hq2 => ?_) (fun hq2 => ?_))
      · refine bl_ret (ev_sub (ev_digit (q := q) (p := p1) (m := 41) (R := []) E hr k1 (by decide) (by decide) (ev_var 0) ev_int) ev_int) ⟨_, _, rfl, ?_, k2, rfl⟩
        unfold Sm
        show ((dg p1 41).1 - 20).natAbs < _
        omega
      · have hw2 : ¬ z1 = 5 := by simpa using hq2
        obtain ⟨y, hy1, hy2⟩ := atI_mem (ys := [z3 - 5 * 100000000000, z4 - 10000000000000000000000000000000000000000 + 1]) (z := z1 - 6) (by omega) (by show _ < (2 : Int); omega)
        refine bl_nil (bl_ret (ev_ixM (xs := [z3 - 5 * 100000000000, z4 - 10000000000000000000000000000000000000000 + 1]) (g := D.int)
          (evn_lst (ea_cons (ev_sub ((ev_digit (q := q) (p := p1) (m := 1000000000000) (R := []) E hr k1 (by decide) (by decide) (ev_var 0) ((ev_pow ev_int ev_int ⟨by decide, by decide, by decide⟩).eq (by rw [p10]))).eq2 (by rw [hz3]) (by rw [hp3])) (ev_mul ev_int ((ev_pow ev_int ev_int ⟨by decide, by decide, by decide⟩).eq (by rw [p11])) mulc))
            (ea_cons (ev_add (ev_sub ((ev_digit (q := q) (p := p3) (m := 2 * 10000000000000000000000000000000000000000 - 1) (R := []) E hr k3 (by decide) (by decide) (ev_var 0) (ev_sub (ev_mul ev_int ((ev_pow ev_int ev_int ⟨by decide, by decide, by decide⟩).eq (by rw [p40])) mulc) ev_int)).eq (by rw [hz4])) ((ev_pow ev_int ev_int ⟨by decide, by decide, by decide⟩).eq (by rw [p40]))) ev_int) ea_nil))).ev
          (ev_sub (ev_var 1) ev_int) hy1) ⟨y, _, rfl, ?_, k4, rfl⟩)
        have : y = z3 - 5 * 100000000000 ∨ y = z4 - 10000000000000000000000000000000000000000 + 1 := by simpa using hy2
        unfold Sm
        rcases this with rfl | rfl <;> omega
end
end Pr
namespace Pr
open PySem L2 GL
section
variable {P : Program} {w : World} {K : PySem.W.Frag} {mg : Str → Option Value} {base : Heap}
/-- a table's rows -/
structure TbOk (many k : Nat) (xss : List (List Int)) : Prop where
  len : ∀ xs ∈ xss, xs.length = many
  sm : ∀ xs ∈ xss, SmL k xs
theorem TbOk.snoc {many k : Nat} {xss : List (List Int)} {xs : List Int} (h : TbOk many k xss) (l : xs.length = many) (s : SmL k xs) : TbOk many k (xss ++ [xs]) :=
  ⟨fun ys hy => by
    rcases List.mem_append.mp hy with q | q
    · exact h.len ys q
    · have : ys = xs := by simpa using q
      rw [this]; exact l, fun ys hy => by
    rcases List.mem_append.mp hy with q | q
    · exact h.sm ys q
    · have : ys = xs := by simpa using q
      rw [this]; exact s⟩
theorem TbOk.mono {many j k : Nat} {xss : List (List Int)} (h : TbOk many j xss) (l : j ≤ k) : TbOk many k xss := ⟨h.len, fun xs hx => (h.sm xs hx).mono l⟩
theorem deeps_ints : ∀ {xs : List Int}, deeps (xs.map D.int) = true
  | [] => rfl
  | x :: xs => by show (true && deeps (xs.map D.int)) = true; rw [deeps_ints]; rfl
theorem deeps_rows : ∀ {xss : List (List Int)}, deeps (xss.map dInts) = true
  | [] => rfl
  | xs :: xss => by show (deeps (xs.map D.int) && deeps (xss.map dInts)) = true; rw [deeps_ints, deeps_rows]; rfl
theorem pyDs_ints : ∀ {xs : List Int}, pyDs (xs.map D.int) = xs.map PyData.int
  | [] => rfl
  | x :: xs => by show pyD (.int x) :: pyDs (xs.map D.int) = _; rw [pyDs_ints]; rfl
theorem pyDs_rows : ∀ {xss : List (List Int)}, pyDs (xss.map dInts) = xss.map fun xs => PyData.list (xs.map PyData.int)
  | [] => rfl
  | x :: xs => by show pyD (dInts x) :: pyDs (xs.map dInts) = _; rw [pyDs_rows]; show PyData.list (pyDs (x.map D.int)) :: _ = _; rw [pyDs_ints]; rfl
theorem lay_ints : ∀ {xs : List Int}, PyData.canLayAll0 (xs.map PyData.int) = true
  | [] => rfl
  | x :: xs => by
    rw [List.map_cons, PyData.canLayAll0, lay_ints]; rfl
theorem lay_rows : ∀ {xss : List (List Int)}, PyData.canLayAll0 (xss.map fun xs => PyData.list (xs.map PyData.int)) = true
  | [] => rfl
  | x :: xs => by
    rw [List.map_cons, PyData.canLayAll0, lay_rows, PyData.canLay0, lay_ints]; rfl
theorem dep_ints : ∀ {xs : List Int}, PyData.depthAll (xs.map PyData.int) = 0
  | [] => rfl
  | x :: xs => by
    rw [List.map_cons, PyData.depthAll, dep_ints]; rfl
theorem dep_rows : ∀ {xss : List (List Int)}, PyData.depthAll (xss.map fun xs => PyData.list (xs.map PyData.int)) ≤ 1
  | [] => Nat.zero_le _
  | x :: xs => by
    have ih := dep_rows (xss := xs)
    rw [List.map_cons, PyData.depthAll, PyData.depth, dep_ints]
    omega
theorem py_rows {xss : List (List Int)} : pyD (dRows2 xss) = .list (xss.map fun xs => PyData.list (xs.map PyData.int)) := by
  show PyData.list (pyDs (xss.map dInts)) = _
  rw [pyDs_rows]
theorem shaped_rows {xss : List (List Int)} : SeqAt.shaped (pyD (dRows2 xss)) = true := by
  rw [py_rows]
  unfold SeqAt.shaped
  rw [PyData.canLay0, lay_rows, PyData.depth]
  have := dep_rows (xss := xss)
  simp; omega
theorem eqv_nil {xss : List (List Int)} : PyData.eqv (pyD (dRows2 xss)) (pyD (.lst [])) = xss.isEmpty := by
  rw [py_rows]
  show PyData.eqv (.list _) (.list []) = _
  cases xss with
  | nil => rfl
  | cons x xs => rfl
theorem ev_rowsE {X : Cx} {ρ : Ro} {O O1 : List Own} {a : Expr} {pos p2 : Pos} {xss : List (List Int)} {k : Nat} (hr : Rm k X.A) (ha : Ev X a ρ O (dRows2 xss) O1) : Ev X (.Compare a [.Eq] [.List [] p2] pos) ρ O (.bl xss.isEmpty) O1 :=
  (ev_eqD hr ha (evn_lst ea_nil).ev (by show deeps (xss.map dInts) = true; exact deeps_rows) rfl shaped_rows (by decide)).eq (by rw [eqv_nil])
theorem et_rowsN {X : Cx} {ρ : Ro} {O O1 : List Own} {a : Expr} {pos p2 : Pos} {xss : List (List Int)} {k : Nat} (hr : Rm k X.A) (ha : Ev X a ρ O (dRows2 xss) O1) : Et X (.Compare a [.NotEq] [.List [] p2] pos) ρ O (!xss.isEmpty) O1 :=
  (et_neD hr ha (evn_lst ea_nil).ev (by show deeps (xss.map dInts) = true; exact deeps_rows) rfl shaped_rows (by decide)).eq (by rw [eqv_nil])
theorem atI_last {α : Type} {xs : List α} (h : xs ≠ []) : ∃ y, atI xs (-1) = some y ∧ y ∈ xs := by
  have hl : 0 < xs.length := List.length_pos_iff.mpr h
  have e : ixN xs.length (-1) = some (xs.length - 1) := by
    unfold ixN
    simp
    omega
  refine ⟨xs[xs.length - 1]'(by omega), ?_, List.getElem_mem _⟩
  unfold atI
  rw [e]
  simp
/-- what a table in the making is -/
abbrev tabO (q f : Addr) (p : Pot) (as : List Addr) (xss : List (List Int)) : List Own := p.own q :: Own.lst f (refs as) :: rows as (sD xss)
structure TabR (q : Addr) (many most k : Nat) (d : D) (O' : List Own) : Prop where
  ex : ∃ f p as xss, d = .raw (.ref f) ∧ O' = tabO q f p as xss ∧ OkP p ∧ as.length = xss.length ∧ xss.length ≤ most ∧ TbOk many k xss
theorem dRows2_sD {xss : List (List Int)} : D.lst ((sD xss).map D.lst) = dRows2 xss := by
  show D.lst ((xss.map fun xs => xs.map D.int).map D.lst) = _
  rw [List.map_map]
  rfl
theorem evr_integer {X : Cx} {ρ : Ro} {R : List Own} {a : Expr} {p' pos : Pos} {q : Addr} {p : Pot} (E : EnvP X.K X.mg X.base) (hr : Rm 2 X.A) (ok : OkP p) (ha : Ev X a ρ (p.own q :: R) (.raw (.ref q)) (p.own q :: R))
    (hg : Gl X "_law_integer" := by rfl) (he : starEach [a] X.env = [(false, eval a X.env)] := by rfl) (hpl : (backTo pos (starEach [] X.env)).any (·.1) = false := by rfl) :
    EvR X (.Call (.Name "_law_integer" p') [a] [] pos) ρ (p.own q :: R) fun d o => ∃ x p2, d = .int x ∧ Sm 134 x ∧ OkP p2 ∧ o = p2.own q :: R :=
  (evr_call (q, p) (ok_law_integer E) hr ok (ea_cons ha ea_nil (by rw [he] <;> rfl)) (Rx := R) (.refl _) hg (by decide) (by rw [he] <;> rfl) hpl).mono fun d o ⟨o', ⟨x, p2, h1, h2, h3, h4⟩, h5⟩ => ⟨x, p2, h1, h2, h3, by rw [h5, h4]; rfl⟩
theorem smL_small {k : Nat} {xs : List Int} (h : ∀ x ∈ xs, x.natAbs < 2 ^ k) : SmL k xs := h
theorem ok_law_table (E : EnvP K mg base) : CalP P w K mg base "_law_table" 3 ps_law_table
    (spG K (fun i : Addr × Pot × Nat × Nat => OkP i.2.1 ∧ 1 ≤ i.2.2.1 ∧ i.2.2.1 ≤ 10 ∧ i.2.2.2 ≤ 10) (fun i => [.raw (.ref i.1), .int (i.2.2.1 : Nat), .int (i.2.2.2 : Nat)]) (fun i => [i.2.1.own i.1]) fun i d O' => TabR i.1 i.2.2.1 i.2.2.2 (134 + 4 * i.2.2.2) d O') :=
  E.cal_law_table fun fd F => fn_G F sc_law_table (fun _ => rfl) fun i hp cdv A outer s H hr => by
    obtain ⟨q, p, many, most⟩ := i
    obtain ⟨okp, hm1, hm2, hmo⟩ := hp
    simp only at okp hm1 hm2 hmo
    have hr1 : Rm 1 (A.deeper _) := hr.mono (show 1 ≤ 2 by decide)
    refine bl_setN 3 sc_law_table.nd (evn_lst ea_nil) fun f => ?_
    obtain ⟨k1, l1, u1⟩ := dg_ok (p := p) (m := (most : Int) + 1) okp (by omega)
    refine bl_perm (O1 := tabO q f p [] []) (List.Perm.swap _ _ _) ?_
    generalize hz : (dg p ((most : Int) + 1)).1 = z at l1 u1
    generalize hp1 : (dg p ((most : Int) + 1)).2 = p1 at k1
    have hlog : ∀ m : Int, 1 ≤ m → m ≤ 1000 → m.natAbs.log2 < 9000 := fun m h1 h2 => by
      have h3 : m.natAbs < 2 ^ 10 := by omega
      have := (Nat.log2_lt (n := m.natAbs) (k := 10) (by omega)).mpr h3
      omega
    refine bl_for1 (xs := List.range z.toNat) (gD := fun i : Nat => .int (i : Nat)) 4 (fun i r o => ∃ p as xss t4 t5 t6 t7 t8 t9 t10 t11 t12, r = [some (.raw (.ref q)), some (.int many), some (.int most), some (.raw (.ref f)), t4, t5, t6, t7, t8, t9, t10, t11, t12] ∧ o = tabO q f p as xss ∧ OkP p ∧ as.length = xss.length ∧ xss.length = i ∧ TbOk many (134 + 4 * i) xss) PassesOwn.never sc_law_table.nd
      (ei_rangeT E.b_range ((ev_digit (q := q) (p := p) (m := (most : Int) + 1) (R := [Own.lst f (refs [])]) E hr1 okp (by omega) (hlog _ (by omega) (by omega)) (ev_var 0) (ev_add (ev_var 2) ev_int)).eq (by rw [hz, Int.toNat_of_nonneg l1])) (by omega)) ⟨p1, [], [], none, none, none, none, none, none, none, none, none, rfl, by rw [hp1]; rfl, k1, rfl, rfl, ⟨fun _ h => by simp at h, fun _ h => by simp at h⟩⟩ (fun i x r o hx ho => ?_) (fun r o ho => ?_)
    · obtain ⟨p, as, xss, t4, t5, t6, t7, t8, t9, t10, t11, t12, rfl, rfl, okp, hal, hxl, htb⟩ := ho
      have hi : i < z.toNat := by simpa using (List.getElem?_eq_some_iff.mp hx).1
      obtain ⟨ka, la, ua⟩ := dg_ok (m := 6) okp (by decide)
      generalize hza : (dg p 6).1 = za at la ua
      generalize hpa : (dg p 6).2 = pa at ka
      obtain ⟨kb', lb, ub⟩ := dg_ok (m := (many : Int)) ka (by omega)
      generalize hzb : (dg pa (many : Int)).1 = zb at lb ub
      generalize hpb : (dg pa (many : Int)).2 = pb at kb'
      obtain ⟨kc, lc, uc⟩ := dg_ok (m := 5) kb' (by decide)
      generalize hzc : (dg pb 5).1 = zc at lc uc
      generalize hpc : (dg pb 5).2 = pc at kc
      refine bl_asg (pg_tup rfl (pgs_cons (pg_name (i := 5) sc_law_table.nd rfl (Or.inl rfl)) (pgs_cons (pg_name (i := 6) sc_law_table.nd rfl (Or.inr rfl)) (pgs_cons (pg_name (i := 7) sc_law_table.nd rfl (Or.inr rfl)) pgs_nil))))
        (ev_tup (ds := [.int za, .int zb, .int (2 + zc)]) (O1 := tabO q f pc as xss) (ea_cons ((ev_digit (q := q) (p := p) (m := 6) E hr1 okp (by decide) (by decide) (ev_var 0) ev_int).eq2 (by rw [hza]) (by rw [hpa]))
        (ea_cons ((ev_digit (q := q) (p := pa) (m := (many : Int)) E hr1 ka (by omega) (hlog _ (by omega) (by omega)) (ev_var 0) (ev_var 1)).eq2 (by rw [hzb]) (by rw [hpb])) (ea_cons (ev_add ev_int ((ev_digit (q := q) (p := pb) (m := 5) E hr1 kb' (by decide) (by decide) (ev_var 0) ev_int).eq2 (by rw [hzc]) (by rw [hpc]))) ea_nil))))
        (gok_tup (gsok_cons (is := [5]) (gok_name 5) (gsok_cons (is := [6]) (gok_name 6) (gsok_cons (is := [7]) (gok_name 7) gsok_nil)))) ?_
      -- the line
      refine bl_setL 8 (evl_one (xs := List.range many) (gD := fun i : Nat => .int (i : Nat)) (I := fun j acc o => ∃ p' ls, acc = ls.map D.int ∧ ls.length = j ∧ SmL 2 ls ∧ OkP p' ∧ o = tabO q f p' as xss) 9 sc_law_table.nd (ei_rangeT E.b_range (ev_var 1) (by omega)) (blkOk_by (N := N_law_table) (sc := defScope s_law_table) (by decide +kernel)) (fun _ _ _ _ _ => pg_name sc_law_table.nd rfl (Or.inl rfl)) ⟨pc, [], rfl, rfl, fun _ h => by simp at h, kc, rfl⟩ ?_) ?_
      · rintro j y acc Oj hy ⟨p', ls, rfl, hl, hs, ok', rfl⟩ s0 H0 C cl fp
        obtain ⟨kd, ld, ud⟩ := dg_ok (m := 8) ok' (by decide)
        obtain ⟨v, hv1, hv2⟩ := atI_mem (ys := [(0 : Int), 0, 1, 1, -1, 2, -2, 3]) ld ud
        refine EvR.mono (Ev.r (ev_ixM (xs := [(0 : Int), 0, 1, 1, -1, 2, -2, 3]) (g := D.int) (evn_lst (ea_cons ev_int (ea_cons ev_int (ea_cons ev_int (ea_cons ev_int (ea_cons (ev_neg ev_int) (ea_cons ev_int (ea_cons (ev_neg ev_int) (ea_cons ev_int ea_nil))))))))).ev (ev_digit (q := q) (p := p') (m := 8) E hr1 ok' (by decide) (by decide) (ev_var 0) ev_int) hv1)) ?_
        rintro d o ⟨rfl, rfl⟩
        refine ⟨_, ls ++ [v], by simp, by simp [hl], fun u hu => ?_, kd, rfl⟩
        rcases List.mem_append.mp hu with q1 | q1
        · exact hs u q1
        · have e : u = v := by simpa using q1
          subst e
          have : u = 0 ∨ u = 1 ∨ u = -1 ∨ u = 2 ∨ u = -2 ∨ u = 3 := by
            simp at hv2; omega
          unfold Sm
          omega
      rintro lq _ _ ⟨p', ls, rfl, hll, hls, ok', rfl⟩
      rw [List.length_range] at hll
      have hzc : Sm 3 (2 + zc) := by unfold Sm; omega
      let St : Ro → List Own → Prop := fun r o => ∃ lq ls p' t9 t10 t11 t12, OkP p' ∧ ls.length = many ∧ SmL (134 + 4 * (i + 1)) ls ∧ r = [some (.raw (.ref q)), some (.int many), some (.int most), some (.raw (.ref f)), some (.int (x : Nat)), some (.int za), some (.int zb), some (.int (2 + zc)), some (.raw (.ref lq)), t9, t10, t11, t12] ∧ o = Own.lst lq (ls.map D.int) :: tabO q f p' as xss
      refine bl_ifS St (et_eqI (ev_var 5) ev_int) (fun hq => ?_) (fun hq => ⟨lq, ls, p', t9, t10, t11, t12, ok', hll, hls.mono (by omega), rfl, rfl⟩) ?_
      · refine bl_freezeL 8 (.refl _) rfl ?_
        refine bl_setL 8 (evl_map2 (xs := ls.zipIdx) (g1 := fun q => .int (q.2 : Nat)) (g2 := fun q => .int q.1) (f := fun q => .int ((2 + zc) * q.1 + if decide ((q.2 : Int) = zb) then 1 else 0)) 9 10 sc_law_table.nd (ei_enumT E.b_enumerate (ev_var 8)) (blkOk_by (N := N_law_table) (sc := defScope s_law_table) (by decide +kernel)) (fun _ _ _ _ _ => pg2 (pg_name sc_law_table.nd rfl (Or.inl rfl)) (pg_name sc_law_table.nd rfl (Or.inl rfl)))
          (fun y hy _ _ _ _ _ => ev_add (ev_mul (ev_var 7) (ev_var 10) (hzc.ok (hls y.1 ((List.mem_zipIdx' hy).2 ▸ List.getElem_mem _)) (by decide) (by decide))) (ev_intB E.b_int (ev_eqI (ev_var 9) (ev_var 6))))) ?_
        rintro lq2 ys o ⟨rfl, rfl⟩
        refine bl_nil ⟨lq2, ls.zipIdx.map fun q => (2 + zc) * q.1 + if decide ((q.2 : Int) = zb) then 1 else 0, p', _, _, _, _, ok', by simp [hll], fun u hu => ?_, rfl, by rw [List.map_map]; rfl⟩
        obtain ⟨y, hy, rfl⟩ := List.mem_map.mp hu
        have s1 := hzc.mul (hls y.1 ((List.mem_zipIdx' hy).2 ▸ List.getElem_mem _))
        have s2 : Sm 5 (if decide ((y.2 : Int) = zb) then (1 : Int) else 0) := by split <;> (unfold Sm; decide)
        exact (s1.add s2).mono (by omega)
      rintro r o ⟨lq, ls, p', t9, t10, t11, t12, ok', hll, hls, rfl, rfl⟩
      have hcond2 : Et (cxOf CX0 P w K mg base N_law_table "_law_table" (defScope s_law_table) (He.fAd K ("_law_table", none)) cdv A outer s H E0).nox (match (defBody s_law_table) with | _ :: .For _ _ (_ :: _ :: _ :: .If c _ _ _ :: _) _ _ :: _ => c | _ => .Constant .none 0 ⟨0, 0, 0, 0⟩) [some (.raw (.ref q)), some (.int many), some (.int most), some (.raw (.ref f)), some (.int (x : Nat)), some (.int za), some (.int zb), some (.int (2 + zc)), some (.raw (.ref lq)), t9, t10, t11, t12] (Own.lst lq (ls.map D.int) :: tabO q f p' as xss) (decide (za = 1) && !xss.isEmpty) (Own.lst lq (ls.map D.int) :: tabO q f p' as xss) := by
        by_cases h1 : za = 1
        · refine (et_andT ((et_eqI (ev_var 5) ev_int).eq (decide_eq_true h1)) (Et.lend (ρ' := [some (.raw (.ref q)), some (.int many), some (.int most), some (dRows2 xss), some (.int (x : Nat)), some (.int za), some (.int zb), some (.int (2 + zc)), some (.raw (.ref lq)), t9, t10, t11, t12]) (et_rowsN hr (ev_var 3)) ?_)).eq (by simp [h1])
          have := Lent.own2 (X := (cxOf CX0 P w K mg base N_law_table "_law_table" (defScope s_law_table) (He.fAd K ("_law_table", none)) cdv A outer s H E0).nox) (O := Own.lst lq (ls.map D.int) :: tabO q f p' as xss) (q := f) (as := as) (xss := sD xss) 3 (Lent.refl (ρ := [some (.raw (.ref q)), some (.int many), some (.int most), some (.raw (.ref f)), some (.int (x : Nat)), some (.int za), some (.int zb), some (.int (2 + zc)), some (.raw (.ref lq)), t9, t10, t11, t12])) rfl (by simp) (by simp [sD, hal]) (fun w hw => by simp [hw])
          rw [dRows2_sD] at this
          exact this
        · exact (et_andF ((et_eqI (ev_var 5) ev_int).eq (decide_eq_false h1))).eq (by simp [h1])
      refine bl_ifS St hcond2 (fun hq => ?_) (fun hq => ⟨lq, ls, p', t9, t10, t11, t12, ok', hll, hls, rfl, rfl⟩) ?_
      · rw [Bool.and_eq_true] at hq
        have hne : xss ≠ [] := fun z => by rw [z] at hq; simp at hq
        obtain ⟨xl, hxl1, hxl2⟩ := atI_last hne
        obtain ⟨x0, hx01, hx02⟩ := atI_mem (ys := xss) (z := 0) (by decide) (by have := List.length_pos_iff.mpr hne; omega)
        refine bl_lose (O1 := tabO q f p' as xss) (R := [Own.lst lq (ls.map D.int)]) (List.perm_append_comm (l₁ := [_])) ?_
        have hlent : Lent (cxOf CX0 P w K mg base N_law_table "_law_table" (defScope s_law_table) (He.fAd K ("_law_table", none)) cdv A outer s H E0).nox.K (tabO q f p' as xss) [some (.raw (.ref q)), some (.int many), some (.int most), some (.raw (.ref f)), some (.int (x : Nat)), some (.int za), some (.int zb), some (.int (2 + zc)), some (.raw (.ref lq)), t9, t10, t11, t12] [some (.raw (.ref q)), some (.int many), some (.int most), some (dRows2 xss), some (.int (x : Nat)), some (.int za), some (.int zb), some (.int (2 + zc)), some (.raw (.ref lq)), t9, t10, t11, t12] := by
          have := Lent.own2 (X := (cxOf CX0 P w K mg base N_law_table "_law_table" (defScope s_law_table) (He.fAd K ("_law_table", none)) cdv A outer s H E0).nox) (O := tabO q f p' as xss) (q := f) (as := as) (xss := sD xss) 3 (Lent.refl (ρ := [some (.raw (.ref q)), some (.int many), some (.int most), some (.raw (.ref f)), some (.int (x : Nat)), some (.int za), some (.int zb), some (.int (2 + zc)), some (.raw (.ref lq)), t9, t10, t11, t12])) rfl (by simp) (by simp [sD, hal]) (fun w hw => by simp [hw])
          rw [dRows2_sD] at this
          exact this
        refine bl_setL 8 (EvL.lend (ys := (xl.zip x0).map fun p => .int ((2 + zc) * p.1 + p.2)) (evl_map2 (xs := xl.zip x0) (g1 := fun q => .int q.1) (g2 := fun q => .int q.2) (f := fun q => .int ((2 + zc) * q.1 + q.2)) 11 12 sc_law_table.nd (ei_zipT (xs := xl) (ys := x0) (gx := D.int) (gy := D.int) E.b_zip (ea_cons (ev_ixM (xs := xss) (g := dInts) (ev_var 3) (ev_neg ev_int) hxl1) (ea_cons (ev_ixM (xs := xss) (g := dInts) (ev_var 3) ev_int hx01) ea_nil))) (blkOk_by (N := N_law_table) (sc := defScope s_law_table) (by decide +kernel)) (fun _ _ _ _ _ => pg2 (pg_name sc_law_table.nd rfl (Or.inl rfl)) (pg_name sc_law_table.nd rfl (Or.inl rfl)))
          (fun y hy _ _ _ _ _ => ev_add (ev_mul (ev_var 7) (ev_var 11) (hzc.ok (htb.sm xl hxl2 y.1 (List.of_mem_zip hy).1) (by decide) (by unfold bigB; omega))) (ev_var 12))) hlent (by rw [List.all_map]; exact List.all_eq_true.mpr fun _ _ => rfl)) ?_
        rintro lq2 ys o ⟨rfl, rfl⟩
        refine bl_nil ⟨lq2, (xl.zip x0).map fun p => (2 + zc) * p.1 + p.2, p', _, _, _, _, ok', by simp [htb.len xl hxl2, htb.len x0 hx02], fun u hu => ?_, rfl, by rw [List.map_map]; rfl⟩
        obtain ⟨y, hy, rfl⟩ := List.mem_map.mp hu
        have s1 := hzc.mul (htb.sm xl hxl2 y.1 (List.of_mem_zip hy).1)
        have s2 := (htb.sm x0 hx02 y.2 (List.of_mem_zip hy).2).mono (show 134 + 4 * i ≤ 3 + (134 + 4 * i) by omega)
        exact (s1.add s2).mono (by omega)
      rintro r o ⟨lq, ls, p', t9, t10, t11, t12, ok', hll, hls, rfl, rfl⟩
      refine bl_ifS St (et_and2 (et_eqI (ev_var 5) ev_int) fun _ => et_lt (ev_var 1) ev_int) (fun hq => ?_) (fun hq => ⟨lq, ls, p', t9, t10, t11, t12, ok', hll, hls, rfl, rfl⟩) ?_
      · refine bl_lose (O1 := tabO q f p' as xss) (R := [Own.lst lq (ls.map D.int)]) (List.perm_append_comm (l₁ := [_])) ?_
        refine bl_setL 8 (evl_one (xs := List.range many) (gD := fun i : Nat => .int (i : Nat)) (I := fun j acc o => ∃ p' ls, acc = ls.map D.int ∧ ls.length = j ∧ SmL 134 ls ∧ OkP p' ∧ o = tabO q f p' as xss) 9 sc_law_table.nd (ei_rangeT E.b_range (ev_var 1) (by omega)) (blkOk_by (N := N_law_table) (sc := defScope s_law_table) (by decide +kernel)) (fun _ _ _ _ _ => pg_name sc_law_table.nd rfl (Or.inl rfl)) ⟨p', [], rfl, rfl, fun _ h => by simp at h, ok', rfl⟩ ?_) ?_
        · rintro j y acc Oj hy ⟨p', ls, rfl, hl, hs, ok', rfl⟩ s0 H0 C cl fp
          refine (evr_integer (q := q) (p := p') E (hr.mono (by decide)) ok' (ev_var 0)).mono ?_
          rintro d o ⟨v, p2, rfl, sv, ok2, rfl⟩
          refine ⟨p2, ls ++ [v], by simp, by simp [hl], fun u hu => ?_, ok2, rfl⟩
          rcases List.mem_append.mp hu with q1 | q1
          · exact hs u q1
          · have e : u = v := by simpa using q1
            rw [e]; exact sv
        rintro lq2 _ _ ⟨p2, ls2, rfl, hl2, hs2, ok2, rfl⟩
        rw [List.length_range] at hl2
        exact bl_nil ⟨lq2, ls2, p2, _, _, _, _, ok2, hl2, hs2.mono (by omega), rfl, rfl⟩
      rintro r o ⟨lq, ls, p', t9, t10, t11, t12, ok', hll, hls, rfl, rfl⟩
      refine bl_app (ys := refs as) (xs := refs as) 2 (ev_var 3) rfl (ev_var 8) rfl (by rw [refs, List.length_map, hal, hxl]; show i < 1000000; omega) ?_
      refine bl_perm (O1 := tabO q f p' (as ++ [lq]) (xss ++ [ls])) ?_ (bl_nil ⟨p', as ++ [lq], xss ++ [ls], _, _, _, _, _, _, _, _, _, rfl, rfl, ok', by simp [hal], by simp [hxl], (htb.mono (by omega)).snoc hll hls⟩)
      · have e1 : refs (as ++ [lq]) = refs as ++ [.raw (.ref lq)] := by simp [refs]
        have e2 : sD (xss ++ [ls]) = sD xss ++ [ls.map D.int] := by simp [sD]
        show (Own.lst lq (ls.map D.int) :: p'.own q :: Own.lst f (refs as ++ [.raw (.ref lq)]) :: rows as (sD xss)).Perm (p'.own q :: Own.lst f (refs (as ++ [lq])) :: rows (as ++ [lq]) (sD (xss ++ [ls])))
        rw [e1, e2]
        refine (List.Perm.swap _ _ _).trans ((List.Perm.swap _ _ _).cons _ |>.trans ?_)
        exact ((rows_snoc (by simp [sD, hal])).cons _).cons _
    · obtain ⟨p, as, xss, t4, t5, t6, t7, t8, t9, t10, t11, t12, rfl, rfl, okp, hal, hxl, htb⟩ := ho
      rw [List.length_range] at hxl htb
      exact bl_ret (ev_var 3) ⟨f, p, as, xss, rfl, rfl, okp, hal, by show xss.length ≤ most; omega, htb.mono (by show 134 + 4 * z.toNat ≤ 134 + 4 * most; omega)⟩
end
end Pr
namespace Pr
open PySem L2 GL
theorem rows_set {as : List Addr} {xss : List (List D)} {i : Nat} {a : Addr} {xs : List D} (h1 : as[i]? = some a) (h : as.length = xss.length) : (rows as xss).set i (Own.lst a xs) = rows as (xss.set i xs) := by
  unfold rows
  have hi : i < as.length := (List.getElem?_eq_some_iff.mp h1).1
  refine List.ext_getElem? fun j => ?_
  by_cases hj : i = j
  · subst hj
    have e1 : (as.zip (xss.set i xs))[i]? = some (a, xs) := List.getElem?_zip_eq_some.mpr ⟨h1, by rw [List.getElem?_set_self (by omega)]⟩
    rw [List.getElem?_set_self (by simp; omega), List.getElem?_map, e1]
    rfl
  · rw [List.getElem?_set_ne hj, List.getElem?_map, List.getElem?_map]
    congr 1
    have e3 : (xss.set i xs)[j]? = xss[j]? := List.getElem?_set_ne hj
    cases h4 : as[j]? with
    | none => rw [List.getElem?_eq_none (by simp; have := List.getElem?_eq_none_iff.mp h4; omega), List.getElem?_eq_none (by simp; have := List.getElem?_eq_none_iff.mp h4; omega)]
    | some b =>
      cases h5 : xss[j]? with
      | none =>
        have := List.getElem?_eq_none_iff.mp h5
        rw [List.getElem?_eq_none (by simp; omega), List.getElem?_eq_none (by simp; omega)]
      | some ys =>
        have e4 : (as.zip xss)[j]? = some (b, ys) := List.getElem?_zip_eq_some.mpr ⟨h4, h5⟩
        have e5 : (as.zip (xss.set i xs))[j]? = some (b, ys) := List.getElem?_zip_eq_some.mpr ⟨h4, by rw [e3]; exact h5⟩
        rw [e4, e5]
theorem dot_sm {k : Nat} : ∀ {xs s : List Int} {n : Nat}, SmL k xs → (∀ x ∈ s, x = 1 ∨ x = -1) → xs.length ≤ n → (dot xs s).natAbs ≤ n * 2 ^ k
  | [], s, n, _, _, _ => by simp [dot]
  | x :: xs, [], n, _, _, _ => by simp [dot]
  | x :: xs, y :: ys, 0, _, _, h => by simp at h
  | x :: xs, y :: ys, n + 1, h, hs, hl => by
    have ih := dot_sm (xs := xs) (s := ys) (n := n) (fun z hz => h z (List.mem_cons_of_mem _ hz)) (fun z hz => hs z (List.mem_cons_of_mem _ hz)) (by simpa using hl)
    have h1 : x.natAbs < 2 ^ k := h x List.mem_cons_self
    have e : dot (x :: xs) (y :: ys) = x * y + dot xs ys := by simp [dot]
    rw [e, Nat.add_mul]
    have h2 : (x * y).natAbs = x.natAbs := by
      rcases hs y List.mem_cons_self with rfl | rfl <;> simp
    have := Int.natAbs_add_le (x * y) (dot xs ys)
    omega
section
variable {P : Program} {w : World} {K : PySem.W.Frag} {mg : Str → Option Value} {base : Heap}
theorem tb_set {many k : Nat} {xss : List (List Int)} {i : Nat} {xs : List Int} (h : TbOk many k xss) (l : xs.length = many) (s : SmL k xs) : TbOk many k (xss.set i xs) :=
  ⟨fun ys hy => by
    rcases List.mem_or_eq_of_mem_set hy with q | q
    · exact h.len ys q
    · rw [q]; exact l, fun ys hy => by
    rcases List.mem_or_eq_of_mem_set hy with q | q
    · exact h.sm ys q
    · rw [q]; exact s⟩
theorem ok_law_signed_table (E : EnvP K mg base) : CalP P w K mg base "_law_signed_table" 4 ps_law_signed_table
    (spG K (fun i : Addr × Pot × Nat × Nat => OkP i.2.1 ∧ 1 ≤ i.2.2.1 ∧ i.2.2.1 ≤ 10 ∧ i.2.2.2 ≤ 6) (fun i => [.raw (.ref i.1), .int (i.2.2.1 : Nat), .int (i.2.2.2 : Nat)]) (fun i => [i.2.1.own i.1]) fun i d O' => TabR i.1 i.2.2.1 i.2.2.2 170 d O') :=
  E.cal_law_signed_table fun fd F => fn_G F sc_law_signed_table (fun _ => rfl) fun i hp cdv A outer s0 H hr => by
    obtain ⟨q, p, many, most⟩ := i
    obtain ⟨okp, hm1, hm2, hmo⟩ := hp
    simp only at okp hm1 hm2 hmo
    have hr1 : Rm 1 (A.deeper _) := hr.mono (show 1 ≤ 3 by decide)
    -- the signs
    have hsg : EvR (cxOf CX0 P w K mg base N_law_signed_table "_law_signed_table" (defScope s_law_signed_table) (He.fAd K ("_law_signed_table", none)) cdv A outer s0 H E0).nox (match defBody s_law_signed_table with | .Assign _ (.Tuple (e :: _) _ _) _ :: _ => e | _ => .Constant .none 0 ⟨0, 0, 0, 0⟩) [some (.raw (.ref q)), some (.int many), some (.int most), none, none, none, none, none] [p.own q]
        fun d o => ∃ ss p', d = dInts ss ∧ ss.length = many ∧ (∀ x ∈ ss, x = 1 ∨ x = -1) ∧ OkP p' ∧ o = [p'.own q] := by
      refine EvR.mono (evr_cat (xs := [.int 1]) (R := fun d o => ∃ ss p', d = dInts ss ∧ ss.length = many - 1 ∧ (∀ x ∈ ss, x = 1 ∨ x = -1) ∧ OkP p' ∧ o = [p'.own q]) (evn_lst (ds := [.int 1]) (ea_cons ev_int ea_nil)).ev
        (EvR.mono (EvL.rv (evl_one (xs := List.range (many - 1)) (gD := fun i : Nat => .int (i : Nat)) (I := fun j acc o => ∃ p' ls, acc = ls.map D.int ∧ ls.length = j ∧ (∀ x ∈ ls, x = 1 ∨ x = -1) ∧ OkP p' ∧ o = [p'.own q]) 5 sc_law_signed_table.nd (ei_rangeT E.b_range ((ev_sub (ev_var 1) ev_int).eq (by rw [show ((many : Int) - 1) = ((many - 1 : Nat) : Int) by omega])) (by omega)) (blkOk_by (N := N_law_signed_table) (sc := defScope s_law_signed_table) (by decide +kernel)) (fun _ _ _ _ _ => pg_name sc_law_signed_table.nd rfl (Or.inl rfl)) ⟨p, [], rfl, rfl, fun _ h => by simp at h, okp, rfl⟩ ?_)) ?_) fun d o h => ?_) ?_
      · rintro j y acc Oj hy ⟨p', ls, rfl, hl, hs, ok', rfl⟩ s1 H0 C cl fp
        obtain ⟨kd, ld, ud⟩ := dg_ok (m := 2) ok' (by decide)
        obtain ⟨v, hv1, hv2⟩ := atI_mem (ys := [(1 : Int), -1]) ld ud
        refine EvR.mono (Ev.r (ev_ixM (xs := [(1 : Int), -1]) (g := D.int) (evn_lst (ea_cons ev_int (ea_cons (ev_neg ev_int) ea_nil))).ev (ev_digit (q := q) (p := p') (m := 2) (R := []) E hr1 ok' (by decide) (by decide) (ev_var 0) ev_int) hv1)) ?_
        rintro d o ⟨rfl, rfl⟩
        refine ⟨_, ls ++ [v], by simp, by simp [hl], fun u hu => ?_, kd, rfl⟩
        rcases List.mem_append.mp hu with q1 | q1
        · exact hs u q1
        · have e : u = v := by simpa using q1
          subst e
          simpa using hv2
      · rintro d o ⟨xs, ⟨p', ls, rfl, hl, hs, ok', rfl⟩, rfl⟩
        rw [List.length_range] at hl
        exact ⟨ls, p', rfl, hl, hs, ok', rfl⟩
      · obtain ⟨ss, p', rfl, h1, _⟩ := h
        exact ⟨ss.map D.int, rfl, by rw [List.length_map]; show 1 + ss.length ≤ 1000000; omega⟩
      · rintro d o ⟨ys, ⟨ss, p', e1, h1, h2, h3, rfl⟩, rfl⟩
        cases e1
        refine ⟨1 :: ss, p', rfl, by simp [h1]; omega, fun x hx => ?_, h3, rfl⟩
        rcases List.mem_cons.mp hx with rfl | hx
        · exact .inl rfl
        · exact h2 x hx
    refine bl_parR 3 4 sc_law_signed_table.nd (ear_cons (Rs := fun ds o => ∃ ss p' f, ds = [dInts ss, .raw (.ref f)] ∧ ss.length = many ∧ (∀ x ∈ ss, x = 1 ∨ x = -1) ∧ OkP p' ∧ o = [Own.lst f [], p'.own q]) hsg fun d o ⟨ss, p', h1, h2, h3, h4, h5⟩ => by
      subst h1 h5
      refine ear_cons (evn_lst ea_nil).r fun d o ⟨f, h1, h5⟩ => ?_
      subst h1 h5
      exact fun B H σ hO hS Q k => ea_nil B H σ hO hS Q fun vs B' H' n r => k _ _ vs B' H' ⟨ss, p', f, rfl, h2, h3, h4, rfl⟩ n r) ?_
    rintro ds o ⟨ss, p, f, rfl, hsl, hss, okp, rfl⟩
    refine ⟨_, _, rfl, ?_⟩
    have ssm : SmL 1 ss := fun x hx => by
      rcases hss x hx with rfl | rfl <;> (unfold Sm; decide)
    refine bl_perm (O1 := [p.own q, Own.lst f []]) (List.Perm.swap _ _ _) ?_
    obtain ⟨ka, la, ua⟩ := dg_ok (m := 3) okp (by decide)
    generalize hpa : (dg p 3).2 = pa at ka
    generalize hza : (dg p 3).1 = za at la ua
    refine bl_set 6 sc_law_signed_table.nd (ev_eqI ((ev_digit (q := q) (p := p) (m := 3) (R := [Own.lst f []]) E hr1 okp (by decide) (by decide) (ev_var 0) ev_int).eq2 (by rw [hza]) (by rw [hpa])) ev_int) ?_
    refine bl_forR (tg := .Name "line" _) (g := gName 7) PassesOwn.never rfl (eir_list (evr_call (Rx := [Own.lst f []]) (q, pa, many, most) (ok_law_table E) hr ⟨ka, hm1, hm2, by show most ≤ 10; omega⟩ (ea_cons (ev_var 0) (ea_cons (ev_var 1) (ea_cons (ev_var 2) ea_nil))) (.refl _)) (Rs := fun ds o => ∃ p as xss, ds = refs as ∧ OkP p ∧ as.length = xss.length ∧ xss.length ≤ most ∧ TbOk many (134 + 4 * most) xss ∧ o = tabO q f p [] [] ++ rows as (sD xss)) ?_) (pg_name sc_law_signed_table.nd rfl (Or.inl rfl)) ?_
    · rintro d o ⟨o', ⟨f2, p2, as, xss, rfl, rfl, h1, h2, h3, h4⟩, rfl⟩
      refine ⟨f2, refs as, tabO q f p2 [] [] ++ rows as (sD xss), rfl, ?_, p2, as, xss, rfl, h1, h2, h3, h4, rfl⟩
      show (p2.own q :: Own.lst f2 (refs as) :: (rows as (sD xss) ++ [Own.lst f []])).Perm (Own.lst f2 (refs as) :: p2.own q :: Own.lst f [] :: rows as (sD xss))
      exact (List.Perm.swap _ _ _).trans (((List.perm_append_comm (l₂ := [Own.lst f []])).cons _).cons _)
    rintro ds o ⟨p, as, xss, rfl, okp, hal, hxl, htb, rfl⟩
    refine ⟨fun i r o => ∃ p yss t7, r = [some (.raw (.ref q)), some (.int many), some (.int most), some (dInts ss), some (.raw (.ref f)), none, some (.bl (decide (za = 0))), t7] ∧ OkP p ∧ yss.length = xss.length ∧ TbOk many 170 yss ∧ (∀ j ys, i ≤ j → yss[j]? = some ys → xss[j]? = some ys) ∧ o = p.own q :: Own.lst f (refs (as.take i)) :: rows as (sD yss),
      ⟨p, xss, none, rfl, okp, rfl, htb.mono (by omega), fun _ _ _ h => h, rfl⟩, fun i d r o hd hI => ?_, fun r o hI => ?_⟩
    · obtain ⟨p, yss, t7, rfl, okp, hyl, hyb, hyx, rfl⟩ := hI
      rw [refs, List.getElem?_map] at hd
      obtain ⟨a, ha, rfl⟩ : ∃ a, as[i]? = some a ∧ d = .raw (.ref a) := by
        cases q : as[i]? with
        | none => rw [q] at hd; cases hd
        | some a => rw [q] at hd; cases hd; exact ⟨a, rfl, rfl⟩
      have hia : i < as.length := (List.getElem?_eq_some_iff.mp ha).1
      have hi : i < yss.length := by omega
      have hy : yss[i]? = some yss[i] := List.getElem?_eq_getElem hi
      generalize yss[i] = ys at hy
      have hym := List.mem_of_getElem? hy
      have hx := hyx i ys (Nat.le_refl _) hy
      have hxm := List.mem_of_getElem? hx
      have hysm := htb.sm ys hxm
      have hyln := htb.len ys hxm
      refine ⟨_, [7], gok_name 7, ?_⟩
      let St : Ro → List Own → Prop := fun r o => ∃ p zs, r = [some (.raw (.ref q)), some (.int many), some (.int most), some (dInts ss), some (.raw (.ref f)), none, some (.bl (decide (za = 0))), some (.raw (.ref a))] ∧ OkP p ∧ zs.length = many ∧ SmL 170 zs ∧ o = p.own q :: Own.lst f (refs (as.take i)) :: rows as (sD (yss.set i zs))
      have hcond : ∃ c p2, OkP p2 ∧ Et (cxOf CX0 P w K mg base N_law_signed_table "_law_signed_table" (defScope s_law_signed_table) (He.fAd K ("_law_signed_table", none)) cdv A outer s0 H E0).nox (match (defBody s_law_signed_table) with | _ :: _ :: .For _ _ (.If c _ _ _ :: _) _ _ :: _ => c | _ => .Constant .none 0 ⟨0, 0, 0, 0⟩) [some (.raw (.ref q)), some (.int many), some (.int most), some (dInts ss), some (.raw (.ref f)), none, some (.bl (decide (za = 0))), some (.raw (.ref a))] (p.own q :: Own.lst f (refs (as.take i)) :: rows as (sD yss)) c (p2.own q :: Own.lst f (refs (as.take i)) :: rows as (sD yss)) := by
        by_cases h0 : za = 0
        · obtain ⟨kb, _, _⟩ := dg_ok (m := 3) okp (by decide)
          exact ⟨_, _, kb, et_orF ((et_not (Ev.et (ev_var 6))).eq (by simp [h0])) (et_gt (ev_digit (q := q) (p := p) (m := 3) E hr1 okp (by decide) (by decide) (ev_var 0) ev_int) ev_int)⟩
        · exact ⟨_, p, okp, et_orT ((et_not (Ev.et (ev_var 6))).eq (by simp [h0]))⟩
      obtain ⟨c, p2, ok2, hcond⟩ := hcond
      have hset : yss.set i ys = yss := by
        refine List.ext_getElem? fun j => ?_
        by_cases hj : i = j
        · subst hj; rw [List.getElem?_set_self hi, hy]
        · rw [List.getElem?_set_ne hj]
      have hrow : (p2.own q :: Own.lst f (refs (as.take i)) :: rows as (sD yss))[i + 2]? = some (Own.lst a (ys.map D.int)) := by
        show (rows as (sD yss))[i]? = _
        exact rows_get ha (by rw [sD, List.getElem?_map, hy]; rfl)
      refine bl_ifS St hcond (fun hq => ?_) (fun hq => ⟨p2, ys, rfl, ok2, hyln, hysm.mono (by omega), by rw [hset]⟩) ?_
      · have h0 : atI (ys.map D.int) 0 = some (.int (ys.getD 0 0)) := by
          have := atI_map (g := D.int) (atI_in (xs := ys) (i := 0) (d := 0) (by decide) (by omega))
          simpa using this
        have hd1 : Ev (cxOf CX0 P w K mg base N_law_signed_table "_law_signed_table" (defScope s_law_signed_table) (He.fAd K ("_law_signed_table", none)) cdv A outer s0 H E0).nox (match (defBody s_law_signed_table) with | _ :: _ :: .For _ _ (.If _ (.Assign _ (.BinOp _ _ e _) _ :: _) _ _ :: _) _ _ :: _ => e | _ => .Constant .none 0 ⟨0, 0, 0, 0⟩) [some (.raw (.ref q)), some (.int many), some (.int most), some (dInts ss), some (.raw (.ref f)), none, some (.bl (decide (za = 0))), some (.raw (.ref a))] (p2.own q :: Own.lst f (refs (as.take i)) :: rows as (sD yss)) (.int (dot ys ss)) (p2.own q :: Own.lst f (refs (as.take i)) :: rows as (sD yss)) :=
          Ev.lend (ρ' := [some (.raw (.ref q)), some (.int many), some (.int most), some (dInts ss), some (.raw (.ref f)), none, some (.bl (decide (za = 0))), some (dInts ys)]) (ev_callV (ys, ss) (ok_law_dot E) hr1 ⟨_, 1, hysm, ssm, by unfold bigB; omega, by decide⟩ (ea_cons (ev_var 7) (ea_cons (ev_var 3) ea_nil)))
            (Lent.own (ρ' := [some (.raw (.ref q)), some (.int many), some (.int most), some (dInts ss), some (.raw (.ref f)), none, some (.bl (decide (za = 0))), some (.raw (.ref a))]) 7 .refl rfl (List.mem_of_getElem? hrow)) rfl
        refine bl_put (i := 0) (j := 0) (i + 2) (ev_sub (ev_ixO (i + 2) (ev_var 7) (ev_int (i := 0)) hrow h0) hd1) (ev_var 7) (ev_int (i := 0)) hrow (by unfold ixN; rw [List.length_map, if_pos (by decide), if_pos (by omega)]; rfl) (bl_nil ⟨p2, ys.set 0 (ys.getD 0 0 - dot ys ss), rfl, ok2, by rw [List.length_set]; exact hyln, fun u hu => ?_, ?_⟩)
        · rcases List.mem_or_eq_of_mem_set hu with q1 | q1
          · exact (hysm u q1).mono (by omega)
          · rw [q1]
            have d1 := dot_sm (n := 10) hysm hss (by omega)
            have d2 : Sm (134 + 4 * most + 4) (dot ys ss) := by
              unfold Sm
              rw [Nat.pow_add]
              have : 0 < 2 ^ (134 + 4 * most) := Nat.two_pow_pos _
              omega
            exact (((hysm.get 0).mono (by omega)).sub d2).mono (by omega)
        · show p2.own q :: Own.lst f (refs (as.take i)) :: (rows as (sD yss)).set i (Own.lst a ((ys.map D.int).set 0 (.int (ys.getD 0 0 - dot ys ss)))) = _
          rw [rows_set ha (by simp [sD, hal, hyl])]
          congr 3
          simp [sD, List.map_set]
      rintro r o ⟨p3, zs, rfl, ok3, hz1, hz2, rfl⟩
      refine bl_app (ys := refs (as.take i)) (xs := refs (as.take i)) 1 (ev_var 4) rfl (ev_var 7) rfl (by rw [refs, List.length_map, List.length_take]; show _ < 1000000; omega) (bl_nil ⟨p3, yss.set i zs, _, rfl, ok3, by rw [List.length_set]; exact hyl, tb_set hyb hz1 hz2, fun j ws hj hw => ?_, ?_⟩)
      · rw [List.getElem?_set_ne (by omega)] at hw
        exact hyx j ws (by omega) hw
      · show [p3.own q, Own.lst f (refs (as.take i) ++ [.raw (.ref a)])] ++ rows as (sD (yss.set i zs)) = _
        rw [List.take_succ, ha]
        simp [refs]
    · obtain ⟨p, yss, t7, rfl, okp, hyl, hyb, hyx, rfl⟩ := hI
      have e : as.take (refs as).length = as := by rw [refs, List.length_map, List.take_length]
      rw [e]
      exact bl_ret (ev_var 4) ⟨f, p, as, yss, rfl, rfl, okp, by omega, by show yss.length ≤ most; omega, hyb⟩
end
end Pr
namespace Pr
open PySem L2 GL
/-! ### rows that are completed -/
theorem sgn_head : ∀ {i : Nat} {s : List Int}, s ∈ sgn i → s.getD 0 0 = 1
  | 0, s, h => by
    have : s = [1] := by simpa [sgn] using h
    subst this; rfl
  | i + 1, s, h => by
    obtain ⟨r, h1, h2⟩ := List.mem_flatMap.mp h
    have ih := sgn_head h1
    have hl := (sgn_mem h1).1
    have : s = r ++ [1] ∨ s = r ++ [-1] := by simpa [sx] using h2
    cases r with
    | nil => simp at hl
    | cons x r =>
      rcases this with rfl | rfl <;> simpa using ih
theorem cmR_comb {n j : Nat} {s : List Int} (hj : 1 ≤ j) (hn : j < n) : cmR n s j = comb 1 (uv n j 1) (-(s.getD j 0)) (uv n 0 1) := by
  have hl : (uv n j 1).length = (uv n 0 1).length := by rw [uv_len, uv_len]
  refine vec_ext (by rw [cmR_len, comb_len hl, uv_len]) fun i hi => ?_
  rw [cmR_len] at hi
  rw [comb_get hl, uv_get hi, uv_get hi]
  unfold cmR
  by_cases h : i = 0
  · subst h
    rw [getD_lt (by rw [List.length_set, uv_len]; exact hi)]
    have : ¬ (0 = j) := by omega
    simp [this]
  · rw [getD_lt (by rw [List.length_set, uv_len]; exact hi), List.getElem_set_ne (by omega)]
    have e := uv_get (n := n) (i := j) (f := 1) hi
    rw [getD_lt (by rw [uv_len]; exact hi)] at e
    rw [e]
    simp [h]
theorem dot_cmR {n j : Nat} {s x : List Int} (hj : 1 ≤ j) (hn : j < n) (hx : x.length = n) : dot x (cmR n s j) = x.getD j 0 - s.getD j 0 * x.getD 0 0 := by
  rw [dot_comm, cmR_comb hj hn, dot_comb (by rw [uv_len, uv_len]), dot_uv hx hn, dot_uv hx (by omega), Int.one_mul, Int.neg_mul, Int.sub_eq_add_neg]
/-- what is orthogonal to all is a multiple of s -/
structure OneS (n : Nat) (tk : List (List Int)) (s : List Int) : Prop where
  len : s.length = n
  head : s.getD 0 0 = 1
  ent : ∀ x ∈ s, x = 1 ∨ x = -1
  zero : ∀ y ∈ tk, dot s y = 0
  all : ∀ x : List Int, x.length = n → (∀ y ∈ tk, dot x y = 0) → ∀ j, j < n → x.getD j 0 = s.getD j 0 * x.getD 0 0
theorem cmF_sub {n : Nat} {xss : List (List Int)} {s : List Int} : ∀ {i j : Nat}, i ≤ j → ∀ r ∈ cmF n xss s i, r ∈ cmF n xss s j
  | i, 0, h, r, hr => by
    have : i = 0 := by omega
    subst this; exact hr
  | i, j + 1, h, r, hr => by
    rcases Nat.lt_or_ge i (j + 1) with q | q
    · have ih := cmF_sub (i := i) (j := j) (by omega) r hr
      show r ∈ (if _ then _ else _)
      split
      · exact ih
      · exact List.mem_append_left _ ih
    · have : i = j + 1 := by omega
      subst this; exact hr
theorem knB_iff {n : Nat} {xss : List (List Int)} {r : List Int} : knB n xss r = true ↔ Kn n xss r := by
  classical
  unfold knB
  simp
theorem cmF_new {n : Nat} {xss : List (List Int)} {s : List Int} : ∀ (i j : Nat) (r : List Int), (cmF n xss s i)[j]? = some r → ¬ Kn n (xss ++ (cmF n xss s i).take j) r
  | 0, j, r, h => by simp [cmF] at h
  | i + 1, j, r, h => by
    have ih := cmF_new (n := n) (xss := xss) (s := s) i j r
    unfold cmF at h ⊢
    split at h
    · rename_i hk
      rw [if_pos hk]
      exact ih h
    · rename_i hk
      rw [if_neg hk]
      rcases Nat.lt_or_ge j (cmF n xss s i).length with q | q
      · rw [List.getElem?_append_left q] at h
        rw [List.take_append_of_le_length (by omega)]
        exact ih h
      · rw [List.getElem?_append_right q] at h
        have e : j - (cmF n xss s i).length = 0 := by
          rcases Nat.eq_zero_or_pos (j - (cmF n xss s i).length) with z | z
          · exact z
          · rw [List.getElem?_eq_none (by simp; omega)] at h; cases h
        rw [e] at h
        have hr : cmR n s (i + 1) = r := by simpa using h
        have ej : j = (cmF n xss s i).length := by omega
        subst hr
        rw [ej, List.take_left]
        exact fun z => hk (knB_iff.mpr z)
theorem cmF_one {n : Nat} {xss : List (List Int)} {s : List Int} (hn : 1 ≤ n) (hs : s ∈ sgn (n - 1)) (ho : orth xss s) : OneS n (xss ++ cmF n xss s (n - 1)) s := by
  obtain ⟨s1, s2⟩ := sgn_mem hs
  have hl : s.length = n := by omega
  have hh := sgn_head hs
  refine ⟨hl, hh, s2, fun y hy => ?_, fun x hx h0 j hj => ?_⟩
  · rcases List.mem_append.mp hy with q | q
    · rw [dot_comm]; exact ho y q
    · obtain ⟨j, hj, rfl⟩ := cmF_mem q
      rw [dot_cmR (by omega) (by omega) hl, hh]; omega
  · by_cases h : j = 0
    · subst h; rw [hh, Int.one_mul]
    · have hr : dot x (cmR n s j) = 0 := by
        obtain ⟨i, rfl⟩ : ∃ i, j = i + 1 := ⟨j - 1, by omega⟩
        by_cases hk : knB n (xss ++ cmF n xss s i) (cmR n s (i + 1)) = true
        · refine knB_iff.mp hk x hx fun y hy => h0 y ?_
          rcases List.mem_append.mp hy with q | q
          · exact List.mem_append_left _ q
          · exact List.mem_append_right _ (cmF_sub (by omega) y q)
        · refine h0 _ (List.mem_append_right _ (cmF_sub (i := i + 1) (by omega) _ ?_))
          show _ ∈ (if _ then _ else _)
          rw [if_neg hk]; simp
      rw [dot_cmR (by omega) hj hx] at hr
      omega
/-- nothing is left -/
theorem cmF_none {n : Nat} {tk : List (List Int)} {s s' : List Int} (hn : 1 ≤ n) (h : OneS n tk s) (hs' : s' ∈ sgn (n - 1)) (ho : orth tk s') : ∀ i, i ≤ n - 1 → cmF n tk s' i = [] := fun i => by
  obtain ⟨s1, s2⟩ := sgn_mem hs'
  have hl : s'.length = n := by omega
  have hh := sgn_head hs'
  induction i with
  | zero => intro _; rfl
  | succ i ih =>
    intro hi
    have ih := ih (by omega)
    show (if _ then _ else _) = _
    rw [ih, List.append_nil]
    have : knB n tk (cmR n s' (i + 1)) = true := knB_iff.mpr fun x hx h0 => by
      have e1 := h.all s' hl (fun y hy => by rw [dot_comm]; exact ho y hy) (i + 1) (by omega)
      have e2 := h.all x hx h0 (i + 1) (by omega)
      rw [dot_cmR (by omega) (by omega) hx, e2, e1, hh]
      grind
    rw [if_pos this]
theorem spn_nil {n : Nat} {x : List Int} (h : Spn n (fun z => z ∈ ([] : List (List Int))) x) : x = zeros n := by
  induction h with
  | gen g => cases g
  | zero => rfl
  | comb a b _ _ h1 h2 =>
    rw [h1, h2]
    refine vec_ext (by rw [comb_len rfl]) fun j _ => ?_
    rw [comb_get rfl, zeros_get]; simp
theorem spn_one {n : Nat} {u x : List Int} (hu : u.length = n) (h : Spn n (fun z => z ∈ [u]) x) : ∃ d : Int, ∀ j, x.getD j 0 = d * u.getD j 0 := by
  have : x.length = n ∧ ∃ d : Int, ∀ j, x.getD j 0 = d * u.getD j 0 := by
    induction h with
    | @gen z g =>
      have : z = u := by simpa using g
      subst this
      exact ⟨hu, 1, fun j => by simp⟩
    | zero => exact ⟨zeros_len, 0, fun j => by rw [zeros_get]; simp⟩
    | comb a b _ _ h1 h2 =>
      obtain ⟨l1, d, hd⟩ := h1
      obtain ⟨l2, e, he⟩ := h2
      have hl := l1.trans l2.symm
      refine ⟨by rw [comb_len hl, l1], a * d + b * e, fun j => ?_⟩
      rw [comb_get hl, hd, he]; grind
  exact this.2
/-- the law's kernel has one row, of entries 1 and -1 -/
theorem LkI.one {n S : Nat} {tk vs : List (List Int)} {s : List Int} (h : LkI n S tk vs) (o : OneS n tk s) (hn : 1 ≤ n) (hn2 : n ≤ 16) (hl : ∀ x ∈ tk, x.length = n) (hs : ∀ x ∈ tk, SmL S x) : ∃ u, vs = [u] ∧ ∀ x ∈ u, x.natAbs = 1 := by
  have hsv := h.all o.len o.zero
  obtain ⟨E, e1, e2, e3⟩ := h.ex
  have hle : vs.length ≤ 1 := by
    refine Classical.byContradiction fun hgt => ?_
    obtain ⟨x, x1, x2, x3, _⟩ := siegel (n := n) (S := S + 1) (l := 4) (A := E ++ [uv n 0 1]) (by rw [List.length_append]; simp; omega) (fun a ha => by
      rcases List.mem_append.mp ha with q | q
      · exact (hs a (e2 a q)).mono (by omega)
      · have : a = uv n 0 1 := by simpa using q
        subst this
        exact uv_sm.mono (by omega)) hn2
    have hx := e3 x x1 fun e he => by rw [dot_comm]; exact x3 e (List.mem_append_left _ he)
    have h0 : x.getD 0 0 = 0 := by
      have := x3 (uv n 0 1) (by simp)
      rwa [dot_uv x1 (by omega)] at this
    have hort : ∀ y ∈ tk, dot x y = 0 := fun y hy => hx.orth h.len fun u hu => h.zero u hu y hy
    refine x2 (vec_ext (by rw [x1, zeros_len]) fun j hj => ?_)
    rw [o.all x x1 hort j (by omega), h0, zeros_get]; simp
  match hv : vs, hle with
  | [], _ =>
    have := spn_nil hsv
    have hh := o.head
    rw [this, zeros_get] at hh
    omega
  | [u], _ =>
    refine ⟨u, rfl, fun x hx => ?_⟩
    have hu := h.len u (by simp)
    obtain ⟨d, hd⟩ := spn_one hu hsv
    have hall := o.all u hu (h.zero u (by simp))
    have h0 := hd 0
    rw [o.head] at h0
    have hc : (u.getD 0 0).natAbs = 1 := by
      have := congrArg Int.natAbs h0
      rw [Int.natAbs_mul] at this
      exact Nat.eq_one_of_mul_eq_one_left this.symm
    obtain ⟨j, hj, e⟩ := List.getElem_of_mem hx
    have h3 := hall j (by omega)
    rw [getD_lt hj, e] at h3
    rw [h3, Int.natAbs_mul, hc, Nat.mul_one]
    have hjs : j < s.length := by rw [o.len]; omega
    have := o.ent (s.getD j 0) (by rw [getD_lt hjs]; exact List.getElem_mem _)
    omega
section
variable {P : Program} {w : World} {K : PySem.W.Frag} {mg : Str → Option Value} {base : Heap}
structure CsIn where
  tk : List (List Int)
  n : Nat
  fs : List (List Int)
  s : List Int
structure CsPre (i : CsIn) : Prop where
  n : 1 ≤ i.n ∧ i.n ≤ 10
  len : ∀ x ∈ i.tk, x.length = i.n
  sm : ∀ x ∈ i.tk, SmL 200 x
  fl : ∀ x ∈ i.fs, x.length = i.n
  fm : ∀ x ∈ i.fs, SmL 1 x
  cnt : i.tk.length + i.fs.length ≤ 100
  new : ∀ (j : Nat) r, i.fs[j]? = some r → ¬ Kn i.n (i.tk ++ i.fs.take j) r
  one : OneS i.n (i.tk ++ i.fs) i.s
theorem ok_law_completes (E : EnvP K mg base) (ht : P.given.tree = none) : CalP P w K mg base "_law_completes" 39 ps_law_completes
    (spV K CsPre (fun i => [dRows2 i.tk, .int i.n, dRows2 i.fs]) fun _ => .bl true) :=
  E.cal_law_completes fun fd F => fn_G F sc_law_completes (fun _ => rfl) fun i hp cdv A outer s0 H hr => by
    obtain ⟨tk, n, fs, s⟩ := i
    obtain ⟨⟨h1, h2⟩, hlen, hsm, hfl, hfm, hcn, hnew, hone⟩ := hp
    simp only at h1 h2 hlen hsm hfl hfm hcn hnew hone
    refine bl_ifF (et_not (ev_isi E.b_isinstance E.b_list boot_list (ev_var (d := dRows2 fs) 2) rfl kit_ll).et) (bl_nil ?_)
    refine bl_setN 3 sc_law_completes.nd (evn_listL E.b_list (ev_var (d := dRows2 tk) 0)) fun q => ?_
    have hlk : ∀ i, LkPre ⟨tk ++ fs.take i, n, 200⟩ := fun i => ⟨⟨h1, h2⟩, fun x hx => by
      rcases List.mem_append.mp hx with h | h
      · exact hlen x h
      · exact hfl x (List.mem_of_mem_take h), fun x hx => by
      rcases List.mem_append.mp hx with h | h
      · exact hsm x h
      · exact (hfm x (List.mem_of_mem_take h)).mono (show 1 ≤ 200 by decide), by show 200 ≤ 265; decide⟩
    refine bl_for1 (xs := fs) (gD := dInts) 4 (fun i r o => ∃ t4, r = [some (dRows2 tk), some (.int n), some (dRows2 fs), some (.raw (.ref q)), t4, none, none] ∧ o = [Own.lst q ((tk ++ fs.take i).map dInts)]) PassesOwn.never sc_law_completes.nd (ei_list (ev_var 2)) ⟨none, rfl, by simp⟩ (fun i x r o hx ho => ?_) (fun r o ho => ?_)
    · obtain ⟨t4, rfl, rfl⟩ := ho
      have hxm := List.mem_of_getElem? hx
      have hnk : knB n (tk ++ fs.take i) x = false := by
        cases h : knB n (tk ++ fs.take i) x with
        | false => rfl
        | true => exact absurd (knB_iff.mp h) (hnew i x hx)
      refine bl_ifF (Et.lend (ρ' := [some (dRows2 tk), some (.int n), some (dRows2 fs), some (dRows2 (tk ++ fs.take i)), some (dInts x), none, none]) ((ew_or (p := false) (q := false) (et_not (p := true) (ev_isi E.b_isinstance E.b_list boot_list (ev_var (d := dInts x) 4) rfl kit_ll).et) fun _ => ew_or (p := false) (q := false) ((et_neI (ev_lenL E.b_len (ev_var 4)) (ev_var 1)).eq (by rw [List.length_map, hfl x hxm]; simp)) fun _ => ew_or1 ((ev_callV (⟨tk ++ fs.take i, n, 200⟩, x) (ok_law_is_known E ht) hr ⟨hlk i, hfl x hxm, (hfm x hxm).mono (by decide)⟩ (ea_cons (ev_var 3) (ea_cons (ev_var 1) (ea_cons (ev_var 4) ea_nil)))).et.eq hnk)).et)
        (Lent.own (ρ' := [some (dRows2 tk), some (.int n), some (dRows2 fs), some (.raw (.ref q)), some (dInts x), none, none]) 3 .refl rfl List.mem_cons_self)) (bl_nil ?_)
      refine bl_app (ys := (tk ++ fs.take i).map dInts) (xs := (tk ++ fs.take i).map dInts) 0 (ev_var 3) rfl (ev_var (d := dInts x) 4) rfl (by rw [List.length_map, List.length_append, List.length_take]; have e : lim = 1000000 := rfl; omega) ?_
      refine bl_nil ⟨_, rfl, ?_⟩
      have etk : fs.take (i + 1) = fs.take i ++ [x] := by rw [List.take_succ, hx, Option.toList_some]
      rw [etk, ← List.append_assoc, List.map_append (l₂ := [x])]
      rfl
    · obtain ⟨t4, rfl, rfl⟩ := ho
      rw [List.take_length]
      refine bl_freezeL 3 (.refl _) rfl ?_
      have hlk' := hlk fs.length
      rw [List.take_length] at hlk'
      refine bl_setR 5 sc_law_completes.nd (evr_call (Rx := []) (⟨tk ++ fs, n, 200⟩ : LkIn) (ok_law_kernel E ht) (hr.mono (by decide)) hlk' (ea_cons (ev_var (d := dRows2 (tk ++ fs)) 3) (ea_cons (ev_var 1) ea_nil)) (.refl _)) ?_
      rintro d o ⟨o', ⟨rfl, vs, rfl, hK⟩, rfl⟩
      obtain ⟨u, rfl, hu⟩ := hK.one hone h1 (Nat.le_trans h2 (by decide)) hlk'.len hlk'.sm
      refine bl_ret (d := .bl true) (O1 := []) ((ev_and2 (p := true) (q := true) ((ev_eqI (ev_lenL E.b_len (ev_var (d := dRows2 [u]) 5)) ev_int).eq (by simp)) fun _ => (ev_allM (xs := u) (f := fun _ => true) E.b_all ((EvL.ev (evl_map1 (xs := u) (gD := D.int) (f := fun x => .bl true) 6 sc_law_completes.nd (ei_list (ev_ixL (d := dInts u) (ev_var (d := dRows2 [u]) 5) ev_int rfl)) (blkOk_by (N := N_law_completes) (sc := defScope s_law_completes) (by decide +kernel)) (fun _ _ _ _ _ => pg_name sc_law_completes.nd rfl (Or.inl rfl))
        (fun x hx _ _ _ _ _ => (ev_eqI (ev_abs E.b_abs (ev_var 6)) ev_int).eq (by
          have := hu x hx
          have e : (if x < 0 then -x else x) = 1 := by split <;> omega
          rw [e]; simp)))))).eq (by simp)).eq rfl) ⟨rfl, rfl⟩
end
end Pr
namespace Pr
open PySem L2 GL
/-! ### repr of rows -/
theorem show_ints : ∀ {xs : List Int}, SmL 170 xs → PyData.showableAll (xs.map PyData.int) = true ∧ PyData.leavesShortAll 200 (xs.map PyData.int) = true ∧ PyData.hasDictAll (xs.map PyData.int) = false ∧ PyData.weightAll (xs.map PyData.int) ≤ 172 * xs.length
  | [], _ => ⟨rfl, rfl, rfl, Nat.zero_le _⟩
  | x :: xs, h => by
    obtain ⟨h1, h2, h3, h4⟩ := show_ints (xs := xs) (fun z hz => h z (List.mem_cons_of_mem _ hz))
    have hx := (h x List.mem_cons_self).log
    have l1 : (PyData.shown (.int x)).length ≤ 200 := by
      show (Str.ofString (toString x)).length ≤ 200
      rw [ofString_length]
      have := int_text_length_le (a := x) (k := 171) (by decide) (by omega)
      omega
    refine ⟨?_, ?_, ?_, ?_⟩
    · rw [List.map_cons, PyData.showableAll, h1, PyData.showable]
      simp; omega
    · rw [List.map_cons, PyData.leavesShortAll, h2, PyData.leavesShort]
      simp [l1]
    · rw [List.map_cons, PyData.hasDictAll, h3]; rfl
    · rw [List.map_cons, PyData.weightAll, List.length_cons]
      have : PyData.weight (.int x) ≤ 171 := by
        rw [PyData.weight]
        split <;> omega
      omega
theorem show_rows {many : Nat} : ∀ {xss : List (List Int)}, TbOk many 170 xss → PyData.showableAll (xss.map fun xs => .list (xs.map PyData.int)) = true ∧ PyData.leavesShortAll 200 (xss.map fun xs => .list (xs.map PyData.int)) = true ∧ PyData.hasDictAll (xss.map fun xs => .list (xs.map PyData.int)) = false ∧ PyData.weightAll (xss.map fun xs => .list (xs.map PyData.int)) ≤ (172 * many + 1) * xss.length
  | [], _ => ⟨rfl, rfl, rfl, Nat.zero_le _⟩
  | x :: xs, h => by
    obtain ⟨h1, h2, h3, h4⟩ := show_rows (xss := xs) ⟨fun z hz => h.len z (List.mem_cons_of_mem _ hz), fun z hz => h.sm z (List.mem_cons_of_mem _ hz)⟩
    obtain ⟨g1, g2, g3, g4⟩ := show_ints (h.sm x List.mem_cons_self)
    have gl := h.len x List.mem_cons_self
    refine ⟨?_, ?_, ?_, ?_⟩
    · rw [List.map_cons, PyData.showableAll, h1, PyData.showable, g1]; rfl
    · rw [List.map_cons, PyData.leavesShortAll, h2, PyData.leavesShort, g2]; rfl
    · rw [List.map_cons, PyData.hasDictAll, h3, PyData.hasDict, g3]; rfl
    · rw [List.map_cons, PyData.weightAll, List.length_cons, PyData.weight, Nat.mul_add]
      rw [gl] at g4
      omega
theorem py_ints {xs : List Int} : pyD (dInts xs) = .list (xs.map PyData.int) := by
  show PyData.list (pyDs (xs.map D.int)) = _
  rw [pyDs_ints]
section
variable {X : Cx} {ρ : Ro} {O O1 : List Own} {a : Expr} {pos p : Pos} {k : Nat}
theorem ev_reprInts {xs : List Int} (hr : Rm k X.A) (M : X.mg "repr" = none) (ha : Ev X a ρ O (dInts xs) O1) (hs : SmL 170 xs) (hl : xs.length ≤ 100)
    (hg : Gl X "repr" := by rfl) (he : starEach [a] X.env = [(false, eval a X.env)] := by rfl) : Ev X (.Call (.Name "repr" p) [a] [] pos) ρ O (.str (pyD (dInts xs)).shown) O1 := by
  obtain ⟨h1, h2, h3, h4⟩ := show_ints hs
  refine ev_reprD hr M ha deeps_ints ?_ ?_ ?_ ?_ ⟨_, rfl⟩ hg he
  · rw [py_ints, PyData.showable, h1]
  · rw [py_ints, PyData.hasDict, h3]
  · rw [py_ints, PyData.depth, dep_ints]; decide
  · rw [py_ints]
    have := PyData.shown_le 200 (by decide) (.list (xs.map PyData.int)) (by rw [PyData.leavesShort, h2])
    have e : PyData.weight (.list (xs.map PyData.int)) ≤ 172 * 100 := by rw [PyData.weight]; omega
    have e2 : (200 + 2) * PyData.weight (.list (xs.map PyData.int)) ≤ (200 + 2) * (172 * 100) := Nat.mul_le_mul_left _ e
    rw [sizeLine_eq]
    omega
theorem ev_reprRows {xss : List (List Int)} {many : Nat} (hr : Rm k X.A) (M : X.mg "repr" = none) (ha : Ev X a ρ O (dRows2 xss) O1) (hs : TbOk many 170 xss) (hm : many ≤ 10) (hl : xss.length ≤ 6)
    (hg : Gl X "repr" := by rfl) (he : starEach [a] X.env = [(false, eval a X.env)] := by rfl) : Ev X (.Call (.Name "repr" p) [a] [] pos) ρ O (.str (pyD (dRows2 xss)).shown) O1 := by
  obtain ⟨h1, h2, h3, h4⟩ := show_rows hs
  refine ev_reprD hr M ha deeps_rows ?_ ?_ ?_ ?_ ⟨_, rfl⟩ hg he
  · rw [py_rows, PyData.showable, h1]
  · rw [py_rows, PyData.hasDict, h3]
  · rw [py_rows, PyData.depth]
    have := dep_rows (xss := xss)
    omega
  · rw [py_rows]
    have := PyData.shown_le 200 (by decide) (.list (xss.map fun xs => .list (xs.map PyData.int))) (by rw [PyData.leavesShort, h2])
    have e : PyData.weight (.list (xss.map fun xs => .list (xs.map PyData.int))) ≤ 1721 * 6 := by
      rw [PyData.weight]
      refine Nat.le_trans h4 (Nat.mul_le_mul (by omega) hl)
    have e2 : (200 + 2) * PyData.weight (.list (xss.map fun xs => .list (xs.map PyData.int))) ≤ (200 + 2) * (1721 * 6) := Nat.mul_le_mul_left _ e
    rw [sizeLine_eq]
    omega
end
section
variable {P : Program} {w : World} {K : PySem.W.Frag} {mg : Str → Option Value} {base : Heap}
theorem dot_zero_orth {xss : List (List Int)} {s : List Int} : (xss.all fun xs => decide (dot xs s = 0)) = true ↔ orth xss s := by
  rw [List.all_eq_true]
  exact ⟨fun h xs hx => by simpa using h xs hx, fun h xs hx => by simpa using h xs hx⟩
def hasS (n : Nat) (xss : List (List Int)) : Bool := (sgl (n - 1)).any fun s => xss.all fun xs => decide (dot xs s = 0)
theorem hasS_iff {n : Nat} {xss : List (List Int)} : hasS n xss = true ↔ ∃ s ∈ sgn (n - 1), orth xss s := by
  unfold hasS
  rw [List.any_eq_true]
  constructor
  · rintro ⟨s, h1, h2⟩
    exact ⟨s, sgl_mem.mp h1, dot_zero_orth.mp h2⟩
  · rintro ⟨s, h1, h2⟩
    exact ⟨s, sgl_mem.mpr h1, dot_zero_orth.mpr h2⟩
theorem shown_nil : (pyD (.lst [])).shown = ("[]" : Str) := by decide +kernel
theorem ok_law_right (E : EnvP K mg base) (ht : P.given.tree = none) : CalP P w K mg base "_law_right" 46 ps_law_right
    (spG K (fun i : Addr × Pot => OkP i.2) (fun i => [.raw (.ref i.1)]) (fun i => [i.2.own i.1]) fun i d O' => d = .bl true ∧ O' = []) :=
  E.cal_law_right fun fd F => fn_G F sc_law_right (fun _ => rfl) fun i hp cdv A outer s0 H hr => by
    obtain ⟨q, p⟩ := i
    simp only at hp
    have hr1 : Rm 1 (A.deeper _) := hr.mono (show 1 ≤ 45 by decide)
    have hmany : ∃ (n : Nat) (p2 : Pot), 1 ≤ n ∧ n ≤ 10 ∧ OkP p2 ∧ Ev (cxOf CX0 P w K mg base N_law_right "_law_right" (defScope s_law_right) (He.fAd K ("_law_right", none)) cdv A outer s0 H E0).nox (match defBody s_law_right with | .Assign _ e _ :: _ => e | _ => .Constant .none 0 ⟨0, 0, 0, 0⟩) [some (.raw (.ref q)), none, none, none, none, none, none, none, none] [p.own q] (.int (n : Nat)) [p2.own q] := by
      obtain ⟨ka, la, ua⟩ := dg_ok (m := 8) hp (by decide)
      by_cases h : (dg p 8).1 = 7
      · exact ⟨10, (dg p 8).2, by decide, by decide, ka, (ev_if (p := true) (d1 := .int 10) (d2 := .non) (O3 := []) ((et_eqI (ev_digit (q := q) (p := p) (m := 8) (R := []) E hr1 hp (by decide) (by decide) (ev_var 0) ev_int) ev_int).eq (by simp [h])) (fun _ => ev_int) fun z => by cases z).eq2 rfl rfl⟩
      · obtain ⟨kb, lb, ub⟩ := dg_ok (m := 7) ka (by decide)
        refine ⟨(1 + (dg (dg p 8).2 7).1).toNat, (dg (dg p 8).2 7).2, by omega, by omega, kb, (ev_if (p := false) (d1 := .non) (d2 := .int (1 + (dg (dg p 8).2 7).1)) (O2 := []) ((et_eqI (ev_digit (q := q) (p := p) (m := 8) (R := []) E hr1 hp (by decide) (by decide) (ev_var 0) ev_int) ev_int).eq (by simp [h])) (fun z => by cases z) fun _ => ev_add ev_int (ev_digit (q := q) (p := (dg p 8).2) (m := 7) (R := []) E hr1 ka (by decide) (by decide) (ev_var 0) ev_int)).eq2 (by rw [Int.toNat_of_nonneg (by omega)]; rfl) rfl⟩
    obtain ⟨n, p2, hn1, hn2, ok2, hmany⟩ := hmany
    refine bl_set 1 sc_law_right.nd hmany ?_
    refine bl_setR 2 sc_law_right.nd (evr_call (Rx := []) (q, p2, n, 6) (ok_law_signed_table E) (hr.mono (by decide)) ⟨ok2, hn1, hn2, Nat.le_refl 6⟩ (ea_cons (ev_var 0) (ea_cons (ev_var 1) (ea_cons ev_int ea_nil))) (.refl _)) ?_
    rintro d o ⟨o', ⟨f, p3, as, xss, rfl, rfl, ok3, hal, hxl, htb⟩, rfl⟩
    have hxl : xss.length ≤ 6 := hxl
    have htb : TbOk n 170 xss := htb
    refine bl_freezeT 2 (Rx := [p3.own q]) (q := f) (as := as) (xss := sD xss) (by simp [sD, hal]) (by
      show (p3.own q :: Own.lst f (refs as) :: rows as (sD xss) ++ []).Perm (Own.lst f (refs as) :: rows as (sD xss) ++ [p3.own q])
      rw [List.append_nil]
      exact List.perm_append_comm (l₁ := [p3.own q])) rfl ?_
    rw [dRows2_sD]
    refine bl_lose (O1 := []) (.refl _) ?_
    have sgsm : ∀ {s : List Int}, s ∈ sgl (n - 1) → SmL 1 s ∧ s.length = n := fun {s} h => by
      obtain ⟨h1, h2⟩ := sgn_mem (sgl_mem.mp h)
      exact ⟨fun x hx => by rcases h2 x hx with rfl | rfl <;> (unfold Sm; decide), by omega⟩
    refine bl_set 3 sc_law_right.nd (ev_anyM (xs := sgl (n - 1)) (f := fun s => xss.all fun xs => decide (dot xs s = 0)) E.b_any (EvL.ev (evl_map1 (xs := sgl (n - 1)) (gD := dInts) (f := fun s => .bl (xss.all fun xs => decide (dot xs s = 0))) 5 sc_law_right.nd (ei_list (ev_callV n (ok_law_signs E) hr1 ⟨hn1, hn2⟩ (ea_cons (ev_var 1) ea_nil))) (blkOk_by (N := N_law_right) (sc := defScope s_law_right) (by decide +kernel)) (fun _ _ _ _ _ => pg_name sc_law_right.nd rfl (Or.inr rfl))
      (fun s hs s1 H1 C1 cl1 fp1 => (ev_allM E.b_all (EvL.ev (evl_map1 (xs := xss) (gD := dInts) (f := fun xs => .bl (decide (dot xs s = 0))) 4 sc_law_right.nd (ei_list (ev_var 2)) (blkOk_by (N := N_law_right) (by rfl)) (fun _ _ _ _ _ => pg_name sc_law_right.nd rfl (Or.inl rfl))
        (fun xs hx _ _ _ _ _ => ev_eqI (ev_callV (xs, s) (ok_law_dot E) hr1 ⟨170, 1, htb.sm xs hx, (sgsm hs).1, by decide, by decide⟩ (ea_cons (ev_var 4) (ea_cons (ev_var 5) ea_nil))) ev_int)))))))) ?_
    refine bl_set 6 sc_law_right.nd (ev_reprRows hr E.b_repr (ev_var 2) htb hn2 hxl) ?_
    show Bl _ _ [some (.raw (.ref q)), some (.int n), some (dRows2 xss), some (.bl (hasS n xss)), none, none, some (.str (pyD (dRows2 xss)).shown), none, none] [] _
    refine bl_for1 (xs := [(false, false), (true, true), (false, false)]) (gD := fun tt : Bool × Bool => dRows tt.1 tt.2 xss) 7 (fun i r o => o = [] ∧ ∃ t4 t5 t7 t8, r = [some (.raw (.ref q)), some (.int n), some (dRows2 xss), some (.bl (hasS n xss)), t4, t5, some (.str (pyD (dRows2 xss)).shown), t7, t8]) PassesOwn.never sc_law_right.nd
      (ei_tup (ev_tup (ds := [dRows false false xss, dRows true true xss, dRows false false xss]) (ea_cons (ev_var 2) (ea_cons (ev_tupleL E.b_tuple ((EvL.ev (evl_map1 (xs := xss) (gD := dInts) (f := sInts true) 4 sc_law_right.nd (ei_list (ev_var 2)) (blkOk_by (N := N_law_right) (sc := defScope s_law_right) (by decide +kernel)) (fun _ _ _ _ _ => pg_name sc_law_right.nd rfl (Or.inl rfl)) (fun xs hx _ _ _ _ _ => ev_tupleL E.b_tuple (ev_var 4)))))) (ea_cons (ev_var 2) ea_nil)))))
      ⟨rfl, none, none, none, none, rfl⟩ (fun i x r o hx ho => ?_) (fun r o ho => ?_)
    · obtain ⟨rfl, t4, t5, t7, t8, rfl⟩ := ho
      refine bl_setR 8 sc_law_right.nd (evr_callK (OI := fun _ => []) (⟨x.1, x.2, xss, n, 170⟩ : ElIn) (ok_completing_rows E ht) (hr.mono (by decide)) ⟨⟨hn1, hn2⟩, by show xss.length ≤ 800; omega, htb.len, htb.sm, by show 170 ≤ 264; decide⟩ (ea_cons (ev_var 7) ea_nil) (ek_cons (ev_var 1) ek_nil) rfl (.refl _)) ?_
      rintro d o ⟨o', hcase, rfl⟩
      rcases hcase with ⟨rfl, rfl, hno⟩ | ⟨f2, as2, s, rfl, hsm, hor, hal2, rfl⟩
      · have hS : hasS n xss = false := by
          cases h : hasS n xss with
          | false => rfl
          | true =>
            obtain ⟨s, h1, h2⟩ := hasS_iff.mp h
            exact absurd h2 (hno s h1)
        rw [hS]
        refine bl_ifF ((et_eqB (ev_isN (d := .non) (ev_var 8)) (ev_var 3)).eq rfl) (bl_nil ?_)
        refine bl_ifF (et_andF (ev_var 3).et) (bl_nil ?_)
        refine bl_ifF (et_andF (et_notN (d := .non) (ev_var 8))) (bl_nil ?_)
        exact bl_ifF (et_andF (et_notN (d := .non) (ev_var 8))) (bl_nil (bl_nil ⟨rfl, _, _, _, _, rfl⟩))
      · have hsm : s ∈ sgn (n - 1) := hsm
        have hor : orth xss s := hor
        have hS : hasS n xss = true := hasS_iff.mpr ⟨s, hsm, hor⟩
        rw [hS, List.append_nil]
        have hone := cmF_one hn1 hsm hor
        have hcl := cmF_len (n := n) (xss := xss) (s := s) (i := n - 1)
        have ssm : SmL 1 s := fun x hx => by
          rcases (sgn_mem hsm).2 x hx with rfl | rfl <;> (unfold Sm; decide)
        have hcf : ∀ r ∈ cmF n xss s (n - 1), r.length = n ∧ SmL 1 r := fun r hr => by
          obtain ⟨j, _, rfl⟩ := cmF_mem hr
          exact ⟨cmR_len, cmR_sm ssm⟩
        have hnew := cmF_new (n := n) (xss := xss) (s := s) (n - 1)
        show Bl _ _ [some (.raw (.ref q)), some (.int n), some (dRows2 xss), some (.bl true), t4, t5, some (.str (pyD (dRows2 xss)).shown), some (dRows x.1 x.2 xss), some (.raw (.ref f2))] (Own.lst f2 (refs as2) :: rows as2 (sD (cmF n xss s (n - 1)))) _
        have hal2 : as2.length = (cmF n xss s (n - 1)).length := hal2
        generalize cmF n xss s (n - 1) = fs at hone hcl hcf hnew hal2
        have lp : ∀ {X : Cx} (_ : X.K = K), Lent X.K (Own.lst f2 (refs as2) :: rows as2 (sD fs)) [some (.raw (.ref q)), some (.int n), some (dRows2 xss), some (.bl true), t4, t5, some (.str (pyD (dRows2 xss)).shown), some (dRows x.1 x.2 xss), some (.raw (.ref f2))] [some (.raw (.ref q)), some (.int n), some (dRows2 xss), some (.bl true), t4, t5, some (.str (pyD (dRows2 xss)).shown), some (dRows x.1 x.2 xss), some (dRows2 fs)] := fun {X} _ => by
          have := Lent.own2 (X := X) (ρ := [some (.raw (.ref q)), some (.int n), some (dRows2 xss), some (.bl true), t4, t5, some (.str (pyD (dRows2 xss)).shown), some (dRows x.1 x.2 xss), some (.raw (.ref f2))]) (O := Own.lst f2 (refs as2) :: rows as2 (sD fs)) (q := f2) (as := as2) (xss := sD fs) 8 .refl rfl List.mem_cons_self (by simp [sD, hal2]) (fun w hw => List.mem_cons_of_mem _ hw)
          have e : ((sD fs).map D.lst) = fs.map dInts := by unfold sD; rw [List.map_map]; rfl
          rw [e] at this
          exact this
        refine bl_ifF ((et_eqB (ev_isN (d := .raw (.ref f2)) (ev_var 8)) (ev_var 3)).eq rfl) (bl_nil ?_)
        refine bl_ifF (et_andT (ev_var 3).et (Et.lend (et_not (p := true) (ev_callV (⟨xss, n, fs, s⟩ : CsIn) (ok_law_completes E ht) (hr.mono (by decide)) ⟨⟨hn1, hn2⟩, htb.len, fun y hy => (htb.sm y hy).mono (by decide), fun y hy => (hcf y hy).1, fun y hy => (hcf y hy).2, by show xss.length + fs.length ≤ 100; omega, hnew, hone⟩ (ea_cons (ev_var 2) (ea_cons (ev_var 1) (ea_cons (ev_var 8) ea_nil)))).et) (lp rfl))) (bl_nil ?_)
        refine bl_ifF (et_andT (et_notN (d := .raw (.ref f2)) (ev_var 8)) (Et.lend (q := false) ((et_neS (i := ("[]" : Str)) (j := ("[]" : Str)) ((ev_reprD hr E.b_repr (EvR.ev (d := .lst []) (O1 := []) (EvR.val (R := fun d o => ∃ q3, d = .raw (.ref q3) ∧ o = [Own.lst q3 []]) (R' := fun d o => d = .lst [] ∧ o = []) (EvR.mono (evr_callK (OI := fun _ => []) (Rx := []) (⟨false, false, xss ++ fs, n, 170⟩ : ElIn) (ok_completing_rows E ht) (hr.mono (by decide)) ⟨⟨hn1, hn2⟩, by show (xss ++ fs).length ≤ 800; rw [List.length_append]; omega, ?_, ?_, by show 170 ≤ 264; decide⟩
            (ea_cons ((evn_cat (ev_var (d := dRows2 xss) 2) (ev_var (d := dRows2 fs) 8) ?_).ev.eq ?_) ea_nil) (ek_cons (ev_var 1) ek_nil) rfl (.refl _)) ?_) ?_)) rfl rfl rfl (by decide) (by rw [shown_nil]; decide) ⟨_, rfl⟩).eq (by rw [shown_nil])) ev_str).eq (by decide)) (lp rfl))) (bl_nil ?_)
        · intro y hy
          rcases List.mem_append.mp hy with h | h
          · exact htb.len y h
          · exact (hcf y h).1
        · intro y hy
          rcases List.mem_append.mp hy with h | h
          · exact htb.sm y h
          · exact (hcf y h).2.mono (show 1 ≤ 170 by decide)
        · rw [List.length_map, List.length_map]
          have e : lim = 1000000 := rfl
          omega
        · show D.lst _ = D.lst _
          rw [List.map_append]; rfl
        · rintro d o ⟨o', hc, rfl⟩
          rcases hc with ⟨_, _, hno⟩ | ⟨q3, as3, s3, rfl, hs3, ho3, hl3, rfl⟩
          · exact absurd (fun y hy => by rw [dot_comm]; exact hone.zero y hy) (hno s hsm)
          · have hs3 : s3 ∈ sgn (n - 1) := hs3
            have ho3 : orth (xss ++ fs) s3 := ho3
            have e := cmF_none hn1 hone hs3 ho3 (n - 1) (Nat.le_refl _)
            have hl3 : as3.length = (cmF n (xss ++ fs) s3 (n - 1)).length := hl3
            rw [e] at hl3
            have : as3 = [] := List.eq_nil_of_length_eq_zero hl3
            subst this
            exact ⟨q3, rfl, by rw [List.append_nil]; rfl⟩
        · rintro d o ⟨q3, rfl, rfl⟩
          exact ⟨q3, [], [], rfl, .refl _, ⟨rfl, rfl⟩⟩
        cases fs with
        | nil =>
          refine bl_ifF (et_andT (et_notN (d := .raw (.ref f2)) (ev_var 8)) (Et.lend ((et_rowsN (xss := []) hr (ev_var 8)).eq rfl) (lp rfl))) (bl_nil ?_)
          exact bl_lose (O1 := []) (.refl _) (bl_nil ⟨rfl, _, _, _, _, rfl⟩)
        | cons f fs =>
          obtain ⟨a0, as', rfl⟩ : ∃ a0 as', as2 = a0 :: as' := by
            cases as2 with
            | nil => simp at hal2
            | cons a0 as' => exact ⟨a0, as', rfl⟩
          refine bl_ifT (et_andT (et_notN (d := .raw (.ref f2)) (ev_var 8)) (Et.lend ((et_rowsN (xss := f :: fs) hr (ev_var 8)).eq rfl) (lp rfl))) ?_
          refine bl_clear (xs := f.map D.int) (q := a0) 1 (ev_ixO 0 (ev_var 8) ev_int rfl (show atI (refs (a0 :: as')) ((0 : Nat) : Int) = _ from atI_nat rfl)) rfl ?_
          exact bl_nil (bl_lose (O1 := []) (.refl _) (bl_nil ⟨rfl, _, _, _, _, rfl⟩))
    · obtain ⟨rfl, t4, t5, t7, t8, rfl⟩ := ho
      exact bl_ret ((ev_eqS (ev_reprRows hr E.b_repr (ev_var 2) htb hn2 hxl) (ev_var 6)).eq (by rw [decide_eq_true rfl])) ⟨rfl, rfl⟩
theorem ok_law (E : EnvP K mg base) (ht : P.given.tree = none) (fd : FuncData) (F : FunD K "law" "law" (defArgs s_law) (defBody s_law) (defScope s_law) [] (d_law.kws K) (He.fAd K ("law", none)) fd) : FnG P w K mg base CX0 47 (He.fAd K ("law", none)) fd ps_law
    (spG K (fun i : Addr × List Int => i.2.length ≤ 63 ∧ ∀ z ∈ i.2, Builtin.Int.intBits z ≤ 1048576) (fun i => [.raw (.ref i.1)]) (fun i => [Own.scr i.1 i.2]) fun i d O' => d = .bl true) :=
  fn_G F sc_law (fun _ => rfl) fun i hp cdv A outer s0 H hr => by
    obtain ⟨p, ns⟩ := i
    have hk : ∀ B H, OSt K [Own.scr p ns] B H → SqL K H p (ns.map V.int) := fun B H hO => Same.sqL hO.ext (hO.all _ List.mem_cons_self)
    have hlen : ns.length ≤ 63 := hp.1
    obtain ⟨v, hv, hv2⟩ : ∃ v : Nat, v ≤ 63 ∧ (v : Int) = (if (if (4 : Int) < ((ns.map V.int).length : Int) then 4 else ((ns.map V.int).length : Int)) > 1 then (if (4 : Int) < ((ns.map V.int).length : Int) then 4 else ((ns.map V.int).length : Int)) else 1) := by
      rw [List.length_map]
      refine ⟨(if (if (4 : Int) < (ns.length : Int) then 4 else (ns.length : Int)) > 1 then (if (4 : Int) < (ns.length : Int) then 4 else (ns.length : Int)) else 1).toNat, ?_, ?_⟩ <;> (split <;> (try split) <;> omega)
    refine bl_ret ((ev_all (xs := List.replicate v true) E.b_all (EvL.ev ((evl_one (xs := List.range v) (gD := fun i : Nat => .int (i : Nat)) (I := fun j acc o => acc = (List.replicate j true).map D.bl ∧ o = [Own.scr p ns]) 1 sc_law.nd
      (ei_rangeT E.b_range ((ev_max2 E.b_max (ea_cons ev_int (ea_cons (ev_min2 E.b_min (ea_cons (ev_lenS E.b_len (ev_var 0) hk) (ea_cons ev_int ea_nil))) ea_nil))).eq (by rw [hv2])) (by omega))
      (blkOk_by (N := N_law) (sc := defScope s_law) (by decide +kernel)) (fun _ _ _ _ _ => pg_name sc_law.nd rfl (Or.inl rfl)) ⟨rfl, rfl⟩ ?_).mono fun ys o h => by rw [List.length_range] at h; exact h))).eq (by simp)) rfl
    rintro j y acc Oj hy ⟨rfl, rfl⟩ s1 H1 C1 cl1 fp1
    have hy2 : y ≤ 1000 := by
      obtain ⟨h1, h2⟩ := List.getElem?_eq_some_iff.mp hy
      simp at h1 h2
      omega
    refine evr_callA (Ra := fun ds o => ∃ q pt, ds = [.raw (.ref q)] ∧ o = [Pot.own q pt, Own.scr p ns] ∧ OkP pt) (ok_law_right E ht) hr (ear_cons (evr_call (Rx := []) (p, ns, y) (ok_law_pot E) (hr.mono (by decide)) hy2 (ea_cons (ev_var 0) (ea_cons (ev_var 1) ea_nil)) (.refl _)) fun d o ⟨o', ⟨q, pt, h1, h2, h3⟩, h4⟩ => ?_) ?_
    · subst h1 h2 h4
      exact fun B H σ hO hS Q k => ea_nil B H σ hO hS Q fun vs B' H' n r => k _ _ vs B' H' ⟨q, pt, rfl, by rw [List.append_nil], h3⟩ n r
    · rintro ds o ⟨q, pt, rfl, rfl, h3⟩
      refine ⟨(q, pt), [Own.scr p ns], rfl, h3, .refl _, ?_⟩
      rintro d o' ⟨rfl, rfl⟩
      exact ⟨by rw [List.replicate_succ', List.map_append]; rfl, rfl⟩
end
end Pr
namespace Pr
open PySem PySem.Spec PyProof.Rows L2 GL
abbrev RR : PySem.W.OpenRow := PySem.W.OpenLaw.row PySem.Challenge.rw_sumaudit_k84_whole_completing_rows
abbrev hk : PySem.W.Hook := He.hookD 5 fa fn
def ob (s : PySem.W.SharedT) : He.AlD := He.obsDG 5 fa fn (HandSHeadRun.getT s)
theorem ob_eq (s : PySem.W.SharedT) : ob s = hk.obs s.abs := He.obsDG_eq (HandSHeadRun.getT_eq s)
def loose0 : List PySem.Str := ["__name__", "AuditError", "InvalidWidth", "InvalidRows", "InvalidRow", "InvalidIndex", "InvalidValue", "__name__", "is_integer", "__name__", "MAX_WIDTH", "are_integers", "is_width", "require_width", "is_row", "require_row", "require_rows", "require_index", "product", "unit_row", "__name__", "extended_divisor", "summed", "Elimination", "eliminated", "normal_form", "__name__", "smallest_index", "nearest_quotient", "kernel_step"]
def loose1 : List PySem.Str := ["kernel_rows", "__name__", "all_known", "is_known", "__name__", "MAX_SIGN_WIDTH", "require_sign_width", "all_signs", "sign_shift", "completing_rows", "__name__", "_law_pot", "_law_digit", "_law_pick", "_law_integer", "_law_dot", "_law_halved", "_law_kernel", "_law_is_known", "_law_table", "_law_signs", "_law_signed_table", "_law_completes", "_law_right"]
def loose : List PySem.Str := loose0 ++ loose1
theorem run (w : World) : HandSHeadRun.RunEq RR (PySem.W.view RR.prog [54]) hk ob 6000 loose w := by
  intro os
  kernel_rfl
theorem law_end {P : Program} {w : World} {K : PySem.W.Frag} {h : Heap} {mg : Str → Option Value} {f : Addr} (X : K.In h) (G : h.Ns mainGlobals mg) (hfa : mg ("law" : Str) = some (.ref f)) (c : He.SaysD fa fn K) (ht : P.given.tree = none) :
    ∃ fd : FuncData, (∀ (s : Shared) (u : Value), BindsTo s fd ⟨[u], []⟩ [("script", u)]) ∧ ∀ base : Heap, K.In base → base.Ns mainGlobals mg → base.NoSeer → FnG P w K mg base CX0 47 f fd ["script"]
      (spG K (fun i : Addr × List Int => i.2.length ≤ 63 ∧ ∀ z ∈ i.2, Builtin.Int.intBits z ≤ 1048576) (fun i => [.raw (.ref i.1)]) (fun i => [Own.scr i.1 i.2]) fun i d _ => d = .bl true) := by
  obtain ⟨fd, F⟩ := c.def_ 47 (d := d_law) rfl
  have e := hfa.symm.trans (He.glo_ok X G (c.fact 37 (f := .glo "law") rfl))
  cases e
  have b := FunD.bindsA (ps := ["script"]) F fun _ _ _ _ _ _ us hl => match us, hl with | [_], _ => rfl
  exact ⟨fd, fun s v => b s [v] rfl, fun base k1 k2 k3 => ok_law ⟨c, k1, k2, k3⟩ ht fd F⟩
end Pr
open PySem PySem.W PySem.Calls PyProof.Rows
theorem PySem.Challenge.cw_sumaudit_k84_whole_completing_rows_holds : PySem.Challenge.rw_sumaudit_k84_whole_completing_rows.Holds := by
  w_on; o_law
  refine HandSHeadRun.head_any (r := OpenLaw.row PySem.Challenge.rw_sumaudit_k84_whole_completing_rows) (q := view (OpenLaw.row PySem.Challenge.rw_sumaudit_k84_whole_completing_rows).prog [54]) (H := Pr.hk) (ob := Pr.ob) (M := 6000) (loose := Pr.loose) (d := HandSHeadRun.topDef (OpenLaw.row PySem.Challenge.rw_sumaudit_k84_whole_completing_rows).prog 54) (kwd := []) Pr.ob_eq
    (by kernel_rfl) (fun s => by kernel_rfl) Pr.run (by kernel_rfl) (by kernel_rfl) (by kernel_rfl) (by rfl) (by first | assumption | decide +kernel) (by decide +kernel) ⟨rfl, rfl, rfl, rfl, rfl, by decide +kernel⟩ ?hw ?hc
  case hw => w_witness2
  case hc =>
    refine GL.walk_G (l := PySem.Challenge.rw_sumaudit_k84_whole_completing_rows) (n := 63) (k := 47) (x := "script") rfl (by decide) (by kernel_rfl) ⟨⟨rfl, by decide, by decide⟩, rfl⟩ (by kernel_rfl) ?F
    intro w mg fa h Y G hmg0
    obtain ⟨K, KX, c⟩ := Y
    have hmg : mg ("law" : PySem.Str) = some (.ref fa) := by
      have e : (HandSHeadRun.topDef (OpenLaw.row PySem.Challenge.rw_sumaudit_k84_whole_completing_rows).prog 54).name = ("law" : PySem.Str) := by kernel_rfl
      rw [← e]
      exact hmg0
    obtain ⟨fd, hb, hF⟩ := Pr.law_end (P := (PySem.Challenge.rw_sumaudit_k84_whole_completing_rows).prog) (w := w) KX G hmg c rfl
    exact ⟨K, fd, KX, hb, hF⟩
