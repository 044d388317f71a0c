import PyProof.Rows.All
import Wide.All
import OpenK.AllK
import Wide.FinOn
import HandS.Words
import HandS.Comp
import HandS.Iter
import HandS.Exc
import HandS.ExcOwn
import HandS.TryOnly
import HandS.Dict
import HandS.Text
import HandS.Defaults
import HandS.HeadHook2
import HandS.Wide
import HandS.IsInst
import HandS.WordsExc
import HandS.ExcIs
import HandS.HeadEnd
import HandS.HeadHook4
import HandS.Head2
import HandS.Ends
import HandS.Style
import HandS.Deep
import PySem.Challenge.RW_hall_k03_totals_and_means
set_option Elab.async false
set_option linter.all false
set_option maxRecDepth 100000
set_option maxHeartbeats 4000000
namespace My
open PySem L2 PySem.Spec
/-! ## pure data over the abstract heap -/
inductive Dt where
  | non | bl (b : Bool) | int (i : Int) | str (s : Str)
  | tup (l : List Dt) | lst (l : List Dt)
  | dic (l : List (Key × Dt))
  | v (x : V)
mutual
inductive Rp (K : PySem.W.Frag) (G : Hp) : V → Dt → Prop
  | non : Rp K G .non .non
  | bl (b : Bool) : Rp K G (.bl b) (.bl b)
  | int (i : Int) : Rp K G (.int i) (.int i)
  | str (s : Str) : Rp K G (.str s) (.str s)
  | tup {a : Addr} {vs : List V} {ds : List Dt} : SqT K G a vs → RpA K G vs ds → Rp K G (.ref a) (.tup ds)
  | lst {a : Addr} {vs : List V} {ds : List Dt} : SqL K G a vs → RpA K G vs ds → Rp K G (.ref a) (.lst ds)
  | dic {a : Addr} {kvs : List (Key × V)} {ds : List (Key × Dt)} : Rd G a (.dK kvs) → RpK K G kvs ds → Rp K G (.ref a) (.dic ds)
  | v (x : V) : Rp K G x (.v x)
inductive RpA (K : PySem.W.Frag) (G : Hp) : List V → List Dt → Prop
  | nil : RpA K G [] []
  | cons {x : V} {xs : List V} {d : Dt} {ds : List Dt} : Rp K G x d → RpA K G xs ds → RpA K G (x :: xs) (d :: ds)
inductive RpK (K : PySem.W.Frag) (G : Hp) : List (Key × V) → List (Key × Dt) → Prop
  | nil : RpK K G [] []
  | cons {k : Key} {x : V} {xs : List (Key × V)} {d : Dt} {ds : List (Key × Dt)} : Rp K G x d → RpK K G xs ds → RpK K G ((k, x) :: xs) ((k, d) :: ds)
end
theorem Same.tseq {K : PySem.W.Frag} {H H' : Hp} {a : Addr} {xs : List V} (e : Same H H') (h : SqT K H a xs) : SqT K H' a xs := by
  rcases h with (h | ⟨o, h⟩) | h
  · exact .inl (.inl (e _ _ h))
  · exact .inl (.inr ⟨o, e _ _ h⟩)
  · exact .inr h
theorem Same.rd {H H' : Hp} {a : Addr} {u : HO} (e : Same H H') (h : Rd H a u) : Rd H' a u := by
  rcases h with h | ⟨o, h⟩
  · exact .inl (e _ _ h)
  · exact .inr ⟨o, e _ _ h⟩
section
variable {K : PySem.W.Frag} {G G' : Hp}
mutual
theorem Rp.mono (s : Same G G') : ∀ (d : Dt) (x : V), Rp K G x d → Rp K G' x d
  | .non, _, h => by cases h; exact .non
  | .bl b, _, h => by cases h; exact .bl b
  | .int i, _, h => by cases h; exact .int i
  | .str z, _, h => by cases h; exact .str z
  | .v x, _, h => by cases h; exact .v x
  | .tup l, _, h => by
    cases h with
    | tup q r => exact .tup (Same.tseq s q) (RpA.mono s l _ r)
  | .lst l, _, h => by
    cases h with
    | lst q r => exact .lst (Same.seq s q) (RpA.mono s l _ r)
  | .dic l, _, h => by
    cases h with
    | dic q r => exact .dic (Same.rd s q) (RpK.mono s l _ r)
theorem RpA.mono (s : Same G G') : ∀ (ds : List Dt) (xs : List V), RpA K G xs ds → RpA K G' xs ds
  | [], _, h => by cases h; exact .nil
  | d :: ds, _, h => by
    cases h with
    | cons q r => exact .cons (Rp.mono s d _ q) (RpA.mono s ds _ r)
theorem RpK.mono (s : Same G G') : ∀ (ds : List (Key × Dt)) (xs : List (Key × V)), RpK K G xs ds → RpK K G' xs ds
  | [], _, h => by cases h; exact .nil
  | (k, d) :: ds, _, h => by
    cases h with
    | cons q r => exact .cons (Rp.mono s d _ q) (RpK.mono s ds _ r)
end
theorem Rp.up {x : V} {d : Dt} (h : Rp K G x d) (s : Same G G') : Rp K G' x d := Rp.mono s d x h
theorem RpA.up {x : List V} {d : List Dt} (h : RpA K G x d) (s : Same G G') : RpA K G' x d := RpA.mono s d x h
theorem RpK.up {x : List (Key × V)} {d : List (Key × Dt)} (h : RpK K G x d) (s : Same G G') : RpK K G' x d := RpK.mono s d x h
theorem RpA.length : ∀ {xs : List V} {ds : List Dt}, RpA K G xs ds → xs.length = ds.length
  | _, _, .nil => rfl
  | _, _, .cons _ t => congrArg (· + 1) (RpA.length t)
theorem RpA.get : ∀ {xs : List V} {ds : List Dt} {i : Nat} {d : Dt}, RpA K G xs ds → ds[i]? = some d → ∃ x, xs[i]? = some x ∧ Rp K G x d
  | _, _, _, _, .nil, e => by simp at e
  | _, _, 0, _, .cons r _, e => by
    simp at e
    subst e
    exact ⟨_, rfl, r⟩
  | _, _, i + 1, d, .cons _ t, e => by
    obtain ⟨u, h1, h2⟩ := RpA.get (i := i) (d := d) t (by simpa using e)
    exact ⟨u, by simpa using h1, h2⟩
theorem RpA.getV : ∀ {xs : List V} {ds : List Dt} {i : Nat} {x : V}, RpA K G xs ds → xs[i]? = some x → ∃ d, ds[i]? = some d ∧ Rp K G x d
  | _, _, _, _, .nil, e => by simp at e
  | _, _, 0, _, .cons r _, e => by
    simp at e
    subst e
    exact ⟨_, rfl, r⟩
  | _, _, i + 1, d, .cons _ t, e => by
    obtain ⟨u, h1, h2⟩ := RpA.getV (i := i) (x := d) t (by simpa using e)
    exact ⟨u, by simpa using h1, h2⟩
theorem RpA.append : ∀ {xs ys : List V} {ds es : List Dt}, RpA K G xs ds → RpA K G ys es → RpA K G (xs ++ ys) (ds ++ es)
  | _, _, _, _, .nil, s => s
  | _, _, _, _, .cons r t, s => .cons r (RpA.append t s)
theorem RpA.take : ∀ {xs : List V} {ds : List Dt} (n : Nat), RpA K G xs ds → RpA K G (xs.take n) (ds.take n)
  | _, _, 0, _ => .nil
  | _, _, _ + 1, .nil => .nil
  | _, _, n + 1, .cons r t => .cons r (RpA.take n t)
theorem RpA.drop : ∀ {xs : List V} {ds : List Dt} (n : Nat), RpA K G xs ds → RpA K G (xs.drop n) (ds.drop n)
  | _, _, 0, r => r
  | _, _, _ + 1, .nil => .nil
  | _, _, n + 1, .cons _ t => RpA.drop n t
theorem RpA.set {x : V} {d : Dt} (r : Rp K G x d) : ∀ {xs : List V} {ds : List Dt} (i : Nat), RpA K G xs ds → RpA K G (xs.set i x) (ds.set i d)
  | _, _, _, .nil => .nil
  | _, _, 0, .cons _ t => .cons r t
  | _, _, i + 1, .cons q t => .cons q (RpA.set r i t)
theorem RpA.ints : ∀ {ns : List Int} {xs : List V}, RpA K G xs (ns.map Dt.int) → xs = ns.map V.int
  | [], _, h => by cases h; rfl
  | n :: ns, _, h => by
    cases h with
    | cons q r =>
      cases q
      rw [RpA.ints r]
      rfl
theorem RpA.of_ints : ∀ ns : List Int, RpA K G (ns.map V.int) (ns.map Dt.int)
  | [] => .nil
  | n :: ns => .cons (.int n) (RpA.of_ints ns)
end
/-! ## steps: G the pure part, H all that is tracked -/
structure Step (G H G' H' : Hp) : Prop where
  g : Same G G'
  h : Same H H'
  sub : Same G' H'
  new : ∀ b o, G' b = some o → G b = none → H b = none
theorem Step.refl {G H : Hp} (s : Same G H) : Step G H G H := ⟨Same.refl G, Same.refl H, s, fun b o e n => by rw [e] at n; cases n⟩
theorem none_back {H H' : Hp} (e : Same H H') {b : Addr} (h : H' b = none) : H b = none := Same.free e h
theorem Step.trans {G H G1 H1 G2 H2 : Hp} (a : Step G H G1 H1) (b : Step G1 H1 G2 H2) : Step G H G2 H2 :=
  ⟨a.g.trans b.g, a.h.trans b.h, b.sub, fun c o e n => by
    cases q : G1 c with
    | none => exact none_back a.h (b.new c o e q)
    | some u => exact a.new c u q n⟩
theorem same_upd {H : Hp} {p : Addr} {o : HO} (h : H p = none) : Same H (upd H p o) := fun b x e => by
  rw [upd_ne (ne_of_none e h)]
  exact e
theorem sub_upd {G H : Hp} (s : Same G H) {p : Addr} {o : HO} : Same (upd G p o) (upd H p o) := fun b x e => by
  by_cases hb : b = p
  · subst hb
    rw [upd_same] at e ⊢
    exact e
  · rw [upd_ne hb] at e ⊢
    exact s b x e
/-- a new pure object -/
theorem Step.laid {G H : Hp} (s : Same G H) {p : Addr} (o : HO) (hp : H p = none) : Step G H (upd G p o) (upd H p o) :=
  ⟨same_upd (none_back s hp), same_upd hp, sub_upd s, fun b u e n => by
    by_cases hb : b = p
    · rw [hb]; exact hp
    · rw [upd_ne hb, n] at e; cases e⟩
/-! ## slots -/
inductive Sl where
  | no
  | dt (d : Dt)
  | own (ds : List Dt)
  | owd (kvs : List (Key × Dt))
def Sl.isOwn : Sl → Bool
  | .own _ => true
  | .owd _ => true
  | _ => false
def SlotOk (K : PySem.W.Frag) (H0 G H : Hp) (a : Addr) (x : Option (Option V)) : Option Sl → Prop
  | some (.dt d) => ∃ v, x = some (some v) ∧ Rp K G v d
  | some (.own ds) => x = some (some (.ref a)) ∧ G a = none ∧ H0 a = none ∧ ∃ vs, H a = some (.lst vs) ∧ RpA K G vs ds
  | some (.owd ds) => x = some (some (.ref a)) ∧ G a = none ∧ H0 a = none ∧ ∃ vs, H a = some (.dK vs) ∧ RpK K G vs ds
  | _ => True
def Owned (δ : List Sl) (i : Nat) : Prop := ∃ s, δ[i]? = some s ∧ s.isOwn = true
structure Fits (K : PySem.W.Frag) (G0 H0 G H : Hp) (σ : St) (δ : List Sl) : Prop where
  g : Same G0 G
  h : Same H0 H
  sub : Same G H
  new : ∀ b o, G b = some o → G0 b = none → H0 b = none
  len : σ.length = δ.length
  sl : ∃ A : Nat → Addr, (∀ i j, Owned δ i → Owned δ j → A i = A j → i = j) ∧ ∀ i, SlotOk K H0 G H (A i) σ[i]? δ[i]?
section
variable {K : PySem.W.Frag} {G0 H0 G H G' H' : Hp} {σ : St} {δ : List Sl}
theorem Fits.stp (F : Fits K G0 H0 G H σ δ) : Step G0 H0 G H := ⟨F.g, F.h, F.sub, F.new⟩
theorem keep_own {a : Addr} {o : HO} (s : Step G H G' H') (h : H a = some o) (n : G a = none) : G' a = none := by
  cases q : G' a with
  | none => rfl
  | some u =>
    rw [s.new a u q n] at h
    cases h
theorem SlotOk.step {a : Addr} {x : Option (Option V)} (s : Step G H G' H') : ∀ {z : Option Sl}, SlotOk K H0 G H a x z → SlotOk K H0 G' H' a x z
  | some (.dt d), ⟨v, e, r⟩ => ⟨v, e, r.up s.g⟩
  | some (.own ds), ⟨e, n, n0, vs, h, r⟩ => ⟨e, keep_own s h n, n0, vs, s.h _ _ h, r.up s.g⟩
  | some (.owd ds), ⟨e, n, n0, vs, h, r⟩ => ⟨e, keep_own s h n, n0, vs, s.h _ _ h, r.up s.g⟩
  | some .no, _ => True.intro
  | none, _ => True.intro
theorem Fits.step (F : Fits K G0 H0 G H σ δ) (s : Step G H G' H') : Fits K G0 H0 G' H' σ δ := by
  have t := F.stp.trans s
  obtain ⟨A, hA, hs⟩ := F.sl
  exact ⟨t.g, t.h, t.sub, t.new, F.len, A, hA, fun i => (hs i).step s⟩
theorem Fits.start {xs : List V} {ds : List Dt} {k : Nat} (sub : Same G H) (r : RpA K G xs ds) : Fits K G H G H (xs.map some ++ List.replicate k none) (ds.map Sl.dt ++ List.replicate k Sl.no) := by
  have nown : ∀ i, ¬ Owned (ds.map Sl.dt ++ List.replicate k Sl.no) i := fun i ⟨s, e, o⟩ => by
    rw [List.getElem?_append] at e
    split at e
    · rw [List.getElem?_map] at e
      cases q : ds[i]? with
      | none => rw [q] at e; cases e
      | some d => rw [q] at e; cases e; cases o
    · rw [List.getElem?_replicate] at e
      split at e
      · cases e; cases o
      · cases e
  refine ⟨Same.refl G, Same.refl H, sub, fun b o e n => (by rw [e] at n; cases n), by simp [r.length], fun _ => 0, fun i j a => absurd a (nown i), fun i => ?_⟩
  rw [List.getElem?_append, List.getElem?_append, List.length_map, List.length_map, r.length]
  split
  · rename_i hi
    rw [List.getElem?_map, List.getElem?_map]
    cases q : ds[i]? with
    | none => exact True.intro
    | some d =>
      obtain ⟨x, ex, rx⟩ := r.get q
      rw [ex]
      exact ⟨x, rfl, rx⟩
  · rw [List.getElem?_replicate, List.getElem?_replicate]
    split <;> exact True.intro
theorem owned_set {i j : Nat} {s : Sl} (h : Owned (δ.set i s) j) : (j = i ∧ s.isOwn = true) ∨ (j ≠ i ∧ Owned δ j) := by
  obtain ⟨z, e, o⟩ := h
  by_cases hj : i = j
  · subst hj
    rw [List.getElem?_set] at e
    rw [if_pos rfl] at e
    split at e
    · cases e; exact .inl ⟨rfl, o⟩
    · cases e
  · rw [List.getElem?_set, if_neg hj] at e
    exact .inr ⟨fun q => hj q.symm, z, e, o⟩
/-- pure data into a slot -/
theorem Fits.set (F : Fits K G0 H0 G H σ δ) {i : Nat} {v : V} {d : Dt} (r : Rp K G v d) : Fits K G0 H0 G H (σ.set i (some v)) (δ.set i (.dt d)) := by
  obtain ⟨A, hA, hs⟩ := F.sl
  refine ⟨F.g, F.h, F.sub, F.new, by simp [F.len], A, fun j k a b e => ?_, fun j => ?_⟩
  · rcases owned_set a with ⟨_, z⟩ | ⟨_, a'⟩
    · cases z
    · rcases owned_set b with ⟨_, z⟩ | ⟨_, b'⟩
      · cases z
      · exact hA j k a' b' e
  · rw [List.getElem?_set, List.getElem?_set, F.len]
    split
    · split
      · exact ⟨v, rfl, r⟩
      · exact True.intro
    · exact hs j
theorem Fits.forget (F : Fits K G0 H0 G H σ δ) {i : Nat} {x : Option V} : Fits K G0 H0 G H (σ.set i x) (δ.set i .no) := by
  obtain ⟨A, hA, hs⟩ := F.sl
  refine ⟨F.g, F.h, F.sub, F.new, by simp [F.len], A, fun j k a b e => ?_, fun j => ?_⟩
  · rcases owned_set a with ⟨_, z⟩ | ⟨_, a'⟩
    · cases z
    · rcases owned_set b with ⟨_, z⟩ | ⟨_, b'⟩
      · cases z
      · exact hA j k a' b' e
  · rw [List.getElem?_set, List.getElem?_set, F.len]
    split
    · split <;> exact True.intro
    · exact hs j
theorem Fits.get (F : Fits K G0 H0 G H σ δ) {i : Nat} {d : Dt} (e : δ[i]? = some (.dt d)) : ∃ v, σ[i]? = some (some v) ∧ Rp K G v d := by
  obtain ⟨A, hA, hs⟩ := F.sl
  have h := hs i
  rw [e] at h
  exact h
/-- a new owned object into a slot -/
theorem Fits.slot_ne (F : Fits K G0 H0 G H σ δ) {A : Nat → Addr} (hs : ∀ i, SlotOk K H0 G H (A i) σ[i]? δ[i]?) {p : Addr} (hp : H p = none) {j : Nat} (o : Owned δ j) : A j ≠ p := by
  obtain ⟨z, e, q⟩ := o
  have h := hs j
  rw [e] at h
  cases z with
  | own ds =>
    obtain ⟨_, _, _, vs, h1, _⟩ := h
    exact ne_of_none h1 hp
  | owd ds =>
    obtain ⟨_, _, _, vs, h1, _⟩ := h
    exact ne_of_none h1 hp
  | no => cases q
  | dt d => cases q
theorem SlotOk.other {a p : Addr} {o : HO} {x : Option (Option V)} : ∀ {z : Option Sl}, SlotOk K H0 G H a x z → (∀ s, z = some s → s.isOwn = true → a ≠ p) → SlotOk K H0 G (upd H p o) a x z
  | some (.dt d), h, _ => h
  | some (.own ds), ⟨e, n, n0, vs, h, r⟩, ne => ⟨e, n, n0, vs, by rw [upd_ne (ne _ rfl rfl)]; exact h, r⟩
  | some (.owd ds), ⟨e, n, n0, vs, h, r⟩, ne => ⟨e, n, n0, vs, by rw [upd_ne (ne _ rfl rfl)]; exact h, r⟩
  | some .no, _, _ => True.intro
  | none, _, _ => True.intro
theorem sub_mut {p : Addr} {o : HO} (s : Same G H) (hp : G p = none) : Same G (upd H p o) := fun b x e => by
  rw [upd_ne (ne_of_none e hp)]
  exact s b x e
/-- what an owned slot may hold -/
def OwnIs (K : PySem.W.Frag) (G : Hp) : HO → Sl → Prop
  | .lst vs, .own ds => RpA K G vs ds
  | .dK vs, .owd ds => RpK K G vs ds
  | _, _ => False
theorem OwnIs.slot {a : Addr} {o : HO} {s : Sl} (h : OwnIs K G o s) (n : G a = none) (n0 : H0 a = none) (e : H a = some o) : SlotOk K H0 G H a (some (some (.ref a))) (some s) := by
  cases o with
  | lst vs =>
    cases s with
    | own ds => exact ⟨rfl, n, n0, vs, e, h⟩
    | _ => exact h.elim
  | dK vs =>
    cases s with
    | owd ds => exact ⟨rfl, n, n0, vs, e, h⟩
    | _ => exact h.elim
  | _ => exact h.elim
theorem Fits.setOwn (F : Fits K G0 H0 G H σ δ) {i : Nat} {p : Addr} {o : HO} {s : Sl} (hp : H p = none) (r : OwnIs K G o s) : Fits K G0 H0 G (upd H p o) (σ.set i (some (.ref p))) (δ.set i s) := by
  obtain ⟨A, hA, hs⟩ := F.sl
  have gp : G p = none := none_back F.sub hp
  refine ⟨F.g, fun b x e => ?_, sub_mut F.sub gp, F.new, by simp [F.len], fun j => if j = i then p else A j, fun j k a b e => ?_, fun j => ?_⟩
  · rw [upd_ne (ne_of_none (F.h b x e) hp)]
    exact F.h b x e
  · rcases owned_set a with ⟨ja, _⟩ | ⟨ja, a'⟩
    · rcases owned_set b with ⟨kb, _⟩ | ⟨kb, b'⟩
      · rw [ja, kb]
      · dsimp only at e
        rw [if_pos ja, if_neg kb] at e
        exact absurd e.symm (F.slot_ne hs hp b')
    · rcases owned_set b with ⟨kb, _⟩ | ⟨kb, b'⟩
      · dsimp only at e
        rw [if_neg ja, if_pos kb] at e
        exact absurd e (F.slot_ne hs hp a')
      · dsimp only at e
        rw [if_neg ja, if_neg kb] at e
        exact hA j k a' b' e
  · rw [List.getElem?_set, List.getElem?_set, F.len]
    by_cases hj : i = j
    · rw [if_pos hj, if_pos hj]
      dsimp only
      rw [if_pos hj.symm]
      split
      · exact r.slot gp (none_back F.h hp) upd_same
      · exact True.intro
    · rw [if_neg hj, if_neg hj]
      dsimp only
      rw [if_neg (fun q => hj q.symm)]
      exact (hs j).other fun s e q => F.slot_ne hs hp ⟨s, e, q⟩
/-- the owned object of a slot: what it is, and that it may be changed -/
theorem Fits.own (F : Fits K G0 H0 G H σ δ) {i : Nat} {ds : List Dt} (e : δ[i]? = some (.own ds)) :
    ∃ a vs, σ[i]? = some (some (.ref a)) ∧ H a = some (.lst vs) ∧ G a = none ∧ H0 a = none ∧ RpA K G vs ds ∧
      (∀ vs' ds' , RpA K G vs' ds' → Fits K G0 H0 G (upd H a (.lst vs')) σ (δ.set i (.own ds'))) ∧
      Fits K G0 H0 (upd G a (.lst vs)) H σ (δ.set i (.dt (.lst ds))) := by
  obtain ⟨A, hA, hs⟩ := F.sl
  have hi := hs i
  rw [e] at hi
  obtain ⟨ex, n, n0, vs, h, r⟩ := hi
  have oi : Owned δ i := ⟨_, e, rfl⟩
  have lt : i < σ.length := (List.getElem?_eq_some_iff.mp ex).1
  have ne : ∀ j, j ≠ i → Owned δ j → A j ≠ A i := fun j hj o q => hj (hA j i o oi q)
  refine ⟨A i, vs, ex, h, n, n0, r, fun vs' ds' r' => ?_, ?_⟩
  · refine ⟨F.g, fun b x q => ?_, sub_mut F.sub n, F.new, by simp [F.len], A, fun j k a b q => ?_, fun j => ?_⟩
    · have hb : b ≠ A i := fun z => by rw [z, n0] at q; cases q
      rw [upd_ne hb]
      exact F.h b x q
    · have oj : ∀ j, Owned (δ.set i (.own ds')) j → Owned δ j := fun j o => by
        rcases owned_set o with ⟨z, _⟩ | ⟨_, z⟩
        · rw [z]; exact oi
        · exact z
      exact hA j k (oj j a) (oj k b) q
    · rw [List.getElem?_set]
      by_cases hj : i = j
      · subst hj
        rw [if_pos rfl, if_pos (by rw [← F.len]; exact lt), ex]
        exact ⟨rfl, n, n0, vs', upd_same, r'⟩
      · rw [if_neg hj]
        exact (hs j).other fun s q o => ne j (fun z => hj z.symm) ⟨s, q, o⟩
  · have sm : Same G (upd G (A i) (.lst vs)) := same_upd n
    refine ⟨F.g.trans sm, F.h, fun b x q => ?_, fun b x q g0 => ?_, by simp [F.len], A, fun j k a b q => ?_, fun j => ?_⟩
    · by_cases hb : b = A i
      · rw [hb, upd_same] at q
        rw [hb, h]
        exact q
      · rw [upd_ne hb] at q
        exact F.sub b x q
    · by_cases hb : b = A i
      · rw [hb]; exact n0
      · rw [upd_ne hb] at q
        exact F.new b x q g0
    · have oj : ∀ j, Owned (δ.set i (.dt (.lst ds))) j → Owned δ j := fun j o => by
        rcases owned_set o with ⟨z, w⟩ | ⟨_, z⟩
        · cases w
        · exact z
      exact hA j k (oj j a) (oj k b) q
    · rw [List.getElem?_set]
      by_cases hj : i = j
      · subst hj
        rw [if_pos rfl, if_pos (by rw [← F.len]; exact lt), ex]
        exact ⟨_, rfl, .lst (.inl (.inl upd_same)) (r.up sm)⟩
      · rw [if_neg hj]
        have hn := ne j (fun z => hj z.symm)
        have q := hs j
        cases z : δ[j]? with
        | none => exact True.intro
        | some s =>
          rw [z] at q
          cases s with
          | no => exact True.intro
          | dt d =>
            obtain ⟨v, e1, r1⟩ := q
            exact ⟨v, e1, r1.up sm⟩
          | own es =>
            obtain ⟨e1, g1, h1, us, h2, r2⟩ := q
            exact ⟨e1, by rw [upd_ne (hn ⟨_, z, rfl⟩)]; exact g1, h1, us, h2, r2.up sm⟩
          | owd es =>
            obtain ⟨e1, g1, h1, us, h2, r2⟩ := q
            exact ⟨e1, by rw [upd_ne (hn ⟨_, z, rfl⟩)]; exact g1, h1, us, h2, r2.up sm⟩
end
end My

namespace My
open PySem L2 PySem.Spec
/-! ## what is wanted behind a reading -/
structure Er where
  cls : Str
  pay : Option (List (Str × Dt)) := none
inductive RpF (K : PySem.W.Frag) (G : Hp) : List (Str × V) → List (Str × Dt) → Prop
  | nil : RpF K G [] []
  | cons {k : Str} {x : V} {xs : List (Str × V)} {d : Dt} {ds : List (Str × Dt)} : Rp K G x d → RpF K G xs ds → RpF K G ((k, x) :: xs) ((k, d) :: ds)
theorem RpF.up {K : PySem.W.Frag} {G G' : Hp} (s : Same G G') : ∀ {xs : List (Str × V)} {ds : List (Str × Dt)}, RpF K G xs ds → RpF K G' xs ds
  | _, _, .nil => .nil
  | _, _, .cons q r => .cons (q.up s) (RpF.up s r)
def ErOk (K : PySem.W.Frag) (G H : Hp) (e : Er) (c : Value) (dx : Option Addr) : Prop :=
  c = .ref (He.ga K e.cls) ∧ match e.pay with
    | none => dx = none
    | some fs => ∃ d fs', dx = some d ∧ H d = some (.xd fs') ∧ RpF K G fs' fs
def RetX {α β : Type} (K : PySem.W.Frag) (W : WX) (rel : Hp → β → α → Prop) (σ : L2.St) (G H : Hp) (Q : β → Hp → Prop) : Except Er α → Prop
  | .ok d => ∀ v G' H', Step G H G' H' → rel G' v d → Q v H'
  | .error e => ∀ c dx G' H', Step G H G' H' → ErOk K G' H' e c dx → W c dx σ H'
abbrev bRel : Hp → Bool → Bool → Prop := fun _ b c => b = c
def GO {α β : Type} (K : PySem.W.Frag) (W : WX) (rel : Hp → β → α → Prop) (t : L2.St → Hp → (β → Hp → Prop) → Prop) (δ : List Sl) (r : Except Er α) : Prop :=
  ∀ G0 H0 G H σ Q, Fits K G0 H0 G H σ δ → RetX K W rel σ G H Q r → t σ H Q
/-! ## readings that say just what the machine does -/
section
variable (X : Cx)
def semE (e : Expr) : TE := fun σ H Q => ∀ pins s, Inv X pins σ H s → wpAny (model X.prog X.w) X.A (eval e X.env) (EP X pins σ Q) X.xe s
def semT (e : Expr) : TT := fun σ H Q => ∀ pins s, Inv X pins σ H s → wpAny (model X.prog X.w) X.A (isTrue e X.env (eval e X.env)) (TP X pins σ Q) X.xe s
def semW (e : Expr) : TT := fun σ H Q => ∀ (whole : Sem Value) pins s, Inv X pins σ H s → wpAny (model X.prog X.w) X.A (isTrue e X.env whole) (TP X pins σ Q) X.xe s
def semA (es : List Expr) : TA := fun σ H Q => ∀ (pos : Pos) pins s, Inv X pins σ H s → wpAny (model X.prog X.w) X.A (spliced (backTo pos (starEach es X.env))) (AP X pins σ Q) X.xe s
def semS (st : List Stmt) : TS := fun D σ H => ∀ pins s, Inv X pins σ H s → wpAny (model X.prog X.w) X.A (execs st X.env) (SP X pins D) X.xe s
end
section
variable {X : Cx}
theorem pe_sem (e : Expr) : PE X e (semE X e) := ⟨fun pins s σ H Q I h => h pins s I⟩
theorem pt_sem (e : Expr) : PT X e (semT X e) := ⟨fun pins s σ H Q I h => h pins s I⟩
theorem pw_sem (e : Expr) : PW X e (semW X e) := ⟨fun w pins s σ H Q I h => h w pins s I⟩
theorem pa_sem (es : List Expr) : PA X es (semA X es) := ⟨fun pos pins s σ H Q I h => h pos pins s I⟩
theorem pss_sem (st : List Stmt) : PSs X st (semS X st) := ⟨fun pins s σ H D I h => h pins s I⟩
structure EX (X : Cx) (W : WX) (e : Expr) (δ : List Sl) (r : Except Er Dt) : Prop where
  go : GO X.K W (Rp X.K) (semE X e) δ r
structure TX (X : Cx) (W : WX) (e : Expr) (δ : List Sl) (r : Except Er Bool) : Prop where
  go : GO X.K W bRel (semT X e) δ r
structure TW (X : Cx) (W : WX) (e : Expr) (δ : List Sl) (r : Except Er Bool) : Prop where
  go : GO X.K W bRel (semW X e) δ r
structure AX (X : Cx) (W : WX) (es : List Expr) (δ : List Sl) (r : Except Er (List Dt)) : Prop where
  go : GO X.K W (RpA X.K) (semA X es) δ r
variable {W : WX} {δ : List Sl} {e a b c : Expr} {es : List Expr} {pos : Pos}
theorem ex_of {t : TE} {r : Except Er Dt} (h : PE X e t) (q : GO X.K W (Rp X.K) t δ r) : EX X W e δ r := ⟨fun G0 H0 G H σ Q F hr pins s I => h.run pins s σ H Q I (q G0 H0 G H σ Q F hr)⟩
theorem tx_of {t : TT} {r : Except Er Bool} (h : PT X e t) (q : GO X.K W bRel t δ r) : TX X W e δ r := ⟨fun G0 H0 G H σ Q F hr pins s I => h.run pins s σ H Q I (q G0 H0 G H σ Q F hr)⟩
theorem tw_of {t : TT} {r : Except Er Bool} (h : PW X e t) (q : GO X.K W bRel t δ r) : TW X W e δ r := ⟨fun G0 H0 G H σ Q F hr w pins s I => h.run w pins s σ H Q I (q G0 H0 G H σ Q F hr)⟩
theorem ax_of {t : TA} {r : Except Er (List Dt)} (h : PA X es t) (q : GO X.K W (RpA X.K) t δ r) : AX X W es δ r := ⟨fun G0 H0 G H σ Q F hr pos pins s I => h.run pos pins s σ H Q I (q G0 H0 G H σ Q F hr)⟩
/-- one reading behind another -/
theorem GO.then {α β : Type} {K : PySem.W.Frag} {rel : Hp → β → α → Prop} {t : L2.St → Hp → (β → Hp → Prop) → Prop} {r : Except Er α} (h : GO K W rel t δ r)
    {G0 H0 G H : Hp} {σ : L2.St} {Q : β → Hp → Prop} (F : Fits K G0 H0 G H σ δ) (hr : RetX K W rel σ G H Q r) : t σ H Q := h G0 H0 G H σ Q F hr
theorem EX.then {r : Except Er Dt} (h : EX X W e δ r) {G0 H0 G H : Hp} {σ : L2.St} {Q : VK} (F : Fits X.K G0 H0 G H σ δ) (hr : RetX X.K W (Rp X.K) σ G H Q r) : semE X e σ H Q := h.go G0 H0 G H σ Q F hr
theorem TX.then {r : Except Er Bool} (h : TX X W e δ r) {G0 H0 G H : Hp} {σ : L2.St} {Q : Bool → Hp → Prop} (F : Fits X.K G0 H0 G H σ δ) (hr : RetX X.K W bRel σ G H Q r) : semT X e σ H Q := h.go G0 H0 G H σ Q F hr
theorem TW.then {r : Except Er Bool} (h : TW X W e δ r) {G0 H0 G H : Hp} {σ : L2.St} {Q : Bool → Hp → Prop} (F : Fits X.K G0 H0 G H σ δ) (hr : RetX X.K W bRel σ G H Q r) : semW X e σ H Q := h.go G0 H0 G H σ Q F hr
theorem AX.then {r : Except Er (List Dt)} (h : AX X W es δ r) {G0 H0 G H : Hp} {σ : L2.St} {Q : List V → Hp → Prop} (F : Fits X.K G0 H0 G H σ δ) (hr : RetX X.K W (RpA X.K) σ G H Q r) : semA X es σ H Q := h.go G0 H0 G H σ Q F hr
/-! ## names and constants -/
/-- the name x of the def stands in slot i -/
structure At (X : Cx) (x : Str) (i : Nat) : Prop where
  nd : X.N.Nodup
  ix : X.N[i]? = some x
  vi : Vis X.env.scope x
  lo : Loc X.env.scope x
  fn : X.fn x = true ∨ X.env.scope.names.lookup x = some .local
  d1 : (x == ("__debug__" : Str)) = false
  d2 : (x == ("__classdict__" : Str)) = false
/-- x is a name of the module or a built-in one -/
structure Glo (X : Cx) (x : Str) : Prop where
  gl : Gl X x
  d1 : (x == ("__debug__" : Str)) = false
  nn : x ≠ "__name__"
/-- the name x is read in slot i (a block's too) -/
structure Rd1 (X : Cx) (x : Str) (i : Nat) : Prop where
  ix : X.N[i]? = some x
  vi : Vis X.env.scope x
  d1 : (x == ("__debug__" : Str)) = false
  d2 : (x == ("__classdict__" : Str)) = false
theorem At.rd {X : Cx} {x : Str} {i : Nat} (h : At X x i) : Rd1 X x i := ⟨h.ix, h.vi, h.d1, h.d2⟩
theorem ex_r {x : Str} {i : Nat} {d : Dt} (h : Rd1 X x i) (hd : δ[i]? = some (.dt d)) : EX X W (.Name x pos) δ (.ok d) :=
  ex_of (pe_var h.ix h.vi h.d1 h.d2) fun G0 H0 G H σ Q F hr => by
    obtain ⟨v, e, r⟩ := F.get hd
    exact ⟨v, e, hr v G H (.refl F.sub) r⟩
theorem ex_v {x : Str} {i : Nat} {d : Dt} (h : At X x i := by with_reducible assumption) (hd : δ[i]? = some (.dt d) := by rfl) : EX X W (.Name x pos) δ (.ok d) := ex_r h.rd hd
theorem ex_c {e : Expr} {v : V} {d : Dt} (h : PE X e (tC v)) (r : ∀ G, Rp X.K G v d) : EX X W e δ (.ok d) :=
  ex_of h fun G0 H0 G H σ Q F hr => hr v G H (.refl F.sub) (r G)
theorem ex_int {i j} : EX X W (.Constant (.int i) j pos) δ (.ok (.int i)) := ex_c pe_int fun _ => .int i
theorem ex_bl {b j} : EX X W (.Constant (.bool b) j pos) δ (.ok (.bl b)) := ex_c pe_bl fun _ => .bl b
theorem ex_non {j} : EX X W (.Constant .none j pos) δ (.ok .non) := ex_c pe_non fun _ => .non
theorem ex_str {x j} : EX X W (.Constant (.str x) j pos) δ (.ok (.str x)) := ex_c pe_str fun _ => .str x
theorem ex_glob {x : Str} {v : V} {u : Value} {d : Dt} (r : RelV v u) (q : ∀ G, Rp X.K G v d) (hm : X.mg x = some u) (hg : Glo X x := by with_reducible assumption) : EX X W (.Name x pos) δ (.ok d) :=
  ex_c (pe_glob hg.gl hm r hg.d1) q
theorem ex_eq {r r' : Except Er Dt} (h : EX X W e δ r) (q : r = r') : EX X W e δ r' := q ▸ h
theorem tx_eq {r r' : Except Er Bool} (h : TX X W e δ r) (q : r = r') : TX X W e δ r' := q ▸ h
/-! ## operators -/
def RO (K : PySem.W.Frag) (r : R2) (a b c : Dt) : Prop := ∀ G H x y (Q : VK), Same G H → Rp K G x a → Rp K G y b → (∀ v G' H', Step G H G' H' → Rp K G' v c → Q v H') → r x y H Q
theorem ex_op {r : R2} {a b : Expr} {da db dc : Dt} (hp : PE X e (tOp r (semE X a) (semE X b))) (ro : RO X.K r da db dc) (ha : EX X W a δ (.ok da)) (hb : EX X W b δ (.ok db)) : EX X W e δ (.ok dc) :=
  ex_of hp fun G0 H0 G H σ Q F hr => ha.then F fun x G1 H1 s1 rx => hb.then (F.step s1) fun y G2 H2 s2 ry => ro G2 H2 x y Q s2.sub (rx.up s2.g) ry fun v G3 H3 s3 rv => hr v G3 H3 ((s1.trans s2).trans s3) rv
theorem tx_op {r : R2} {a b : Expr} {da db : Dt} {k : Bool} (hp : PT X e (tTest (tOp r (semE X a) (semE X b)))) (ro : RO X.K r da db (.bl k)) (ha : EX X W a δ (.ok da)) (hb : EX X W b δ (.ok db)) : TX X W e δ (.ok k) :=
  tx_of hp fun G0 H0 G H σ Q F hr => ha.then F fun x G1 H1 s1 rx => hb.then (F.step s1) fun y G2 H2 s2 ry => ro G2 H2 x y _ s2.sub (rx.up s2.g) ry fun v G3 H3 s3 rv => by
    cases rv
    exact ⟨k, rfl, hr k G3 H3 ((s1.trans s2).trans s3) rfl⟩
theorem ro_I0 {K : PySem.W.Frag} {g : Int → Int → V} {i j : Int} {d : Dt} (h : ∀ G, Rp K G (g i j) d) : RO K (rI0 g) (.int i) (.int j) d := fun G H x y Q s rx ry q => by
  cases rx
  cases ry
  exact ⟨i, j, rfl, rfl, q _ G H (.refl s) (h G)⟩
theorem ro_I {K : PySem.W.Frag} {C : Int → Int → Prop} {g : Int → Int → V} {i j : Int} {d : Dt} (c : C i j) (h : ∀ G, Rp K G (g i j) d) : RO K (rI C g) (.int i) (.int j) d := fun G H x y Q s rx ry q => by
  cases rx
  cases ry
  exact ⟨i, j, rfl, rfl, c, q _ G H (.refl s) (h G)⟩
variable {i j : Int} {da db : Dt}
theorem ex_add (ha : EX X W a δ (.ok (.int i))) (hb : EX X W b δ (.ok (.int j))) : EX X W (.BinOp a .Add b pos) δ (.ok (.int (i + j))) := ex_op (pe_op op_add (pe_sem a) (pe_sem b)) (ro_I0 fun _ => .int _) ha hb
theorem ex_sub (ha : EX X W a δ (.ok (.int i))) (hb : EX X W b δ (.ok (.int j))) : EX X W (.BinOp a .Sub b pos) δ (.ok (.int (i - j))) := ex_op (pe_op op_sub (pe_sem a) (pe_sem b)) (ro_I0 fun _ => .int _) ha hb
theorem ex_mul (c : CMulW i j) (ha : EX X W a δ (.ok (.int i))) (hb : EX X W b δ (.ok (.int j))) : EX X W (.BinOp a .Mult b pos) δ (.ok (.int (i * j))) := ex_op (pe_op op_mulW (pe_sem a) (pe_sem b)) (ro_I c fun _ => .int _) ha hb
theorem ex_div (c : CDivW i j) (ha : EX X W a δ (.ok (.int i))) (hb : EX X W b δ (.ok (.int j))) : EX X W (.BinOp a .FloorDiv b pos) δ (.ok (.int (i / j))) := ex_op (pe_op op_fdivW (pe_sem a) (pe_sem b)) (ro_I c fun _ => .int _) ha hb
theorem ex_mod (c : 0 < j) (ha : EX X W a δ (.ok (.int i))) (hb : EX X W b δ (.ok (.int j))) : EX X W (.BinOp a .Mod b pos) δ (.ok (.int (i % j))) := ex_op (pe_op op_mod (pe_sem a) (pe_sem b)) (ro_I (C := fun _ j => 0 < j) c fun _ => .int _) ha hb
theorem ex_pow (c : CPow i j) (ha : EX X W a δ (.ok (.int i))) (hb : EX X W b δ (.ok (.int j))) : EX X W (.BinOp a .Pow b pos) δ (.ok (.int (i ^ j.toNat))) := ex_op (pe_op op_pow (pe_sem a) (pe_sem b)) (ro_I c fun _ => .int _) ha hb
theorem ex_neg (ha : EX X W a δ (.ok (.int i))) : EX X W (.UnaryOp .USub a pos) δ (.ok (.int (-i))) :=
  ex_of (pe_un un_neg (pe_sem a)) fun G0 H0 G H σ Q F hr => ha.then F fun x G1 H1 s1 rx => by
    cases rx
    exact ⟨i, rfl, hr _ G1 H1 s1 (.int _)⟩
section
variable (ha : EX X W a δ (.ok (.int i))) (hb : EX X W b δ (.ok (.int j)))
include ha hb
theorem tx_lt : TX X W (.Compare a [.Lt] [b] pos) δ (.ok (decide (i < j))) := tx_op (pt_cmpR op_lt (pe_sem a) (pe_sem b) (nomark _)) (ro_I0 fun _ => .bl _) ha hb
theorem tx_le : TX X W (.Compare a [.LtE] [b] pos) δ (.ok (decide (i ≤ j))) := tx_op (pt_cmpR op_le (pe_sem a) (pe_sem b) (nomark _)) (ro_I0 fun _ => .bl _) ha hb
theorem tx_gt : TX X W (.Compare a [.Gt] [b] pos) δ (.ok (decide (j < i))) := tx_op (pt_cmpR op_gt (pe_sem a) (pe_sem b) (nomark _)) (ro_I0 fun _ => .bl _) ha hb
theorem tx_ge : TX X W (.Compare a [.GtE] [b] pos) δ (.ok (decide (j ≤ i))) := tx_op (pt_cmpR op_ge (pe_sem a) (pe_sem b) (nomark _)) (ro_I0 fun _ => .bl _) ha hb
theorem ex_lt : EX X W (.Compare a [.Lt] [b] pos) δ (.ok (.bl (decide (i < j)))) := ex_op (pe_cmpR op_lt (pe_sem a) (pe_sem b) (nomark _)) (ro_I0 fun _ => .bl _) ha hb
theorem ex_le : EX X W (.Compare a [.LtE] [b] pos) δ (.ok (.bl (decide (i ≤ j)))) := ex_op (pe_cmpR op_le (pe_sem a) (pe_sem b) (nomark _)) (ro_I0 fun _ => .bl _) ha hb
end
end
/-! ## == of data -/
mutual
def Dt.py : Dt → PyData
  | .non => .none
  | .bl b => .bool b
  | .int i => .int i
  | .str s => .str s
  | .tup l => .tuple (Dt.pys l)
  | .lst l => .list (Dt.pys l)
  | .dic _ => .none
  | .v _ => .none
def Dt.pys : List Dt → List PyData
  | [] => []
  | d :: ds => d.py :: Dt.pys ds
end
mutual
/-- data without dicts and opaque things -/
def Dt.flat : Dt → Bool
  | .tup l => Dt.flats l
  | .lst l => Dt.flats l
  | .dic _ => false
  | .v _ => false
  | _ => true
def Dt.flats : List Dt → Bool
  | [] => true
  | d :: ds => d.flat && Dt.flats ds
end
section
variable {K : PySem.W.Frag} {G : Hp}
mutual
theorem Rp.dp : ∀ (d : Dt) (x : V), d.flat = true → Rp K G x d → Dp K G x d.py
  | .non, _, _, h => by cases h; exact .non
  | .bl b, _, _, h => by cases h; exact .bl b
  | .int i, _, _, h => by cases h; exact .int i
  | .str z, _, _, h => by cases h; exact .str z
  | .v x, _, f, h => by cases f
  | .dic l, _, f, h => by cases f
  | .tup l, _, f, h => by
    cases h with
    | tup q r => exact .tup q (RpA.dp l _ f r)
  | .lst l, _, f, h => by
    cases h with
    | lst q r => exact .lst q (RpA.dp l _ f r)
theorem RpA.dp : ∀ (ds : List Dt) (xs : List V), Dt.flats ds = true → RpA K G xs ds → DpAll K G xs (Dt.pys ds)
  | [], _, _, h => by cases h; exact .nil
  | d :: ds, _, f, h => by
    have f' : (d.flat && Dt.flats ds) = true := f
    rw [Bool.and_eq_true] at f'
    cases h with
    | cons q r => exact .cons (Rp.dp d _ f'.1 q) (RpA.dp ds _ f'.2 r)
end
end
end My

namespace My
open PySem L2 PySem.Spec
section
variable {X : Cx} {W : WX} {δ : List Sl} {e a b c : Expr} {es : List Expr} {pos : Pos} {i j : Int} {da db dc : Dt} {ds : List Dt}
/-! ## displays -/
theorem ax_nil : AX X W [] δ (.ok []) := ax_of pa_nil fun G0 H0 G H σ Q F hr => hr [] G H (.refl F.sub) .nil
theorem ax_cons (he : EX X W e δ (.ok da)) (hs : AX X W es δ (.ok ds)) (h : starEach (e :: es) X.env = (false, eval e X.env) :: starEach es X.env := by rfl) : AX X W (e :: es) δ (.ok (da :: ds)) :=
  ax_of (pa_cons (pe_sem e) (pa_sem es) h) fun G0 H0 G H σ Q F hr => he.then F fun x G1 H1 s1 rx => hs.then (F.step s1) fun xs G2 H2 s2 rs => hr (x :: xs) G2 H2 (s1.trans s2) (.cons (rx.up s2.g) rs)
theorem ax_er1 {z : Er} (he : EX X W e δ (.error z)) (h : starEach (e :: es) X.env = (false, eval e X.env) :: starEach es X.env := by rfl) : AX X W (e :: es) δ (.error z) :=
  ax_of (pa_cons (pe_sem e) (pa_sem es) h) fun G0 H0 G H σ Q F hr => he.then F hr
theorem ax_er2 {z : Er} (he : EX X W e δ (.ok da)) (hs : AX X W es δ (.error z)) (h : starEach (e :: es) X.env = (false, eval e X.env) :: starEach es X.env := by rfl) : AX X W (e :: es) δ (.error z) :=
  ax_of (pa_cons (pe_sem e) (pa_sem es) h) fun G0 H0 G H σ Q F hr => he.then F fun x G1 H1 s1 rx => hs.then (F.step s1) fun c dx G2 H2 s2 k => hr c dx G2 H2 (s1.trans s2) k
theorem ex_tup {x1} (h : AX X W es δ (.ok ds)) (hl : ds.length ≤ sizeLine := by (rw [sizeLine_eq]; simp only [List.length_cons, List.length_nil]; omega)) : EX X W (.Tuple es x1 pos) δ (.ok (.tup ds)) :=
  ex_of (pe_tup (pa_sem es)) fun G0 H0 G H σ Q F hr => h.then F fun xs G1 H1 s1 r => ⟨by rw [r.length]; exact hl, fun p hp =>
    hr _ (upd G1 p (.tup xs)) _ (s1.trans (Step.laid s1.sub _ hp)) (.tup (.inl (.inl upd_same)) (r.up (same_upd (none_back s1.sub hp))))⟩
theorem ex_lst (h : AX X W es δ (.ok ds)) (hl : ds.length ≤ sizeLine := by (rw [sizeLine_eq]; simp only [List.length_cons, List.length_nil]; omega)) : EX X W (.List es pos) δ (.ok (.lst ds)) :=
  ex_of (pe_lst (pa_sem es)) fun G0 H0 G H σ Q F hr => h.then F fun xs G1 H1 s1 r => ⟨by rw [r.length]; exact hl, fun p hp =>
    hr _ (upd G1 p (.lst xs)) _ (s1.trans (Step.laid s1.sub _ hp)) (.lst (.inl (.inl upd_same)) (r.up (same_upd (none_back s1.sub hp))))⟩
/-! ## subscripts -/
theorem atI_rp {K : PySem.W.Frag} {G : Hp} {xs : List V} {i : Int} {d : Dt} (r : RpA K G xs ds) (h : atI ds i = some d) : ∃ x, atI xs i = some x ∧ Rp K G x d := by
  unfold atI at h ⊢
  rw [r.length]
  cases q : ixN ds.length i with
  | none => rw [q] at h; cases h
  | some j =>
    rw [q] at h
    exact r.get h
theorem ro_ixT {K : PySem.W.Frag} {d : Dt} (h : atI ds i = some d) : RO K (rIx K) (.tup ds) (.int i) d := fun G H x y Q s rx ry q => by
  cases ry
  cases rx with
  | tup t r =>
    obtain ⟨v, e, rv⟩ := atI_rp r h
    exact .inr (.inl ⟨_, _, _, v, rfl, rfl, Same.tseq s t, e, q v G H (.refl s) rv⟩)
theorem ro_ixL {K : PySem.W.Frag} {d : Dt} (h : atI ds i = some d) : RO K (rIx K) (.lst ds) (.int i) d := fun G H x y Q s rx ry q => by
  cases ry
  cases rx with
  | lst t r =>
    obtain ⟨v, e, rv⟩ := atI_rp r h
    exact .inl ⟨_, _, _, v, rfl, rfl, Same.seq s t, e, q v G H (.refl s) rv⟩
theorem ex_ixT {d : Dt} (ha : EX X W a δ (.ok (.tup ds))) (hb : EX X W b δ (.ok (.int i))) (h : atI ds i = some d := by rfl) (hs : PlainIx b := by exact fun _ _ => rfl) : EX X W (.Subscript a b pos) δ (.ok d) :=
  ex_op (pe_ix ix_seq (pe_sem a) (pe_sem b) hs) (ro_ixT h) ha hb
theorem ex_ixL {d : Dt} (ha : EX X W a δ (.ok (.lst ds))) (hb : EX X W b δ (.ok (.int i))) (h : atI ds i = some d := by rfl) (hs : PlainIx b := by exact fun _ _ => rfl) : EX X W (.Subscript a b pos) δ (.ok d) :=
  ex_op (pe_ix ix_seq (pe_sem a) (pe_sem b) hs) (ro_ixL h) ha hb
/-- an item of an owned list -/
theorem ex_ixO {k : Nat} {x : Str} {d : Dt} {p1 : Pos} (hb : EX X W b δ (.ok (.int i))) (h : atI ds i = some d) (ha : At X x k := by with_reducible assumption) (hδ : δ[k]? = some (.own ds) := by rfl) (hs : PlainIx b := by exact fun _ _ => rfl) : EX X W (.Subscript (.Name x p1) b pos) δ (.ok d) :=
  ex_of (pe_ix ix_seq (pe_var ha.ix ha.vi ha.d1 ha.d2) (pe_sem b) hs) fun G0 H0 G H σ Q F hr => by
    obtain ⟨p, vs, e1, e2, _, _, r, _⟩ := F.own hδ
    refine ⟨_, e1, hb.then F fun y G1 H1 s1 ry => ?_⟩
    cases ry
    obtain ⟨v, e, rv⟩ := atI_rp r h
    exact .inl ⟨p, vs, i, v, rfl, rfl, .inl (.inl (s1.h _ _ e2)), e, hr v G1 H1 s1 (rv.up s1.g)⟩
/-! ## tests -/
theorem tx_val {k : Bool} (h : EX X W e δ (.ok (.bl k))) (he : ∀ whole, isTrue e X.env whole = (do let v ← whole; standAt e.pos; holding [v] (truthy v)) := by intro _; rfl) : TX X W e δ (.ok k) :=
  tx_of (pt_val (pe_sem e) he) fun G0 H0 G H σ Q F hr => h.then F fun x G1 H1 s1 rx => by
    cases rx
    exact ⟨k, rfl, hr k G1 H1 s1 rfl⟩
theorem tx_not {k m : Bool} (h : TX X W a δ (.ok k)) (e : (!k) = m := by rfl) : TX X W (.UnaryOp .Not a pos) δ (.ok m) := by
  subst e
  exact tx_of (pt_not (pt_sem a)) fun G0 H0 G H σ Q F hr => h.then F fun x G1 H1 s1 rx => hr _ G1 H1 s1 (by rw [show x = k from rx])
theorem tw_and1 {r : Except Er Bool} (h : TX X W a δ r) : TW X W (.BoolOp .And [a] pos) δ r := tw_of (pw_and1 (pt_sem a)) h.go
theorem tw_or1 {r : Except Er Bool} (h : TX X W a δ r) : TW X W (.BoolOp .Or [a] pos) δ r := tw_of (pw_or1 (pt_sem a)) h.go
theorem tx_bool {r : Except Er Bool} (h : TW X W e δ r) : TX X W e δ r := tx_of (PW.pt (pw_sem e)) h.go
theorem tw_and {k l m : Bool} (h : TX X W a δ (.ok k)) (h2 : k = true → TW X W (.BoolOp .And (b :: es) pos) δ (.ok l)) (e : (k && l) = m := by rfl) : TW X W (.BoolOp .And (a :: b :: es) pos) δ (.ok m) := by
  subst e
  exact tw_of (pw_and (pt_sem a) (pw_sem _)) fun G0 H0 G H σ Q F hr => h.then F fun x G1 H1 s1 rx => by
    cases (show x = k from rx)
    cases k with
    | true => exact iteT ((h2 rfl).then (F.step s1) fun y G2 H2 s2 ry => hr y G2 H2 (s1.trans s2) (show y = (true && l) from ry))
    | false => exact iteF (hr false G1 H1 s1 rfl)
theorem tw_or {k l m : Bool} (h : TX X W a δ (.ok k)) (h2 : k = false → TW X W (.BoolOp .Or (b :: es) pos) δ (.ok l)) (e : (k || l) = m := by rfl) : TW X W (.BoolOp .Or (a :: b :: es) pos) δ (.ok m) := by
  subst e
  exact tw_of (pw_or (pt_sem a) (pw_sem _)) fun G0 H0 G H σ Q F hr => h.then F fun x G1 H1 s1 rx => by
    cases (show x = k from rx)
    cases k with
    | false => exact iteF ((h2 rfl).then (F.step s1) fun y G2 H2 s2 ry => hr y G2 H2 (s1.trans s2) (show y = (false || l) from ry))
    | true => exact iteT (hr true G1 H1 s1 rfl)
theorem ex_if {k : Bool} {r : Except Er Dt} (hc : TX X W c δ (.ok k)) (h1 : k = true → EX X W a δ r) (h2 : k = false → EX X W b δ r) : EX X W (.IfExp c a b pos) δ r :=
  ex_of (pe_ifExp (pt_sem c) (pe_sem a) (pe_sem b)) fun G0 H0 G H σ Q F hr => hc.then F fun x G1 H1 s1 rx => by
    cases (show x = k from rx)
    have go : ∀ {e : Expr}, EX X W e δ r → semE X e σ H1 Q := fun h => h.then (F.step s1) (by
      cases r with
      | ok d => exact fun v G2 H2 s2 rv => hr v G2 H2 (s1.trans s2) rv
      | error z => exact fun c dx G2 H2 s2 rv => hr c dx G2 H2 (s1.trans s2) rv)
    cases k with
    | true => exact iteT (go (h1 rfl))
    | false => exact iteF (go (h2 rfl))
theorem ex_andV {k l : Bool} (h : EX X W a δ (.ok (.bl k))) (h2 : k = true → EX X W (.BoolOp .And (b :: es) pos) δ (.ok (.bl l))) : EX X W (.BoolOp .And (a :: b :: es) pos) δ (.ok (.bl (k && l))) :=
  ex_of (pe_and (pe_sem a) (pe_sem _)) fun G0 H0 G H σ Q F hr => h.then F fun x G1 H1 s1 rx => by
    cases rx
    refine ⟨k, rfl, ?_⟩
    cases k with
    | true => exact iteT ((h2 rfl).then (F.step s1) fun y G2 H2 s2 ry => hr y G2 H2 (s1.trans s2) (by cases ry; exact .bl _))
    | false => exact iteF (hr _ G1 H1 s1 (.bl false))
theorem ex_orV {k l : Bool} (h : EX X W a δ (.ok (.bl k))) (h2 : k = false → EX X W (.BoolOp .Or (b :: es) pos) δ (.ok (.bl l))) : EX X W (.BoolOp .Or (a :: b :: es) pos) δ (.ok (.bl (k || l))) :=
  ex_of (pe_or (pe_sem a) (pe_sem _)) fun G0 H0 G H σ Q F hr => h.then F fun x G1 H1 s1 rx => by
    cases rx
    refine ⟨k, rfl, ?_⟩
    cases k with
    | false => exact iteF ((h2 rfl).then (F.step s1) fun y G2 H2 s2 ry => hr y G2 H2 (s1.trans s2) (by cases ry; exact .bl _))
    | true => exact iteT (hr _ G1 H1 s1 (.bl true))
theorem ex_one {op} {r : Except Er Dt} (h : EX X W a δ r) : EX X W (.BoolOp op [a] pos) δ r := ex_of (pe_one (pe_sem a)) h.go
theorem ex_notV {k : Bool} (h : EX X W a δ (.ok (.bl k))) : EX X W (.UnaryOp .Not a pos) δ (.ok (.bl (!k))) :=
  ex_of (pe_not (pe_sem a)) fun G0 H0 G H σ Q F hr => h.then F fun x G1 H1 s1 rx => by
    cases rx
    exact ⟨k, rfl, hr _ G1 H1 s1 (.bl _)⟩
/-! ## comparisons of data -/
theorem ro_eqD {K : PySem.W.Frag} {k : Bool} (fa : da.flat = true) (fb : db.flat = true) (sa : SeqAt.shaped da.py = true) (sb : SeqAt.shaped db.py = true) (hk : PyData.eqv da.py db.py = k) : RO K (rEqD K) da db (.bl k) := fun G H x y Q s rx ry q =>
  ⟨_, _, Rp.dp _ _ fa (rx.up s), Rp.dp _ _ fb (ry.up s), sa, sb, q _ G H (.refl s) (by rw [hk]; exact .bl k)⟩
theorem ro_neD {K : PySem.W.Frag} {k : Bool} (fa : da.flat = true) (fb : db.flat = true) (sa : SeqAt.shaped da.py = true) (sb : SeqAt.shaped db.py = true) (hk : PyData.eqv da.py db.py = k) : RO K (rNeD K) da db (.bl (!k)) := fun G H x y Q s rx ry q =>
  ⟨_, _, Rp.dp _ _ fa (rx.up s), Rp.dp _ _ fb (ry.up s), sa, sb, q _ G H (.refl s) (by rw [hk]; exact .bl _)⟩
/-- data that == may look at -/
structure EqOk (d : Dt) : Prop where
  fl : d.flat = true
  sh : SeqAt.shaped d.py = true
theorem eqOk_int : EqOk (.int i) := ⟨rfl, by simp [Dt.py, SeqAt.shaped, PyData.canLay0, PyData.depth]⟩
theorem tx_eqD {k : Bool} (hk : PyData.eqv da.py db.py = k) (oa : EqOk da) (ob : EqOk db) (hu : X.A.units + 64 < cLine) (ha : EX X W a δ (.ok da)) (hb : EX X W b δ (.ok db)) : TX X W (.Compare a [.Eq] [b] pos) δ (.ok k) :=
  tx_op (pt_cmpR (op_eqD hu) (pe_sem a) (pe_sem b) (nomark _)) (ro_eqD oa.fl ob.fl oa.sh ob.sh hk) ha hb
theorem tx_neD {k : Bool} (hk : PyData.eqv da.py db.py = k) (oa : EqOk da) (ob : EqOk db) (hu : X.A.units + 64 < cLine) (ha : EX X W a δ (.ok da)) (hb : EX X W b δ (.ok db)) : TX X W (.Compare a [.NotEq] [b] pos) δ (.ok (!k)) :=
  tx_op (pt_cmpR (op_neD hu) (pe_sem a) (pe_sem b) (nomark _)) (ro_neD oa.fl ob.fl oa.sh ob.sh hk) ha hb
theorem ex_eqD {k : Bool} (hk : PyData.eqv da.py db.py = k) (oa : EqOk da) (ob : EqOk db) (hu : X.A.units + 64 < cLine) (ha : EX X W a δ (.ok da)) (hb : EX X W b δ (.ok db)) : EX X W (.Compare a [.Eq] [b] pos) δ (.ok (.bl k)) :=
  ex_op (pe_cmpR (op_eqD hu) (pe_sem a) (pe_sem b) (nomark _)) (ro_eqD oa.fl ob.fl oa.sh ob.sh hk) ha hb
theorem ro_eqI {K : PySem.W.Frag} : RO K rEq (.int i) (.int j) (.bl (decide (i = j))) := fun G H x y Q s rx ry q => by
  cases rx
  cases ry
  refine ⟨rfl, q _ G H (.refl s) ?_⟩
  rw [dec_int, Bool.beq_eq_decide_eq]
  exact .bl _
theorem ro_neI {K : PySem.W.Frag} : RO K rNe (.int i) (.int j) (.bl (!decide (i = j))) := fun G H x y Q s rx ry q => by
  cases rx
  cases ry
  refine ⟨rfl, q _ G H (.refl s) ?_⟩
  rw [dec_int, Bool.beq_eq_decide_eq]
  exact .bl _
theorem tx_eqI (ha : EX X W a δ (.ok (.int i))) (hb : EX X W b δ (.ok (.int j))) : TX X W (.Compare a [.Eq] [b] pos) δ (.ok (decide (i = j))) := tx_op (pt_cmpR op_eq (pe_sem a) (pe_sem b) (nomark _)) ro_eqI ha hb
theorem tx_neI (ha : EX X W a δ (.ok (.int i))) (hb : EX X W b δ (.ok (.int j))) : TX X W (.Compare a [.NotEq] [b] pos) δ (.ok (!decide (i = j))) := tx_op (pt_cmpR op_ne (pe_sem a) (pe_sem b) (nomark _)) ro_neI ha hb
theorem ex_eqI (ha : EX X W a δ (.ok (.int i))) (hb : EX X W b δ (.ok (.int j))) : EX X W (.Compare a [.Eq] [b] pos) δ (.ok (.bl (decide (i = j)))) := ex_op (pe_cmpR op_eq (pe_sem a) (pe_sem b) (nomark _)) ro_eqI ha hb
def Dt.isNon : Dt → Bool
  | .non => true
  | _ => false
def Dt.known : Dt → Bool
  | .v _ => false
  | _ => true
theorem rp_non {K : PySem.W.Frag} {G : Hp} {x : V} {d : Dt} (r : Rp K G x d) (h : d.known = true) : decide (x = .non) = d.isNon := by
  cases r <;> first | rfl | cases h
theorem tx_isN {p1 j1} (ha : EX X W a δ (.ok da)) (h : da.known = true := by rfl) : TX X W (.Compare a [.Is] [.Constant .none j1 p1] pos) δ (.ok da.isNon) :=
  tx_of (pt_cmpR op_isN (pe_sem a) pe_non (nomark _)) fun G0 H0 G H σ Q F hr => ha.then F fun x G1 H1 s1 rx => ⟨rfl, _, rfl, hr _ G1 H1 s1 (rp_non rx h)⟩
theorem tx_notN {p1 j1} (ha : EX X W a δ (.ok da)) (h : da.known = true := by rfl) : TX X W (.Compare a [.IsNot] [.Constant .none j1 p1] pos) δ (.ok (!da.isNon)) :=
  tx_of (pt_cmpR op_notN (pe_sem a) pe_non (nomark _)) fun G0 H0 G H σ Q F hr => ha.then F fun x G1 H1 s1 rx => ⟨rfl, _, rfl, hr _ G1 H1 s1 (by rw [rp_non rx h])⟩
/-! ## built-in calls -/
def CO (K : PySem.W.Frag) (r : List V → Hp → VK → Prop) (ds : List Dt) (d : Dt) : Prop := ∀ G H xs (Q : VK), Same G H → RpA K G xs ds → (∀ v G' H', Step G H G' H' → Rp K G' v d → Q v H') → r xs H Q
theorem ex_callB {r : List V → Hp → VK → Prop} {id : String} {x : Str} {p : Pos} (hc : CallR X (.builtin id) r) (hm : X.mg x = none) (co : CO X.K r ds da) (ha : AX X W (e :: es) δ (.ok ds)) (hg : Glo X x := by with_reducible assumption) (hv : bootBuiltins x = some (.builtin id) := by decide +kernel)
    (he : starEach (e :: es) X.env = (false, eval e X.env) :: starEach es X.env := by rfl) (hpl : (backTo pos (starEach es X.env)).any (·.1) = false := by rfl) :
    EX X W (.Call (.Name x p) (e :: es) [] pos) δ (.ok da) :=
  ex_of (pe_callB hc hg.gl hm hv (pa_sem (e :: es)) hg.nn hg.d1 he hpl) fun G0 H0 G H σ Q F hr => ha.then F fun xs G1 H1 s1 rs => co G1 H1 xs Q s1.sub rs fun v G2 H2 s2 rv => hr v G2 H2 (s1.trans s2) rv
theorem ex_callTy {r : List V → Hp → VK → Prop} {T : String} {x : Str} {p : Pos} (hc : CallR X (.type T) r) (hm : X.mg x = none) (co : CO X.K r ds da) (ha : AX X W (e :: es) δ (.ok ds)) (hg : Glo X x := by with_reducible assumption) (hv : bootBuiltins x = some (.type T) := by decide +kernel)
    (he : starEach (e :: es) X.env = (false, eval e X.env) :: starEach es X.env := by rfl) (hpl : (backTo pos (starEach es X.env)).any (·.1) = false := by rfl) :
    EX X W (.Call (.Name x p) (e :: es) [] pos) δ (.ok da) :=
  ex_of (pe_callTy hc hg.gl hm hv (pa_sem (e :: es)) hg.nn hg.d1 he hpl) fun G0 H0 G H σ Q F hr => ha.then F fun xs G1 H1 s1 rs => co G1 H1 xs Q s1.sub rs fun v G2 H2 s2 rv => hr v G2 H2 (s1.trans s2) rv
variable {p : Pos}
theorem ex_abs (hm : X.mg "abs" = none) (ha : EX X W e δ (.ok (.int i))) (hg : Glo X "abs" := by with_reducible assumption) (he : starEach [e] X.env = (false, eval e X.env) :: starEach [] X.env := by rfl) : EX X W (.Call (.Name "abs" p) [e] [] pos) δ (.ok (.int i.natAbs)) :=
  ex_callB call_abs hm (fun G H xs Q s r q => by
    cases r with
    | cons r1 r2 =>
      cases r2
      cases r1
      refine ⟨i, rfl, q _ G H (.refl s) ?_⟩
      have e : (if i < 0 then -i else i) = (i.natAbs : Int) := by split <;> omega
      rw [e]
      exact .int _) (ax_cons ha ax_nil he) hg (by decide +kernel) he rfl
theorem ex_lenL (hm : X.mg "len" = none) (ha : EX X W e δ (.ok (.lst ds))) (hg : Glo X "len" := by with_reducible assumption) (he : starEach [e] X.env = (false, eval e X.env) :: starEach [] X.env := by rfl) : EX X W (.Call (.Name "len" p) [e] [] pos) δ (.ok (.int ds.length)) :=
  ex_callB call_len_seq hm (fun G H xs Q s r q => by
    cases r with
    | cons r1 r2 =>
      cases r2
      cases r1 with
      | lst t r =>
        refine ⟨_, _, rfl, .inl (Same.seq s t), q _ G H (.refl s) ?_⟩
        rw [r.length]
        exact .int _) (ax_cons ha ax_nil he) hg (by decide +kernel) he rfl
theorem ex_lenT (hm : X.mg "len" = none) (ha : EX X W e δ (.ok (.tup ds))) (hg : Glo X "len" := by with_reducible assumption) (he : starEach [e] X.env = (false, eval e X.env) :: starEach [] X.env := by rfl) : EX X W (.Call (.Name "len" p) [e] [] pos) δ (.ok (.int ds.length)) :=
  ex_callB call_len_seq hm (fun G H xs Q s r q => by
    cases r with
    | cons r1 r2 =>
      cases r2
      cases r1 with
      | tup t r =>
        refine ⟨_, _, rfl, .inr (Same.tseq s t), q _ G H (.refl s) ?_⟩
        rw [r.length]
        exact .int _) (ax_cons ha ax_nil he) hg (by decide +kernel) he rfl
theorem ex_lenS {z : Str} (hm : X.mg "len" = none) (hz : z.length ≤ sizeLine) (ha : EX X W e δ (.ok (.str z))) (hg : Glo X "len" := by with_reducible assumption) (he : starEach [e] X.env = (false, eval e X.env) :: starEach [] X.env := by rfl) : EX X W (.Call (.Name "len" p) [e] [] pos) δ (.ok (.int z.length)) :=
  ex_callB call_len_str hm (fun G H xs Q s r q => by
    cases r with
    | cons r1 r2 =>
      cases r2
      cases r1
      exact ⟨z, rfl, hz, q _ G H (.refl s) (.int _)⟩) (ax_cons ha ax_nil he) hg (by decide +kernel) he rfl
/-- the type's name of a datum, for isinstance -/
def Dt.ty : Dt → Option String
  | .non => some "NoneType"
  | .bl _ => some "bool"
  | .int _ => some "int"
  | .str _ => some "str"
  | .tup _ => some "tuple"
  | .lst _ => some "list"
  | _ => none
theorem tyOf_rp {K : PySem.W.Frag} {G H : Hp} (s : Same G H) {x : V} {d : Dt} {t : String} (r : Rp K G x d) (h : d.ty = some t) : TyX K H x (.type t) := by
  cases r with
  | non => cases h; exact .base .non
  | bl b => cases h; exact .base (.bl b)
  | int i => cases h; exact .base (.int i)
  | str z => cases h; exact .base (.str z)
  | tup q _ =>
    cases h
    rcases Same.tseq s q with (z | ⟨o, z⟩) | ⟨o, its, n, z, c, _⟩
    · exact .base (.tup z)
    · exact .fTuple z
    · exact .kTuple z c
  | lst q _ =>
    cases h
    rcases Same.seq s q with (z | ⟨o, z⟩) | ⟨o, its, n, z, c, _⟩
    · exact .base (.lst z)
    · exact .base (.frz z)
    · exact .kList z c
  | dic q _ => cases h
  | v x => cases h
theorem kit_int_int : kitB "int" "int" = some true := by decide +kernel
theorem kit_int_bool : kitB "int" "bool" = some false := by decide +kernel
theorem kit_int_str : kitB "int" "str" = some false := by decide +kernel
theorem kit_int_tuple : kitB "int" "tuple" = some false := by decide +kernel
theorem kit_int_list : kitB "int" "list" = some false := by decide +kernel
theorem kit_int_dict : kitB "int" "dict" = some false := by decide +kernel
theorem kit_bool_int : kitB "bool" "int" = some true := by decide +kernel
theorem kit_bool_bool : kitB "bool" "bool" = some true := by decide +kernel
theorem kit_bool_str : kitB "bool" "str" = some false := by decide +kernel
theorem kit_bool_tuple : kitB "bool" "tuple" = some false := by decide +kernel
theorem kit_bool_list : kitB "bool" "list" = some false := by decide +kernel
theorem kit_bool_dict : kitB "bool" "dict" = some false := by decide +kernel
theorem kit_str_int : kitB "str" "int" = some false := by decide +kernel
theorem kit_str_bool : kitB "str" "bool" = some false := by decide +kernel
theorem kit_str_str : kitB "str" "str" = some true := by decide +kernel
theorem kit_str_tuple : kitB "str" "tuple" = some false := by decide +kernel
theorem kit_str_list : kitB "str" "list" = some false := by decide +kernel
theorem kit_str_dict : kitB "str" "dict" = some false := by decide +kernel
theorem kit_tuple_int : kitB "tuple" "int" = some false := by decide +kernel
theorem kit_tuple_bool : kitB "tuple" "bool" = some false := by decide +kernel
theorem kit_tuple_str : kitB "tuple" "str" = some false := by decide +kernel
theorem kit_tuple_tuple : kitB "tuple" "tuple" = some true := by decide +kernel
theorem kit_tuple_list : kitB "tuple" "list" = some false := by decide +kernel
theorem kit_tuple_dict : kitB "tuple" "dict" = some false := by decide +kernel
theorem kit_list_int : kitB "list" "int" = some false := by decide +kernel
theorem kit_list_bool : kitB "list" "bool" = some false := by decide +kernel
theorem kit_list_str : kitB "list" "str" = some false := by decide +kernel
theorem kit_list_tuple : kitB "list" "tuple" = some false := by decide +kernel
theorem kit_list_list : kitB "list" "list" = some true := by decide +kernel
theorem kit_list_dict : kitB "list" "dict" = some false := by decide +kernel
theorem kit_NoneType_int : kitB "NoneType" "int" = some false := by decide +kernel
theorem kit_NoneType_bool : kitB "NoneType" "bool" = some false := by decide +kernel
theorem kit_NoneType_str : kitB "NoneType" "str" = some false := by decide +kernel
theorem kit_NoneType_tuple : kitB "NoneType" "tuple" = some false := by decide +kernel
theorem kit_NoneType_list : kitB "NoneType" "list" = some false := by decide +kernel
theorem kit_NoneType_dict : kitB "NoneType" "dict" = some false := by decide +kernel
theorem bt_int : bootBuiltins "int" = some (.type "int") := by decide +kernel
theorem bt_bool : bootBuiltins "bool" = some (.type "bool") := by decide +kernel
theorem bt_str : bootBuiltins "str" = some (.type "str") := by decide +kernel
theorem bt_tuple : bootBuiltins "tuple" = some (.type "tuple") := by decide +kernel
theorem bt_list : bootBuiltins "list" = some (.type "list") := by decide +kernel
theorem bt_dict : bootBuiltins "dict" = some (.type "dict") := by decide +kernel
theorem ex_isi (n : String) {x : Str} {p1 : Pos} {t : String} {k : Bool} (hm : X.mg "isinstance" = none) (hx : X.mg x = none) (ha : EX X W e δ (.ok da)) (ht : da.ty = some t := by rfl) (hk : kitB t n = some k := by first | exact kit_int_int | exact kit_int_bool | exact kit_int_str | exact kit_int_tuple | exact kit_int_list | exact kit_int_dict | exact kit_bool_int | exact kit_bool_bool | exact kit_bool_str | exact kit_bool_tuple | exact kit_bool_list | exact kit_bool_dict | exact kit_str_int | exact kit_str_bool | exact kit_str_str | exact kit_str_tuple | exact kit_str_list | exact kit_str_dict | exact kit_tuple_int | exact kit_tuple_bool | exact kit_tuple_str | exact kit_tuple_tuple | exact kit_tuple_list | exact kit_tuple_dict | exact kit_list_int | exact kit_list_bool | exact kit_list_str | exact kit_list_tuple | exact kit_list_list | exact kit_list_dict | exact kit_NoneType_int | exact kit_NoneType_bool | exact kit_NoneType_str | exact kit_NoneType_tuple | exact kit_NoneType_list | exact kit_NoneType_dict) (hg : Glo X "isinstance" := by with_reducible assumption)
    (hv : bootBuiltins x = some (.type n) := by first | exact bt_int | exact bt_bool | exact bt_str | exact bt_tuple | exact bt_list | exact bt_dict) (hg2 : Glo X x := by with_reducible assumption) (he : ∀ es, starEach (e :: es) X.env = (false, eval e X.env) :: starEach es X.env := by intro _; rfl) :
    EX X W (.Call (.Name "isinstance" p) [e, .Name x p1] [] pos) δ (.ok (.bl k)) :=
  ex_callB (ds := [da, .v (.ty n)]) call_isi hm (fun G H xs Q s r q => by
    cases r with
    | cons r1 r2 =>
      cases r2 with
      | cons r3 r4 =>
        cases r4
        cases r3
        exact ⟨_, _, _, _, k, rfl, .ty n, tyOf_rp s r1 ht, kit_ty hk, q _ G H (.refl s) (.bl k)⟩) (ax_cons ha (ax_cons (ex_c (v := .ty n) (pe_bltn hg2.gl hx hv rfl hg2.nn hg2.d1) fun _ => .v _) ax_nil) (he _)) hg (by decide +kernel) (he _) rfl
end
end My

namespace My
open PySem L2 PySem.Spec
open PyProof.Rows (envOfC)
/-! ## promises -/
def RetE (K : PySem.W.Frag) (G H : Hp) (Q : VK) (E : XK) : Except Er Dt → Prop
  | .ok d => ∀ v G' H', Step G H G' H' → Rp K G' v d → Q v H'
  | .error e => ∀ c dx G' H', Step G H G' H' → ErOk K G' H' e c dx → E c dx H'
def spR (K : PySem.W.Frag) (n : Nat) (R : List Dt → Except Er Dt → Prop) : Sp := fun vs H Q E => ∃ ds G r, Same G H ∧ RpA K G vs ds ∧ ds.length = n ∧ R ds r ∧ RetE K G H Q E r
/-- the def named x takes n values and keeps R, at a room of k -/
def Fn (P : Program) (w : World) (K : PySem.W.Frag) (mg : Str → Option Value) (base : Heap) (x : Str) (n k : Nat) (R : List Dt → Except Er Dt → Prop) : Prop :=
  ∃ f fd ps, mg x = some (.ref f) ∧ PySem.W.keepIn K (.ref f) = true ∧ Binds K fd ps [] ∧ FnOk P w K mg base (L2.CX P w) k f fd ps (spR K n R)
inductive Out where
  | nx (δ : List Sl) | bk (δ : List Sl) | ct (δ : List Sl) | rt (d : Dt) | er (δ : List Sl) (e : Er)
def Fin (K : PySem.W.Frag) (W : WX) (G0 H0 G : Hp) (D : Ends) : Out → Prop
  | .nx δ => ∀ σ' G' H', Fits K G0 H0 G' H' σ' δ → Same G G' → D.nx σ' H'
  | .bk δ => ∀ σ' G' H', Fits K G0 H0 G' H' σ' δ → Same G G' → D.bk σ' H'
  | .ct δ => ∀ σ' G' H', Fits K G0 H0 G' H' σ' δ → Same G G' → D.ct σ' H'
  | .rt d => ∀ v G' H', Step G0 H0 G' H' → Rp K G' v d → D.rt v H'
  | .er δ e => ∀ c dx σ' G' H', Fits K G0 H0 G' H' σ' δ → Same G G' → ErOk K G' H' e c dx → W c dx σ' H'
def SO (K : PySem.W.Frag) (W : WX) (t : TS) (δ : List Sl) (P : Out → Prop) : Prop :=
  ∀ G0 H0 G H σ D, Fits K G0 H0 G H σ δ → (∀ o, P o → Fin K W G0 H0 G D o) → t D σ H
structure SX (X : Cx) (W : WX) (st : List Stmt) (δ : List Sl) (P : Out → Prop) : Prop where
  go : SO X.K W (semS X st) δ P
/-- what a def's end says of its result -/
def EndR (r : Except Er Dt) : Out → Prop
  | .nx _ => r = .ok .non
  | .rt d => r = .ok d
  | .er _ e => r = .error e
  | _ => False
theorem Fin.up {K : PySem.W.Frag} {W : WX} {G0 H0 G G' : Hp} {D : Ends} (s : Same G G') : ∀ {o : Out}, Fin K W G0 H0 G D o → Fin K W G0 H0 G' D o
  | .nx δ, h => fun σ' G2 H2 F q => h σ' G2 H2 F (s.trans q)
  | .bk δ, h => fun σ' G2 H2 F q => h σ' G2 H2 F (s.trans q)
  | .ct δ, h => fun σ' G2 H2 F q => h σ' G2 H2 F (s.trans q)
  | .rt d, h => h
  | .er δ e, h => fun c dx σ' G2 H2 F q => h c dx σ' G2 H2 F (s.trans q)
section
variable {P : Program} {w : World} {K : PySem.W.Frag} {mg : Str → Option Value} {base : Heap}
/-- where a def's body stands -/
structure Nx (X : Cx) (N : List Str) (sc : Scope) : Prop where
  n : X.N = N
  nd : N.Nodup
  env : ∃ qual L f cd, X.env = envOfC qual sc L f cd
  calm : X.calm = true
  stk : X.stack = X.env :: X.outer
  frm : X.env.frame = some X.env.locals
  fn : ∀ x, X.fn x = true
  pas : PassesOwn (model X.prog X.w) X.A X.env X.xe
theorem Nx.scope {X : Cx} {N : List Str} {sc : Scope} (h : Nx X N sc) : X.env.scope = sc := by
  obtain ⟨q, L, f, cd, e⟩ := h.env
  rw [e]
  rfl
theorem Nx.tr {X : Cx} {N : List Str} {sc : Scope} (h : Nx X N sc) {pn : List (Addr × Obj)} {xe : Value → Shared → Prop} (p : PassesOwn (model X.prog X.w) X.A X.env xe) : Nx (X.tr pn xe) N sc := ⟨h.n, h.nd, h.env, h.calm, h.stk, h.frm, h.fn, p⟩
def atB (N : List Str) (sc : Scope) (x : Str) (i : Nat) : Bool := decide (N[i]? = some x) && ((decide (sc.names.lookup x = some .local) || decide (sc.names.lookup x = some .cell)) && (!(x == ("__debug__" : Str)) && !(x == ("__classdict__" : Str))))
def gloB (sc : Scope) (x : Str) : Bool := decide (sc.names.lookup x = some .globalImplicit) && (!(x == ("__debug__" : Str)) && !decide (x = "__name__"))
theorem Nx.at {X : Cx} {N : List Str} {sc : Scope} (h : Nx X N sc) {x : Str} {i : Nat} (b : atB N sc x i = true) : At X x i := by
  unfold atB at b
  simp only [Bool.and_eq_true, Bool.or_eq_true, decide_eq_true_eq, Bool.not_eq_true'] at b
  obtain ⟨b1, b2, b3, b4⟩ := b
  have e := h.scope
  refine ⟨by rw [h.n]; exact h.nd, by rw [h.n]; exact b1, ?_, ?_, .inl (h.fn x), b3, b4⟩
  · show X.env.scope.names.lookup x = _ ∨ _
    rw [e]
    rcases b2 with z | z
    · exact .inl z
    · exact .inr (.inl z)
  · show X.env.scope.names.lookup x = _ ∨ _
    rw [e]
    exact b2
theorem Nx.glo {X : Cx} {N : List Str} {sc : Scope} (h : Nx X N sc) {x : Str} (b : gloB sc x = true) : Glo X x := by
  unfold gloB at b
  simp only [Bool.and_eq_true, decide_eq_true_eq, Bool.not_eq_true', decide_eq_false_iff_not] at b
  obtain ⟨b1, b2, b3⟩ := b
  refine ⟨?_, b2, b3⟩
  show X.env.scope.names.lookup x = _
  rw [h.scope]
  exact b1
/-- in an except suite -/
theorem At.suite {X : Cx} {x : Str} {i : Nat} (h : At X x i) {a : Addr} {pn : List (Addr × Obj)} : At (X.suite a pn) x i := ⟨h.nd, h.ix, h.vi, h.lo, h.fn, h.d1, h.d2⟩
theorem Glo.suite {X : Cx} {x : Str} (h : Glo X x) {a : Addr} {pn : List (Addr × Obj)} : Glo (X.suite a pn) x := ⟨h.gl, h.d1, h.nn⟩
/-- the slots at a def's start -/
def ini (N : List Str) (ds : List Dt) : List Sl := ds.map Sl.dt ++ List.replicate (N.length - ds.length) Sl.no
theorem nx_of {P : Program} {w : World} {K : PySem.W.Frag} {mg : Str → Option Value} {base : Heap} {N ps : List Str} {qual : Str} {scope : Scope} {f : Addr} {cd : Value} {A : Around} {outer : List Env} {s : Shared} {H : Hp} {E : XK} (S : FnScope N ps scope) :
    Nx (cxOf (L2.CX P w) P w K mg base N qual scope f cd A outer s H E) N scope := ⟨rfl, S.nd, ⟨_, _, _, _, rfl⟩, rfl, rfl, rfl, fun _ => rfl, passes_of rfl⟩
theorem fn_mk {x qual : Str} {params : Arguments} {body : List Stmt} {scope : Scope} {f : Addr} {fd : FuncData} {N ps : List Str} {n k : Nat} {R : List Dt → Except Er Dt → Prop} (F : FunD K x qual params body scope [] [] f fd) (S : FnScope N ps scope) (hn : ps.length = n)
    (hb : ∀ (cdv : Value) (A : Around) (outer : List Env) (s : Shared) (H : Hp) (E : XK), Room k (A.deeper (envOfC qual scope s.heap.objs.size f cdv)) → Takes (cxOf (L2.CX P w) P w K mg base N qual scope f cdv A outer s H E) (fun cls d _ H => E cls d H) →
      ∀ ds r, R ds r → SX (cxOf (L2.CX P w) P w K mg base N qual scope f cdv A outer s H E) (fun cls d _ H => E cls d H) body (ini N ds) (EndR r)) :
    FnOk P w K mg base (L2.CX P w) (k + 1) f fd ps (spR K n R) := by
  refine F.ok S (fun vs H Q E h => ?_) (fun cdv A outer s H vs Q E hr h => ⟨_, pss_sem _, ?_⟩)
  · obtain ⟨ds, G, r, _, r1, hl, _⟩ := h
    rw [r1.length, hl, hn]
  · obtain ⟨ds, G, r, sub, r1, hl, hR, ret⟩ := h
    have F0 : Fits K G H G H (L2.start N vs) (ini N ds) := by
      have z := Fits.start (k := N.length - ds.length) sub r1
      unfold L2.start ini
      rw [r1.length]
      exact z
    refine (hb cdv A outer s H E hr (takes_of rfl rfl rfl rfl) ds r hR).go G H G H (L2.start N vs) _ F0 fun o ho => ?_
    cases o with
    | nx δ =>
      cases (show r = .ok .non from ho)
      exact fun σ' G' H' F' _ => ret .non G' H' F'.stp .non
    | rt d =>
      cases (show r = .ok d from ho)
      exact fun v G' H' s q => ret v G' H' s q
    | er δ e =>
      cases (show r = .error e from ho)
      exact fun c dx σ' G' H' F' _ k => ret c dx G' H' F'.stp k
    | bk δ => exact ho.elim
    | ct δ => exact ho.elim
end
section
variable {X : Cx} {W : WX} {δ : List Sl} {e a b c : Expr} {es : List Expr} {pos p : Pos} {i j : Int} {da db dc : Dt} {ds : List Dt} {Po : Out → Prop} {rest : List Stmt} {x : Str} {n k : Nat} {R : List Dt → Except Er Dt → Prop}
theorem ex_call {r : Except Er Dt} (F : Fn X.prog X.w X.K X.mg X.base x n k R) (tk : Takes X W) (hr : Room k X.A) (ha : AX X W (e :: es) δ (.ok ds)) (h : R ds r) (hl : ds.length = n := by rfl) (hg : Glo X x := by with_reducible assumption)
    (he : starEach (e :: es) X.env = (false, eval e X.env) :: starEach es X.env := by rfl) (hpl : (backTo pos (starEach es X.env)).any (·.1) = false := by rfl) : EX X W (.Call (.Name x p) (e :: es) [] pos) δ r := by
  obtain ⟨f, fd, ps, hm, kp, hb, G⟩ := F
  refine ex_of (pe_callS G hr hg.gl hm kp hb (fun σ => passAt tk σ) (pa_sem (e :: es)) hg.d1 he hpl) fun G0 H0 G H σ Q F hr => ha.then F fun xs G1 H1 s1 rs => ⟨ds, G1, r, s1.sub, rs, hl, h, ?_⟩
  cases r with
  | ok d => exact fun v G' H' s q => hr v G' H' (s1.trans s) q
  | error z => exact fun c dx G' H' s q => hr c dx G' H' (s1.trans s) q
theorem ex_call_er {z : Er} (F : Fn X.prog X.w X.K X.mg X.base x n k R) (tk : Takes X W) (hr : Room k X.A) (ha : AX X W (e :: es) δ (.error z)) (hg : Glo X x := by with_reducible assumption)
    (he : starEach (e :: es) X.env = (false, eval e X.env) :: starEach es X.env := by rfl) (hpl : (backTo pos (starEach es X.env)).any (·.1) = false := by rfl) : EX X W (.Call (.Name x p) (e :: es) [] pos) δ (.error z) := by
  obtain ⟨f, fd, ps, hm, kp, hb, G⟩ := F
  exact ex_of (pe_callS G hr hg.gl hm kp hb (fun σ => passAt tk σ) (pa_sem (e :: es)) hg.d1 he hpl) fun G0 H0 G H σ Q F hr => ha.then F fun c dx G' H' s q => hr c dx G' H' s q
theorem ex_call0 {d : Dt} (F : Fn X.prog X.w X.K X.mg X.base x 0 k R) (hr : Room k X.A) (h : R [] (.ok d)) (hg : Glo X x := by with_reducible assumption) : EX X W (.Call (.Name x p) [] [] pos) δ (.ok d) := by
  obtain ⟨f, fd, ps, hm, kp, hb, G⟩ := F
  exact ex_of (pe_call0 G hr hg.gl hm kp hb .nil passL hg.d1) fun G0 H0 G H σ Q F hr => ⟨[], G, .ok d, F.sub, .nil, rfl, h, fun v G' H' s q => hr v G' H' s q⟩
/-! ## statements -/
theorem sx_nil (h : Po (.nx δ)) : SX X W [] δ Po := ⟨fun G0 H0 G H σ D F q pins s I => pss_nil.run pins s σ H D I (q _ h σ G H F (Same.refl G))⟩
/-- a block, then the rest -/
def thenP (X : Cx) (W : WX) (rest : List Stmt) (Po : Out → Prop) : Out → Prop
  | .nx δ => SX X W rest δ Po
  | o => Po o
theorem sx_cons {st : Stmt} {t : TS} (h : PS X st t) (q : SO X.K W t δ (thenP X W rest Po)) : SX X W (st :: rest) δ Po := ⟨fun G0 H0 G H σ D F hP pins s I =>
  (pss_cons h (pss_sem rest)).run pins s σ H D I (q G0 H0 G H σ { D with nx := semS X rest D } F fun o ho => by
    cases o with
    | nx δ' => exact fun σ' G' H' F' s' => ho.go G0 H0 G' H' σ' D F' fun o' ho' => (hP o' ho').up s'
    | bk δ' => exact hP (.bk δ') ho
    | ct δ' => exact hP (.ct δ') ho
    | rt d => exact hP (.rt d) ho
    | er δ' z => exact hP (.er δ' z) ho)⟩
theorem so_asg {te : TE} {k : Nat} (P : Out → Prop) (h : GO X.K W (Rp X.K) te δ (.ok da)) (q : P (.nx (δ.set k (.dt da)))) : SO X.K W (tAsg te (gName k)) δ P := fun G0 H0 G H σ D F hP =>
  h.then F fun v G1 H1 s1 r => hP _ q _ G1 H1 ((F.step s1).set r) s1.g
theorem sx_set {k : Nat} {y : Str} {p2 : Pos} (he : EX X W e δ (.ok da)) (q : SX X W rest (δ.set k (.dt da)) Po) (ha : At X y k := by with_reducible assumption)
    (hs : swapsWith e (some (.Name y p2)) pos.line X.env = pure false := by rfl) : SX X W (.Assign [.Name y p2] e pos :: rest) δ Po :=
  sx_cons (ps_set ha.nd ha.ix ha.lo (pe_sem e) hs ha.fn) (so_asg _ he.go q)
theorem sx_set_er {k : Nat} {y : Str} {p2 : Pos} {z : Er} (he : EX X W e δ (.error z)) (q : Po (.er δ z)) (ha : At X y k := by with_reducible assumption)
    (hs : swapsWith e (some (.Name y p2)) pos.line X.env = pure false := by rfl) : SX X W (.Assign [.Name y p2] e pos :: rest) δ Po :=
  sx_cons (ps_set ha.nd ha.ix ha.lo (pe_sem e) hs ha.fn) fun G0 H0 G H σ D F hP => he.then F fun c dx G1 H1 s1 r => hP (.er δ z) q c dx σ G1 H1 (F.step s1) s1.g r
/-- a new list of one's own -/
theorem sx_own {k : Nat} {y : Str} {p1 p2 : Pos} (he : AX X W es δ (.ok ds)) (q : SX X W rest (δ.set k (.own ds)) Po) (ha : At X y k := by with_reducible assumption) (hl : ds.length ≤ sizeLine := by (rw [sizeLine_eq]; simp only [List.length_cons, List.length_nil]; omega))
    (hs : swapsWith (.List es p1) (some (.Name y p2)) pos.line X.env = pure false := by rfl) : SX X W (.Assign [.Name y p2] (.List es p1) pos :: rest) δ Po :=
  sx_cons (ps_set ha.nd ha.ix ha.lo (pe_lst (pa_sem es)) hs ha.fn) fun G0 H0 G H σ D F hP => he.then F fun vs G1 H1 s1 r => ⟨by rw [r.length]; exact hl, fun a ha => hP (.nx (δ.set k (.own ds))) q _ G1 _ ((F.step s1).setOwn (o := .lst vs) ha r) s1.g⟩
theorem sx_ret (he : EX X W e δ (.ok da)) (q : Po (.rt da)) : SX X W (.Return (some e) pos :: rest) δ Po :=
  sx_cons (ps_ret (pe_sem e)) fun G0 H0 G H σ D F hP => he.then F fun v G1 H1 s1 r => hP (.rt da) q v G1 H1 (F.stp.trans s1) r
theorem sx_ret_er {z : Er} (he : EX X W e δ (.error z)) (q : Po (.er δ z)) : SX X W (.Return (some e) pos :: rest) δ Po :=
  sx_cons (ps_ret (pe_sem e)) fun G0 H0 G H σ D F hP => he.then F fun c dx G1 H1 s1 r => hP (.er δ z) q c dx σ G1 H1 (F.step s1) s1.g r
/-- an owned list is given away -/
theorem sx_freeze {st : List Stmt} (k : Nat) (hδ : δ[k]? = some (.own ds)) (q : SX X W st (δ.set k (.dt (.lst ds))) Po) : SX X W st δ Po := ⟨fun G0 H0 G H σ D F hP => by
  obtain ⟨a, vs, _, _, g, _, _, _, F'⟩ := F.own hδ
  exact q.go G0 H0 _ H σ D F' fun o ho => (hP o ho).up (same_upd g)⟩
theorem sx_drop (he : EX X W e δ (.ok da)) (q : SX X W rest δ Po) (hs : swapsWith e none pos.line X.env = pure false := by rfl) : SX X W (.Expr e pos :: rest) δ Po :=
  sx_cons (ps_expr (pe_sem e) hs) fun G0 H0 G H σ D F hP => he.then F fun v G1 H1 s1 r => hP (.nx δ) q σ G1 H1 (F.step s1) s1.g
theorem sx_drop_er {z : Er} (he : EX X W e δ (.error z)) (q : Po (.er δ z)) (hs : swapsWith e none pos.line X.env = pure false := by rfl) : SX X W (.Expr e pos :: rest) δ Po :=
  sx_cons (ps_expr (pe_sem e) hs) fun G0 H0 G H σ D F hP => he.then F fun c dx G1 H1 s1 r => hP (.er δ z) q c dx σ G1 H1 (F.step s1) s1.g r
theorem sx_if {k : Bool} {sa sb : List Stmt} (hc : TX X W c δ (.ok k)) (h1 : k = true → SX X W sa δ (thenP X W rest Po)) (h2 : k = false → SX X W sb δ (thenP X W rest Po)) : SX X W (.If c sa sb pos :: rest) δ Po :=
  sx_cons (ps_if (pt_sem c) (pss_sem sa) (pss_sem sb)) fun G0 H0 G H σ D F hP => hc.then F fun b G1 H1 s1 rb => by
    cases (show b = k from rb)
    cases k with
    | true => exact iteT ((h1 rfl).go G0 H0 G1 H1 σ D (F.step s1) fun o ho => (hP o ho).up s1.g)
    | false => exact iteF ((h2 rfl).go G0 H0 G1 H1 σ D (F.step s1) fun o ho => (hP o ho).up s1.g)
theorem sx_pass (q : SX X W rest δ Po) : SX X W (.Pass pos :: rest) δ Po := sx_cons ps_pass fun G0 H0 G H σ D F hP => hP (.nx δ) q σ G H F (Same.refl G)
theorem sx_break (q : Po (.bk δ)) : SX X W (.Break pos :: rest) δ Po := sx_cons ps_break fun G0 H0 G H σ D F hP => hP (.bk δ) q σ G H F (Same.refl G)
theorem sx_cont (q : Po (.ct δ)) : SX X W (.Continue pos :: rest) δ Po := sx_cons ps_continue fun G0 H0 G H σ D F hP => hP (.ct δ) q σ G H F (Same.refl G)
/-- x.append(e) -/
theorem sx_app {k : Nat} {y : Str} {p1 p2 p3 : Pos} (he : EX X W e δ (.ok da)) (hz : ds.length < sizeLine) (q : SX X W rest (δ.set k (.own (ds ++ [da]))) Po) (ha : At X y k := by with_reducible assumption) (hδ : δ[k]? = some (.own ds) := by rfl)
    (h1 : starEach (e :: []) X.env = (false, eval e X.env) :: starEach [] X.env := by rfl) (h2 : (p2.endLine == p3.line) = true := by rfl) :
    SX X W (.Expr (.Call (.Attribute (.Name y p1) "append" p2) [e] [] p3) pos :: rest) δ Po :=
  sx_cons (ps_expr (pe_bm PySem.F.plainAttrs_list PySem.F.slot_list_append PySem.F.type_list_append mt_append (pe_var ha.ix ha.vi ha.d1 ha.d2) (pa_cons (pe_sem e) pa_nil h1) rfl (by rw [h1]; rfl) h2 h1 rfl) rfl) fun G0 H0 G H σ D F hP => by
    obtain ⟨a, vs, e1, e2, g, _, r, w, _⟩ := F.own hδ
    refine ⟨_, e1, .inl ⟨rfl, vs, SqL.of e2⟩, he.then F fun v G1 H1 s1 r1 => ?_⟩
    obtain ⟨a', vs', e1', e2', g', _, r', w', _⟩ := (F.step s1).own hδ
    rw [e1] at e1'
    cases e1'
    refine ⟨a, vs', v, rfl, rfl, e2', by rw [r'.length]; exact hz, ?_⟩
    exact hP (.nx (δ.set k (.own (ds ++ [da])))) q σ G1 _ (w' _ _ (r'.append (.cons r1 .nil))) s1.g
theorem sx_raise {z : Str} {m : Str} {jj : Nat} {p1 p2 p3 pos : Pos} (hc : X.calm = true) (tk : Takes X W) (hx : PySem.W.excIn X.K (He.ga X.K z) He.veBase "ValueError.__new__" = true) (gC : X.mg z = some (.ref (He.ga X.K z))) (kC : PySem.W.keepIn X.K (.ref (He.ga X.K z)) = true) (r1 : PySem.W.subIn X.K (.ref (He.ga X.K z)) (.type "BaseException") = some true) (r2 : PySem.W.typeIn X.K (.ref (He.ga X.K z)) = some (.type "type"))
    (q : Po (.er δ ⟨z, none⟩)) (hg : Glo X z := by with_reducible assumption) : SX X W (.Raise (some (.Call (.Name z p1) [.Constant (.str m) jj p2] [] p3)) none pos :: rest) δ Po :=
  sx_cons (ps_raise hc tk (pmk_own PySem.F.excBase_ValueError hx gC kC (raises_own r1 r2) hg.gl hg.d1)) fun G0 H0 G H σ D F hP => hP (.er δ ⟨z, none⟩) q _ _ σ G H F (Same.refl G) ⟨rfl, rfl⟩
/-- while -/
theorem sx_while {body : List Stmt} (I : List Sl → Prop) (μ : List Sl → Nat) (h0 : I δ)
    (hs : ∀ δ', I δ' → ∃ k, TX X W c δ' (.ok k) ∧ (k = true → SX X W body δ' fun o => match o with
      | .nx δ2 => I δ2 ∧ μ δ2 < μ δ'
      | .ct δ2 => I δ2 ∧ μ δ2 < μ δ'
      | .bk δ2 => SX X W rest δ2 Po
      | .rt d => Po (.rt d)
      | .er δ2 e => Po (.er δ2 e)) ∧ (k = false → SX X W rest δ' Po)) (hp : PassesOwn (model X.prog X.w) X.A X.env X.xe := by with_reducible assumption) : SX X W (.While c body [] pos :: rest) δ Po :=
  sx_cons (ps_while hp (pt_sem c) (pss_sem body)) fun G0 H0 G H σ D F hP => by
    refine ⟨fun m σ' H' => ∃ G' δ', Fits X.K G0 H0 G' H' σ' δ' ∧ Same G G' ∧ I δ' ∧ μ δ' = m, ⟨μ δ, G, δ, F, Same.refl G, h0, rfl⟩, ?_⟩
    rintro m σ' H' ⟨G', δ', F', sg, hI, rfl⟩
    obtain ⟨k, hc, h1, h2⟩ := hs δ' hI
    refine hc.then F' fun b G1 H1 s1 rb => ?_
    cases (show b = k from rb)
    cases k with
    | true =>
      rw [if_pos rfl]
      refine ⟨fun σ2 H2 => ∃ G2 δ2, Fits X.K G0 H0 G2 H2 σ2 δ2 ∧ Same G G2 ∧ I δ2 ∧ μ δ2 < μ δ', fun σ2 H2 ⟨G2, δ2, F2, s2, i2, l2⟩ => ⟨μ δ2, l2, G2, δ2, F2, s2, i2, rfl⟩, ?_⟩
      refine (h1 rfl).go G0 H0 G1 H1 σ' _ (F'.step s1) fun o ho => ?_
      cases o with
      | nx δ2 => exact fun σ2 G2 H2 F2 s2 => ⟨G2, δ2, F2, (sg.trans s1.g).trans s2, ho.1, ho.2⟩
      | ct δ2 => exact fun σ2 G2 H2 F2 s2 => ⟨G2, δ2, F2, (sg.trans s1.g).trans s2, ho.1, ho.2⟩
      | bk δ2 => exact fun σ2 G2 H2 F2 s2 => hP (.nx δ2) ho σ2 G2 H2 F2 ((sg.trans s1.g).trans s2)
      | rt d => exact hP (.rt d) ho
      | er δ2 e => exact (hP (.er δ2 e) ho).up (sg.trans s1.g)
    | false =>
      rw [if_neg Bool.false_ne_true]
      exact hP (.nx δ') (h2 rfl) σ' G1 H1 (F'.step s1) (sg.trans s1.g)
end
end My

namespace My
open PySem L2 PySem.Spec
/-! ## targets -/
def TgOk (K : PySem.W.Frag) (g : TG) (d : Dt) (δ δ' : List Sl) : Prop := ∀ G0 H0 G H σ v (Q : L2.St → Hp → Prop), Fits K G0 H0 G H σ δ → Rp K G v d → (∀ σ', Fits K G0 H0 G H σ' δ' → Q σ' H) → g v σ H Q
def TgsOk (K : PySem.W.Frag) (g : TGs) (ds : List Dt) (δ δ' : List Sl) : Prop := ∀ G0 H0 G H σ vs (Q : L2.St → Hp → Prop), Fits K G0 H0 G H σ δ → RpA K G vs ds → (∀ σ', Fits K G0 H0 G H σ' δ' → Q σ' H) → g vs σ H Q
section
variable {K : PySem.W.Frag} {δ δ' δ'' : List Sl} {d : Dt} {ds : List Dt}
theorem tg_name (j : Nat) : TgOk K (gName j) d δ (δ.set j (.dt d)) := fun G0 H0 G H σ v Q F r q => q _ (F.set r)
theorem tgs_nil : TgsOk K gNil [] δ δ := fun G0 H0 G H σ vs Q F r q => by
  cases r
  exact ⟨rfl, q _ F⟩
theorem tgs_cons {g : TG} {gs : TGs} (h : TgOk K g d δ δ') (hs : TgsOk K gs ds δ' δ'') : TgsOk K (gCons g gs) (d :: ds) δ δ'' := fun G0 H0 G H σ vs Q F r q => by
  cases r with
  | cons r1 r2 => exact ⟨_, _, rfl, h G0 H0 G H σ _ _ F r1 fun σ' F' => hs G0 H0 G H σ' _ Q F' r2 q⟩
theorem tg_tup {n : Nat} {gs : TGs} (h : TgsOk K gs ds δ δ') (hn : ds.length = n := by rfl) : TgOk K (gTup K n gs) (.tup ds) δ δ' := fun G0 H0 G H σ v Q F r q => by
  cases r with
  | tup t r => exact ⟨_, _, rfl, Same.tseq F.sub t, by rw [r.length]; exact hn, h G0 H0 G H σ _ Q F r q⟩
end
/-! ## what is walked -/
def Wk (K : PySem.W.Frag) (G1 : Hp) (J : It) (ds : List Dt) : Prop := ∀ i G H, Same G1 G → Same G H →
  (∀ d, ds[i]? = some d → J.go i H ∧ ∀ x H', J.yld i H x H' → ∃ G', Step G H G' H' ∧ Rp K G' x d) ∧ (ds.length ≤ i → J.stop i H)
def IO (K : PySem.W.Frag) (wi : TI) (δ : List Sl) (ds : List Dt) : Prop := ∀ G0 H0 G H σ (R : It → Hp → Prop), Fits K G0 H0 G H σ δ → (∀ J G1 H1, Step G H G1 H1 → Wk K G1 J ds → R J H1) → wi σ H R
theorem wk_list {K : PySem.W.Frag} {G1 : Hp} {a : Addr} {vs : List V} {ds : List Dt} (h : SqL K G1 a vs) (r : RpA K G1 vs ds) (uniq : ∀ H xs, SqL K H a xs → SqL K H a vs → xs = vs) : Wk K G1 (Itl K a) ds := fun i G H s1 s2 => by
  have hl := Same.seq (s1.trans s2) h
  refine ⟨fun d e => ?_, fun hi => ⟨vs, hl, by rw [r.length]; exact hi⟩⟩
  obtain ⟨x, ex, rx⟩ := r.get e
  refine ⟨⟨vs, x, hl, ex⟩, fun y H' ⟨e1, e2⟩ => ?_⟩
  subst e1
  have e3 := (e2 vs hl).symm.trans ex
  cases e3
  exact ⟨G, Step.refl s2, rx.up s1⟩
section
variable {X : Cx} {W : WX} {δ : List Sl} {e a b c : Expr} {es : List Expr} {pos p : Pos} {i j : Int} {da db dc : Dt} {ds : List Dt} {Po : Out → Prop} {rest : List Stmt} {x : Str} {n k : Nat}
theorem io_list (h : EX X W e δ (.ok (.lst ds))) : IO X.K (iList X.K (semE X e)) δ ds := fun G0 H0 G H σ R F q => h.then F fun v G1 H1 s1 r => by
  cases r with
  | @lst a vs _ t r =>
    refine ⟨a, rfl, ⟨vs, Same.seq s1.sub t⟩, q _ G1 H1 s1 fun i G H s1 s2 => ?_⟩
    have hl := Same.seq (s1.trans s2) t
    refine ⟨fun d e => ?_, fun hi => ⟨vs, hl, by rw [r.length]; exact hi⟩⟩
    obtain ⟨x, ex, rx⟩ := r.get e
    refine ⟨⟨vs, x, hl, ex⟩, fun y H' ⟨e1, e2⟩ => ?_⟩
    subst e1
    have e3 := (e2 vs hl).symm.trans ex
    cases e3
    exact ⟨G, Step.refl s2, rx.up s1⟩
theorem io_tup (h : EX X W e δ (.ok (.tup ds))) : IO X.K (iTup X.K (semE X e)) δ ds := fun G0 H0 G H σ R F q => h.then F fun v G1 H1 s1 r => by
  cases r with
  | @tup a vs _ t r =>
    refine ⟨a, rfl, ⟨vs, Same.tseq s1.sub t⟩, q _ G1 H1 s1 fun i G H s1 s2 => ?_⟩
    have hl := Same.tseq (s1.trans s2) t
    refine ⟨fun d e => ?_, fun hi => ⟨vs, hl, by rw [r.length]; exact hi⟩⟩
    obtain ⟨x, ex, rx⟩ := r.get e
    refine ⟨⟨vs, x, hl, ex⟩, fun y H' ⟨e1, e2⟩ => ?_⟩
    subst e1
    have e3 := (e2 vs hl).symm.trans ex
    cases e3
    exact ⟨G, Step.refl s2, rx.up s1⟩
/-- lo, lo + 1, .. (n of them) -/
def dRange (lo : Int) (n : Nat) : List Dt := (List.range n).map fun k => Dt.int (lo + (k : Nat))
theorem dRange_len (lo : Int) (n : Nat) : (dRange lo n).length = n := by simp [dRange]
theorem wk_range {K : PySem.W.Frag} {G1 : Hp} {lo : Int} {n : Nat} : Wk K G1 (Itr lo n) (dRange lo n) := fun i G H s1 s2 => by
  refine ⟨fun d e => ?_, fun hi => by rw [dRange_len] at hi; exact hi⟩
  have hi : i < n := by
    have z := (List.getElem?_eq_some_iff.mp e).1
    rw [dRange_len] at z
    exact z
  unfold dRange at e
  rw [List.getElem?_map, List.getElem?_range hi] at e
  cases e
  exact ⟨hi, fun y H' ⟨e1, e2⟩ => by subst e1 e2; exact ⟨G, Step.refl s2, .int _⟩⟩
theorem io_range1 (h : AX X W es δ (.ok [.int j])) (h1 : -(2 ^ 62) ≤ j) (h2 : j < 2 ^ 62) : IO X.K (iRng1 (semA X es)) δ (dRange 0 j.toNat) := fun G0 H0 G H σ R F q => h.then F fun v G1 H1 s1 r => by
  cases r with
  | cons r1 r2 =>
    cases r2
    cases r1
    exact ⟨j, rfl, h1, h2, q _ G1 H1 s1 wk_range⟩
theorem io_range2 (h : AX X W es δ (.ok [.int i, .int j])) (hb : -(2 ^ 62) ≤ i ∧ i < 2 ^ 62 ∧ -(2 ^ 62) ≤ j ∧ j < 2 ^ 62) : IO X.K (iRng2 (semA X es)) δ (dRange i (j - i).toNat) := fun G0 H0 G H σ R F q => h.then F fun v G1 H1 s1 r => by
  cases r with
  | cons r1 r2 =>
    cases r2 with
    | cons r3 r4 =>
      cases r4
      cases r1
      cases r3
      exact ⟨i, j, rfl, hb, q _ G1 H1 s1 wk_range⟩
def dEnum : Nat → List Dt → List Dt
  | _, [] => []
  | k, d :: ds => .tup [.int (k : Nat), d] :: dEnum (k + 1) ds
theorem dEnum_get : ∀ (ds : List Dt) (k i : Nat), (dEnum k ds)[i]? = (ds[i]?).map fun d => Dt.tup [.int ((k + i : Nat) : Int), d]
  | [], _, _ => by simp [dEnum]
  | d :: ds, k, 0 => by simp [dEnum]
  | d :: ds, k, i + 1 => by
    rw [dEnum, List.getElem?_cons_succ, List.getElem?_cons_succ, dEnum_get ds (k + 1) i, show k + 1 + i = k + (i + 1) by omega]
theorem dEnum_len : ∀ (ds : List Dt) (k : Nat), (dEnum k ds).length = ds.length
  | [], _ => rfl
  | d :: ds, k => by rw [dEnum, List.length_cons, List.length_cons, dEnum_len ds (k + 1)]
theorem io_enum (h : AX X W es δ (.ok [.lst ds])) : IO X.K (iEnum X.K (semA X es)) δ (dEnum 0 ds) := fun G0 H0 G H σ R F q => h.then F fun v G1 H1 s1 r => by
  cases r with
  | cons r1 r2 =>
    cases r2
    cases r1 with
    | @lst a vs _ t r =>
      refine ⟨a, vs, rfl, Same.seq s1.sub t, q _ G1 H1 s1 fun i G H s1 s2 => ?_⟩
      have hl := Same.seq (s1.trans s2) t
      refine ⟨fun d e => ?_, fun hi => ⟨vs, hl, by rw [dEnum_len] at hi; rw [r.length]; exact hi⟩⟩
      rw [dEnum_get] at e
      cases e0 : ds[i]? with
      | none => rw [e0] at e; cases e
      | some d0 =>
        rw [e0] at e
        cases e
        obtain ⟨x, ex, rx⟩ := r.get e0
        refine ⟨⟨vs, x, hl, ex⟩, fun y H' ⟨T, x', e1, hT, e2, e3⟩ => ?_⟩
        have e4 := (e3 vs hl).symm.trans ex
        cases e4
        subst e1 e2
        refine ⟨upd G T (.tup [.int (i : Nat), x]), Step.laid s2 _ hT, .tup (.inl (.inl upd_same)) (.cons ?_ (.cons ((rx.up s1).up (same_upd (none_back s2 hT))) .nil))⟩
        rw [show ((0 + i : Nat) : Int) = (i : Int) by omega]
        exact .int _
def dZip : List Dt → List Dt → List Dt
  | d :: ds, e :: es => .tup [d, e] :: dZip ds es
  | _, _ => []
theorem dZip_get : ∀ (ds es : List Dt) (i : Nat) (z : Dt), (dZip ds es)[i]? = some z → ∃ d e, ds[i]? = some d ∧ es[i]? = some e ∧ z = .tup [d, e]
  | [], _, i, z, h => by simp [dZip] at h
  | d :: ds, [], i, z, h => by simp [dZip] at h
  | d :: ds, e :: es, 0, z, h => ⟨d, e, rfl, rfl, by simp [dZip] at h; exact h.symm⟩
  | d :: ds, e :: es, i + 1, z, h => by
    rw [dZip, List.getElem?_cons_succ] at h
    obtain ⟨d', e', h1, h2, h3⟩ := dZip_get ds es i z h
    exact ⟨d', e', h1, h2, h3⟩
theorem dZip_len : ∀ (ds es : List Dt), (dZip ds es).length = min ds.length es.length
  | [], _ => by simp [dZip]
  | d :: ds, [] => by simp [dZip]
  | d :: ds, e :: es => by
    rw [dZip, List.length_cons, dZip_len ds es, List.length_cons, List.length_cons]
    omega
theorem io_zip {ds' : List Dt} (h : AX X W es δ (.ok [.lst ds, .lst ds'])) : IO X.K (iZip X.K (semA X es)) δ (dZip ds ds') := fun G0 H0 G H σ R F q => h.then F fun v G1 H1 s1 r => by
  cases r with
  | cons r1 r2 =>
    cases r2 with
    | cons r3 r4 =>
      cases r4
      cases r1 with
      | @lst a vs _ t r =>
        cases r3 with
        | @lst a' vs' _ t' r' =>
          refine ⟨a, a', vs, vs', rfl, Same.seq s1.sub t, Same.seq s1.sub t', q _ G1 H1 s1 fun i G H s1 s2 => ?_⟩
          have hl := Same.seq (s1.trans s2) t
          have hl' := Same.seq (s1.trans s2) t'
          refine ⟨fun d e => ?_, fun hi => ⟨vs, vs', hl, hl', by rw [dZip_len] at hi; rw [r.length, r'.length]; omega⟩⟩
          obtain ⟨d1, d2, e1, e2, rfl⟩ := dZip_get _ _ _ _ e
          obtain ⟨x, ex, rx⟩ := r.get e1
          obtain ⟨x', ex', rx'⟩ := r'.get e2
          refine ⟨⟨vs, vs', x, x', hl, hl', ex, ex'⟩, fun y H' ⟨T, y1, y2, e1, hT, e2, e3, e4⟩ => ?_⟩
          have e5 := (e3 vs hl).symm.trans ex
          have e6 := (e4 vs' hl').symm.trans ex'
          cases e5
          cases e6
          subst e1 e2
          have sm := same_upd (o := .tup [x, x']) (none_back s2 hT)
          exact ⟨upd G T (.tup [x, x']), Step.laid s2 _ hT, .tup (.inl (.inl upd_same)) (.cons ((rx.up s1).up sm) (.cons ((rx'.up s1).up sm) .nil))⟩
theorem io_str {z : Str} (h : EX X W e δ (.ok (.str z))) : IO X.K (iStr (semE X e)) δ (z.cps.toList.map fun c => .str ⟨#[c]⟩) := fun G0 H0 G H σ R F q => h.then F fun v G1 H1 s1 r => by
  cases r
  refine ⟨z, rfl, q _ G1 H1 s1 fun i G H s1 s2 => ⟨fun d e => ?_, fun hi => by rw [List.length_map, Array.length_toList] at hi; exact hi⟩⟩
  rw [List.getElem?_map, Array.getElem?_toList] at e
  cases e0 : z.cps[i]? with
  | none => rw [e0] at e; cases e
  | some c =>
    rw [e0] at e
    cases e
    refine ⟨(Array.getElem?_eq_some_iff.mp e0).1, fun y H' ⟨e1, c', e2, e3⟩ => ?_⟩
    rw [e0] at e2
    cases e2
    subst e1 e3
    exact ⟨G, Step.refl s2, .str _⟩
/-! ## for -/
def loopP (X : Cx) (W : WX) (rest : List Stmt) (I : List Sl → Prop) (Po : Out → Prop) : Out → Prop
  | .nx δ => I δ
  | .ct δ => I δ
  | .bk δ => SX X W rest δ Po
  | .rt d => Po (.rt d)
  | .er δ e => Po (.er δ e)
theorem sx_for {tg it : Expr} {body : List Stmt} {wi : TI} {g : TG} (hi : PI X tg it wi) (hg : PG X tg g) (io : IO X.K wi δ ds) (I : Nat → List Sl → Prop) (h0 : I 0 δ)
    (hs : ∀ i d δ', ds[i]? = some d → I i δ' → ∃ δ'', TgOk X.K g d δ' δ'' ∧ SX X W body δ'' (loopP X W rest (I (i + 1)) Po)) (hd : ∀ δ', I ds.length δ' → SX X W rest δ' Po) (hfs : ∀ x, foldedSetIterable it X.env x = pure x := by intro _; rfl) (hp : PassesOwn (model X.prog X.w) X.A X.env X.xe := by with_reducible assumption) (hc : X.calm = true := by with_reducible assumption) : SX X W (.For tg it body [] pos :: rest) δ Po :=
  sx_cons (ps_for hp hc hi hg (pss_sem body) hfs) fun G0 H0 G H σ D F hP => io G0 H0 G H σ _ F fun J G1 H1 s1 wk => by
    refine ⟨fun i m σ' H' => m = ds.length - i ∧ i ≤ ds.length ∧ ∃ G' δ', Fits X.K G0 H0 G' H' σ' δ' ∧ Same G1 G' ∧ I i δ', ⟨_, rfl, Nat.zero_le _, G1, δ, F.step s1, Same.refl _, h0⟩, ?_⟩
    rintro i m σ' H' ⟨rfl, hle, G', δ', F', sg, hI⟩
    have w := wk i G' H' sg F'.sub
    by_cases hlt : i < ds.length
    · obtain ⟨go, y⟩ := w.1 _ (List.getElem?_eq_getElem hlt)
      refine .inr ⟨go, fun σ2 H2 => ∃ G2 δ2, Fits X.K G0 H0 G2 H2 σ2 δ2 ∧ Same G1 G2 ∧ I (i + 1) δ2, fun σ2 H2 z => ⟨ds.length - (i + 1), by omega, rfl, hlt, z⟩, fun x H2 hy => ?_⟩
      obtain ⟨G2, s2, rx⟩ := y x H2 hy
      obtain ⟨δ'', tg, hb⟩ := hs i _ δ' (List.getElem?_eq_getElem hlt) hI
      refine tg G0 H0 G2 H2 σ' x _ (F'.step s2) rx fun σ3 F3 => hb.go G0 H0 G2 H2 σ3 _ F3 fun o ho => ?_
      have sg2 : Same G1 G2 := sg.trans s2.g
      cases o with
      | nx δ3 => exact fun σ4 G4 H4 F4 s4 => ⟨G4, δ3, F4, sg2.trans s4, ho⟩
      | ct δ3 => exact fun σ4 G4 H4 F4 s4 => ⟨G4, δ3, F4, sg2.trans s4, ho⟩
      | bk δ3 => exact fun σ4 G4 H4 F4 s4 => hP (.nx δ3) ho σ4 G4 H4 F4 ((s1.g.trans sg2).trans s4)
      | rt d => exact hP (.rt d) ho
      | er δ3 e => exact (hP (.er δ3 e) ho).up (s1.g.trans sg2)
    · have e : i = ds.length := by omega
      subst e
      exact .inl ⟨w.2 (Nat.le_refl _), hP (.nx δ') (hd δ' hI) σ' G' H' F' (s1.g.trans sg)⟩
/-! ## comprehensions -/
def wipeS (δ : List Sl) : List Nat → List Sl
  | [] => δ
  | v :: vs => (wipeS δ vs).set v .no
theorem Fits.wipe {K : PySem.W.Frag} {G0 H0 G H : Hp} {σ : L2.St} {δ : List Sl} (F : Fits K G0 H0 G H σ δ) : ∀ vs : List Nat, Fits K G0 H0 G H (L2.wipe σ vs) (wipeS δ vs)
  | [] => F
  | v :: vs => (F.wipe vs).forget
theorem wipe_in {σ : L2.St} {x : Option V} {j : Nat} : ∀ (vs : List Nat), j ∈ vs → L2.wipe (σ.set j x) vs = L2.wipe σ vs
  | [], h => by cases h
  | v :: vs, h => by
    unfold L2.wipe
    by_cases hv : j ∈ vs
    · rw [wipe_in vs hv]
    · have e : j = v := by
        rcases List.mem_cons.mp h with z | z
        · exact z
        · exact absurd z hv
      subst e
      have z : ∀ ws : List Nat, j ∉ ws → L2.wipe (σ.set j x) ws = (L2.wipe σ ws).set j x := by
        intro ws
        induction ws with
        | nil => intro _; rfl
        | cons u us ih =>
          intro hn
          have h1 : j ≠ u := fun q => hn (by rw [q]; exact List.mem_cons_self)
          have h2 : j ∉ us := fun q => hn (List.mem_cons_of_mem _ q)
          unfold L2.wipe
          rw [ih h2, List.set_comm _ _ h1]
      rw [z vs hv, List.set_set]
theorem wipe_wipe {σ : L2.St} : ∀ vs : List Nat, L2.wipe (L2.wipe σ vs) vs = L2.wipe σ vs := by
  intro vs
  have gen : ∀ (ws vs : List Nat) (τ : L2.St), (∀ w ∈ ws, w ∈ vs) → L2.wipe (L2.wipe τ ws) vs = L2.wipe τ vs := by
    intro ws
    induction ws with
    | nil => intro vs τ _; rfl
    | cons u us ih =>
      intro vs τ h
      show L2.wipe ((L2.wipe τ us).set u none) vs = _
      rw [wipe_in vs (h u List.mem_cons_self), ih vs τ fun w hw => h w (List.mem_cons_of_mem _ hw)]
  exact gen vs vs σ fun _ h => h
/-- a target that writes the slots vs alone -/
def TgIn (g : TG) (vs : List Nat) : Prop := ∀ v σ H (Q : L2.St → Hp → Prop), g v σ H Q → g v σ H fun σ' H' => L2.wipe σ' vs = L2.wipe σ vs ∧ Q σ' H'
def TgsIn (g : TGs) (vs : List Nat) : Prop := ∀ xs σ H (Q : L2.St → Hp → Prop), g xs σ H Q → g xs σ H fun σ' H' => L2.wipe σ' vs = L2.wipe σ vs ∧ Q σ' H'
theorem tgi_name {j : Nat} {vs : List Nat} (h : j ∈ vs) : TgIn (gName j) vs := fun v σ H Q q => ⟨wipe_in vs h, q⟩
theorem tgsi_nil {vs : List Nat} : TgsIn gNil vs := fun xs σ H Q q => ⟨q.1, rfl, q.2⟩
theorem gCons_mono {g : TG} {gs : TGs} {vs : List Nat} (h : TgIn g vs) (hs : TgsIn gs vs) (mono : ∀ v σ H Q Q', (∀ σ' H', Q σ' H' → Q' σ' H') → g v σ H Q → g v σ H Q') (monos : ∀ v σ H Q Q', (∀ σ' H', Q σ' H' → Q' σ' H') → gs v σ H Q → gs v σ H Q') : TgsIn (gCons g gs) vs := fun xs σ H Q q => by
  obtain ⟨v, r, e, q⟩ := q
  refine ⟨v, r, e, mono _ _ _ _ _ (fun σ1 H1 ⟨e1, q1⟩ => ?_) (h _ _ _ _ q)⟩
  exact monos _ _ _ _ _ (fun σ2 H2 ⟨e2, q2⟩ => ⟨e2.trans e1, q2⟩) (hs _ _ _ _ q1)
theorem gName_mono {j : Nat} : ∀ v σ H Q Q', (∀ σ' H', Q σ' H' → Q' σ' H') → gName j v σ H Q → gName j v σ H Q' := fun v σ H Q Q' h q => h _ _ q
theorem gNil_mono : ∀ v σ H Q Q', (∀ σ' H', Q σ' H' → Q' σ' H') → gNil v σ H Q → gNil v σ H Q' := fun v σ H Q Q' h q => ⟨q.1, h _ _ q.2⟩
theorem gConsN_mono {j : Nat} {gs : TGs} (m : ∀ v σ H Q Q', (∀ σ' H', Q σ' H' → Q' σ' H') → gs v σ H Q → gs v σ H Q') : ∀ v σ H Q Q', (∀ σ' H', Q σ' H' → Q' σ' H') → gCons (gName j) gs v σ H Q → gCons (gName j) gs v σ H Q' := fun v σ H Q Q' h q => by
  obtain ⟨v, r, e, q⟩ := q
  exact ⟨v, r, e, m _ _ _ _ _ h q⟩
theorem tgsi_cons {j : Nat} {gs : TGs} {vs : List Nat} (h : j ∈ vs) (hs : TgsIn gs vs) (m : ∀ v σ H Q Q', (∀ σ' H', Q σ' H' → Q' σ' H') → gs v σ H Q → gs v σ H Q') : TgsIn (gCons (gName j) gs) vs := gCons_mono (tgi_name h) hs gName_mono m
theorem tgi_tup {K : PySem.W.Frag} {n : Nat} {gs : TGs} {vs : List Nat} (h : TgsIn gs vs) : TgIn (gTup K n gs) vs := fun v σ H Q q => by
  obtain ⟨a, xs, e, s, l, q⟩ := q
  exact ⟨a, xs, e, s, l, h _ _ _ _ q⟩
/-- what a comprehension has made behind its first items -/
def lcOut {α : Type} (ds : List α) (p : α → Bool) (f : α → Dt) (i : Nat) : List Dt := ((ds.take i).filter p).map f
theorem lcOut_succ {α : Type} {ds : List α} {p : α → Bool} {f : α → Dt} {i : Nat} {d : α} (h : ds[i]? = some d) : lcOut ds p f (i + 1) = lcOut ds p f i ++ if p d then [f d] else [] := by
  unfold lcOut
  rw [List.take_add_one, h, List.filter_append, List.map_append]
  congr 1
  show List.map f (List.filter p [d]) = _
  rw [List.filter_cons]
  split <;> rfl
theorem lcOut_len {α : Type} (ds : List α) (p : α → Bool) (f : α → Dt) (i : Nat) : (lcOut ds p f i).length ≤ ds.length := by
  unfold lcOut
  rw [List.length_map]
  exact Nat.le_trans (List.length_filter_le _ _) (by rw [List.length_take]; omega)
theorem go_lc {α : Type} {wi : TI} {g : TG} {tt : TT} {te : TE} {vs : List Nat} {K : PySem.W.Frag} (ds : List α) (g0 : α → Dt) (io : IO K wi δ (ds.map g0)) (pf : α → Bool) (f : α → Dt) (hz : ds.length ≤ sizeLine) (hin : TgIn g vs)
    (hs : ∀ (i : Nat) d, ds[i]? = some d → ∃ δ'', TgOk K g (g0 d) (wipeS δ vs) δ'' ∧ GO K (fun _ _ _ _ => False) bRel tt δ'' (.ok (pf d)) ∧ (pf d = true → GO K (fun _ _ _ _ => False) (Rp K) te δ'' (.ok (f d)))) :
    GO K W (Rp K) (tLc wi g tt te vs) δ (.ok (.lst ((ds.filter pf).map f))) := fun G0 H0 G H σ Q F hr => io G0 H0 G H σ _ F fun J G1 H1 s1 wk Dl nD => by
  have gD : G1 Dl = none := none_back s1.sub nD
  refine ⟨fun i m H' => m = ds.length - i ∧ i ≤ ds.length ∧ ∃ G' us, Step G1 H1 G' H' ∧ G' Dl = none ∧ H' Dl = some (.lst us) ∧ RpA K G' us (lcOut ds pf f i),
    ⟨_, rfl, Nat.zero_le _, G1, [], ⟨Same.refl _, same_upd nD, sub_mut s1.sub gD, fun b o e n => by rw [e] at n; cases n⟩, gD, upd_same, .nil⟩, ?_⟩
  rintro i m H' ⟨rfl, hle, G', us, st, g', eD, r⟩
  have w := wk i G' H' st.g st.sub
  have F' : Fits K G0 H0 G' H' σ δ := (F.step s1).step st
  by_cases hlt : i < ds.length
  · have hd := List.getElem?_eq_getElem hlt
    obtain ⟨go, y⟩ := w.1 (g0 ds[i]) (by rw [List.getElem?_map, hd]; rfl)
    refine .inr ⟨go, fun H2 => ∃ G2 us2, Step G1 H1 G2 H2 ∧ G2 Dl = none ∧ H2 Dl = some (.lst us2) ∧ RpA K G2 us2 (lcOut ds pf f (i + 1)), fun H2 z => ⟨ds.length - (i + 1), by omega, rfl, hlt, z⟩, fun x H2 hy => ?_⟩
    obtain ⟨G2, s2, rx⟩ := y x H2 hy
    obtain ⟨δ'', tg, ht, he⟩ := hs i _ hd
    have F2 := (F'.step s2).wipe vs
    have q := tg G0 H0 G2 H2 (L2.wipe σ vs) x (fun σ3 H3 => tt σ3 H3 fun b H4 => if b = true then te σ3 H4 fun y H5 => ∃ acc, H5 Dl = some (.lst acc) ∧ acc.length < sizeLine ∧ (fun H2 => ∃ G2 us2, Step G1 H1 G2 H2 ∧ G2 Dl = none ∧ H2 Dl = some (.lst us2) ∧ RpA K G2 us2 (lcOut ds pf f (i + 1))) (upd H5 Dl (.lst (acc ++ [y]))) else (∃ G2 us2, Step G1 H1 G2 H4 ∧ G2 Dl = none ∧ H4 Dl = some (.lst us2) ∧ RpA K G2 us2 (lcOut ds pf f (i + 1)))) F2 rx fun σ3 F3 => ht G0 H0 G2 H2 σ3 _ F3 fun b G4 H4 s4 rb => by
      cases (show b = pf ds[i] from rb)
      have s24 := s2.trans s4
      cases hp : pf ds[i] with
      | true =>
        rw [if_pos rfl]
        refine he hp G0 H0 G4 H4 σ3 _ (F3.step s4) fun y G5 H5 s5 ry => ?_
        have s25 := s24.trans s5
        have eD5 := s25.h _ _ eD
        have g5 := keep_own s25 eD g'
        refine ⟨us, eD5, ?_, G5, us ++ [y], ⟨st.g.trans s25.g, fun b o e => ?_, sub_mut s5.sub g5, (st.trans s25).new⟩, g5, upd_same, ?_⟩
        · rw [r.length]
          unfold lcOut
          rw [List.length_map]
          exact Nat.lt_of_le_of_lt (List.length_filter_le _ _) (by rw [List.length_take]; omega)
        · rw [upd_ne (ne_of_none e nD)]
          exact (st.trans s25).h b o e
        · rw [lcOut_succ hd, hp, if_pos rfl]
          exact (r.up s25.g).append (.cons ry .nil)
      | false =>
        rw [if_neg Bool.false_ne_true]
        refine ⟨G4, us, st.trans s24, keep_own s24 eD g', s24.h _ _ eD, ?_⟩
        rw [lcOut_succ hd, hp, if_neg Bool.false_ne_true, List.append_nil]
        exact r.up s24.g
    have q2 := hin _ _ _ _ q
    rw [wipe_wipe] at q2
    exact q2
  · have e : i = ds.length := by omega
    subst e
    refine .inl ⟨w.2 (by rw [List.length_map]; exact Nat.le_refl _), ?_⟩
    have sm := same_upd (o := .lst us) g'
    refine hr _ (upd G' Dl (.lst us)) H' ⟨(s1.g.trans st.g).trans sm, s1.h.trans st.h, fun b o e => ?_, fun b o e n => ?_⟩ (.lst (.inl (.inl upd_same)) ?_)
    · by_cases hb : b = Dl
      · rw [hb, upd_same] at e
        rw [hb, eD]
        exact e
      · rw [upd_ne hb] at e
        exact st.sub b o e
    · by_cases hb : b = Dl
      · rw [hb]; exact none_back s1.h nD
      · rw [upd_ne hb] at e
        exact (s1.trans st).new b o e n
    · unfold lcOut at r
      rw [List.take_length] at r
      exact r.up sm
end
end My

namespace My
open PySem L2 PySem.Spec
open PyProof.Rows (envOfC)
section
variable {X : Cx} {W : WX} {δ : List Sl} {e a b c : Expr} {es : List Expr} {pos p : Pos} {i j : Int} {da db dc : Dt} {ds : List Dt} {Po : Out → Prop} {rest : List Stmt} {x : Str} {n k : Nat}
/-- a, b = e1, e2 -/
theorem sx_par {k l : Nat} {y z : Str} {py pz pt : Pos} {kt k2 pt2} {N : List Str} {sc : Scope} (nx : Nx X N sc) (ha : EX X W a δ (.ok da)) (hb : EX X W b δ (.ok db)) (q : SX X W rest ((δ.set k (.dt da)).set l (.dt db)) Po) (hy : At X y k := by with_reducible assumption) (hz : At X z l := by with_reducible assumption) (hij : k ≠ l := by decide)
    (h1 : ∀ es, starEach (a :: es) X.env = (false, eval a X.env) :: starEach es X.env := by intro _; rfl) (h2 : ∀ es, starEach (b :: es) X.env = (false, eval b X.env) :: starEach es X.env := by intro _; rfl)
    (hl1 : sc.names.lookup y = some .local := by rfl) (hl2 : sc.names.lookup z = some .local := by rfl)
    (hw : ∀ qual L f cd, swappedStores [.Tuple [.Name y py, .Name z pz] kt pt] (.Tuple [a, b] k2 pt2) (envOfC qual sc L f cd) = pure (some [y, z]) := by intro _ _ _ _; rfl) :
    SX X W (.Assign [.Tuple [.Name y py, .Name z pz] kt pt] (.Tuple [a, b] k2 pt2) pos :: rest) δ Po :=
  sx_cons (ps_par nx.calm hy.nd hy.ix hz.ix hij (by rw [nx.scope]; exact hl1) (by rw [nx.scope]; exact hl2) (pa_sem [a, b]) (by obtain ⟨qu, L, f, cd, e⟩ := nx.env; rw [e]; exact hw qu L f cd) rfl) fun G0 H0 G H σ D F hP => (ax_cons ha (ax_cons hb ax_nil (h2 _)) (h1 _)).then F fun vs G1 H1 s1 r => by
    cases r with
    | cons r1 r2 =>
      cases r2 with
      | cons r3 r4 =>
        cases r4
        exact ⟨_, _, rfl, hP (.nx _) q _ G1 H1 (((F.step s1).set r1).set r3) s1.g⟩
/-- a, .. = e, e a tuple -/
theorem sx_asg {tg : Expr} {g : TG} {δ' : List Sl} (hg : PG X tg g) (he : EX X W e δ (.ok da)) (ht : TgOk X.K g da δ δ') (q : SX X W rest δ' Po) (hs : swapsWithSole [tg] e pos.line X.env = pure false := by rfl) (hw : swappedStores [tg] e X.env = pure none := by rfl) (h1 : (assignEach [tg] X.env).map (·.2) = [assign tg X.env] := by rfl) :
    SX X W (.Assign [tg] e pos :: rest) δ Po :=
  sx_cons (ps_asg (pe_sem e) hg hs hw h1) fun G0 H0 G H σ D F hP => he.then F fun v G1 H1 s1 r => ht G0 H0 G1 H1 σ v _ (F.step s1) r fun σ' F' => hP (.nx δ') q σ' G1 H1 F' s1.g
/-! ## try -/
/-- a suite that raises nothing, then the rest -/
def suiteP (X : Cx) (W : WX) (rest : List Stmt) (Po : Out → Prop) : Out → Prop
  | .nx δ => SX X W rest δ Po
  | .er _ _ => False
  | o => Po o
/-- the same, the caught exception's slot emptied -/
def suiteA (X : Cx) (W : WX) (rest : List Stmt) (i : Nat) (Po : Out → Prop) : Out → Prop
  | .nx δ => SX X W rest (δ.set i .no) Po
  | .rt d => Po (.rt d)
  | _ => False
structure Caught (K : PySem.W.Frag) (z : Er) (oe : Obj) (d : Option Addr) : Prop where
  zc : Zc (.ref (He.ga K z.cls)) d oe
  fl : ∃ vs, oe.data = .fields vs
  np : z.pay = none → d = none
/-- try: body except x: suite -/
theorem sx_try {body suite : List Stmt} {b0 : Stmt} {np pos' : Pos} {y : Str} {N : List Str} {sc : Scope} (nx : Nx X N sc) (tk : Takes X W) (P1 : Out → Prop) (hm : X.mg y = some (.ref (He.ga X.K y)))
    (hb : ∀ (W' : WX) (pn : List (Addr × Obj)) (xe : Value → Shared → Prop), Takes (X.tr pn xe) W' → Nx (X.tr pn xe) N sc → SX (X.tr pn xe) W' body δ P1)
    (h1 : ∀ o, P1 o → match o with
      | .nx δ' => SX X W rest δ' Po
      | .er δ' z => ∃ bb, PySem.W.exmOne X.K (.ref (He.ga X.K z.cls)) (.ref (He.ga X.K y)) = some bb ∧
          (bb = true → ∀ (a : Addr) (oe : Obj) (d : Option Addr) (pn : List (Addr × Obj)), Caught X.K z oe d → SX (X.suite a ((a, oe) :: pn)) (fun _ _ _ _ => False) (b0 :: suite) δ' (suiteP X W rest Po)) ∧ (bb = false → Po (.er δ' z))
      | o => Po o) (hg : Glo X y := by with_reducible assumption) :
    SX X W (.Try body [.ExceptHandler (some (.Name y np)) none (b0 :: suite) pos'] [] [] pos :: rest) δ Po :=
  sx_cons (ps_try_only (c := .ref (He.ga X.K y)) (tb := fun W' D σ H => ∀ (pn : List (Addr × Obj)) (xe : Value → Shared → Prop), Takes (X.tr pn xe) W' → PassesOwn (model X.prog X.w) X.A X.env xe → semS (X.tr pn xe) body D σ H)
      (ts := fun a cls d D σ H => ∀ (oe : Obj) (pn : List (Addr × Obj)), Zc cls d oe → (∃ vs, oe.data = .fields vs) → semS (X.suite a ((a, oe) :: pn)) (b0 :: suite) D σ H) nx.stk nx.frm ⟨hg.gl, hg.d1, .inl hm⟩ tk
      (fun W' pn xe t hp => ⟨fun pins s σ H D I h => h pn xe t hp pins s I⟩) (fun a oe cls d pn hz hf2 => ⟨fun pins s σ H D I h => h oe pn hz hf2 pins s I⟩)) fun G0 H0 G H σ D F hP pn xe t hpo => by
    refine (hb _ pn xe t (nx.tr hpo)).go G0 H0 G H σ D F fun o ho => ?_
    have q := h1 o ho
    cases o with
    | nx δ' => exact fun σ' G' H' F' s' => hP (.nx δ') q σ' G' H' F' s'
    | bk δ' => exact hP (.bk δ') q
    | ct δ' => exact hP (.ct δ') q
    | rt d => exact hP (.rt d) q
    | er δ' z =>
      obtain ⟨bb, he, hy, hn⟩ := q
      refine fun cc dx σ' G' H' F' s' k => ?_
      refine ⟨bb, by rw [k.1]; exact he, fun e2 a na oe pn' hz hf2 => ?_, fun e2 => hP (.er δ' z) (hn e2) cc dx σ' G' H' F' s' k⟩
      have cg : Caught X.K z oe dx := ⟨by rw [← k.1]; exact hz, hf2, fun e3 => by
        have k2 := k.2
        rw [e3] at k2
        exact k2⟩
      refine (hy e2 a oe dx pn' cg).go G0 H0 G' H' σ' D F' fun o2 ho2 => ?_
      cases o2 with
      | er δ2 z3 => exact ho2.elim
      | nx δ2 => exact fun σ2 G2 H2 F2 s2 => hP (.nx δ2) ho2 σ2 G2 H2 F2 (s'.trans s2)
      | bk δ2 => exact Fin.up s' (hP (.bk δ2) ho2)
      | ct δ2 => exact Fin.up s' (hP (.ct δ2) ho2)
      | rt d => exact hP (.rt d) ho2
/-- try: body except x as n: suite -/
theorem sx_try_as {k : Nat} {body suite : List Stmt} {b0 : Stmt} {np pos' : Pos} {y nn : Str} {N : List Str} {sc : Scope} (nx : Nx X N sc) (tk : Takes X W) (P1 : Out → Prop) (hm : X.mg y = some (.ref (He.ga X.K y)))
    (hb : ∀ (W' : WX) (pn : List (Addr × Obj)) (xe : Value → Shared → Prop), Takes (X.tr pn xe) W' → Nx (X.tr pn xe) N sc → SX (X.tr pn xe) W' body δ P1)
    (h1 : ∀ o, P1 o → match o with
      | .nx δ' => SX X W rest δ' Po
      | .er δ' z => ∃ bb, PySem.W.exmOne X.K (.ref (He.ga X.K z.cls)) (.ref (He.ga X.K y)) = some bb ∧
          (bb = true → ∀ (a : Addr) (oe : Obj) (d : Option Addr) (pn : List (Addr × Obj)), Caught X.K z oe d → SX (X.suite a ((a, oe) :: pn)) (fun _ _ _ _ => False) (b0 :: suite) (δ'.set k (.dt (.v (.ref a)))) (suiteA X W rest k Po)) ∧ (bb = false → Po (.er δ' z))
      | o => Po o) (hn : At X nn k := by with_reducible assumption) (hln : sc.names.lookup nn = some .local := by rfl) (hg : Glo X y := by with_reducible assumption) :
    SX X W (.Try body [.ExceptHandler (some (.Name y np)) (some nn) (b0 :: suite) pos'] [] [] pos :: rest) δ Po :=
  sx_cons (ps_try_as (i := k) (c := .ref (He.ga X.K y)) (tb := fun W' D σ H => ∀ (pn : List (Addr × Obj)) (xe : Value → Shared → Prop), Takes (X.tr pn xe) W' → PassesOwn (model X.prog X.w) X.A X.env xe → semS (X.tr pn xe) body D σ H)
      (ts := fun a cls d D σ H => ∀ (oe : Obj) (pn : List (Addr × Obj)), Zc cls d oe → (∃ vs, oe.data = .fields vs) → semS (X.suite a ((a, oe) :: pn)) (b0 :: suite) D σ H) nx.stk nx.frm hn.nd hn.ix (by show X.env.scope.names.lookup nn = _; rw [nx.scope]; exact hln) ⟨hg.gl, hg.d1, .inl hm⟩ tk
      (fun W' pn xe t hp => ⟨fun pins s σ H D I h => h pn xe t hp pins s I⟩) (fun a oe cls d pn hz hf2 => ⟨fun pins s σ H D I h => h oe pn hz hf2 pins s I⟩)) fun G0 H0 G H σ D F hP pn xe t hpo => by
    refine (hb _ pn xe t (nx.tr hpo)).go G0 H0 G H σ D F fun o ho => ?_
    have q := h1 o ho
    cases o with
    | nx δ' => exact fun σ' G' H' F' s' => hP (.nx δ') q σ' G' H' F' s'
    | bk δ' => exact hP (.bk δ') q
    | ct δ' => exact hP (.ct δ') q
    | rt d => exact hP (.rt d) q
    | er δ' z =>
      obtain ⟨bb, he, hy, hn⟩ := q
      refine fun cc dx σ' G' H' F' s' k => ?_
      refine ⟨bb, by rw [k.1]; exact he, fun e2 a na oe pn' hz hf2 => ?_, fun e2 => hP (.er δ' z) (hn e2) cc dx σ' G' H' F' s' k⟩
      have cg : Caught X.K z oe dx := ⟨by rw [← k.1]; exact hz, hf2, fun e3 => by
        have k2 := k.2
        rw [e3] at k2
        exact k2⟩
      refine (hy e2 a oe dx pn' cg).go G0 H0 G' H' _ _ (F'.set (.v _)) fun o2 ho2 => ?_
      cases o2 with
      | er δ2 z3 => exact ho2.elim
      | nx δ2 => exact fun σ2 G2 H2 F2 s2 => hP (.nx _) ho2 _ G2 H2 F2.forget (s'.trans s2)
      | bk δ2 => exact ho2.elim
      | ct δ2 => exact ho2.elim
      | rt d => exact hP (.rt d) ho2
/-- isinstance(n, x), n the exception that the suite holds, of a class without fields -/
theorem ex_isE {k : Nat} {a : Addr} {oe : Obj} {d : Option Addr} {pn : List (Addr × Obj)} {z : Er} {y nn : Str} {p1 p2 : Pos} {bb : Bool} (cg : Caught X.K z oe d) (hz : z.pay = none) (C : ExcC X.K (He.ga X.K z.cls)) (hm : X.mg "isinstance" = none) (hy : X.mg y = some (.ref (He.ga X.K y)))
    (hk : PySem.W.kitOne X.K (.ref (He.ga X.K z.cls)) (.ref (He.ga X.K y)) = some bb) (hn : At X nn k := by with_reducible assumption) (hδ : δ[k]? = some (.dt (.v (.ref a))) := by rfl) (hg : Glo X "isinstance" := by with_reducible assumption) (hg2 : Glo X y := by with_reducible assumption) :
    EX (X.suite a ((a, oe) :: pn)) W (.Call (.Name "isinstance" p) [.Name nn p1, .Name y p2] [] pos) δ (.ok (.bl bb)) := by
  have zc : Zc (.ref (He.ga X.K z.cls)) none oe := by
    have q := cg.zc
    rw [cg.np hz] at q
    exact q
  refine ex_of (pe_callB (X := X.suite a ((a, oe) :: pn)) (call_isE C zc cg.fl) hg.gl hm (by decide +kernel) (pa_cons (pe_var (i := k) hn.ix hn.vi hn.d1 hn.d2) (pa_cons (pe_glob (v := .ref (He.ga X.K y)) hg2.gl hy rfl hg2.d1) pa_nil)) hg.nn hg.d1 rfl rfl) fun G0 H0 G H σ Q F hr => ?_
  obtain ⟨v, e1, r1⟩ := F.get hδ
  cases r1
  exact ⟨_, e1, _, _, bb, rfl, fun u r => r, hk, hr _ G H (.refl F.sub) (.bl bb)⟩
/-- in a suite -/
theorem sx_setS {k : Nat} {y : Str} {p2 : Pos} {a : Addr} {pn : List (Addr × Obj)} (he : EX (X.suite a pn) W e δ (.ok da)) (q : SX (X.suite a pn) W rest (δ.set k (.dt da)) Po) (ha : At X y k := by with_reducible assumption)
    (hs : swapsWith e (some (.Name y p2)) pos.line X.env = pure false := by rfl) : SX (X.suite a pn) W (.Assign [.Name y p2] e pos :: rest) δ Po := sx_set he q ha.suite hs
theorem ex_vS {x : Str} {i : Nat} {d : Dt} {a : Addr} {pn : List (Addr × Obj)} (h : At X x i := by with_reducible assumption) (hd : δ[i]? = some (.dt d) := by rfl) : EX (X.suite a pn) W (.Name x pos) δ (.ok d) := ex_r h.suite.rd hd
end
end My

namespace My
open PySem L2 PySem.Spec
section
variable {X : Cx} {W : WX} {δ : List Sl} {pos : Pos} {a b c e : Expr} {i j : Int} {Po : Out → Prop} {rest : List Stmt}
/-! ## more operators -/
/-- // by a divisor that is not 0, below 2 ^ 9000 in size -/
def CDivG (_ j : Int) : Prop := j ≠ 0 ∧ j.natAbs.log2 < 9000
theorem op_fdivG : OpR X (binaryOp .FloorDiv) (rI CDivG fun i j => .int (i.fdiv j)) := opI fun _ _ _ _ _ _ _ hc q => PyProof.Rows.floordiv_int hc.1 q (.inl (PyProof.noPylong_of_log2 hc.2))
theorem ex_divG (c : CDivG i j) (ha : EX X W a δ (.ok (.int i))) (hb : EX X W b δ (.ok (.int j))) : EX X W (.BinOp a .FloorDiv b pos) δ (.ok (.int (i.fdiv j))) := ex_op (pe_op op_fdivG (pe_sem a) (pe_sem b)) (ro_I c fun _ => .int _) ha hb
/-- * where one factor is small -/
theorem ex_mulS (c : CMul i j) (ha : EX X W a δ (.ok (.int i))) (hb : EX X W b δ (.ok (.int j))) : EX X W (.BinOp a .Mult b pos) δ (.ok (.int (i * j))) := ex_op (pe_op op_mul (pe_sem a) (pe_sem b)) (ro_I c fun _ => .int _) ha hb
/-- // by a positive divisor below 2 ^ 30, % by a positive number -/
theorem ex_divS (c : CDiv i j) (ha : EX X W a δ (.ok (.int i))) (hb : EX X W b δ (.ok (.int j))) : EX X W (.BinOp a .FloorDiv b pos) δ (.ok (.int (i / j))) := ex_op (pe_op op_fdiv (pe_sem a) (pe_sem b)) (ro_I c fun _ => .int _) ha hb
theorem ex_modG (c : j ≠ 0) (ha : EX X W a δ (.ok (.int i))) (hb : EX X W b δ (.ok (.int j))) : EX X W (.BinOp a .Mod b pos) δ (.ok (.int (i.fmod j))) := ex_op (pe_op op_modN (pe_sem a) (pe_sem b)) (ro_I (C := fun _ j => j ≠ 0) c fun _ => .int _) ha hb
/-- a chain of two comparisons of whole numbers -/
def rRel (f : Int → Int → Bool) : R2 := rI0 fun i j => .bl (f i j)
theorem tx_chain {op op' : CmpOp} {f g : Int → Int → Bool} {k : Int} (ho : OpR X (compareOp op) (rRel f)) (ho' : OpR X (compareOp op') (rRel g)) (ha : EX X W a δ (.ok (.int i))) (hb : EX X W b δ (.ok (.int j))) (hc : EX X W c δ (.ok (.int k)))
    (hm : lastMarks [op, op'] [b, c] = false := by with_unfolding_all rfl) : TX X W (.Compare a [op, op'] [b, c] pos) δ (.ok (f i j && g j k)) :=
  tx_of (pt_chain ho ho' (pe_sem a) (pe_sem b) (pe_sem c) hm) fun G0 H0 G H σ Q F hr => ha.then F fun x G1 H1 s1 rx => hb.then (F.step s1) fun y G2 H2 s2 ry => by
    cases rx
    cases ry
    refine ⟨i, j, rfl, rfl, f i j, rfl, ?_⟩
    cases hf : f i j with
    | true =>
      refine iteT (hc.then ((F.step s1).step s2) fun z G3 H3 s3 rz => ?_)
      cases rz
      refine ⟨j, k, rfl, rfl, g j k, rfl, ?_⟩
      exact hr _ G3 H3 ((s1.trans s2).trans s3) (by show g j k = (f i j && g j k); rw [hf, Bool.true_and])
    | false => exact iteF ⟨false, rfl, hr _ G2 H2 (s1.trans s2) (by show false = (f i j && g j k); rw [hf, Bool.false_and])⟩
theorem tx_lele {k : Int} (ha : EX X W a δ (.ok (.int i))) (hb : EX X W b δ (.ok (.int j))) (hc : EX X W c δ (.ok (.int k))) (hm : lastMarks [.LtE, .LtE] [b, c] = false := by with_unfolding_all rfl) :
    TX X W (.Compare a [.LtE, .LtE] [b, c] pos) δ (.ok (decide (i ≤ j) && decide (j ≤ k))) := tx_chain (f := fun i j => decide (i ≤ j)) (g := fun i j => decide (i ≤ j)) op_le op_le ha hb hc hm
end
/-! ## what the top has made -/
structure ExcT (K : PySem.W.Frag) (mg : Str → Option Value) (x : Str) : Prop where
  g : mg x = some (.ref (He.ga K x))
  e : PySem.W.excIn K (He.ga K x) He.veBase "ValueError.__new__" = true
  k : PySem.W.keepIn K (.ref (He.ga K x)) = true
  s : PySem.W.subIn K (.ref (He.ga K x)) (.type "BaseException") = some true
  t : PySem.W.typeIn K (.ref (He.ga K x)) = some (.type "type")
theorem excT_ok {K : PySem.W.Frag} {h : Heap} {mg : Str → Option Value} (X : K.In h) (G : h.Ns mainGlobals mg) {x : Str} (c1 : (He.Fa.glo x).ok K = true) (c2 : (He.Fa.exc x).ok K = true) : ExcT K mg x := by
  obtain ⟨a, b, c, d⟩ := He.exc_ok c2
  exact ⟨He.glo_ok X G c1, a, b, c, d⟩
def excCB (K : PySem.W.Frag) (x : Str) : Bool :=
  decide (PySem.W.findIn K (.ref (He.ga K x)) "__getattribute__" = some (some (.builtin "BaseException.__getattribute__"))) && (decide (PySem.W.findIn K (.ref (He.ga K x)) "__getattr__" = some none) && (decide (PySem.W.subIn K (.ref (He.ga K x)) (.type "BaseException") = some true) &&
  (PySem.W.hasDictIn K (He.ga K x) && (decide (PySem.W.findIn K (.ref (He.ga K x)) "__class__" = some (some (.builtin "object.__class__"))) && (decide (PySem.W.specialIn K (.builtin "object.__class__") "__get__" = some (some (.builtin "getset_descriptor.__get__"))) &&
  (decide (PySem.W.takesIn K (.builtin "object.__class__") = some true) && decide (PySem.W.mroIn K (He.ga K x) (.type "object") = some true)))))))
theorem excC_ok {K : PySem.W.Frag} {x : Str} (h : excCB K x = true) : ExcC K (He.ga K x) := by
  obtain ⟨h1, h⟩ := He.ba h
  obtain ⟨h2, h⟩ := He.ba h
  obtain ⟨h3, h⟩ := He.ba h
  obtain ⟨h4, h⟩ := He.ba h
  obtain ⟨h5, h⟩ := He.ba h
  obtain ⟨h6, h⟩ := He.ba h
  obtain ⟨h7, h8⟩ := He.ba h
  exact ⟨of_decide_eq_true h1, of_decide_eq_true h2, of_decide_eq_true h3, h4, of_decide_eq_true h5, of_decide_eq_true h6, of_decide_eq_true h7, of_decide_eq_true h8⟩
section
variable {X : Cx} {W : WX} {δ : List Sl} {Po : Out → Prop} {rest : List Stmt}
theorem sx_raise1 {z : Str} {m : Str} {jj : Nat} {p1 p2 p3 pos : Pos} (T : ExcT X.K X.mg z) (tk : Takes X W) (q : Po (.er δ ⟨z, none⟩)) (hc : X.calm = true := by with_reducible assumption) (hg : Glo X z := by with_reducible assumption) :
    SX X W (.Raise (some (.Call (.Name z p1) [.Constant (.str m) jj p2] [] p3)) none pos :: rest) δ Po := sx_raise hc tk T.e T.g T.k T.s T.t q hg
end
section
variable {P : Program} {w : World} {K : PySem.W.Frag} {mg : Str → Option Value} {base : Heap}
theorem fn_pack {x : Str} {pa : Arguments} {bd : List Stmt} {sc : Scope} {f : Addr} {fd : FuncData} {ps : List Str} {n k : Nat} {R : List Dt → Except Er Dt → Prop} (hm : mg x = some (.ref f)) (F : FunD K x x pa bd sc [] [] f fd) (hb : Binds K fd ps [])
    (G : FnOk P w K mg base (L2.CX P w) k f fd ps (spR K n R)) : Fn P w K mg base x n k R := ⟨f, fd, ps, hm, F.kp, hb, G⟩
end
/-! ## the law's end -/
theorem cx_some {P : Program} {w : World} {outer : List Env} {H : Hp} {s : Shared} {e : Value} {s' : Shared} (h : L2.CX P w outer H s (fun _ _ _ => False) e s') : False := by
  obtain ⟨_, _, _, _, _, _, _, _, _, _, _, _, z⟩ := h
  exact z
theorem cx_none {P : Program} {w : World} {H : Hp} {s : Shared} {e : Value} {s' : Shared} (h : L2.CX P w [] H s (fun _ _ _ => False) e s') : False := by
  obtain ⟨_, _, _, _, _, _, _, _, _, _, _, _, z⟩ := h
  exact z
theorem fn_calm {P : Program} {w : World} {K : PySem.W.Frag} {mg : Str → Option Value} {base : Heap} {k : Nat} {f : Addr} {fd : FuncData} {ps : List Str} {sp : Sp} (F : FnOk P w K mg base (L2.CX P w) k f fd ps sp) :
    FnOk P w K mg base CX0 k f fd ps (fun vs H Q _ => sp vs H Q fun _ _ _ => False) :=
  ⟨fun vs H Q E h => F.len _ _ _ _ h, fun A outer s H args us vs Q E hr he hb hv hs => codeAny_mono (F.run A outer s H args us vs Q _ hr he hb hv hs) fun r s' q => by
    cases r with
    | error e => exact (cx_some q).elim
    | ok fl => cases fl <;> exact q⟩
theorem law_sp {K : PySem.W.Frag} {H : Hp} {a : Addr} {ns : List Int} {R : List Dt → Except Er Dt → Prop} (hS : SqL K H a (ns.map V.int)) (h : R [.lst (ns.map Dt.int)] (.ok (.bl true))) : spR K 1 R [.ref a] H (fun v _ => v = .bl true) fun _ _ _ => False :=
  ⟨_, H, _, Same.refl H, .cons (.lst hS (RpA.of_ints ns)) .nil, rfl, h, fun v G' H' s r => by cases r; rfl⟩
end My

namespace My
open PySem L2 PySem.Spec
open PyProof.Rows (envOfC)
/-! ## a def's names, checked by codes -/
def zDebug : Str := ⟨#[95, 95, 100, 101, 98, 117, 103, 95, 95]⟩
def zClassdict : Str := ⟨#[95, 95, 99, 108, 97, 115, 115, 100, 105, 99, 116, 95, 95]⟩
def zName : Str := ⟨#[95, 95, 110, 97, 109, 101, 95, 95]⟩
theorem eDebug : ("__debug__" : Str) = zDebug := by decide +kernel
theorem eClassdict : ("__classdict__" : Str) = zClassdict := by decide +kernel
theorem eName : ("__name__" : Str) = zName := by decide +kernel
def lcB (sn : List (Str × NameKind)) (x : Str) : Bool := decide (sn.lookup x = some .local) || decide (sn.lookup x = some .cell)
def defB (zn : List Str) (np : Nat) (sn : List (Str × NameKind)) (loc : List Nat) (zg : List Str) : Bool :=
  decide zn.Nodup && ((zn.take np).all (fun x => lcB sn x) && (sn.all (fun y => !decide (y.2 = .free)) && (loc.all (fun i => match zn[i]? with
    | some x => lcB sn x && (!decide (x = zDebug) && !decide (x = zClassdict))
    | none => false) && zg.all fun g => decide (sn.lookup g = some .globalImplicit) && (!decide (g = zDebug) && !decide (g = zName)))))
structure DefOk (N ps : List Str) (sc : Scope) (loc : List Nat) (gl : List Str) : Prop where
  S : FnScope N ps sc
  lo : ∀ i ∈ loc, ∀ x, N[i]? = some x → (sc.names.lookup x = some .local ∨ sc.names.lookup x = some .cell) ∧ x ≠ "__debug__" ∧ x ≠ "__classdict__"
  gl : ∀ g ∈ gl, sc.names.lookup g = some .globalImplicit ∧ g ≠ "__debug__" ∧ g ≠ "__name__"
theorem lcB_ok {sn : List (Str × NameKind)} {x : Str} (h : lcB sn x = true) : sn.lookup x = some .local ∨ sn.lookup x = some .cell := by
  unfold lcB at h
  simpa using h
theorem defOk_mk {N ps zn zg gl : List Str} {sc : Scope} {sn : List (Str × NameKind)} {loc : List Nat} (hk : sc.kind = .function) (hc : sc.isCoroutine = false) (hg : sc.isGenerator = false) (hn : sc.names = sn) (hN : N = zn) (hl : gl = zg) (hp : N.take ps.length = ps)
    (ck : defB zn ps.length sn loc zg = true) : DefOk N ps sc loc gl := by
  subst hN hl
  unfold defB at ck
  simp only [Bool.and_eq_true, decide_eq_true_eq] at ck
  obtain ⟨c1, c2, c3, c4, c5⟩ := ck
  rw [← hn] at c2 c3 c4 c5
  rw [hp] at c2
  refine ⟨⟨hk, hc, hg, c1, hp, fun x hx => lcB_ok (List.all_eq_true.mp c2 x hx), fun y hy => ?_⟩, fun i hi x hx => ?_, fun g hg => ?_⟩
  · have := List.all_eq_true.mp c3 y hy
    simpa using this
  · have := List.all_eq_true.mp c4 i hi
    rw [hx] at this
    simp only [Bool.and_eq_true, Bool.not_eq_true', decide_eq_false_iff_not] at this
    refine ⟨lcB_ok this.1, ?_, ?_⟩
    · rw [eDebug]; exact this.2.1
    · rw [eClassdict]; exact this.2.2
  · have := List.all_eq_true.mp c5 g hg
    simp only [Bool.and_eq_true, Bool.not_eq_true', decide_eq_false_iff_not, decide_eq_true_eq] at this
    refine ⟨this.1, ?_, ?_⟩
    · rw [eDebug]; exact this.2.1
    · rw [eName]; exact this.2.2
theorem nmc {a b : Str} {k : NameKind} {l l' : List (Str × NameKind)} (h : a = b) (t : l = l') : ((a, k) :: l) = ((b, k) :: l') := by rw [h, t]
theorem lsc {a b : Str} {l l' : List Str} (h : a = b) (t : l = l') : (a :: l) = (b :: l') := by rw [h, t]
section
variable {X : Cx} {N ps : List Str} {sc : Scope} {loc : List Nat} {gl : List Str}
theorem DefOk.at (D : DefOk N ps sc loc gl) (nx : Nx X N sc) {i : Nat} {x : Str} (hi : i ∈ loc) (hx : N[i]? = some x) : At X x i := by
  obtain ⟨h1, h2, h3⟩ := D.lo i hi x hx
  have e := nx.scope
  refine ⟨by rw [nx.n]; exact nx.nd, by rw [nx.n]; exact hx, ?_, ?_, .inl (nx.fn x), by simpa using h2, by simpa using h3⟩
  · show X.env.scope.names.lookup x = _ ∨ _
    rw [e]
    rcases h1 with z | z
    · exact .inl z
    · exact .inr (.inl z)
  · show X.env.scope.names.lookup x = _ ∨ _
    rw [e]
    exact h1
theorem DefOk.glo (D : DefOk N ps sc loc gl) (nx : Nx X N sc) {g : Str} (hg : g ∈ gl) : Glo X g := by
  obtain ⟨h1, h2, h3⟩ := D.gl g hg
  refine ⟨?_, by simpa using h2, h3⟩
  show X.env.scope.names.lookup g = _
  rw [nx.scope]
  exact h1
end
/-! ## joins -/
def joinP (J : List Sl → Prop) (Po : Out → Prop) : Out → Prop
  | .nx δ => J δ
  | o => Po o
theorem endR_rt {d d' : Dt} (h : d' = d) : EndR (.ok d) (.rt d') := by
  rw [h]
  rfl
section
variable {X : Cx} {W : WX} {δ : List Sl} {c : Expr} {pos : Pos} {Po : Out → Prop} {rest sa sb : List Stmt}
/-- an if whose ways meet -/
theorem sx_ifJ {k : Bool} (J : List Sl → Prop) (hc : TX X W c δ (.ok k)) (h1 : k = true → SX X W sa δ (joinP J Po)) (h2 : k = false → SX X W sb δ (joinP J Po)) (q : ∀ δ', J δ' → SX X W rest δ' Po) : SX X W (.If c sa sb pos :: rest) δ Po := by
  have up : ∀ {st : List Stmt}, SX X W st δ (joinP J Po) → SX X W st δ (thenP X W rest Po) := fun h => ⟨fun G0 H0 G H σ D F hP => h.go G0 H0 G H σ D F fun o ho => by
    cases o with
    | nx δ' => exact hP (.nx δ') (q δ' ho)
    | bk δ' => exact hP (.bk δ') ho
    | ct δ' => exact hP (.ct δ') ho
    | rt d => exact hP (.rt d) ho
    | er δ' z => exact hP (.er δ' z) ho⟩
  exact sx_if hc (fun h => up (h1 h)) (fun h => up (h2 h))
/-- what is wanted may be more -/
theorem SX.imp {st : List Stmt} {Po' : Out → Prop} (h : SX X W st δ Po') (i : ∀ o, Po' o → Po o) : SX X W st δ Po := ⟨fun G0 H0 G H σ D F hP => h.go G0 H0 G H σ D F fun o ho => hP o (i o ho)⟩
end
/-! ## loops by kinds -/
section
variable {X : Cx} {W : WX} {δ : List Sl} {e a b c it : Expr} {es : List Expr} {pos p : Pos} {i j : Int} {da db dc : Dt} {ds : List Dt} {Po : Out → Prop} {rest body : List Stmt} {x y z : Str} {n k l m : Nat}
theorem pg_at {q : Pos} (ha : At X y k) : PG X (.Name y q) (gName k) := pg_name ha.nd ha.ix ha.lo ha.fn
theorem pg_at2 {q1 q2 q3 : Pos} {kk : Nat} (hc : X.calm = true) (hy : At X y k) (hz : At X z l) : PG X (.Tuple [.Name y q1, .Name z q2] kk q3) (gTup X.K 2 (gCons (gName k) (gCons (gName l) gNil))) :=
  pg_tup hc (pgs_cons (pg_at hy) (pgs_cons (pg_at hz) pgs_nil))
theorem pg_at3 {q1 q2 q3 q4 : Pos} {kk : Nat} (hc : X.calm = true) (hx : At X x m) (hy : At X y k) (hz : At X z l) : PG X (.Tuple [.Name x q1, .Name y q2, .Name z q3] kk q4) (gTup X.K 3 (gCons (gName m) (gCons (gName k) (gCons (gName l) gNil)))) :=
  pg_tup hc (pgs_cons (pg_at hx) (pgs_cons (pg_at hy) (pgs_cons (pg_at hz) pgs_nil)))
theorem sx_forT {q : Pos} (he : EX X W it δ (.ok (.tup ds))) (I : Nat → List Sl → Prop) (h0 : I 0 δ) (hs : ∀ (i : Nat) d δ', ds[i]? = some d → I i δ' → SX X W body (δ'.set k (.dt d)) (loopP X W rest (I (i + 1)) Po)) (hd : ∀ δ', I ds.length δ' → SX X W rest δ' Po) (ha : At X y k := by with_reducible assumption)
    (hfs : ∀ x, foldedSetIterable it X.env x = pure x := by intro _; rfl) (hp : PassesOwn (model X.prog X.w) X.A X.env X.xe := by with_reducible assumption) (hc : X.calm = true := by with_reducible assumption) : SX X W (.For (.Name y q) it body [] pos :: rest) δ Po :=
  sx_for (pi_tup (pe_sem it)) (pg_at ha) (io_tup he) I h0 (fun i d δ' h1 h2 => ⟨_, tg_name k, hs i d δ' h1 h2⟩) hd hfs hp hc
theorem sx_forL {q : Pos} (he : EX X W it δ (.ok (.lst ds))) (I : Nat → List Sl → Prop) (h0 : I 0 δ) (hs : ∀ (i : Nat) d δ', ds[i]? = some d → I i δ' → SX X W body (δ'.set k (.dt d)) (loopP X W rest (I (i + 1)) Po)) (hd : ∀ δ', I ds.length δ' → SX X W rest δ' Po) (ha : At X y k := by with_reducible assumption)
    (hfs : ∀ x, foldedSetIterable it X.env x = pure x := by intro _; rfl) (hp : PassesOwn (model X.prog X.w) X.A X.env X.xe := by with_reducible assumption) (hc : X.calm = true := by with_reducible assumption) : SX X W (.For (.Name y q) it body [] pos :: rest) δ Po :=
  sx_for (pi_list (pe_sem it)) (pg_at ha) (io_list he) I h0 (fun i d δ' h1 h2 => ⟨_, tg_name k, hs i d δ' h1 h2⟩) hd hfs hp hc
theorem sx_forS {q : Pos} {w : Str} (he : EX X W it δ (.ok (.str w))) (I : Nat → List Sl → Prop) (h0 : I 0 δ) (hs : ∀ (i : Nat) c δ', w.cps.toList[i]? = some c → I i δ' → SX X W body (δ'.set k (.dt (.str ⟨#[c]⟩))) (loopP X W rest (I (i + 1)) Po)) (hd : ∀ δ', I w.cps.toList.length δ' → SX X W rest δ' Po) (ha : At X y k := by with_reducible assumption)
    (hfs : ∀ x, foldedSetIterable it X.env x = pure x := by intro _; rfl) (hp : PassesOwn (model X.prog X.w) X.A X.env X.xe := by with_reducible assumption) (hc : X.calm = true := by with_reducible assumption) : SX X W (.For (.Name y q) it body [] pos :: rest) δ Po :=
  sx_for (pi_str (pe_sem it)) (pg_at ha) (io_str he) I h0 (fun i d δ' h1 h2 => by
    rw [List.getElem?_map] at h1
    cases e : w.cps.toList[i]? with
    | none => rw [e] at h1; cases h1
    | some c => rw [e] at h1; cases h1; exact ⟨_, tg_name k, hs i c δ' e h2⟩) (fun δ' h => hd δ' (by rw [List.length_map] at h; exact h)) hfs hp hc
/-- for y in range(e) -/
theorem sx_forR {q q1 q2 : Pos} {n : Nat} (he : EX X W e δ (.ok (.int n))) (hn : n < 2 ^ 62) (hm : X.mg "range" = none) (I : Nat → List Sl → Prop) (h0 : I 0 δ) (hs : ∀ (i : Nat) δ', i < n → I i δ' → SX X W body (δ'.set k (.dt (.int i))) (loopP X W rest (I (i + 1)) Po)) (hd : ∀ δ', I n δ' → SX X W rest δ' Po) (ha : At X y k := by with_reducible assumption)
    (hg : Glo X "range" := by with_reducible assumption) (h1 : starEach [e] X.env = [(false, eval e X.env)] := by rfl) (hp : PassesOwn (model X.prog X.w) X.A X.env X.xe := by with_reducible assumption) (hc : X.calm = true := by with_reducible assumption) : SX X W (.For (.Name y q) (.Call (.Name "range" q1) [e] [] q2) body [] pos :: rest) δ Po :=
  sx_for (pi_range1 hg.gl hm (pa_sem [e]) h1) (pg_at ha) (io_range1 (ax_cons he ax_nil (by rw [h1]; rfl)) (by omega) (by omega)) I h0 (fun i d δ' h1 h2 => by
    have hi : i < n := by
      have z := (List.getElem?_eq_some_iff.mp h1).1
      rw [dRange_len] at z
      omega
    unfold dRange at h1
    rw [List.getElem?_map, List.getElem?_range (by omega)] at h1
    have e : d = .int (i : Int) := by
      simp at h1
      exact h1.symm
    subst e
    exact ⟨_, tg_name k, hs i δ' hi h2⟩) (fun δ' h => hd δ' (by rw [dRange_len] at h; exact h)) (fun _ => rfl) hp hc
/-- for y in range(a, b), 0 ≤ a -/
theorem sx_forR2 {q q1 q2 : Pos} {lo hi : Nat} (h1 : EX X W a δ (.ok (.int lo))) (h2 : EX X W b δ (.ok (.int hi))) (hn : lo < 2 ^ 62 ∧ hi < 2 ^ 62) (hm : X.mg "range" = none) (I : Nat → List Sl → Prop) (h0 : I 0 δ) (hs : ∀ (i : Nat) δ', lo + i < hi → I i δ' → SX X W body (δ'.set k (.dt (.int ((lo + i : Nat) : Int)))) (loopP X W rest (I (i + 1)) Po)) (hd : ∀ δ', I (hi - lo) δ' → SX X W rest δ' Po) (ha : At X y k := by with_reducible assumption)
    (hg : Glo X "range" := by with_reducible assumption) (h3 : starEach [a, b] X.env = [(false, eval a X.env), (false, eval b X.env)] := by rfl) (h4 : starEach [b] X.env = [(false, eval b X.env)] := by rfl) (hp : PassesOwn (model X.prog X.w) X.A X.env X.xe := by with_reducible assumption) (hc : X.calm = true := by with_reducible assumption) : SX X W (.For (.Name y q) (.Call (.Name "range" q1) [a, b] [] q2) body [] pos :: rest) δ Po :=
  sx_for (pi_range2 hg.gl hm (pa_sem [a, b]) h3 h4) (pg_at ha) (io_range2 (ax_cons h1 (ax_cons h2 ax_nil (by rw [h4]; rfl)) (by rw [h3, h4])) (by omega)) I h0 (fun i d δ' h1 h2 => by
    have hi' : lo + i < hi := by
      have z := (List.getElem?_eq_some_iff.mp h1).1
      rw [dRange_len] at z
      omega
    unfold dRange at h1
    rw [List.getElem?_map, List.getElem?_range (by omega)] at h1
    have e : d = .int ((lo + i : Nat) : Int) := by
      simp at h1
      rw [← h1]
      congr 1
    subst e
    exact ⟨_, tg_name k, hs i δ' hi' h2⟩) (fun δ' h => hd δ' (by rw [dRange_len] at h; rw [show hi - lo = ((hi : Int) - (lo : Int)).toNat by omega]; exact h)) (fun _ => rfl) hp hc
/-- for y, z in e, a list of pairs -/
theorem sx_forL2 {q1 q2 q3 : Pos} {kk : Nat} (he : EX X W it δ (.ok (.lst ds))) (I : Nat → List Sl → Prop) (h0 : I 0 δ) (hs : ∀ (i : Nat) d δ', ds[i]? = some d → I i δ' → ∃ d1 d2, d = .tup [d1, d2] ∧ SX X W body ((δ'.set k (.dt d1)).set l (.dt d2)) (loopP X W rest (I (i + 1)) Po)) (hd : ∀ δ', I ds.length δ' → SX X W rest δ' Po)
    (hy : At X y k := by with_reducible assumption) (hz : At X z l := by with_reducible assumption) (hfs : ∀ x, foldedSetIterable it X.env x = pure x := by intro _; rfl) (hp : PassesOwn (model X.prog X.w) X.A X.env X.xe := by with_reducible assumption) (hc : X.calm = true := by with_reducible assumption) :
    SX X W (.For (.Tuple [.Name y q1, .Name z q2] kk q3) it body [] pos :: rest) δ Po :=
  sx_for (pi_list (pe_sem it)) (pg_at2 hc hy hz) (io_list he) I h0 (fun i d δ' h1 h2 => by
    obtain ⟨d1, d2, rfl, q⟩ := hs i d δ' h1 h2
    exact ⟨_, tg_tup (tgs_cons (tg_name k) (tgs_cons (tg_name l) tgs_nil)), q⟩) hd hfs hp hc
/-- for x, y, z in e, a list of triples -/
theorem sx_forL3 {q1 q2 q3 q4 : Pos} {kk : Nat} (he : EX X W it δ (.ok (.lst ds))) (I : Nat → List Sl → Prop) (h0 : I 0 δ) (hs : ∀ (i : Nat) d δ', ds[i]? = some d → I i δ' → ∃ d1 d2 d3, d = .tup [d1, d2, d3] ∧ SX X W body (((δ'.set m (.dt d1)).set k (.dt d2)).set l (.dt d3)) (loopP X W rest (I (i + 1)) Po)) (hd : ∀ δ', I ds.length δ' → SX X W rest δ' Po)
    (hx : At X x m := by with_reducible assumption) (hy : At X y k := by with_reducible assumption) (hz : At X z l := by with_reducible assumption) (hfs : ∀ x, foldedSetIterable it X.env x = pure x := by intro _; rfl) (hp : PassesOwn (model X.prog X.w) X.A X.env X.xe := by with_reducible assumption) (hc : X.calm = true := by with_reducible assumption) :
    SX X W (.For (.Tuple [.Name x q1, .Name y q2, .Name z q3] kk q4) it body [] pos :: rest) δ Po :=
  sx_for (pi_list (pe_sem it)) (pg_at3 hc hx hy hz) (io_list he) I h0 (fun i d δ' h1 h2 => by
    obtain ⟨d1, d2, d3, rfl, q⟩ := hs i d δ' h1 h2
    exact ⟨_, tg_tup (tgs_cons (tg_name m) (tgs_cons (tg_name k) (tgs_cons (tg_name l) tgs_nil))), q⟩) hd hfs hp hc
/-- for y, z in zip(a, b) -/
theorem sx_forZ {q1 q2 q3 p1 p2 : Pos} {kk : Nat} {es fs : List Dt} (h1 : EX X W a δ (.ok (.lst es))) (h2 : EX X W b δ (.ok (.lst fs))) (hm : X.mg "zip" = none) (I : Nat → List Sl → Prop) (h0 : I 0 δ) (hs : ∀ (i : Nat) d1 d2 δ', es[i]? = some d1 → fs[i]? = some d2 → I i δ' → SX X W body ((δ'.set k (.dt d1)).set l (.dt d2)) (loopP X W rest (I (i + 1)) Po)) (hd : ∀ δ', I (min es.length fs.length) δ' → SX X W rest δ' Po)
    (hy : At X y k := by with_reducible assumption) (hz : At X z l := by with_reducible assumption) (hg : Glo X "zip" := by with_reducible assumption) (h3 : starEach [a, b] X.env = [(false, eval a X.env), (false, eval b X.env)] := by rfl) (h4 : starEach [b] X.env = [(false, eval b X.env)] := by rfl)
    (hpi : ∀ t, PA X [a, b] t → PI X (.Tuple [.Name y q1, .Name z q2] kk q3) (.Call (.Name "zip" p1) [a, b] [] p2) (iZip X.K t) := by exact fun t h => pi_zip (Glo.gl (by with_reducible assumption)) (by assumption) h) (hp : PassesOwn (model X.prog X.w) X.A X.env X.xe := by with_reducible assumption) (hc : X.calm = true := by with_reducible assumption) :
    SX X W (.For (.Tuple [.Name y q1, .Name z q2] kk q3) (.Call (.Name "zip" p1) [a, b] [] p2) body [] pos :: rest) δ Po :=
  sx_for (hpi _ (pa_sem [a, b])) (pg_at2 hc hy hz) (io_zip (ax_cons h1 (ax_cons h2 ax_nil (by rw [h4]; rfl)) (by rw [h3, h4]))) I h0 (fun i d δ' e1 e2 => by
    obtain ⟨d1, d2, f1, f2, rfl⟩ := dZip_get _ _ _ _ e1
    exact ⟨_, tg_tup (tgs_cons (tg_name k) (tgs_cons (tg_name l) tgs_nil)), hs i d1 d2 δ' f1 f2 e2⟩) (fun δ' h => hd δ' (by rw [dZip_len] at h; exact h)) (fun _ => rfl) hp hc
/-- for y, z in enumerate(e) -/
theorem sx_forE {q1 q2 q3 p1 p2 : Pos} {kk : Nat} (he : EX X W e δ (.ok (.lst ds))) (hm : X.mg "enumerate" = none) (I : Nat → List Sl → Prop) (h0 : I 0 δ) (hs : ∀ (i : Nat) d δ', ds[i]? = some d → I i δ' → SX X W body ((δ'.set k (.dt (.int i))).set l (.dt d)) (loopP X W rest (I (i + 1)) Po)) (hd : ∀ δ', I ds.length δ' → SX X W rest δ' Po)
    (hy : At X y k := by with_reducible assumption) (hz : At X z l := by with_reducible assumption) (hg : Glo X "enumerate" := by with_reducible assumption) (h1 : starEach [e] X.env = [(false, eval e X.env)] := by rfl) (hp : PassesOwn (model X.prog X.w) X.A X.env X.xe := by with_reducible assumption) (hc : X.calm = true := by with_reducible assumption) :
    SX X W (.For (.Tuple [.Name y q1, .Name z q2] kk q3) (.Call (.Name "enumerate" p1) [e] [] p2) body [] pos :: rest) δ Po :=
  sx_for (pi_enum hg.gl hm (pa_sem [e]) h1) (pg_at2 hc hy hz) (io_enum (ax_cons he ax_nil (by rw [h1]; rfl))) I h0 (fun i d δ' e1 e2 => by
    rw [dEnum_get] at e1
    cases e0 : ds[i]? with
    | none => rw [e0] at e1; cases e1
    | some d0 =>
      rw [e0] at e1
      cases e1
      refine ⟨_, tg_tup (tgs_cons (tg_name k) (tgs_cons (tg_name l) tgs_nil)), ?_⟩
      rw [show ((0 + i : Nat) : Int) = (i : Int) by omega]
      exact hs i d0 δ' e0 e2) (fun δ' h => hd δ' (by rw [dEnum_len] at h; exact h)) (fun _ => rfl) hp hc
end
end My

namespace My
open PySem L2 PySem.Spec
section
variable {X : Cx} {W : WX} {δ : List Sl} {e a b c it : Expr} {es : List Expr} {pos p : Pos} {i j : Int} {da db dc : Dt} {ds : List Dt} {Po : Out → Prop} {rest body : List Stmt} {x y z : Str} {n k l m : Nat}
/-! ## ranges with a step -/
def dRangeC (lo c : Int) (n : Nat) : List Dt := (List.range n).map fun k => Dt.int (lo + (k : Nat) * c)
theorem dRangeC_len (lo c : Int) (n : Nat) : (dRangeC lo c n).length = n := by simp [dRangeC]
theorem dRangeC_get {lo c : Int} {n i : Nat} {d : Dt} (e : (dRangeC lo c n)[i]? = some d) : i < n ∧ d = .int (lo + (i : Nat) * c) := by
  have hi : i < n := by
    have z := (List.getElem?_eq_some_iff.mp e).1
    rw [dRangeC_len] at z
    exact z
  unfold dRangeC at e
  rw [List.getElem?_map, List.getElem?_range hi] at e
  cases e
  exact ⟨hi, rfl⟩
theorem wk_rangeC {K : PySem.W.Frag} {G1 : Hp} {lo c : Int} {n : Nat} : Wk K G1 (Itc lo c n) (dRangeC lo c n) := fun i G H s1 s2 => by
  refine ⟨fun d e => ?_, fun hi => by rw [dRangeC_len] at hi; exact hi⟩
  obtain ⟨hi, rfl⟩ := dRangeC_get e
  exact ⟨hi, fun y H' ⟨e1, e2⟩ => by subst e1 e2; exact ⟨G, Step.refl s2, .int _⟩⟩
theorem io_range3 {q : Int} (h : AX X W es δ (.ok [.int i, .int j, .int q])) (hb : RgC i j q n) : IO X.K (iRng3 (semA X es)) δ (dRangeC i q n) := fun G0 H0 G H σ R F q => h.then F fun v G1 H1 s1 r => by
  cases r with
  | cons r1 r2 =>
    cases r2 with
    | cons r3 r4 =>
      cases r4 with
      | cons r5 r6 =>
        cases r6
        cases r1
        cases r3
        cases r5
        exact ⟨i, j, _, n, rfl, hb, q _ G1 H1 s1 wk_rangeC⟩
/-- for y in range(a, b, c) -/
theorem sx_forR3 {q q1 q2 : Pos} {s : Int} (n : Nat) (h1 : EX X W a δ (.ok (.int i))) (h2 : EX X W b δ (.ok (.int j))) (h3 : EX X W c δ (.ok (.int s))) (hb : RgC i j s n) (hm : X.mg "range" = none) (I : Nat → List Sl → Prop) (h0 : I 0 δ) (hs : ∀ (t : Nat) δ', t < n → I t δ' → SX X W body (δ'.set k (.dt (.int (i + (t : Nat) * s)))) (loopP X W rest (I (t + 1)) Po)) (hd : ∀ δ', I n δ' → SX X W rest δ' Po) (ha : At X y k := by with_reducible assumption)
    (hg : Glo X "range" := by with_reducible assumption) (s1 : ∀ es, starEach (a :: es) X.env = (false, eval a X.env) :: starEach es X.env := by intro _; rfl) (s2 : ∀ es, starEach (b :: es) X.env = (false, eval b X.env) :: starEach es X.env := by intro _; rfl) (s3 : ∀ es, starEach (c :: es) X.env = (false, eval c X.env) :: starEach es X.env := by intro _; rfl)
    (hp : PassesOwn (model X.prog X.w) X.A X.env X.xe := by with_reducible assumption) (hc : X.calm = true := by with_reducible assumption) : SX X W (.For (.Name y q) (.Call (.Name "range" q1) [a, b, c] [] q2) body [] pos :: rest) δ Po :=
  sx_for (pi_range3 hg.gl hm (pa_sem [a, b, c]) (s1 _) (by rw [s2, s3]; rfl)) (pg_at ha) (io_range3 (ax_cons h1 (ax_cons h2 (ax_cons h3 ax_nil (s3 _)) (s2 _)) (s1 _)) hb) I h0 (fun t d δ' e1 e2 => by
    obtain ⟨ht, rfl⟩ := dRangeC_get e1
    exact ⟨_, tg_name k, hs t δ' ht e2⟩) (fun δ' h => hd δ' (by rw [dRangeC_len] at h; exact h)) (fun _ => rfl) hp hc
/-! ## truths -/
theorem tx_isNotB {u v : Bool} (ha : EX X W a δ (.ok (.bl u))) (hb : EX X W b δ (.ok (.bl v))) : TX X W (.Compare a [.IsNot] [b] pos) δ (.ok (!decide (u = v))) :=
  tx_op (pt_cmpR op_notBl (pe_sem a) (pe_sem b) (nomark _)) (fun G H x y Q s rx ry q => by
    cases rx
    cases ry
    exact ⟨u, v, rfl, rfl, q _ G H (.refl s) (.bl _)⟩) ha hb
theorem tx_isB {u v : Bool} (ha : EX X W a δ (.ok (.bl u))) (hb : EX X W b δ (.ok (.bl v))) : TX X W (.Compare a [.Is] [b] pos) δ (.ok (decide (u = v))) :=
  tx_op (pt_cmpR op_isBl (pe_sem a) (pe_sem b) (nomark _)) (fun G H x y Q s rx ry q => by
    cases rx
    cases ry
    exact ⟨u, v, rfl, rfl, q _ G H (.refl s) (.bl _)⟩) ha hb
theorem ro_eqB {K : PySem.W.Frag} {u v : Bool} : RO K rEq (.bl u) (.bl v) (.bl (decide (u = v))) := fun G H x y Q s rx ry q => by
  cases rx
  cases ry
  refine ⟨rfl, q _ G H (.refl s) ?_⟩
  rw [dec_bl, Bool.beq_eq_decide_eq]
  exact .bl _
theorem ex_eqB {u v : Bool} (ha : EX X W a δ (.ok (.bl u))) (hb : EX X W b δ (.ok (.bl v))) : EX X W (.Compare a [.Eq] [b] pos) δ (.ok (.bl (decide (u = v)))) := ex_op (pe_cmpR op_eq (pe_sem a) (pe_sem b) (nomark _)) ro_eqB ha hb
theorem tx_eqB {u v : Bool} (ha : EX X W a δ (.ok (.bl u))) (hb : EX X W b δ (.ok (.bl v))) : TX X W (.Compare a [.Eq] [b] pos) δ (.ok (decide (u = v))) := tx_op (pt_cmpR op_eq (pe_sem a) (pe_sem b) (nomark _)) ro_eqB ha hb
theorem ro_eqS {K : PySem.W.Frag} {u v : Str} : RO K rEq (.str u) (.str v) (.bl (decide (u = v))) := fun G H x y Q s rx ry q => by
  cases rx
  cases ry
  refine ⟨rfl, q _ G H (.refl s) ?_⟩
  rw [dec_str]
  exact .bl _
theorem ro_neS {K : PySem.W.Frag} {u v : Str} : RO K rNe (.str u) (.str v) (.bl (!decide (u = v))) := fun G H x y Q s rx ry q => by
  cases rx
  cases ry
  refine ⟨rfl, q _ G H (.refl s) ?_⟩
  rw [dec_str]
  exact .bl _
theorem tx_eqS {u v : Str} (ha : EX X W a δ (.ok (.str u))) (hb : EX X W b δ (.ok (.str v))) : TX X W (.Compare a [.Eq] [b] pos) δ (.ok (decide (u = v))) := tx_op (pt_cmpR op_eq (pe_sem a) (pe_sem b) (nomark _)) ro_eqS ha hb
theorem tx_neS {u v : Str} (ha : EX X W a δ (.ok (.str u))) (hb : EX X W b δ (.ok (.str v))) : TX X W (.Compare a [.NotEq] [b] pos) δ (.ok (!decide (u = v))) := tx_op (pt_cmpR op_ne (pe_sem a) (pe_sem b) (nomark _)) ro_neS ha hb
/-! ## more calls -/
theorem boot_max1 : bootBuiltins "max" = some (.builtin "max") := by decide +kernel
theorem boot_min1 : bootBuiltins "min" = some (.builtin "min") := by decide +kernel
theorem ex_max2 (hm : X.mg "max" = none) (ha : EX X W a δ (.ok (.int i))) (hb : EX X W b δ (.ok (.int j))) (hg : Glo X "max" := by with_reducible assumption) (hc : X.calm = true := by with_reducible assumption)
    (s1 : ∀ es, starEach (a :: es) X.env = (false, eval a X.env) :: starEach es X.env := by intro _; rfl) (s2 : ∀ es, starEach (b :: es) X.env = (false, eval b X.env) :: starEach es X.env := by intro _; rfl) : EX X W (.Call (.Name "max" p) [a, b] [] pos) δ (.ok (.int (max i j))) :=
  ex_callB (call_max2 hc) hm (fun G H xs Q s r q => by
    cases r with
    | cons r1 r2 =>
      cases r2 with
      | cons r3 r4 =>
        cases r4
        cases r1
        cases r3
        refine ⟨i, j, rfl, q _ G H (.refl s) ?_⟩
        have e : (if j > i then j else i) = max i j := by split <;> omega
        rw [e]
        exact .int _) (ax_cons ha (ax_cons hb ax_nil (s2 _)) (s1 _)) hg boot_max1 (s1 _) (by rw [s2]; rfl)
/-- y, z = e, e a pair -/
theorem sx_unp2 {q1 q2 q3 : Pos} {kk : Nat} (he : EX X W e δ (.ok (.tup [da, db]))) (q : SX X W rest ((δ.set k (.dt da)).set l (.dt db)) Po) (hy : At X y k := by with_reducible assumption) (hz : At X z l := by with_reducible assumption) (hc : X.calm = true := by with_reducible assumption)
    (hs : swapsWithSole [.Tuple [.Name y q1, .Name z q2] kk q3] e pos.line X.env = pure false := by rfl) (hw : swappedStores [.Tuple [.Name y q1, .Name z q2] kk q3] e X.env = pure none := by rfl) : SX X W (.Assign [.Tuple [.Name y q1, .Name z q2] kk q3] e pos :: rest) δ Po :=
  sx_asg (pg_at2 hc hy hz) he (tg_tup (tgs_cons (tg_name k) (tgs_cons (tg_name l) tgs_nil))) q hs hw
theorem sx_unp3 {q1 q2 q3 q4 : Pos} {kk : Nat} (he : EX X W e δ (.ok (.tup [da, db, dc]))) (q : SX X W rest (((δ.set k (.dt da)).set l (.dt db)).set m (.dt dc)) Po) (hx : At X x k := by with_reducible assumption) (hy : At X y l := by with_reducible assumption) (hz : At X z m := by with_reducible assumption) (hc : X.calm = true := by with_reducible assumption)
    (hs : swapsWithSole [.Tuple [.Name x q1, .Name y q2, .Name z q3] kk q4] e pos.line X.env = pure false := by rfl) (hw : swappedStores [.Tuple [.Name x q1, .Name y q2, .Name z q3] kk q4] e X.env = pure none := by rfl) : SX X W (.Assign [.Tuple [.Name x q1, .Name y q2, .Name z q3] kk q4] e pos :: rest) δ Po :=
  sx_asg (pg_at3 hc hx hy hz) he (tg_tup (tgs_cons (tg_name k) (tgs_cons (tg_name l) (tgs_cons (tg_name m) tgs_nil)))) q hs hw
end
end My

namespace My
open PySem L2 PySem.Spec
/-! ## blocks of comprehensions -/
structure BArg where
  s : Shared
  H : Hp
  C : Addr
  cl : List (Str × Addr)
  fp : List Addr
/-- where a comprehension's block runs -/
abbrev Xb (X : Cx) (sc : Scope) (q : BArg) : Cx := X.blk q.s q.H sc (compEnvC sc q.cl q.C X.env) q.fp
structure Bl (N : List Str) (sc : Scope) (B : Cx) : Prop where
  n : B.N = N
  nd : N.Nodup
  calm : B.calm = true
  ex : ∃ (X : Cx) (q : BArg), B = Xb X sc q
abbrev W0 : WX := fun _ _ _ _ => False
theorem tk0 {B : Cx} : Takes B W0 := fun u s' ⟨_, _, _, _, _, _, _, _, _, _, _, _, _, _, _, _, w⟩ => w.elim
theorem relabel_look {sc : Scope} {env : Env} : ∀ {names : List (Str × NameKind)} {x : Str} {k : NameKind}, names.lookup x = some k →
    ∃ k', (names.map fun (n, k) => if (k == NameKind.free && env.scope.kind == .function && env.kindOf n == some .cell) then (n, NameKind.cell) else (n, k)).lookup x = some k' ∧ (k' = k ∨ (k = .free ∧ k' = .cell))
  | [], _, _, h => by simp at h
  | (n, k₀) :: r, x, k, h => by
    have ih := @relabel_look sc env r x k
    show ∃ k', List.lookup x ((if (k₀ == NameKind.free && env.scope.kind == .function && env.kindOf n == some .cell) = true then (n, NameKind.cell) else (n, k₀)) :: _) = some k' ∧ _
    cases hx : x == n with
    | true =>
      simp only [List.lookup_cons, hx] at h
      cases h
      by_cases hc : (k₀ == NameKind.free && env.scope.kind == .function && env.kindOf n == some .cell) = true
      · rw [if_pos hc]
        simp only [List.lookup_cons, hx]
        simp only [Bool.and_eq_true, beq_iff_eq] at hc
        exact ⟨_, rfl, .inr ⟨hc.1.1, rfl⟩⟩
      · rw [if_neg hc]
        simp only [List.lookup_cons, hx]
        exact ⟨_, rfl, .inl rfl⟩
    | false =>
      simp only [List.lookup_cons, hx] at h
      by_cases hc : (k₀ == NameKind.free && env.scope.kind == .function && env.kindOf n == some .cell) = true
      · rw [if_pos hc]; simp only [List.lookup_cons, hx]; exact ih h
      · rw [if_neg hc]; simp only [List.lookup_cons, hx]; exact ih h
theorem Bl.look {N : List Str} {sc : Scope} {B : Cx} (h : Bl N sc B) {x : Str} {k : NameKind} (e : sc.names.lookup x = some k) : ∃ k', B.env.scope.names.lookup x = some k' ∧ (k' = k ∨ (k = .free ∧ k' = .cell)) := by
  obtain ⟨X, q, rfl⟩ := h.ex
  exact relabel_look (sc := sc) e
structure BOk (X : Cx) (N : List Str) (sc : Scope) (vs : List Nat) : Prop where
  n : X.N = N
  nd : X.N.Nodup
  calm : X.calm = true
  ok : ∃ own : List (Str × Nat), BlkOk X.N X.env.scope sc own ∧ own.map (·.2) = vs
structure BDef (N : List Str) (osn : List (Str × NameKind)) (sc : Scope) (vs rd : List Nat) (gl : List Str) : Prop where
  ok : ∃ own : List (Str × Nat), (∀ osc : Scope, osc.names = osn → BlkOk N osc sc own) ∧ own.map (·.2) = vs
  fr : ∀ y ∈ sc.names, y.2 = .free → osn.lookup y.1 = some .cell ∨ osn.lookup y.1 = some .free
  rd : ∀ i ∈ rd, ∀ x, N[i]? = some x → (sc.names.lookup x = some .local ∨ sc.names.lookup x = some .cell ∨ sc.names.lookup x = some .free) ∧ x ≠ "__debug__" ∧ x ≠ "__classdict__"
  at_ : ∀ i ∈ vs, ∀ x, N[i]? = some x → (sc.names.lookup x = some .local ∨ sc.names.lookup x = some .cell) ∧ x ≠ "__debug__" ∧ x ≠ "__classdict__"
  gl : ∀ g ∈ gl, sc.names.lookup g = some .globalImplicit ∧ g ≠ "__debug__" ∧ g ≠ "__name__"
section
variable {X B : Cx} {N : List Str} {sc osc : Scope} {osn : List (Str × NameKind)} {vs rd : List Nat} {gl : List Str}
theorem BDef.top (D : BDef N osn sc vs rd gl) (nx : Nx X N osc) (e : osc.names = osn) : BOk X N sc vs := by
  obtain ⟨own, h, hv⟩ := D.ok
  exact ⟨nx.n, by rw [nx.n]; exact nx.nd, nx.calm, own, by rw [nx.n, nx.scope]; exact h osc e, hv⟩
theorem BDef.sub (D : BDef N osn sc vs rd gl) (nb : Bl N osc B) (e : osc.names = osn) : BOk B N sc vs := by
  obtain ⟨own, h, hv⟩ := D.ok
  have b := h osc e
  refine ⟨nb.n, by rw [nb.n]; exact nb.nd, nb.calm, own, ?_, hv⟩
  rw [nb.n]
  refine ⟨b.kind, b.uniq, b.ix, fun y hy hf => ?_, b.own⟩
  rcases b.free y hy hf with q | q
  · obtain ⟨k', z, hk⟩ := nb.look q
    rcases hk with rfl | ⟨hk, _⟩
    · exact .inl z
    · cases hk
  · obtain ⟨k', z, hk⟩ := nb.look q
    rcases hk with rfl | ⟨_, rfl⟩
    · exact .inr z
    · exact .inl z
theorem BDef.r (D : BDef N osn sc vs rd gl) (nb : Bl N sc B) {i : Nat} {x : Str} (hi : i ∈ rd) (hx : N[i]? = some x) : Rd1 B x i := by
  obtain ⟨h1, h2, h3⟩ := D.rd i hi x hx
  refine ⟨by rw [nb.n]; exact hx, ?_, by simpa using h2, by simpa using h3⟩
  rcases h1 with q | q | q
  · obtain ⟨k', z, hk⟩ := nb.look q
    rcases hk with rfl | ⟨hk, _⟩
    · exact .inl z
    · cases hk
  · obtain ⟨k', z, hk⟩ := nb.look q
    rcases hk with rfl | ⟨hk, _⟩
    · exact .inr (.inl z)
    · cases hk
  · obtain ⟨k', z, hk⟩ := nb.look q
    rcases hk with rfl | ⟨_, rfl⟩
    · exact .inr (.inr z)
    · exact .inr (.inl z)
theorem BDef.a (D : BDef N osn sc vs rd gl) (nb : Bl N sc B) {i : Nat} {x : Str} (hi : i ∈ vs) (hx : N[i]? = some x) : At B x i := by
  obtain ⟨h1, h2, h3⟩ := D.at_ i hi x hx
  have nd : B.N.Nodup := by rw [nb.n]; exact nb.nd
  have ix : B.N[i]? = some x := by rw [nb.n]; exact hx
  rcases h1 with q | q
  · obtain ⟨k', z, hk⟩ := nb.look q
    rcases hk with rfl | ⟨hk, _⟩
    · exact ⟨nd, ix, .inl z, .inl z, .inr z, by simpa using h2, by simpa using h3⟩
    · cases hk
  · obtain ⟨k', z, hk⟩ := nb.look q
    rcases hk with rfl | ⟨hk, _⟩
    · refine ⟨nd, ix, .inr (.inl z), .inr z, .inl ?_, by simpa using h2, by simpa using h3⟩
      obtain ⟨X, qq, rfl⟩ := nb.ex
      show (sc.names.lookup x == some .cell) = true
      rw [q]
      rfl
    · cases hk
theorem BDef.g (D : BDef N osn sc vs rd gl) (nb : Bl N sc B) {g : Str} (hg : g ∈ gl) : Glo B g := by
  obtain ⟨h1, h2, h3⟩ := D.gl g hg
  refine ⟨?_, by simpa using h2, h3⟩
  obtain ⟨k', z, hk⟩ := nb.look h1
  rcases hk with rfl | ⟨hk, _⟩
  · exact z
  · cases hk
end
def notDB (x : Str) : Bool := !decide (x = zDebug) && !decide (x = zClassdict)
def bdefB (zn : List Str) (osn sn : List (Str × NameKind)) (vs rd : List Nat) (zg : List Str) : Bool :=
  sn.all (fun y => decide (sn.lookup y.1 = some y.2)) && (sn.all (fun y => match y.2 with
      | .free => decide (osn.lookup y.1 = some .cell) || decide (osn.lookup y.1 = some .free)
      | .local => vs.any (fun i => decide (zn[i]? = some y.1)) || decide (y.1 ∉ zn)
      | .cell => vs.any (fun i => decide (zn[i]? = some y.1)) || decide (y.1 ∉ zn)
      | _ => true) && (rd.all (fun i => match zn[i]? with
        | some x => (lcB sn x || decide (sn.lookup x = some .free)) && notDB x
        | none => false) && (vs.all (fun i => match zn[i]? with
        | some x => lcB sn x && notDB x
        | none => false) && zg.all fun g => decide (sn.lookup g = some .globalImplicit) && (!decide (g = zDebug) && !decide (g = zName)))))
theorem notDB_ok {x : Str} (h : notDB x = true) : x ≠ "__debug__" ∧ x ≠ "__classdict__" := by
  unfold notDB at h
  rw [eDebug, eClassdict]
  simpa using h
theorem bdef_mk {N zn zg gl : List Str} {sc : Scope} {osn on sn : List (Str × NameKind)} {vs rd : List Nat} (hk : sc.kind = .function) (hn : sc.names = sn) (hN : N = zn) (hl : gl = zg) (ho : on = osn)
    (ck : bdefB zn osn sn vs rd zg = true) : BDef N on sc vs rd gl := by
  subst hN hl ho
  unfold bdefB at ck
  simp only [Bool.and_eq_true] at ck
  obtain ⟨c1, c2, c3, c4, c5⟩ := ck
  rw [← hn] at c1 c2 c3 c4 c5
  have fr : ∀ y ∈ sc.names, y.2 = .free → on.lookup y.1 = some .cell ∨ on.lookup y.1 = some .free := fun y hy hf => by
    have q := List.all_eq_true.mp c2 y hy
    rw [hf] at q
    simpa using q
  have own : ∀ y ∈ sc.names, y.2 = .local ∨ y.2 = .cell → (∃ i ∈ vs, N[i]? = some y.1) ∨ y.1 ∉ N := fun y hy hf => by
    have q := List.all_eq_true.mp c2 y hy
    rcases hf with hf | hf <;>
    · rw [hf] at q
      simp only [Bool.or_eq_true, List.any_eq_true, decide_eq_true_eq] at q
      exact q
  refine ⟨⟨vs.map fun i => (N[i]?.getD default, i), fun osc e => ⟨hk, fun y hy => ?_, fun p hp => ?_, fun y hy hf => by rw [e]; exact fr y hy hf, fun y hy hf => ?_⟩, ?_⟩, fr, fun i hi x hx => ?_, fun i hi x hx => ?_, fun g hg => ?_⟩
  · simpa using List.all_eq_true.mp c1 y hy
  · obtain ⟨i, hi, rfl⟩ := List.mem_map.mp hp
    have q := List.all_eq_true.mp c4 i hi
    show N[i]? = some (N[i]?.getD default)
    cases e : N[i]? with
    | none => rw [e] at q; cases q
    | some z => rfl
  · rcases own y hy hf with ⟨i, hi, e⟩ | q
    · refine .inl (List.mem_map.mpr ⟨(y.1, i), List.mem_map.mpr ⟨i, hi, ?_⟩, rfl⟩)
      rw [e]
      rfl
    · exact .inr q
  · rw [List.map_map]
    exact List.map_id' _
  · have q := List.all_eq_true.mp c3 i hi
    rw [hx] at q
    simp only [Bool.and_eq_true, Bool.or_eq_true, decide_eq_true_eq] at q
    refine ⟨?_, notDB_ok q.2⟩
    rcases q.1 with z | z
    · rcases lcB_ok z with z | z
      · exact .inl z
      · exact .inr (.inl z)
    · exact .inr (.inr z)
  · have q := List.all_eq_true.mp c4 i hi
    rw [hx] at q
    simp only [Bool.and_eq_true] at q
    exact ⟨lcB_ok q.1, notDB_ok q.2⟩
  · have q := List.all_eq_true.mp c5 g hg
    simp only [Bool.and_eq_true, Bool.not_eq_true', decide_eq_false_iff_not, decide_eq_true_eq] at q
    refine ⟨q.1, ?_, ?_⟩
    · rw [eDebug]; exact q.2.1
    · rw [eName]; exact q.2.2
/-! ## what is gone through -/
section
variable {X : Cx} {W : WX} {δ : List Sl} {e a b c it elt tst tg : Expr} {es : List Expr} {pos p : Pos} {i j : Int} {da db dc : Dt} {ds : List Dt} {Po : Out → Prop} {rest body : List Stmt} {x y z : Str} {n k l m : Nat}
/-- in slot k stands the name x: read it -/
theorem ex_w {x : Str} {i : Nat} {d : Dt} (h : Rd1 X x i := by with_reducible assumption) (hd : δ[i]? = some (.dt d) := by rfl) : EX X W (.Name x pos) δ (.ok d) := ex_r h hd
structure Src (X : Cx) (tg it : Expr) (δ : List Sl) (ds : List Dt) : Prop where
  run : ∃ wi : TI, PI X tg it wi ∧ IO X.K wi δ ds
  fo : ∀ x, foldedSetIterable it X.env x = pure x
theorem src_list (h : EX X W0 e δ (.ok (.lst ds))) (hfs : ∀ x, foldedSetIterable e X.env x = pure x := by intro _; rfl) : Src X tg e δ ds := ⟨⟨_, pi_list (pe_sem e), io_list h⟩, hfs⟩
theorem src_tup (h : EX X W0 e δ (.ok (.tup ds))) (hfs : ∀ x, foldedSetIterable e X.env x = pure x := by intro _; rfl) : Src X tg e δ ds := ⟨⟨_, pi_tup (pe_sem e), io_tup h⟩, hfs⟩
theorem src_str {z : Str} (h : EX X W0 e δ (.ok (.str z))) (hfs : ∀ x, foldedSetIterable e X.env x = pure x := by intro _; rfl) : Src X tg e δ (z.cps.toList.map fun c => .str ⟨#[c]⟩) := ⟨⟨_, pi_str (pe_sem e), io_str h⟩, hfs⟩
theorem dRange_zero (n : Nat) : dRange 0 n = (List.range n).map fun k => Dt.int (k : Nat) := by
  unfold dRange
  refine List.map_congr_left fun k _ => ?_
  rw [Int.zero_add]
theorem src_range {q1 q2 : Pos} (h : EX X W0 e δ (.ok (.int (n : Nat)))) (hn : n < 2 ^ 62) (hm : X.mg "range" = none) (hg : Glo X "range" := by with_reducible assumption) (s1 : starEach [e] X.env = (false, eval e X.env) :: starEach [] X.env := by rfl) :
    Src X tg (.Call (.Name "range" q1) [e] [] q2) δ ((List.range n).map fun k => Dt.int (k : Nat)) :=
  ⟨⟨_, pi_range1 hg.gl hm (pa_sem [e]) s1, by
    have q := io_range1 (ax_cons h ax_nil s1) (by omega) (by omega)
    rw [show (n : Int).toNat = n from rfl, dRange_zero] at q
    exact q⟩, fun _ => rfl⟩
theorem src_zip {q1 q2 : Pos} {fs : List Dt} {elts : List Expr} {kk : Nat} {tpos : Pos} (h1 : EX X W0 a δ (.ok (.lst ds))) (h2 : EX X W0 b δ (.ok (.lst fs))) (hm : X.mg "zip" = none) (hg : Glo X "zip" := by with_reducible assumption)
    (s1 : ∀ es, starEach (a :: es) X.env = (false, eval a X.env) :: starEach es X.env := by intro _; rfl) (s2 : ∀ es, starEach (b :: es) X.env = (false, eval b X.env) :: starEach es X.env := by intro _; rfl) :
    Src X (.Tuple elts kk tpos) (.Call (.Name "zip" q1) [a, b] [] q2) δ (dZip ds fs) :=
  ⟨⟨_, pi_zip hg.gl hm (pa_sem [a, b]) (s1 _) (by rw [s2]; rfl), io_zip (ax_cons h1 (ax_cons h2 ax_nil (s2 _)) (s1 _))⟩, fun _ => rfl⟩
theorem dZip_map {α β : Type} (f : α → Dt) (g : β → Dt) : ∀ (xs : List α) (ys : List β), dZip (xs.map f) (ys.map g) = (xs.zip ys).map fun p => .tup [f p.1, g p.2]
  | [], _ => by cases ‹List β› <;> rfl
  | _ :: _, [] => rfl
  | x :: xs, y :: ys => by
    show _ :: dZip (xs.map f) (ys.map g) = _
    rw [dZip_map f g xs ys]
    rfl
theorem Src.cast {ds' : List Dt} (h : Src X tg it δ ds) (e : ds = ds') : Src X tg it δ ds' := e ▸ h
/-! ## comprehensions -/
theorem GO.all {α β ι : Type} {K : PySem.W.Frag} {rel : Hp → β → α → Prop} {t : ι → L2.St → Hp → (β → Hp → Prop) → Prop} {r : Except Er α} (h : ∀ q, GO K W rel (t q) δ r) : GO K W rel (fun σ H Q => ∀ q, t q σ H Q) δ r :=
  fun G0 H0 G H σ Q F hr q => h q G0 H0 G H σ Q F hr
/-- over a block: the tests -/
def semTs (X : Cx) (ifs : List Expr) : TT := fun σ H Q => ∀ pins s, Inv X pins σ H s →
    wpAny (model X.prog X.w) X.A (forIn ifs true fun c r => if r = true then do let ok ← isTrue c X.env (eval c X.env); pure (ForInStep.yield ok) else pure (ForInStep.yield r)) (TP X pins σ Q) X.xe s
theorem pts_sem {ifs : List Expr} : PTs X ifs (semTs X ifs) := ⟨fun pins s σ H Q I h => h pins s I⟩
structure TTs (X : Cx) (ifs : List Expr) (δ : List Sl) (k : Bool) : Prop where
  go : GO X.K W0 bRel (semTs X ifs) δ (.ok k)
theorem tts_nil : TTs X [] δ true := ⟨fun G0 H0 G H σ Q F hr pins s I => pts_nil.run pins s σ H Q I (hr true G H (.refl F.sub) rfl)⟩
theorem tts_one {k : Bool} (h : TX X W0 c δ (.ok k)) : TTs X [c] δ k := ⟨fun G0 H0 G H σ Q F hr pins s I => (pts_one (pt_sem c)).run pins s σ H Q I (h.go G0 H0 G H σ Q F hr)⟩
theorem lc_gen {α : Type} {ifs : List Expr} {sc : Scope} {vs : List Nat} {g : TG} (xs : List α) (g0 h0 : α → Dt) (pf : α → Bool) {N : List Str} (sr : Src X tg it δ (xs.map g0)) (bo : BOk X N sc vs) (hz : xs.length ≤ sizeLine) (hin : TgIn g vs)
    (hg : ∀ q, Bl N sc (Xb X sc q) → PG (Xb X sc q) tg g)
    (hs : ∀ (i : Nat) d, xs[i]? = some d → ∃ δ'', TgOk X.K g (g0 d) (wipeS δ vs) δ'' ∧ (∀ q, Bl N sc (Xb X sc q) → TTs (Xb X sc q) ifs δ'' (pf d)) ∧ (pf d = true → ∀ q, Bl N sc (Xb X sc q) → EX (Xb X sc q) W0 elt δ'' (.ok (h0 d)))) :
    ∃ (own : List (Str × Nat)) (wi : TI) (tt : TT) (te : TE), PI X tg it wi ∧ BlkOk X.N X.env.scope sc own ∧
      (∀ (s : Shared) (H : Hp) (C : Addr) (cl : List (Str × Addr)) (fp : List Addr), PG (X.blk s H sc (compEnvC sc cl C X.env) fp) tg g) ∧
      (∀ (s : Shared) (H : Hp) (C : Addr) (cl : List (Str × Addr)) (fp : List Addr), PTs (X.blk s H sc (compEnvC sc cl C X.env) fp) ifs tt) ∧
      (∀ (s : Shared) (H : Hp) (C : Addr) (cl : List (Str × Addr)) (fp : List Addr), PE (X.blk s H sc (compEnvC sc cl C X.env) fp) elt te) ∧
      GO X.K W (Rp X.K) (tLc wi g tt te (own.map (·.2))) δ (.ok (.lst ((xs.filter pf).map h0))) := by
  obtain ⟨own, ok, rfl⟩ := bo.ok
  obtain ⟨⟨wi, hi, io⟩, _⟩ := sr
  have nb : ∀ q, Bl N sc (Xb X sc q) := fun q => ⟨bo.n, bo.n ▸ bo.nd, bo.calm, X, q, rfl⟩
  refine ⟨own, wi, fun σ H Q => ∀ q : BArg, semTs (Xb X sc q) ifs σ H Q, fun σ H Q => ∀ q : BArg, semE (Xb X sc q) elt σ H Q, hi, ok, fun s H C cl fp => hg ⟨s, H, C, cl, fp⟩ (nb _),
    fun s H C cl fp => ⟨fun pins s' σ H' Q I h => h ⟨s, H, C, cl, fp⟩ pins s' I⟩, fun s H C cl fp => ⟨fun pins s' σ H' Q I h => h ⟨s, H, C, cl, fp⟩ pins s' I⟩, ?_⟩
  refine go_lc xs g0 io pf h0 hz hin fun i d hd => ?_
  obtain ⟨δ'', h1, h2, h3⟩ := hs i d hd
  exact ⟨δ'', h1, GO.all fun q => (h2 q (nb q)).go, fun hp => GO.all fun q => (h3 hp q (nb q)).go⟩
/-- what a comprehension gives -/
structure LC (X : Cx) (W : WX) (elt tg it : Expr) (ifs : List Expr) (sc : Scope) (δ : List Sl) (ds : List Dt) : Prop where
  nd : X.N.Nodup
  calm : X.calm = true
  fo : ∀ x, foldedSetIterable it X.env x = pure x
  run : ∃ (own : List (Str × Nat)) (wi : TI) (g : TG) (tt : TT) (te : TE), PI X tg it wi ∧ BlkOk X.N X.env.scope sc own ∧
      (∀ (s : Shared) (H : Hp) (C : Addr) (cl : List (Str × Addr)) (fp : List Addr), PG (X.blk s H sc (compEnvC sc cl C X.env) fp) tg g) ∧
      (∀ (s : Shared) (H : Hp) (C : Addr) (cl : List (Str × Addr)) (fp : List Addr), PTs (X.blk s H sc (compEnvC sc cl C X.env) fp) ifs tt) ∧
      (∀ (s : Shared) (H : Hp) (C : Addr) (cl : List (Str × Addr)) (fp : List Addr), PE (X.blk s H sc (compEnvC sc cl C X.env) fp) elt te) ∧
      GO X.K W (Rp X.K) (tLc wi g tt te (own.map (·.2))) δ (.ok (.lst ds))
theorem ex_lc {ifs : List Expr} {sc : Scope} (h : LC X W elt tg it ifs sc δ ds) : EX X W (.ListComp elt [⟨tg, it, ifs, 0⟩] sc pos) δ (.ok (.lst ds)) := by
  obtain ⟨own, wi, g, tt, te, h1, h2, h3, h4, h5, h6⟩ := h.run
  exact ex_of (pe_lc h.calm h.nd h1 h2 h3 h4 h5 h.fo) h6
/-- a comprehension stored in a name -/
structure Sw (X : Cx) (sc : Scope) (y : Str) : Prop where
  hk : X.env.scope.kind = .function
  hl : (X.env.scope.names.lookup y = some .local ∧ (sc.names.any fun (n, k) => n == y && (k == .local || k == .cell)) = false) ∨ X.env.scope.names.lookup y = some .cell
theorem sw_mk {osc sc : Scope} {N : List Str} (nx : Nx X N osc) {y zy : Str} {osn sn : List (Str × NameKind)} (hk : osc.kind = .function) (h1 : osc.names = osn) (h2 : sc.names = sn) (hy : y = zy)
    (ck : (decide (osn.lookup zy = some .cell) || (decide (osn.lookup zy = some .local) && !(sn.any fun (n, k) => n == zy && (k == .local || k == .cell)))) = true) : Sw X sc y := by
  subst hy
  refine ⟨by rw [nx.scope]; exact hk, ?_⟩
  rw [nx.scope, h1, h2]
  simp only [Bool.or_eq_true, Bool.and_eq_true, decide_eq_true_eq, Bool.not_eq_true'] at ck
  rcases ck with q | q
  · exact .inr q
  · exact .inl q
theorem sx_setLc {ifs : List Expr} {sc : Scope} {k : Nat} {y : Str} {p2 : Pos} (h : LC X W elt tg it ifs sc δ ds) (q : SX X W rest (δ.set k (.dt (.lst ds))) Po) (ha : At X y k := by with_reducible assumption) (sw : Sw X sc y := by with_reducible assumption) (hn : (p2.line == pos.line) = true := by rfl)
    : SX X W (.Assign [.Name y p2] (.ListComp elt [⟨tg, it, ifs, 0⟩] sc pos) p :: rest) δ Po := by
  rcases sw.hl with ⟨hl, ho⟩ | hl
  · obtain ⟨own, wi, g, tt, te, h1, h2, h3, h4, h5, h6⟩ := h.run
    exact sx_cons (ps_setLc h.calm h.nd ha.ix hl (sw_true sw.hk hl hn ho) h1 h2 h3 h4 h5 h.fo) (so_asg _ h6 q)
  · refine sx_set (ex_lc h) q ha ?_
    have ky : X.env.kindOf y = some .cell := hl
    unfold swapsWith
    simp only [ky]
    have e : ((some NameKind.cell : Option NameKind) == some .local) = false := rfl
    rw [e, Bool.and_false, Bool.false_and, Bool.false_and]
variable {α : Type} {sc : Scope} {vs : List Nat} {N : List Str} {j0 j1 j2 : Nat}
theorem lc_mk {ifs : List Expr} {g : TG} (xs : List α) (g0 h0 : α → Dt) (pf : α → Bool) (sr : Src X tg it δ (xs.map g0)) (bo : BOk X N sc vs) (hz : xs.length ≤ sizeLine) (hin : TgIn g vs) (hg : ∀ q, Bl N sc (Xb X sc q) → PG (Xb X sc q) tg g) {F : α → List Sl} (ht : ∀ d, TgOk X.K g (g0 d) (wipeS δ vs) (F d))
    (hs : ∀ (i : Nat) d, xs[i]? = some d → ∀ q, Bl N sc (Xb X sc q) → TTs (Xb X sc q) ifs (F d) (pf d) ∧ (pf d = true → EX (Xb X sc q) W0 elt (F d) (.ok (h0 d)))) : LC X W elt tg it ifs sc δ ((xs.filter pf).map h0) := by
  refine ⟨bo.nd, bo.calm, sr.fo, ?_⟩
  obtain ⟨own, wi, tt, te, h⟩ := lc_gen (W := W) xs g0 h0 pf sr bo hz hin hg fun i d hd => ⟨F d, ht d, fun q nb => (hs i d hd q nb).1, fun hp q nb => (hs i d hd q nb).2 hp⟩
  exact ⟨own, wi, g, tt, te, h⟩
theorem filter_yes (xs : List α) : xs.filter (fun _ => true) = xs := List.filter_eq_self.mpr fun _ _ => rfl
/-- [elt for y in it] -/
theorem lc1 {y : Str} {q1 : Pos} (xs : List α) (g0 h0 : α → Dt) (sr : Src X (.Name y q1) it δ (xs.map g0)) (hz : xs.length ≤ sizeLine)
    (hs : ∀ (i : Nat) d, xs[i]? = some d → ∀ q, Bl N sc (Xb X sc q) → EX (Xb X sc q) W0 elt ((wipeS δ vs).set j0 (.dt (g0 d))) (.ok (h0 d)))
    (bo : BOk X N sc vs := by with_reducible assumption) (ha : ∀ B, Bl N sc B → At B y j0 := by with_reducible assumption) (hj : j0 ∈ vs := by decide) : LC X W elt (.Name y q1) it [] sc δ (xs.map h0) := by
  have h := lc_mk (W := W) xs g0 h0 (fun _ => true) sr bo hz (tgi_name hj) (fun q nb => pg_at (ha _ nb)) (F := fun d => (wipeS δ vs).set j0 (.dt (g0 d))) (fun d => tg_name _) fun i d hd q nb => ⟨tts_nil, fun _ => hs i d hd q nb⟩
  rwa [filter_yes] at h
/-- [elt for y in it if c] -/
theorem lc1f {y : Str} {q1 : Pos} (xs : List α) (g0 h0 : α → Dt) (pf : α → Bool) (sr : Src X (.Name y q1) it δ (xs.map g0)) (hz : xs.length ≤ sizeLine)
    (hs : ∀ (i : Nat) d, xs[i]? = some d → ∀ q, Bl N sc (Xb X sc q) → TX (Xb X sc q) W0 c ((wipeS δ vs).set j0 (.dt (g0 d))) (.ok (pf d)) ∧ (pf d = true → EX (Xb X sc q) W0 elt ((wipeS δ vs).set j0 (.dt (g0 d))) (.ok (h0 d))))
    (bo : BOk X N sc vs := by with_reducible assumption) (ha : ∀ B, Bl N sc B → At B y j0 := by with_reducible assumption) (hj : j0 ∈ vs := by decide) : LC X W elt (.Name y q1) it [c] sc δ ((xs.filter pf).map h0) :=
  lc_mk xs g0 h0 pf sr bo hz (tgi_name hj) (fun q nb => pg_at (ha _ nb)) (F := fun d => (wipeS δ vs).set j0 (.dt (g0 d))) (fun d => tg_name _) fun i d hd q nb => ⟨tts_one (hs i d hd q nb).1, fun hp => (hs i d hd q nb).2 hp⟩
/-- [elt for y, z in it (if c)] -/
theorem lc2f {y z : Str} {q1 q2 q3 : Pos} {kk : Nat} (xs : List α) (g1 g2 h0 : α → Dt) (pf : α → Bool) (sr : Src X (.Tuple [.Name y q1, .Name z q2] kk q3) it δ (xs.map fun d => .tup [g1 d, g2 d])) (hz : xs.length ≤ sizeLine)
    (hs : ∀ (i : Nat) d, xs[i]? = some d → ∀ q, Bl N sc (Xb X sc q) → TX (Xb X sc q) W0 c (((wipeS δ vs).set j0 (.dt (g1 d))).set j1 (.dt (g2 d))) (.ok (pf d)) ∧ (pf d = true → EX (Xb X sc q) W0 elt (((wipeS δ vs).set j0 (.dt (g1 d))).set j1 (.dt (g2 d))) (.ok (h0 d))))
    (bo : BOk X N sc vs := by with_reducible assumption) (ha : ∀ B, Bl N sc B → At B y j0 := by with_reducible assumption) (hb : ∀ B, Bl N sc B → At B z j1 := by with_reducible assumption) (hj : j0 ∈ vs := by decide) (hk : j1 ∈ vs := by decide) : LC X W elt (.Tuple [.Name y q1, .Name z q2] kk q3) it [c] sc δ ((xs.filter pf).map h0) :=
  lc_mk xs _ h0 pf sr bo hz (tgi_tup (tgsi_cons hj (tgsi_cons hk tgsi_nil gNil_mono) (gConsN_mono gNil_mono))) (fun q nb => pg_at2 nb.calm (ha _ nb) (hb _ nb)) (F := fun d => ((wipeS δ vs).set j0 (.dt (g1 d))).set j1 (.dt (g2 d))) (fun d => tg_tup (tgs_cons (tg_name _) (tgs_cons (tg_name _) tgs_nil))) fun i d hd q nb => ⟨tts_one (hs i d hd q nb).1, fun hp => (hs i d hd q nb).2 hp⟩
theorem lc2 {y z : Str} {q1 q2 q3 : Pos} {kk : Nat} (xs : List α) (g1 g2 h0 : α → Dt) (sr : Src X (.Tuple [.Name y q1, .Name z q2] kk q3) it δ (xs.map fun d => .tup [g1 d, g2 d])) (hz : xs.length ≤ sizeLine)
    (hs : ∀ (i : Nat) d, xs[i]? = some d → ∀ q, Bl N sc (Xb X sc q) → EX (Xb X sc q) W0 elt (((wipeS δ vs).set j0 (.dt (g1 d))).set j1 (.dt (g2 d))) (.ok (h0 d)))
    (bo : BOk X N sc vs := by with_reducible assumption) (ha : ∀ B, Bl N sc B → At B y j0 := by with_reducible assumption) (hb : ∀ B, Bl N sc B → At B z j1 := by with_reducible assumption) (hj : j0 ∈ vs := by decide) (hk : j1 ∈ vs := by decide) : LC X W elt (.Tuple [.Name y q1, .Name z q2] kk q3) it [] sc δ (xs.map h0) := by
  have h := lc_mk (W := W) xs _ h0 (fun _ => true) sr bo hz (tgi_tup (tgsi_cons hj (tgsi_cons hk tgsi_nil gNil_mono) (gConsN_mono gNil_mono))) (fun q nb => pg_at2 nb.calm (ha _ nb) (hb _ nb)) (F := fun d => ((wipeS δ vs).set j0 (.dt (g1 d))).set j1 (.dt (g2 d))) (fun d => tg_tup (tgs_cons (tg_name _) (tgs_cons (tg_name _) tgs_nil))) fun i d hd q nb => ⟨tts_nil, fun _ => hs i d hd q nb⟩
  rwa [filter_yes] at h
theorem lc3f {x y z : Str} {q1 q2 q3 q4 : Pos} {kk : Nat} (xs : List α) (g1 g2 g3 h0 : α → Dt) (pf : α → Bool) (sr : Src X (.Tuple [.Name x q1, .Name y q2, .Name z q3] kk q4) it δ (xs.map fun d => .tup [g1 d, g2 d, g3 d])) (hz : xs.length ≤ sizeLine)
    (hs : ∀ (i : Nat) d, xs[i]? = some d → ∀ q, Bl N sc (Xb X sc q) → TX (Xb X sc q) W0 c ((((wipeS δ vs).set j0 (.dt (g1 d))).set j1 (.dt (g2 d))).set j2 (.dt (g3 d))) (.ok (pf d)) ∧ (pf d = true → EX (Xb X sc q) W0 elt ((((wipeS δ vs).set j0 (.dt (g1 d))).set j1 (.dt (g2 d))).set j2 (.dt (g3 d))) (.ok (h0 d))))
    (bo : BOk X N sc vs := by with_reducible assumption) (ha : ∀ B, Bl N sc B → At B x j0 := by with_reducible assumption) (hb : ∀ B, Bl N sc B → At B y j1 := by with_reducible assumption) (hb3 : ∀ B, Bl N sc B → At B z j2 := by with_reducible assumption) (hj : j0 ∈ vs := by decide) (hk : j1 ∈ vs := by decide) (hl : j2 ∈ vs := by decide) : LC X W elt (.Tuple [.Name x q1, .Name y q2, .Name z q3] kk q4) it [c] sc δ ((xs.filter pf).map h0) :=
  lc_mk xs _ h0 pf sr bo hz (tgi_tup (tgsi_cons hj (tgsi_cons hk (tgsi_cons hl tgsi_nil gNil_mono) (gConsN_mono gNil_mono)) (gConsN_mono (gConsN_mono gNil_mono)))) (fun q nb => pg_at3 nb.calm (ha _ nb) (hb _ nb) (hb3 _ nb)) (F := fun d => (((wipeS δ vs).set j0 (.dt (g1 d))).set j1 (.dt (g2 d))).set j2 (.dt (g3 d))) (fun d => tg_tup (tgs_cons (tg_name _) (tgs_cons (tg_name _) (tgs_cons (tg_name _) tgs_nil)))) fun i d hd q nb => ⟨tts_one (hs i d hd q nb).1, fun hp => (hs i d hd q nb).2 hp⟩
theorem lc3 {x y z : Str} {q1 q2 q3 q4 : Pos} {kk : Nat} (xs : List α) (g1 g2 g3 h0 : α → Dt) (sr : Src X (.Tuple [.Name x q1, .Name y q2, .Name z q3] kk q4) it δ (xs.map fun d => .tup [g1 d, g2 d, g3 d])) (hz : xs.length ≤ sizeLine)
    (hs : ∀ (i : Nat) d, xs[i]? = some d → ∀ q, Bl N sc (Xb X sc q) → EX (Xb X sc q) W0 elt ((((wipeS δ vs).set j0 (.dt (g1 d))).set j1 (.dt (g2 d))).set j2 (.dt (g3 d))) (.ok (h0 d)))
    (bo : BOk X N sc vs := by with_reducible assumption) (ha : ∀ B, Bl N sc B → At B x j0 := by with_reducible assumption) (hb : ∀ B, Bl N sc B → At B y j1 := by with_reducible assumption) (hb3 : ∀ B, Bl N sc B → At B z j2 := by with_reducible assumption) (hj : j0 ∈ vs := by decide) (hk : j1 ∈ vs := by decide) (hl : j2 ∈ vs := by decide) : LC X W elt (.Tuple [.Name x q1, .Name y q2, .Name z q3] kk q4) it [] sc δ (xs.map h0) := by
  have h := lc_mk (W := W) xs _ h0 (fun _ => true) sr bo hz (tgi_tup (tgsi_cons hj (tgsi_cons hk (tgsi_cons hl tgsi_nil gNil_mono) (gConsN_mono gNil_mono)) (gConsN_mono (gConsN_mono gNil_mono)))) (fun q nb => pg_at3 nb.calm (ha _ nb) (hb _ nb) (hb3 _ nb)) (F := fun d => (((wipeS δ vs).set j0 (.dt (g1 d))).set j1 (.dt (g2 d))).set j2 (.dt (g3 d))) (fun d => tg_tup (tgs_cons (tg_name _) (tgs_cons (tg_name _) (tgs_cons (tg_name _) tgs_nil)))) fun i d hd q nb => ⟨tts_nil, fun _ => hs i d hd q nb⟩
  rwa [filter_yes] at h
end
end My

namespace My
open PySem L2 PySem.Spec
section
variable {X : Cx} {W : WX} {δ : List Sl} {e a b c it elt tst tg : Expr} {es : List Expr} {pos p p1 p2 p3 : Pos} {i j : Int} {da db dc : Dt} {ds : List Dt} {Po : Out → Prop} {rest body : List Stmt} {x y z : Str} {n k l m : Nat}
/-! ## slices of lists -/
/-- the items of ds[lo:hi] -/
def cutD (ds : List Dt) (lo hi : Option Int) : List Dt := (ds.drop (HT.sIx ds.length 0 lo)).take (HT.sIx ds.length ds.length hi - HT.sIx ds.length 0 lo)
/-- a slice's part -/
structure PX (X : Cx) (W : WX) (o : Option Expr) (δ : List Sl) (r : Option Int) : Prop where
  run : ∃ t : TO, PO X o t ∧ ∀ G0 H0 G H σ (Q : Option Int → Hp → Prop), Fits X.K G0 H0 G H σ δ → (∀ G' H', Step G H G' H' → Q r H') → t σ H Q
theorem px_no : PX X W none δ none := ⟨⟨_, po_none, fun G0 H0 G H σ Q F h => h G H (.refl F.sub)⟩⟩
theorem px_int (h : EX X W e δ (.ok (.int i))) : PX X W (some e) δ (some i) := ⟨⟨_, po_some (pe_sem e), fun G0 H0 G H σ Q F q => h.then F fun v G1 H1 s1 r => by
  cases r
  exact ⟨i, rfl, q _ _ s1⟩⟩⟩
theorem ex_cut {lo hi : Option Expr} {u v : Option Int} (he : EX X W e δ (.ok (.lst ds))) (hl : PX X W lo δ u) (hh : PX X W hi δ v) : EX X W (.Subscript e (.Slice lo hi none p1) pos) δ (.ok (.lst (cutD ds u v))) := by
  obtain ⟨tl, pl, ql⟩ := hl.run
  obtain ⟨th, ph, qh⟩ := hh.run
  refine ex_of (pe_slice sl_list (pe_sem e) pl ph) fun G0 H0 G H σ Q F hr => he.then F fun w G1 H1 s1 r => ?_
  have F1 := F.step s1
  refine ql G0 H0 G1 H1 σ _ F1 fun G2 H2 s2 => ?_
  have F2 := F1.step s2
  refine qh G0 H0 G2 H2 σ _ F2 fun G3 H3 s3 => ?_
  have s := (s1.trans s2).trans s3
  have r := r.up (s2.trans s3).g
  cases r with
  | lst hS rA =>
    rename_i aa xs
    have hlen := rA.length
    refine ⟨aa, xs, rfl, Same.seq s.sub hS, fun q hq => ?_⟩
    refine hr _ _ _ (s.trans (Step.laid s.sub _ hq)) (.lst (.inl (.inl upd_same)) ?_)
    have hc : cutV xs u v = (xs.drop (HT.sIx ds.length 0 u)).take (HT.sIx ds.length ds.length v - HT.sIx ds.length 0 u) := by
      unfold cutV
      rw [hlen]
    rw [hc]
    exact ((rA.drop _).take _).up (same_upd (none_back s.sub hq))
theorem rpA_rev {K : PySem.W.Frag} {G : Hp} : ∀ {xs : List V} {ds : List Dt}, RpA K G xs ds → RpA K G xs.reverse ds.reverse
  | _, _, .nil => .nil
  | _, _, .cons h r => by
    rw [List.reverse_cons, List.reverse_cons]
    exact (rpA_rev r).append (.cons h .nil)
theorem ex_revL {kk : Nat} (he : EX X W e δ (.ok (.lst ds))) : EX X W (.Subscript e (.Slice none none (some (.UnaryOp .USub (.Constant (.int 1) kk p1) p2)) p3) pos) δ (.ok (.lst ds.reverse)) :=
  ex_of (pe_revL (pe_sem e)) fun G0 H0 G H σ Q F hr => he.then F fun w G1 H1 s1 r => by
    cases r with
    | lst hS rA =>
      rename_i aa xs
      refine ⟨aa, xs, rfl, Same.seq s1.sub hS, fun q hq => hr _ _ _ (s1.trans (Step.laid s1.sub _ hq)) (.lst (.inl (.inl upd_same)) ?_)⟩
      exact (rpA_rev rA).up (same_upd (none_back s1.sub hq))
/-! ## sums, copies -/
theorem boot_sum1 : bootBuiltins "sum" = some (.builtin "sum") := by decide +kernel
theorem ex_sum {ns : List Int} (hm : X.mg "sum" = none) (ha : EX X W a δ (.ok (.lst (ns.map Dt.int)))) (hg : Glo X "sum" := by with_reducible assumption) (hc : X.calm = true := by with_reducible assumption)
    (s1 : starEach [a] X.env = (false, eval a X.env) :: starEach [] X.env := by rfl) : EX X W (.Call (.Name "sum" p) [a] [] pos) δ (.ok (.int ns.sum)) :=
  ex_callB (cr_sum hc) hm (fun G H xs Q s r q => by
    cases r with
    | cons r1 r2 =>
      cases r2
      cases r1 with
      | lst hS rA =>
        rename_i aa us
        have := rA.ints
        subst this
        exact ⟨aa, ns, rfl, Same.seq s hS, q _ G H (.refl s) (.int _)⟩) (ax_cons ha ax_nil s1) hg boot_sum1 s1 rfl
/-- list(e), a new list -/
theorem ex_listL (hm : X.mg "list" = none) (ha : EX X W a δ (.ok (.lst ds))) (hg : Glo X "list" := by with_reducible assumption) (s1 : starEach [a] X.env = (false, eval a X.env) :: starEach [] X.env := by rfl) : EX X W (.Call (.Name "list" p) [a] [] pos) δ (.ok (.lst ds)) :=
  ex_callTy call_list_of hm (fun G H xs Q s r q => by
    cases r with
    | cons r1 r2 =>
      cases r2
      cases r1 with
      | lst hS rA =>
        rename_i aa us
        refine ⟨aa, us, rfl, .inl (Same.seq s hS), fun l hl => q _ _ _ (Step.laid s _ hl) (.lst (.inl (.inl upd_same)) (rA.up (same_upd (none_back s hl))))⟩) (ax_cons ha ax_nil s1) hg bt_list s1 rfl
theorem ex_listT (hm : X.mg "list" = none) (ha : EX X W a δ (.ok (.tup ds))) (hg : Glo X "list" := by with_reducible assumption) (s1 : starEach [a] X.env = (false, eval a X.env) :: starEach [] X.env := by rfl) : EX X W (.Call (.Name "list" p) [a] [] pos) δ (.ok (.lst ds)) :=
  ex_callTy call_list_of hm (fun G H xs Q s r q => by
    cases r with
    | cons r1 r2 =>
      cases r2
      cases r1 with
      | tup hS rA =>
        rename_i aa us
        refine ⟨aa, us, rfl, .inr (Same.tseq s hS), fun l hl => q _ _ _ (Step.laid s _ hl) (.lst (.inl (.inl upd_same)) (rA.up (same_upd (none_back s hl))))⟩) (ax_cons ha ax_nil s1) hg bt_list s1 rfl
end
end My

namespace My
open PySem L2 PySem.Spec
/-! ## data that == tells apart just where they differ -/
mutual
def Dt.hard : Nat → Dt → Prop
  | _, .non => True
  | _, .int _ => True
  | _, .str s => PyData.strOk s = true
  | 0, .tup _ => False
  | 0, .lst _ => False
  | n + 1, .tup l => Dt.hards n l
  | n + 1, .lst l => Dt.hards n l
  | _, .bl _ => False
  | _, .dic _ => False
  | _, .v _ => False
def Dt.hards : Nat → List Dt → Prop
  | _, [] => True
  | n, d :: ds => Dt.hard n d ∧ Dt.hards n ds
end
theorem hards_iff {n : Nat} : ∀ {l : List Dt}, Dt.hards n l ↔ ∀ d ∈ l, Dt.hard n d
  | [] => by simp [Dt.hards]
  | d :: ds => by
    unfold Dt.hards
    rw [hards_iff (l := ds)]
    simp
theorem hard_int {n : Nat} {i : Int} : Dt.hard n (.int i) := by unfold Dt.hard; trivial
theorem hard_non {n : Nat} : Dt.hard n .non := by unfold Dt.hard; trivial
theorem hard_str {n : Nat} {s : Str} (h : PyData.strOk s = true) : Dt.hard n (.str s) := by unfold Dt.hard; exact h
theorem hard_tup {n : Nat} {l : List Dt} (h : ∀ d ∈ l, Dt.hard n d) : Dt.hard (n + 1) (.tup l) := by unfold Dt.hard; exact hards_iff.mpr h
theorem hard_lst {n : Nat} {l : List Dt} (h : ∀ d ∈ l, Dt.hard n d) : Dt.hard (n + 1) (.lst l) := by unfold Dt.hard; exact hards_iff.mpr h
mutual
theorem hard_facts : ∀ (n : Nat) (d : Dt), Dt.hard n d → d.flat = true ∧ d.py.canLay0 = true ∧ d.py.depth ≤ n
  | _, .non, _ => ⟨rfl, by simp only [Dt.py, PyData.canLay0], by simp only [Dt.py, PyData.depth]; omega⟩
  | _, .int _, _ => ⟨rfl, by simp only [Dt.py, PyData.canLay0], by simp only [Dt.py, PyData.depth]; omega⟩
  | _, .str s, h => ⟨rfl, by simp only [Dt.py, PyData.canLay0]; unfold Dt.hard at h; exact h, by simp only [Dt.py, PyData.depth]; omega⟩
  | 0, .tup _, h => by unfold Dt.hard at h; exact h.elim
  | 0, .lst _, h => by unfold Dt.hard at h; exact h.elim
  | n + 1, .tup l, h => by
    unfold Dt.hard at h
    obtain ⟨h1, h2, h3⟩ := hards_facts n l h
    exact ⟨h1, by simp only [Dt.py, PyData.canLay0]; exact h2, by simp only [Dt.py, PyData.depth]; omega⟩
  | n + 1, .lst l, h => by
    unfold Dt.hard at h
    obtain ⟨h1, h2, h3⟩ := hards_facts n l h
    exact ⟨h1, by simp only [Dt.py, PyData.canLay0]; exact h2, by simp only [Dt.py, PyData.depth]; omega⟩
  | _, .bl _, h => by unfold Dt.hard at h; exact h.elim
  | _, .dic _, h => by unfold Dt.hard at h; exact h.elim
  | _, .v _, h => by unfold Dt.hard at h; exact h.elim
theorem hards_facts : ∀ (n : Nat) (l : List Dt), Dt.hards n l → Dt.flats l = true ∧ PyData.canLayAll0 (Dt.pys l) = true ∧ PyData.depthAll (Dt.pys l) ≤ n
  | _, [], _ => ⟨rfl, by simp only [Dt.pys, PyData.canLayAll0], by simp only [Dt.pys, PyData.depthAll]; omega⟩
  | n, d :: ds, h => by
    unfold Dt.hards at h
    obtain ⟨a1, a2, a3⟩ := hard_facts n d h.1
    obtain ⟨b1, b2, b3⟩ := hards_facts n ds h.2
    exact ⟨by unfold Dt.flats; rw [a1, b1]; rfl, by simp only [Dt.pys, PyData.canLayAll0]; rw [a2, b2]; rfl, by simp only [Dt.pys, PyData.depthAll]; omega⟩
end
mutual
theorem hard_eqv : ∀ (n m : Nat) (a b : Dt), Dt.hard n a → Dt.hard m b → (PyData.eqv a.py b.py = true ↔ a = b)
  | n, m, .non, b, _, hb => by cases b <;> simp [Dt.py, PyData.eqv] <;> (unfold Dt.hard at hb; exact hb)
  | n, m, .int i, b, _, hb => by
    cases b with
    | bl k => exact absurd hb (by unfold Dt.hard; exact id)
    | dic k => exact absurd hb (by unfold Dt.hard; exact id)
    | v k => exact absurd hb (by unfold Dt.hard; exact id)
    | _ => simp [Dt.py, PyData.eqv]
  | n, m, .str s, b, _, hb => by
    cases b with
    | bl k => exact absurd hb (by unfold Dt.hard; exact id)
    | dic k => exact absurd hb (by unfold Dt.hard; exact id)
    | v k => exact absurd hb (by unfold Dt.hard; exact id)
    | _ => simp [Dt.py, PyData.eqv]
  | 0, m, .tup _, b, h, _ => by unfold Dt.hard at h; exact h.elim
  | 0, m, .lst _, b, h, _ => by unfold Dt.hard at h; exact h.elim
  | n + 1, m, .tup l, b, h, hb => by
    cases b with
    | bl k => exact absurd hb (by unfold Dt.hard; exact id)
    | dic k => exact absurd hb (by unfold Dt.hard; exact id)
    | v k => exact absurd hb (by unfold Dt.hard; exact id)
    | tup l2 =>
      cases m with
      | zero => unfold Dt.hard at hb; exact hb.elim
      | succ m =>
        unfold Dt.hard at h hb
        have q := hards_eqv n m l l2 h hb
        simp only [Dt.py, PyData.eqv]
        rw [q]
        simp
    | _ => simp [Dt.py, PyData.eqv]
  | n + 1, m, .lst l, b, h, hb => by
    cases b with
    | bl k => exact absurd hb (by unfold Dt.hard; exact id)
    | dic k => exact absurd hb (by unfold Dt.hard; exact id)
    | v k => exact absurd hb (by unfold Dt.hard; exact id)
    | lst l2 =>
      cases m with
      | zero => unfold Dt.hard at hb; exact hb.elim
      | succ m =>
        unfold Dt.hard at h hb
        have q := hards_eqv n m l l2 h hb
        simp only [Dt.py, PyData.eqv]
        rw [q]
        simp
    | _ => simp [Dt.py, PyData.eqv]
  | _, _, .bl _, _, h, _ => by unfold Dt.hard at h; exact h.elim
  | _, _, .dic _, _, h, _ => by unfold Dt.hard at h; exact h.elim
  | _, _, .v _, _, h, _ => by unfold Dt.hard at h; exact h.elim
theorem hards_eqv : ∀ (n m : Nat) (a b : List Dt), Dt.hards n a → Dt.hards m b → (PyData.eqvAll (Dt.pys a) (Dt.pys b) = true ↔ a = b)
  | n, m, [], [], _, _ => by simp [Dt.pys, PyData.eqvAll]
  | n, m, [], _ :: _, _, _ => by simp [Dt.pys, PyData.eqvAll]
  | n, m, _ :: _, [], _, _ => by simp [Dt.pys, PyData.eqvAll]
  | n, m, a :: as, b :: bs, ha, hb => by
    unfold Dt.hards at ha hb
    simp only [Dt.pys, PyData.eqvAll, Bool.and_eq_true]
    rw [hard_eqv n m a b ha.1 hb.1, hards_eqv n m as bs ha.2 hb.2]
    simp
end
/-- data that == tells apart -/
def Hd (d : Dt) : Prop := ∃ n, n ≤ 60 ∧ Dt.hard n d
theorem Hd.ok {d : Dt} (h : Hd d) : EqOk d := by
  obtain ⟨n, hn, h⟩ := h
  obtain ⟨h1, h2, h3⟩ := hard_facts n d h
  refine ⟨h1, ?_⟩
  unfold SeqAt.shaped
  rw [h2, decide_eq_true (by omega)]
  rfl
theorem Hd.eqv {a b : Dt} (ha : Hd a) (hb : Hd b) : PyData.eqv a.py b.py = true ↔ a = b := by
  obtain ⟨n, _, ha⟩ := ha
  obtain ⟨m, _, hb⟩ := hb
  exact hard_eqv n m a b ha hb
section
variable {X : Cx} {W : WX} {δ : List Sl} {e a b c it elt tst tg : Expr} {es : List Expr} {pos p p1 p2 p3 : Pos} {i j : Int} {da db dc : Dt} {ds : List Dt} {Po : Out → Prop} {rest body : List Stmt} {x y z : Str} {n k l m : Nat}
theorem eqv_bool {P : Prop} [Decidable P] {b : Bool} (h : b = true ↔ P) : b = decide P := by
  cases b with
  | true => exact (decide_eq_true (h.mp rfl)).symm
  | false => exact (decide_eq_false fun p => Bool.noConfusion (h.mpr p)).symm
/-- a == b of data -/
theorem tx_eqH {P : Prop} [Decidable P] (oa : Hd da) (ob : Hd db) (hP : da = db ↔ P) (hu : X.A.units + 64 < cLine) (ha : EX X W a δ (.ok da)) (hb : EX X W b δ (.ok db)) : TX X W (.Compare a [.Eq] [b] pos) δ (.ok (decide P)) :=
  tx_eqD (eqv_bool ((oa.eqv ob).trans hP)) oa.ok ob.ok hu ha hb
theorem tx_neH {P : Prop} [Decidable P] (oa : Hd da) (ob : Hd db) (hP : da = db ↔ P) (hu : X.A.units + 64 < cLine) (ha : EX X W a δ (.ok da)) (hb : EX X W b δ (.ok db)) : TX X W (.Compare a [.NotEq] [b] pos) δ (.ok (!decide P)) :=
  tx_neD (eqv_bool ((oa.eqv ob).trans hP)) oa.ok ob.ok hu ha hb
theorem ex_eqH {P : Prop} [Decidable P] (oa : Hd da) (ob : Hd db) (hP : da = db ↔ P) (hu : X.A.units + 64 < cLine) (ha : EX X W a δ (.ok da)) (hb : EX X W b δ (.ok db)) : EX X W (.Compare a [.Eq] [b] pos) δ (.ok (.bl (decide P))) :=
  ex_eqD (eqv_bool ((oa.eqv ob).trans hP)) oa.ok ob.ok hu ha hb
theorem pys_any {ds : List Dt} {d : Dt} : ((Dt.pys ds).any fun z => PyData.eqv z d.py) = ds.any fun z => PyData.eqv z.py d.py := by
  induction ds with
  | nil => rfl
  | cons a l ih =>
    show (PyData.eqv a.py d.py || _) = _
    rw [ih]
    rfl
theorem hd_lst_any {ds : List Dt} (hl : Hd (.lst ds)) (hd : Hd da) : ((Dt.pys ds).any fun z => PyData.eqv z da.py) = true ↔ da ∈ ds := by
  rw [pys_any]
  obtain ⟨n, _, hl⟩ := hl
  obtain ⟨m, _, hd⟩ := hd
  cases n with
  | zero => unfold Dt.hard at hl; exact hl.elim
  | succ n =>
    unfold Dt.hard at hl
    rw [hards_iff] at hl
    rw [List.any_eq_true]
    constructor
    · rintro ⟨z, hz, h⟩
      rw [hard_eqv n m z da (hl z hz) hd] at h
      rw [← h]
      exact hz
    · intro h
      exact ⟨da, h, (hard_eqv n m da da (hl da h) hd).mpr rfl⟩
theorem ro_inD {K : PySem.W.Frag} {P : Prop} [Decidable P] (hl : Hd (.lst ds)) (hd : Hd da) (hP : da ∈ ds ↔ P) : RO K (rInD K) da (.lst ds) (.bl (decide P)) := fun G H x y Q s rx ry q => by
  refine ⟨_, _, Rp.dp _ _ hd.ok.fl (rx.up s), Rp.dp _ _ hl.ok.fl (ry.up s), hd.ok.sh, hl.ok.sh, q _ G H (.refl s) ?_⟩
  rw [eqv_bool ((hd_lst_any hl hd).trans hP)]
  exact .bl _
theorem ro_notInD {K : PySem.W.Frag} {P : Prop} [Decidable P] (hl : Hd (.lst ds)) (hd : Hd da) (hP : da ∈ ds ↔ P) : RO K (rNotInD K) da (.lst ds) (.bl (!decide P)) := fun G H x y Q s rx ry q => by
  refine ⟨_, _, Rp.dp _ _ hd.ok.fl (rx.up s), Rp.dp _ _ hl.ok.fl (ry.up s), hd.ok.sh, hl.ok.sh, q _ G H (.refl s) ?_⟩
  rw [eqv_bool ((hd_lst_any hl hd).trans hP)]
  exact .bl _
/-- a in b, b a list of data -/
theorem tx_inL {P : Prop} [Decidable P] (hl : Hd (.lst ds)) (hd : Hd da) (hP : da ∈ ds ↔ P) (hu : X.A.units + 65 < cLine) (ha : EX X W a δ (.ok da)) (hb : EX X W b δ (.ok (.lst ds))) (hm : behindInMarks .In b = false := by rfl) : TX X W (.Compare a [.In] [b] pos) δ (.ok (decide P)) :=
  tx_op (pt_cmpR (op_inD hu) (pe_sem a) (pe_sem b) hm) (ro_inD hl hd hP) ha hb
theorem ex_inL {P : Prop} [Decidable P] (hl : Hd (.lst ds)) (hd : Hd da) (hP : da ∈ ds ↔ P) (hu : X.A.units + 65 < cLine) (ha : EX X W a δ (.ok da)) (hb : EX X W b δ (.ok (.lst ds))) (hm : behindInMarks .In b = false := by rfl) : EX X W (.Compare a [.In] [b] pos) δ (.ok (.bl (decide P))) :=
  ex_op (pe_cmpR (op_inD hu) (pe_sem a) (pe_sem b) hm) (ro_inD hl hd hP) ha hb
theorem tx_notInL {P : Prop} [Decidable P] (hl : Hd (.lst ds)) (hd : Hd da) (hP : da ∈ ds ↔ P) (hu : X.A.units + 65 < cLine) (ha : EX X W a δ (.ok da)) (hb : EX X W b δ (.ok (.lst ds))) (hm : behindInMarks .NotIn b = false := by rfl) : TX X W (.Compare a [.NotIn] [b] pos) δ (.ok (!decide P)) :=
  tx_op (pt_cmpR (op_notInD hu) (pe_sem a) (pe_sem b) hm) (ro_notInD hl hd hP) ha hb
theorem map_inj {α : Type} {f : α → Dt} (hf : ∀ a b, f a = f b → a = b) {xs ys : List α} : xs.map f = ys.map f ↔ xs = ys :=
  ⟨fun h => List.map_inj_right (fun {x y} q => hf x y q) |>.mp h, fun h => by rw [h]⟩
theorem mem_inj {α : Type} {f : α → Dt} (hf : ∀ a b, f a = f b → a = b) {xs : List α} {y : α} : f y ∈ xs.map f ↔ y ∈ xs :=
  ⟨fun h => by
    obtain ⟨z, hz, e⟩ := List.mem_map.mp h
    rw [← hf _ _ e]
    exact hz, List.mem_map_of_mem⟩
theorem lst_inj {xs ys : List Dt} : Dt.lst xs = Dt.lst ys ↔ xs = ys := ⟨fun h => by injection h, fun h => by rw [h]⟩
end
end My

/-! ## fractions: plain mathematics -/
namespace Fm
/-- a fraction: top, bottom -/
abbrev Fr := Int × Int
/-- in lowest terms, bottom from 1 on -/
def mk (t b : Int) : Fr := if b < 0 then (-(t / (Int.gcd t b : Int)), -(b / (Int.gcd t b : Int))) else (t / (Int.gcd t b : Int), b / (Int.gcd t b : Int))
def by_ (t b : Int) : Int := if b < 0 then 0 - (Int.gcd t b : Int) else (Int.gcd t b : Int)
theorem gcd_pos {t b : Int} (h : b ≠ 0) : 0 < Int.gcd t b := Nat.pos_of_ne_zero fun q => h (Int.gcd_eq_zero_iff.mp q).2
theorem by_ne {t b : Int} (h : b ≠ 0) : by_ t b ≠ 0 := by
  have := gcd_pos (t := t) h
  unfold by_
  split <;> omega
theorem by_abs (t b : Int) : (by_ t b).natAbs = Int.gcd t b := by
  unfold by_
  split <;> omega
theorem fdiv_neg {a g : Int} (hg : g ≠ 0) (h : g ∣ a) : a.fdiv (0 - g) = -(a / g) := by
  obtain ⟨c, rfl⟩ := h
  rw [Int.mul_ediv_cancel_left c hg, show g * c = (0 - g) * (-c) by rw [Int.zero_sub, Int.neg_mul_neg], Int.mul_fdiv_cancel_left _ (by omega)]
theorem fdiv_pos {a g : Int} (hg : g ≠ 0) (h : g ∣ a) : a.fdiv g = a / g := by
  obtain ⟨c, rfl⟩ := h
  rw [Int.mul_ediv_cancel_left c hg, Int.mul_fdiv_cancel_left _ hg]
theorem gd1 (t b : Int) : ((Int.gcd t b : Nat) : Int) ∣ t := Int.gcd_dvd_left ..
theorem gd2 (t b : Int) : ((Int.gcd t b : Nat) : Int) ∣ b := Int.gcd_dvd_right ..
/-- what the program reckons -/
theorem mk_by {t b : Int} (h : b ≠ 0) : (t.fdiv (by_ t b), b.fdiv (by_ t b)) = mk t b := by
  have hg : ((Int.gcd t b : Nat) : Int) ≠ 0 := by have := gcd_pos (t := t) h; omega
  unfold mk by_
  split
  · rw [fdiv_neg hg (gd1 t b), fdiv_neg hg (gd2 t b)]
  · rw [fdiv_pos hg (gd1 t b), fdiv_pos hg (gd2 t b)]
/-- a good fraction -/
structure Ok (a : Fr) : Prop where
  pos : 0 < a.2
  low : Int.gcd a.1 a.2 = 1
theorem cross_aux {t b g : Int} (h1 : g ∣ t) (h2 : g ∣ b) : (t / g) * b = t * (b / g) := by
  obtain ⟨c, rfl⟩ := h1
  obtain ⟨d, rfl⟩ := h2
  by_cases hg : g = 0
  · subst hg; simp
  · rw [Int.mul_ediv_cancel_left c hg, Int.mul_ediv_cancel_left d hg, ← Int.mul_assoc, Int.mul_comm c g]
theorem mk_cross (t b : Int) : (mk t b).1 * b = t * (mk t b).2 := by
  have key := cross_aux (gd1 t b) (gd2 t b)
  unfold mk
  split
  · show -(t / (Int.gcd t b : Int)) * b = t * -(b / (Int.gcd t b : Int))
    rw [Int.neg_mul, Int.mul_neg, key]
  · exact key
theorem mk_pos {t b : Int} (h : b ≠ 0) : 0 < (mk t b).2 := by
  have hg := gcd_pos (t := t) h
  obtain ⟨d, hd⟩ := gd2 t b
  have e2 : b / (Int.gcd t b : Int) = d := by
    have := Int.mul_ediv_cancel_left d (show ((Int.gcd t b : Nat) : Int) ≠ 0 by omega)
    rw [← hd] at this
    exact this
  have hd0 : d ≠ 0 := fun q => h (by rw [hd, q, Int.mul_zero])
  have hgi : (0 : Int) < (Int.gcd t b : Nat) := by omega
  unfold mk
  split
  · rename_i hb
    show 0 < -(b / (Int.gcd t b : Int))
    rw [e2]
    have : d < 0 := by
      rcases Int.lt_trichotomy d 0 with z | z | z
      · exact z
      · exact absurd z hd0
      · have := Int.mul_pos hgi z
        omega
    omega
  · rename_i hb
    show 0 < b / (Int.gcd t b : Int)
    rw [e2]
    rcases Int.lt_trichotomy d 0 with z | z | z
    · have := Int.mul_neg_of_pos_of_neg hgi z
      omega
    · exact absurd z hd0
    · exact z
theorem mk_low {t b : Int} (h : b ≠ 0) : Int.gcd (mk t b).1 (mk t b).2 = 1 := by
  have hg := gcd_pos (t := t) h
  have key : Int.gcd (t / (Int.gcd t b : Int)) (b / (Int.gcd t b : Int)) = 1 := Int.gcd_ediv_gcd_ediv_gcd hg
  unfold mk
  split
  · show Int.gcd (-(t / (Int.gcd t b : Int))) (-(b / (Int.gcd t b : Int))) = 1
    rw [Int.gcd_neg, Int.neg_gcd]
    exact key
  · exact key
theorem mk_ok {t b : Int} (h : b ≠ 0) : Ok (mk t b) := ⟨mk_pos h, mk_low h⟩
end Fm

namespace Fm
/-! sizes -/
/-- below 2 ^ n in size -/
structure Sz (n : Nat) (a : Fr) : Prop where
  top : a.1.natAbs < 2 ^ n
  pos : 0 < a.2
  bot : a.2.natAbs < 2 ^ n
theorem Sz.mono {n m : Nat} {a : Fr} (h : Sz n a) (l : n ≤ m) : Sz m a :=
  ⟨Nat.lt_of_lt_of_le h.top (Nat.pow_le_pow_right (by decide) l), h.pos, Nat.lt_of_lt_of_le h.bot (Nat.pow_le_pow_right (by decide) l)⟩
theorem div_abs (t g : Int) : (t / g).natAbs ≤ t.natAbs ∨ ¬ g ∣ t := by
  by_cases h : g ∣ t
  · obtain ⟨c, rfl⟩ := h
    left
    by_cases hg : g = 0
    · subst hg; simp
    · rw [Int.mul_ediv_cancel_left c hg, Int.natAbs_mul]
      exact Nat.le_mul_of_pos_left _ (Int.natAbs_pos.mpr hg)
  · exact .inr h
theorem mk_top (t b : Int) : (mk t b).1.natAbs ≤ t.natAbs := by
  have h := (div_abs t (Int.gcd t b : Int)).resolve_right (fun z => z (gd1 t b))
  unfold mk
  split
  · show (-(t / (Int.gcd t b : Int))).natAbs ≤ _
    rw [Int.natAbs_neg]
    exact h
  · exact h
theorem mk_bot (t b : Int) : (mk t b).2.natAbs ≤ b.natAbs := by
  have h := (div_abs b (Int.gcd t b : Int)).resolve_right (fun z => z (gd2 t b))
  unfold mk
  split
  · show (-(b / (Int.gcd t b : Int))).natAbs ≤ _
    rw [Int.natAbs_neg]
    exact h
  · exact h
theorem mk_sz {t b : Int} {n : Nat} (h : b ≠ 0) (ht : t.natAbs < 2 ^ n) (hb : b.natAbs < 2 ^ n) : Sz n (mk t b) := ⟨Nat.lt_of_le_of_lt (mk_top t b) ht, mk_pos h, Nat.lt_of_le_of_lt (mk_bot t b) hb⟩
theorem lt_mul {i j : Int} {a b : Nat} (ha : i.natAbs < 2 ^ a) (hb : j.natAbs < 2 ^ b) : (i * j).natAbs < 2 ^ (a + b) := by
  rw [Int.natAbs_mul, Nat.pow_add]
  exact Nat.mul_lt_mul'' ha hb
theorem lt_add {i j : Int} {a b : Nat} (ha : i.natAbs < 2 ^ a) (hb : j.natAbs < 2 ^ b) : (i + j).natAbs < 2 ^ (max a b + 1) := by
  have h1 : 2 ^ a ≤ 2 ^ max a b := Nat.pow_le_pow_right (by decide) (Nat.le_max_left _ _)
  have h2 : 2 ^ b ≤ 2 ^ max a b := Nat.pow_le_pow_right (by decide) (Nat.le_max_right _ _)
  have h3 : (i + j).natAbs ≤ i.natAbs + j.natAbs := Int.natAbs_add_le i j
  rw [Nat.pow_succ]
  omega
theorem lt_sub {i j : Int} {a b : Nat} (ha : i.natAbs < 2 ^ a) (hb : j.natAbs < 2 ^ b) : (i - j).natAbs < 2 ^ (max a b + 1) := by
  have := lt_add (j := -j) ha (by rw [Int.natAbs_neg]; exact hb)
  rw [Int.sub_eq_add_neg]
  exact this
theorem log_lt {n k : Nat} (h0 : 0 < k) (h : n < 2 ^ k) : n.log2 < k := by
  by_cases hn : n = 0
  · subst hn
    simpa using h0
  · exact (Nat.log2_lt hn).mpr h
theorem gcd_log {t b : Int} {k : Nat} (h0 : 0 < k) (hb : b ≠ 0) (h : b.natAbs < 2 ^ k) : (Int.gcd t b).log2 < k :=
  log_lt h0 (Nat.lt_of_le_of_lt (Nat.le_of_dvd (Int.natAbs_pos.mpr hb) (Int.gcd_dvd_natAbs_right t b)) h)
/-! the operations -/
def plus (a b : Fr) : Fr := mk (a.1 * b.2 + b.1 * a.2) (a.2 * b.2)
def minus (a b : Fr) : Fr := mk (a.1 * b.2 - b.1 * a.2) (a.2 * b.2)
def times (a b : Fr) : Fr := mk (a.1 * b.1) (a.2 * b.2)
def over (a b : Fr) : Fr := mk (a.1 * b.2) (a.2 * b.1)
def under (a b : Fr) : Bool := decide (a.1 * b.2 < b.1 * a.2)
theorem mul_ne {a b : Int} (ha : a ≠ 0) (hb : b ≠ 0) : a * b ≠ 0 := Int.mul_ne_zero ha hb
theorem plus_sz {a b : Fr} {n m : Nat} (ha : Sz n a) (hb : Sz m b) : Sz (n + m + 1) (plus a b) := by
  have h1 := lt_mul ha.top hb.bot
  have h2 := lt_mul hb.top ha.bot
  have h3 := lt_add h1 h2
  have h4 := lt_mul ha.bot hb.bot
  refine mk_sz (mul_ne (by have := ha.pos; omega) (by have := hb.pos; omega)) (Nat.lt_of_lt_of_le h3 (Nat.pow_le_pow_right (by decide) (by omega))) (Nat.lt_of_lt_of_le h4 (Nat.pow_le_pow_right (by decide) (by omega)))
theorem minus_sz {a b : Fr} {n m : Nat} (ha : Sz n a) (hb : Sz m b) : Sz (n + m + 1) (minus a b) := by
  have h1 := lt_mul ha.top hb.bot
  have h2 := lt_mul hb.top ha.bot
  have h3 := lt_sub h1 h2
  have h4 := lt_mul ha.bot hb.bot
  refine mk_sz (mul_ne (by have := ha.pos; omega) (by have := hb.pos; omega)) (Nat.lt_of_lt_of_le h3 (Nat.pow_le_pow_right (by decide) (by omega))) (Nat.lt_of_lt_of_le h4 (Nat.pow_le_pow_right (by decide) (by omega)))
theorem times_sz {a b : Fr} {n m : Nat} (ha : Sz n a) (hb : Sz m b) : Sz (n + m) (times a b) :=
  mk_sz (mul_ne (by have := ha.pos; omega) (by have := hb.pos; omega)) (lt_mul ha.top hb.top) (lt_mul ha.bot hb.bot)
theorem over_sz {a b : Fr} {n m : Nat} (ha : Sz n a) (hb : Sz m b) (h : b.1 ≠ 0) : Sz (n + m) (over a b) :=
  mk_sz (mul_ne (by have := ha.pos; omega) h) (lt_mul ha.top hb.bot) (lt_mul ha.bot hb.top)
theorem plus_ok {a b : Fr} (ha : 0 < a.2) (hb : 0 < b.2) : Ok (plus a b) := mk_ok (mul_ne (by omega) (by omega))
theorem minus_ok {a b : Fr} (ha : 0 < a.2) (hb : 0 < b.2) : Ok (minus a b) := mk_ok (mul_ne (by omega) (by omega))
theorem times_ok {a b : Fr} (ha : 0 < a.2) (hb : 0 < b.2) : Ok (times a b) := mk_ok (mul_ne (by omega) (by omega))
theorem over_ok {a b : Fr} (ha : 0 < a.2) (hb : b.1 ≠ 0) : Ok (over a b) := mk_ok (mul_ne (by omega) hb)
end Fm

/-! ## fractions as rational numbers -/
namespace Fm
def fr (q : Rat) : Fr := (q.num, (q.den : Int))
theorem fr_inj {p q : Rat} (h : fr p = fr q) : p = q := by
  unfold fr at h
  injection h with h1 h2
  exact Rat.ext h1 (by omega)
theorem fr_pos (q : Rat) : 0 < (fr q).2 := by
  have := q.den_pos
  show (0 : Int) < (q.den : Int)
  omega
theorem ok_fr {a : Fr} (h : Ok a) : ∃ q : Rat, a = fr q := by
  obtain ⟨t, b⟩ := a
  have hp : 0 < b := h.pos
  have hl : Int.gcd t b = 1 := h.low
  refine ⟨⟨t, b.toNat, by omega, ?_⟩, ?_⟩
  · have e : b.natAbs = b.toNat := by omega
    rw [← e]
    exact hl
  · show (t, b) = (t, ((b.toNat : Nat) : Int))
    rw [Int.toNat_of_nonneg (by omega)]
theorem fr_val (q : Rat) : ((fr q).1 : Rat) / ((fr q).2 : Rat) = q := by
  show (q.num : Rat) / ((q.den : Int) : Rat) = q
  rw [← Rat.divInt_eq_div]
  exact Rat.num_divInt_den q
theorem div_cross {a b c d : Int} (hb : b ≠ 0) (hd : d ≠ 0) : (a : Rat) / (b : Rat) = (c : Rat) / (d : Rat) ↔ a * d = c * b := by
  rw [← Rat.divInt_eq_div, ← Rat.divInt_eq_div]
  exact Rat.divInt_eq_divInt_iff hb hd
theorem mk_rat {t b : Int} (h : b ≠ 0) : mk t b = fr ((t : Rat) / (b : Rat)) := by
  obtain ⟨q, hq⟩ := ok_fr (mk_ok (t := t) h)
  rw [hq]
  congr 1
  have hc := mk_cross t b
  have hp := mk_pos (t := t) h
  rw [hq] at hc hp
  rw [← fr_val q]
  exact (div_cross (by omega) h).mpr hc
theorem ne_of_pos {b : Int} (h : 0 < b) : (b : Rat) ≠ 0 := by
  intro e
  have := Rat.intCast_pos.mpr h
  rw [e] at this
  exact Rat.lt_irrefl this
theorem ne_cast {b : Int} (h : b ≠ 0) : (b : Rat) ≠ 0 := fun e => h (by
  have e2 : ((b : Rat)).num = (0 : Rat).num := by rw [e]
  simpa using e2)
theorem plus_fr (p q : Rat) : plus (fr p) (fr q) = fr (p + q) := by
  have hp := fr_pos p
  have hq := fr_pos q
  have h1 := ne_of_pos hp
  have h2 := ne_of_pos hq
  unfold plus
  rw [mk_rat (mul_ne (by omega) (by omega))]
  congr 1
  conv => rhs; rw [← fr_val p, ← fr_val q]
  generalize (fr p).1 = a at *
  generalize (fr p).2 = b at *
  generalize (fr q).1 = c at *
  generalize (fr q).2 = d at *
  simp only [Rat.intCast_add, Rat.intCast_mul]
  grind
theorem minus_fr (p q : Rat) : minus (fr p) (fr q) = fr (p - q) := by
  have hp := fr_pos p
  have hq := fr_pos q
  have h1 := ne_of_pos hp
  have h2 := ne_of_pos hq
  unfold minus
  rw [mk_rat (mul_ne (by omega) (by omega))]
  congr 1
  conv => rhs; rw [← fr_val p, ← fr_val q]
  generalize (fr p).1 = a at *
  generalize (fr p).2 = b at *
  generalize (fr q).1 = c at *
  generalize (fr q).2 = d at *
  simp only [Rat.intCast_sub, Rat.intCast_mul]
  grind
theorem times_fr (p q : Rat) : times (fr p) (fr q) = fr (p * q) := by
  have hp := fr_pos p
  have hq := fr_pos q
  have h1 := ne_of_pos hp
  have h2 := ne_of_pos hq
  unfold times
  rw [mk_rat (mul_ne (by omega) (by omega))]
  congr 1
  conv => rhs; rw [← fr_val p, ← fr_val q]
  generalize (fr p).1 = a at *
  generalize (fr p).2 = b at *
  generalize (fr q).1 = c at *
  generalize (fr q).2 = d at *
  simp only [Rat.intCast_mul]
  grind
theorem fr_zero {q : Rat} : (fr q).1 = 0 ↔ q = 0 := by
  show q.num = 0 ↔ q = 0
  exact Rat.num_eq_zero
theorem over_fr {p q : Rat} (h : q ≠ 0) : over (fr p) (fr q) = fr (p / q) := by
  have hp := fr_pos p
  have hq := fr_pos q
  have h1 := ne_of_pos hp
  have h2 := ne_of_pos hq
  have h0 : (fr q).1 ≠ 0 := fun e => h (fr_zero.mp e)
  have h3 := ne_cast h0
  unfold over
  rw [mk_rat (mul_ne (by omega) h0)]
  congr 1
  conv => rhs; rw [← fr_val p, ← fr_val q]
  generalize (fr p).1 = a at *
  generalize (fr p).2 = b at *
  generalize (fr q).1 = c at *
  generalize (fr q).2 = d at *
  simp only [Rat.intCast_mul]
  grind
theorem under_fr (p q : Rat) : under (fr p) (fr q) = decide (p < q) := by
  unfold under fr
  exact decide_eq_decide.mpr (Rat.lt_iff p q).symm
theorem fr_int (n : Int) : fr (n : Rat) = (n, 1) := by
  unfold fr
  rw [Rat.num_intCast, Rat.den_intCast]
  rfl
theorem sz_div {n D : Int} {k : Nat} (hD : D ≠ 0) (hn : n.natAbs < 2 ^ k) (hd : D.natAbs < 2 ^ k) : Sz k (fr ((n : Rat) / (D : Rat))) := by
  rw [← mk_rat hD]
  exact mk_sz hD hn hd
/-- q, a whole number of D-th parts -/
def up (D : Nat) (q : Rat) : Int := q.num * (D / q.den : Nat)
theorem up_val {D : Nat} {q : Rat} (h : q.den ∣ D) (hD : 0 < D) : q = (up D q : Rat) / ((D : Int) : Rat) := by
  obtain ⟨c, rfl⟩ := h
  have hc : 0 < c := by
    rcases Nat.eq_zero_or_pos c with z | z
    · subst z; simp at hD
    · exact z
  have h1 : ((q.den : Int) : Rat) ≠ 0 := ne_of_pos (by have := q.den_pos; omega)
  have h2 : ((c : Int) : Rat) ≠ 0 := ne_of_pos (by omega)
  unfold up
  rw [Nat.mul_div_cancel_left _ q.den_pos]
  conv => lhs; rw [← fr_val q]
  show (q.num : Rat) / ((q.den : Int) : Rat) = _
  rw [Int.natCast_mul]
  simp only [Rat.intCast_mul]
  grind
theorem up_abs {D t d : Nat} {q : Rat} (hq : q.num.natAbs < 2 ^ t) (hD : D < 2 ^ d) : (up D q).natAbs < 2 ^ (t + d) := by
  unfold up
  rw [Int.natAbs_mul, Nat.pow_add]
  refine Nat.mul_lt_mul'' hq (Nat.lt_of_le_of_lt ?_ hD)
  exact Nat.div_le_self _ _
theorem sum_val {D : Nat} (hD : 0 < D) : ∀ {qs : List Rat}, (∀ q ∈ qs, q.den ∣ D) → qs.sum = ((qs.map (up D)).sum : Rat) / ((D : Int) : Rat)
  | [], _ => by
    show (0 : Rat) = ((0 : Int) : Rat) / _
    rw [Rat.intCast_zero, Rat.div_def, Rat.zero_mul]
  | q :: qs, h => by
    have hd : ((D : Int) : Rat) ≠ 0 := ne_of_pos (by omega)
    have e1 := up_val (h q (.head _)) hD
    have e2 := sum_val hD (qs := qs) fun x hx => h x (.tail _ hx)
    rw [List.map_cons, List.sum_cons, List.sum_cons, e2]
    conv => lhs; rw [e1]
    rw [Rat.intCast_add]
    grind
theorem sum_abs {M : Nat} : ∀ {zs : List Int}, (∀ z ∈ zs, z.natAbs < M) → zs.sum.natAbs ≤ zs.length * M
  | [], _ => by simp
  | z :: zs, h => by
    have h1 := h z (.head _)
    have h2 := sum_abs (zs := zs) fun x hx => h x (.tail _ hx)
    rw [List.sum_cons, List.length_cons, Nat.succ_mul]
    have := Int.natAbs_add_le z zs.sum
    omega
theorem sum_sz {D t d : Nat} (hD : 0 < D) (hd : D < 2 ^ d) {qs : List Rat} (h1 : ∀ q ∈ qs, q.den ∣ D) (h2 : ∀ q ∈ qs, q.num.natAbs < 2 ^ t) (hl : qs.length < 2 ^ 20) : Sz (t + d + 20) (fr qs.sum) := by
  rw [sum_val hD h1]
  refine sz_div (by omega) ?_ ?_
  · have h := sum_abs (M := 2 ^ (t + d)) (zs := qs.map (up D)) fun z hz => by
      obtain ⟨q, hq, rfl⟩ := List.mem_map.mp hz
      exact up_abs (h2 q hq) hd
    rw [List.length_map] at h
    have h3 : qs.length * 2 ^ (t + d) < 2 ^ 20 * 2 ^ (t + d) := Nat.mul_lt_mul_of_pos_right hl (Nat.pow_pos (by decide))
    rw [show t + d + 20 = 20 + (t + d) by omega, Nat.pow_add]
    omega
  · have : 2 ^ d ≤ 2 ^ (t + d + 20) := Nat.pow_le_pow_right (by decide) (by omega)
    omega
theorem sz_fr {q : Rat} {n : Nat} (h1 : q.num.natAbs < 2 ^ n) (h2 : q.den < 2 ^ n) : Sz n (fr q) := ⟨h1, fr_pos q, by show ((q.den : Int)).natAbs < _; omega⟩
end Fm

namespace Pf
open PySem L2 PySem.Spec My
/-! the text by places -/
def top (i : Nat) : Stmt := PySem.Challenge.pw_hall_k03_totals_and_means.main.body.getD i (.Pass ⟨0, 0, 0, 0⟩)
def z_0 : Str := ⟨#[111, 110, 101]⟩
theorem e_0 : ("one" : Str) = z_0 := by rfl
def z_1 : Str := ⟨#[111, 116, 104, 101, 114]⟩
theorem e_1 : ("other" : Str) = z_1 := by rfl
def z_2 : Str := ⟨#[104, 101, 114, 101]⟩
theorem e_2 : ("here" : Str) = z_2 := by rfl
def z_3 : Str := ⟨#[116, 104, 101, 114, 101]⟩
theorem e_3 : ("there" : Str) = z_3 := by rfl
def z_4 : Str := ⟨#[114, 101, 115, 116]⟩
theorem e_4 : ("rest" : Str) = z_4 := by rfl
def z_5 : Str := ⟨#[97, 98, 115]⟩
theorem e_5 : ("abs" : Str) = z_5 := by rfl
def z_6 : Str := ⟨#[116, 111, 112]⟩
theorem e_6 : ("top" : Str) = z_6 := by rfl
def z_7 : Str := ⟨#[98, 111, 116, 116, 111, 109]⟩
theorem e_7 : ("bottom" : Str) = z_7 := by rfl
def z_8 : Str := ⟨#[98, 121]⟩
theorem e_8 : ("by" : Str) = z_8 := by rfl
def z_9 : Str := ⟨#[78, 111, 70, 114, 97, 99, 116, 105, 111, 110]⟩
theorem e_9 : ("NoFraction" : Str) = z_9 := by rfl
def z_10 : Str := ⟨#[100, 105, 118, 105, 115, 111, 114]⟩
theorem e_10 : ("divisor" : Str) = z_10 := by rfl
def z_11 : Str := ⟨#[102, 114, 97, 99, 116, 105, 111, 110]⟩
theorem e_11 : ("fraction" : Str) = z_11 := by rfl
def z_12 : Str := ⟨#[115, 111, 109, 101]⟩
theorem e_12 : ("some" : Str) = z_12 := by rfl
def z_13 : Str := ⟨#[102, 111, 117, 110, 100]⟩
theorem e_13 : ("found" : Str) = z_13 := by rfl
def z_14 : Str := ⟨#[112, 108, 117, 115]⟩
theorem e_14 : ("plus" : Str) = z_14 := by rfl
def z_15 : Str := ⟨#[111, 118, 101, 114]⟩
theorem e_15 : ("over" : Str) = z_15 := by rfl
def z_16 : Str := ⟨#[116, 111, 116, 97, 108]⟩
theorem e_16 : ("total" : Str) = z_16 := by rfl
def z_17 : Str := ⟨#[108, 101, 110]⟩
theorem e_17 : ("len" : Str) = z_17 := by rfl
def z_18 : Str := ⟨#[95, 108, 97, 119, 95, 115, 99, 114, 105, 112, 116]⟩
theorem e_18 : ("_law_script" : Str) = z_18 := by rfl
def z_19 : Str := ⟨#[95, 108, 97, 119, 95, 107]⟩
theorem e_19 : ("_law_k" : Str) = z_19 := by rfl
def z_20 : Str := ⟨#[95, 108, 97, 119, 95, 110, 117, 109, 98, 101, 114]⟩
theorem e_20 : ("_law_number" : Str) = z_20 := by rfl
def z_21 : Str := ⟨#[95, 108, 97, 119, 95, 111, 110, 101]⟩
theorem e_21 : ("_law_one" : Str) = z_21 := by rfl
def z_22 : Str := ⟨#[95, 108, 97, 119, 95, 111, 116, 104, 101, 114]⟩
theorem e_22 : ("_law_other" : Str) = z_22 := by rfl
def z_23 : Str := ⟨#[95, 108, 97, 119, 95, 116, 111, 112]⟩
theorem e_23 : ("_law_top" : Str) = z_23 := by rfl
def z_24 : Str := ⟨#[95, 108, 97, 119, 95, 98, 111, 116, 116, 111, 109]⟩
theorem e_24 : ("_law_bottom" : Str) = z_24 := by rfl
def z_25 : Str := ⟨#[95, 108, 97, 119, 95, 98, 121]⟩
theorem e_25 : ("_law_by" : Str) = z_25 := by rfl
def z_26 : Str := ⟨#[95, 108, 97, 119, 95, 100, 105, 118, 105, 115, 111, 114]⟩
theorem e_26 : ("_law_divisor" : Str) = z_26 := by rfl
def z_27 : Str := ⟨#[95, 108, 97, 119, 95, 102, 111, 117, 110, 100]⟩
theorem e_27 : ("_law_found" : Str) = z_27 := by rfl
def z_28 : Str := ⟨#[95, 108, 97, 119, 95, 100, 117, 101]⟩
theorem e_28 : ("_law_due" : Str) = z_28 := by rfl
def z_29 : Str := ⟨#[95, 108, 97, 119, 95, 112, 97, 114, 116]⟩
theorem e_29 : ("_law_part" : Str) = z_29 := by rfl
def z_30 : Str := ⟨#[105, 115, 105, 110, 115, 116, 97, 110, 99, 101]⟩
theorem e_30 : ("isinstance" : Str) = z_30 := by rfl
def z_31 : Str := ⟨#[116, 117, 112, 108, 101]⟩
theorem e_31 : ("tuple" : Str) = z_31 := by rfl
def z_32 : Str := ⟨#[105, 110, 116]⟩
theorem e_32 : ("int" : Str) = z_32 := by rfl
def z_33 : Str := ⟨#[98, 111, 111, 108]⟩
theorem e_33 : ("bool" : Str) = z_33 := by rfl
def z_34 : Str := ⟨#[95, 108, 97, 119, 95, 99, 101, 108, 108, 95, 104, 101, 114, 101]⟩
theorem e_34 : ("_law_cell_here" : Str) = z_34 := by rfl
def z_35 : Str := ⟨#[95, 108, 97, 119, 95, 108, 111, 119]⟩
theorem e_35 : ("_law_low" : Str) = z_35 := by rfl
def z_36 : Str := ⟨#[95, 108, 97, 119, 95, 115, 111, 109, 101]⟩
theorem e_36 : ("_law_some" : Str) = z_36 := by rfl
def z_37 : Str := ⟨#[109, 101, 97, 110]⟩
theorem e_37 : ("mean" : Str) = z_37 := by rfl
def z_38 : Str := ⟨#[95, 108, 97, 119, 95, 104, 97, 110, 100, 101, 100]⟩
theorem e_38 : ("_law_handed" : Str) = z_38 := by rfl
def z_39 : Str := ⟨#[95, 108, 97, 119, 95, 99, 101, 108, 108]⟩
theorem e_39 : ("_law_cell" : Str) = z_39 := by rfl
def z_40 : Str := ⟨#[115, 117, 109]⟩
theorem e_40 : ("sum" : Str) = z_40 := by rfl
def z_41 : Str := ⟨#[114, 97, 110, 103, 101]⟩
theorem e_41 : ("range" : Str) = z_41 := by rfl
def z_42 : Str := ⟨#[108, 105, 115, 116]⟩
theorem e_42 : ("list" : Str) = z_42 := by rfl
def z_43 : Str := ⟨#[95, 108, 97, 119, 95, 105, 115]⟩
theorem e_43 : ("_law_is" : Str) = z_43 := by rfl
def z_44 : Str := ⟨#[95, 108, 97, 119, 95, 109, 101, 97, 110]⟩
theorem e_44 : ("_law_mean" : Str) = z_44 := by rfl
def z_45 : Str := ⟨#[46, 48]⟩
theorem e_45 : (".0" : Str) = z_45 := by rfl
def z_46 : Str := ⟨#[95, 108, 97, 119, 95, 102, 114, 97, 99, 116, 105, 111, 110]⟩
theorem e_46 : ("_law_fraction" : Str) = z_46 := by rfl
abbrev s_divisor : Stmt := top 4
abbrev p_divisor : List Str := ["one", "other"]
abbrev n_divisor : List Str := ["one", "other", "here", "there", "rest"] -- 0:one 1:other 2:here 3:there 4:rest
abbrev g_divisor : List Str := ["abs"]
theorem dk_divisor : DefOk n_divisor p_divisor (defScope s_divisor) [0, 1, 2, 3, 4] g_divisor := defOk_mk (zn := [z_0, z_1, z_2, z_3, z_4]) (zg := [z_5]) (sn := [(z_0, .local), (z_1, .local), (z_2, .local), (z_3, .local), (z_4, .local), (z_5, .globalImplicit)]) rfl rfl rfl (nmc e_0 (nmc e_1 (nmc e_2 (nmc e_3 (nmc e_4 (nmc e_5 (rfl))))))) (lsc e_0 (lsc e_1 (lsc e_2 (lsc e_3 (lsc e_4 (rfl)))))) (lsc e_5 (rfl)) rfl (by decide +kernel)
theorem nm_divisor {X : Cx} (nx : Nx X n_divisor (defScope s_divisor)) : At X "one" 0 ∧ At X "other" 1 ∧ At X "here" 2 ∧ At X "there" 3 ∧ At X "rest" 4 ∧ Glo X "abs" ∧ X.calm = true ∧ PassesOwn (model X.prog X.w) X.A X.env X.xe := ⟨dk_divisor.at nx (.head _) rfl, dk_divisor.at nx (.tail _ (.head _)) rfl, dk_divisor.at nx (.tail _ (.tail _ (.head _))) rfl, dk_divisor.at nx (.tail _ (.tail _ (.tail _ (.head _)))) rfl, dk_divisor.at nx (.tail _ (.tail _ (.tail _ (.tail _ (.head _))))) rfl, dk_divisor.glo nx (.head _), nx.calm, nx.pas⟩
local macro_rules | `(tactic| walk_at "nm divisor") => `(tactic| obtain ⟨_, _, _, _, _, _, _, _⟩ := nm_divisor (by assumption))
abbrev s_fraction : Stmt := top 5
abbrev p_fraction : List Str := ["top", "bottom"]
abbrev n_fraction : List Str := ["top", "bottom", "by"] -- 0:top 1:bottom 2:by
abbrev g_fraction : List Str := ["NoFraction", "divisor"]
theorem dk_fraction : DefOk n_fraction p_fraction (defScope s_fraction) [0, 1, 2] g_fraction := defOk_mk (zn := [z_6, z_7, z_8]) (zg := [z_9, z_10]) (sn := [(z_6, .local), (z_7, .local), (z_8, .local), (z_9, .globalImplicit), (z_10, .globalImplicit)]) rfl rfl rfl (nmc e_6 (nmc e_7 (nmc e_8 (nmc e_9 (nmc e_10 (rfl)))))) (lsc e_6 (lsc e_7 (lsc e_8 (rfl)))) (lsc e_9 (lsc e_10 (rfl))) rfl (by decide +kernel)
theorem nm_fraction {X : Cx} (nx : Nx X n_fraction (defScope s_fraction)) : At X "top" 0 ∧ At X "bottom" 1 ∧ At X "by" 2 ∧ Glo X "NoFraction" ∧ Glo X "divisor" ∧ X.calm = true ∧ PassesOwn (model X.prog X.w) X.A X.env X.xe := ⟨dk_fraction.at nx (.head _) rfl, dk_fraction.at nx (.tail _ (.head _)) rfl, dk_fraction.at nx (.tail _ (.tail _ (.head _))) rfl, dk_fraction.glo nx (.head _), dk_fraction.glo nx (.tail _ (.head _)), nx.calm, nx.pas⟩
local macro_rules | `(tactic| walk_at "nm fraction") => `(tactic| obtain ⟨_, _, _, _, _, _, _⟩ := nm_fraction (by assumption))
abbrev s_plus : Stmt := top 6
abbrev p_plus : List Str := ["one", "other"]
abbrev n_plus : List Str := ["one", "other"] -- 0:one 1:other
abbrev g_plus : List Str := ["fraction"]
theorem dk_plus : DefOk n_plus p_plus (defScope s_plus) [0, 1] g_plus := defOk_mk (zn := [z_0, z_1]) (zg := [z_11]) (sn := [(z_0, .local), (z_1, .local), (z_11, .globalImplicit)]) rfl rfl rfl (nmc e_0 (nmc e_1 (nmc e_11 (rfl)))) (lsc e_0 (lsc e_1 (rfl))) (lsc e_11 (rfl)) rfl (by decide +kernel)
theorem nm_plus {X : Cx} (nx : Nx X n_plus (defScope s_plus)) : At X "one" 0 ∧ At X "other" 1 ∧ Glo X "fraction" ∧ X.calm = true ∧ PassesOwn (model X.prog X.w) X.A X.env X.xe := ⟨dk_plus.at nx (.head _) rfl, dk_plus.at nx (.tail _ (.head _)) rfl, dk_plus.glo nx (.head _), nx.calm, nx.pas⟩
local macro_rules | `(tactic| walk_at "nm plus") => `(tactic| obtain ⟨_, _, _, _, _⟩ := nm_plus (by assumption))
abbrev s_over : Stmt := top 7
abbrev p_over : List Str := ["one", "other"]
abbrev n_over : List Str := ["one", "other"] -- 0:one 1:other
abbrev g_over : List Str := ["fraction"]
theorem dk_over : DefOk n_over p_over (defScope s_over) [0, 1] g_over := defOk_mk (zn := [z_0, z_1]) (zg := [z_11]) (sn := [(z_0, .local), (z_1, .local), (z_11, .globalImplicit)]) rfl rfl rfl (nmc e_0 (nmc e_1 (nmc e_11 (rfl)))) (lsc e_0 (lsc e_1 (rfl))) (lsc e_11 (rfl)) rfl (by decide +kernel)
theorem nm_over {X : Cx} (nx : Nx X n_over (defScope s_over)) : At X "one" 0 ∧ At X "other" 1 ∧ Glo X "fraction" ∧ X.calm = true ∧ PassesOwn (model X.prog X.w) X.A X.env X.xe := ⟨dk_over.at nx (.head _) rfl, dk_over.at nx (.tail _ (.head _)) rfl, dk_over.glo nx (.head _), nx.calm, nx.pas⟩
local macro_rules | `(tactic| walk_at "nm over") => `(tactic| obtain ⟨_, _, _, _, _⟩ := nm_over (by assumption))
abbrev s_total : Stmt := top 8
abbrev p_total : List Str := ["some"]
abbrev n_total : List Str := ["some", "found", "one"] -- 0:some 1:found 2:one
abbrev g_total : List Str := ["plus"]
theorem dk_total : DefOk n_total p_total (defScope s_total) [0, 1, 2] g_total := defOk_mk (zn := [z_12, z_13, z_0]) (zg := [z_14]) (sn := [(z_12, .local), (z_13, .local), (z_0, .local), (z_14, .globalImplicit)]) rfl rfl rfl (nmc e_12 (nmc e_13 (nmc e_0 (nmc e_14 (rfl))))) (lsc e_12 (lsc e_13 (lsc e_0 (rfl)))) (lsc e_14 (rfl)) rfl (by decide +kernel)
theorem nm_total {X : Cx} (nx : Nx X n_total (defScope s_total)) : At X "some" 0 ∧ At X "found" 1 ∧ At X "one" 2 ∧ Glo X "plus" ∧ X.calm = true ∧ PassesOwn (model X.prog X.w) X.A X.env X.xe := ⟨dk_total.at nx (.head _) rfl, dk_total.at nx (.tail _ (.head _)) rfl, dk_total.at nx (.tail _ (.tail _ (.head _))) rfl, dk_total.glo nx (.head _), nx.calm, nx.pas⟩
local macro_rules | `(tactic| walk_at "nm total") => `(tactic| obtain ⟨_, _, _, _, _, _⟩ := nm_total (by assumption))
abbrev s_mean : Stmt := top 9
abbrev p_mean : List Str := ["some"]
abbrev n_mean : List Str := ["some"] -- 0:some
abbrev g_mean : List Str := ["over", "total", "len"]
theorem dk_mean : DefOk n_mean p_mean (defScope s_mean) [0] g_mean := defOk_mk (zn := [z_12]) (zg := [z_15, z_16, z_17]) (sn := [(z_12, .local), (z_15, .globalImplicit), (z_16, .globalImplicit), (z_17, .globalImplicit)]) rfl rfl rfl (nmc e_12 (nmc e_15 (nmc e_16 (nmc e_17 (rfl))))) (lsc e_12 (rfl)) (lsc e_15 (lsc e_16 (lsc e_17 (rfl)))) rfl (by decide +kernel)
theorem nm_mean {X : Cx} (nx : Nx X n_mean (defScope s_mean)) : At X "some" 0 ∧ Glo X "over" ∧ Glo X "total" ∧ Glo X "len" ∧ X.calm = true ∧ PassesOwn (model X.prog X.w) X.A X.env X.xe := ⟨dk_mean.at nx (.head _) rfl, dk_mean.glo nx (.head _), dk_mean.glo nx (.tail _ (.head _)), dk_mean.glo nx (.tail _ (.tail _ (.head _))), nx.calm, nx.pas⟩
local macro_rules | `(tactic| walk_at "nm mean") => `(tactic| obtain ⟨_, _, _, _, _, _⟩ := nm_mean (by assumption))
abbrev s__law_cell : Stmt := top 11
abbrev p__law_cell : List Str := ["_law_script", "_law_k"]
abbrev n__law_cell : List Str := ["_law_script", "_law_k", "_law_number"] -- 0:_law_script 1:_law_k 2:_law_number
abbrev g__law_cell : List Str := ["len"]
theorem dk__law_cell : DefOk n__law_cell p__law_cell (defScope s__law_cell) [0, 1, 2] g__law_cell := defOk_mk (zn := [z_18, z_19, z_20]) (zg := [z_17]) (sn := [(z_18, .local), (z_19, .local), (z_20, .local), (z_17, .globalImplicit)]) rfl rfl rfl (nmc e_18 (nmc e_19 (nmc e_20 (nmc e_17 (rfl))))) (lsc e_18 (lsc e_19 (lsc e_20 (rfl)))) (lsc e_17 (rfl)) rfl (by decide +kernel)
theorem nm__law_cell {X : Cx} (nx : Nx X n__law_cell (defScope s__law_cell)) : At X "_law_script" 0 ∧ At X "_law_k" 1 ∧ At X "_law_number" 2 ∧ Glo X "len" ∧ X.calm = true ∧ PassesOwn (model X.prog X.w) X.A X.env X.xe := ⟨dk__law_cell.at nx (.head _) rfl, dk__law_cell.at nx (.tail _ (.head _)) rfl, dk__law_cell.at nx (.tail _ (.tail _ (.head _))) rfl, dk__law_cell.glo nx (.head _), nx.calm, nx.pas⟩
local macro_rules | `(tactic| walk_at "nm _law_cell") => `(tactic| obtain ⟨_, _, _, _, _, _⟩ := nm__law_cell (by assumption))
abbrev s__law_divisor : Stmt := top 12
abbrev p__law_divisor : List Str := ["_law_one", "_law_other"]
abbrev n__law_divisor : List Str := ["_law_one", "_law_other"] -- 0:_law_one 1:_law_other
abbrev g__law_divisor : List Str := ["abs"]
theorem dk__law_divisor : DefOk n__law_divisor p__law_divisor (defScope s__law_divisor) [0, 1] g__law_divisor := defOk_mk (zn := [z_21, z_22]) (zg := [z_5]) (sn := [(z_21, .local), (z_22, .local), (z_5, .globalImplicit)]) rfl rfl rfl (nmc e_21 (nmc e_22 (nmc e_5 (rfl)))) (lsc e_21 (lsc e_22 (rfl))) (lsc e_5 (rfl)) rfl (by decide +kernel)
theorem nm__law_divisor {X : Cx} (nx : Nx X n__law_divisor (defScope s__law_divisor)) : At X "_law_one" 0 ∧ At X "_law_other" 1 ∧ Glo X "abs" ∧ X.calm = true ∧ PassesOwn (model X.prog X.w) X.A X.env X.xe := ⟨dk__law_divisor.at nx (.head _) rfl, dk__law_divisor.at nx (.tail _ (.head _)) rfl, dk__law_divisor.glo nx (.head _), nx.calm, nx.pas⟩
local macro_rules | `(tactic| walk_at "nm _law_divisor") => `(tactic| obtain ⟨_, _, _, _, _⟩ := nm__law_divisor (by assumption))
abbrev s__law_low : Stmt := top 13
abbrev p__law_low : List Str := ["_law_top", "_law_bottom"]
abbrev n__law_low : List Str := ["_law_top", "_law_bottom", "_law_by"] -- 0:_law_top 1:_law_bottom 2:_law_by
abbrev g__law_low : List Str := ["_law_divisor"]
theorem dk__law_low : DefOk n__law_low p__law_low (defScope s__law_low) [0, 1, 2] g__law_low := defOk_mk (zn := [z_23, z_24, z_25]) (zg := [z_26]) (sn := [(z_23, .local), (z_24, .local), (z_25, .local), (z_26, .globalImplicit)]) rfl rfl rfl (nmc e_23 (nmc e_24 (nmc e_25 (nmc e_26 (rfl))))) (lsc e_23 (lsc e_24 (lsc e_25 (rfl)))) (lsc e_26 (rfl)) rfl (by decide +kernel)
theorem nm__law_low {X : Cx} (nx : Nx X n__law_low (defScope s__law_low)) : At X "_law_top" 0 ∧ At X "_law_bottom" 1 ∧ At X "_law_by" 2 ∧ Glo X "_law_divisor" ∧ X.calm = true ∧ PassesOwn (model X.prog X.w) X.A X.env X.xe := ⟨dk__law_low.at nx (.head _) rfl, dk__law_low.at nx (.tail _ (.head _)) rfl, dk__law_low.at nx (.tail _ (.tail _ (.head _))) rfl, dk__law_low.glo nx (.head _), nx.calm, nx.pas⟩
local macro_rules | `(tactic| walk_at "nm _law_low") => `(tactic| obtain ⟨_, _, _, _, _, _⟩ := nm__law_low (by assumption))
abbrev s__law_is : Stmt := top 14
abbrev p__law_is : List Str := ["_law_found", "_law_due"]
abbrev n__law_is : List Str := ["_law_found", "_law_due", "_law_part"] -- 0:_law_found 1:_law_due 2:_law_part
abbrev g__law_is : List Str := ["isinstance", "tuple", "len", "int", "bool"]
theorem dk__law_is : DefOk n__law_is p__law_is (defScope s__law_is) [0, 1, 2] g__law_is := defOk_mk (zn := [z_27, z_28, z_29]) (zg := [z_30, z_31, z_17, z_32, z_33]) (sn := [(z_27, .local), (z_28, .local), (z_29, .local), (z_30, .globalImplicit), (z_31, .globalImplicit), (z_17, .globalImplicit), (z_32, .globalImplicit), (z_33, .globalImplicit)]) rfl rfl rfl (nmc e_27 (nmc e_28 (nmc e_29 (nmc e_30 (nmc e_31 (nmc e_17 (nmc e_32 (nmc e_33 (rfl))))))))) (lsc e_27 (lsc e_28 (lsc e_29 (rfl)))) (lsc e_30 (lsc e_31 (lsc e_17 (lsc e_32 (lsc e_33 (rfl)))))) rfl (by decide +kernel)
theorem nm__law_is {X : Cx} (nx : Nx X n__law_is (defScope s__law_is)) : At X "_law_found" 0 ∧ At X "_law_due" 1 ∧ At X "_law_part" 2 ∧ Glo X "isinstance" ∧ Glo X "tuple" ∧ Glo X "len" ∧ Glo X "int" ∧ Glo X "bool" ∧ X.calm = true ∧ PassesOwn (model X.prog X.w) X.A X.env X.xe := ⟨dk__law_is.at nx (.head _) rfl, dk__law_is.at nx (.tail _ (.head _)) rfl, dk__law_is.at nx (.tail _ (.tail _ (.head _))) rfl, dk__law_is.glo nx (.head _), dk__law_is.glo nx (.tail _ (.head _)), dk__law_is.glo nx (.tail _ (.tail _ (.head _))), dk__law_is.glo nx (.tail _ (.tail _ (.tail _ (.head _)))), dk__law_is.glo nx (.tail _ (.tail _ (.tail _ (.tail _ (.head _))))), nx.calm, nx.pas⟩
local macro_rules | `(tactic| walk_at "nm _law_is") => `(tactic| obtain ⟨_, _, _, _, _, _, _, _, _, _⟩ := nm__law_is (by assumption))
abbrev s__law_fraction : Stmt := top 15
abbrev p__law_fraction : List Str := ["_law_cell_here"]
abbrev n__law_fraction : List Str := ["_law_cell_here", "_law_top"] -- 0:_law_cell_here 1:_law_top
abbrev g__law_fraction : List Str := ["_law_low"]
theorem dk__law_fraction : DefOk n__law_fraction p__law_fraction (defScope s__law_fraction) [0, 1] g__law_fraction := defOk_mk (zn := [z_34, z_23]) (zg := [z_35]) (sn := [(z_34, .local), (z_23, .local), (z_35, .globalImplicit)]) rfl rfl rfl (nmc e_34 (nmc e_23 (nmc e_35 (rfl)))) (lsc e_34 (lsc e_23 (rfl))) (lsc e_35 (rfl)) rfl (by decide +kernel)
theorem nm__law_fraction {X : Cx} (nx : Nx X n__law_fraction (defScope s__law_fraction)) : At X "_law_cell_here" 0 ∧ At X "_law_top" 1 ∧ Glo X "_law_low" ∧ X.calm = true ∧ PassesOwn (model X.prog X.w) X.A X.env X.xe := ⟨dk__law_fraction.at nx (.head _) rfl, dk__law_fraction.at nx (.tail _ (.head _)) rfl, dk__law_fraction.glo nx (.head _), nx.calm, nx.pas⟩
local macro_rules | `(tactic| walk_at "nm _law_fraction") => `(tactic| obtain ⟨_, _, _, _, _⟩ := nm__law_fraction (by assumption))
abbrev s__law_mean : Stmt := top 16
abbrev p__law_mean : List Str := ["_law_some"]
abbrev n__law_mean : List Str := ["_law_some", "_law_found"] -- 0:_law_some 1:_law_found
abbrev g__law_mean : List Str := ["mean", "NoFraction"]
theorem dk__law_mean : DefOk n__law_mean p__law_mean (defScope s__law_mean) [0, 1] g__law_mean := defOk_mk (zn := [z_36, z_27]) (zg := [z_37, z_9]) (sn := [(z_36, .local), (z_27, .local), (z_37, .globalImplicit), (z_9, .globalImplicit)]) rfl rfl rfl (nmc e_36 (nmc e_27 (nmc e_37 (nmc e_9 (rfl))))) (lsc e_36 (lsc e_27 (rfl))) (lsc e_37 (lsc e_9 (rfl))) rfl (by decide +kernel)
theorem nm__law_mean {X : Cx} (nx : Nx X n__law_mean (defScope s__law_mean)) : At X "_law_some" 0 ∧ At X "_law_found" 1 ∧ Glo X "mean" ∧ Glo X "NoFraction" ∧ X.calm = true ∧ PassesOwn (model X.prog X.w) X.A X.env X.xe := ⟨dk__law_mean.at nx (.head _) rfl, dk__law_mean.at nx (.tail _ (.head _)) rfl, dk__law_mean.glo nx (.head _), dk__law_mean.glo nx (.tail _ (.head _)), nx.calm, nx.pas⟩
local macro_rules | `(tactic| walk_at "nm _law_mean") => `(tactic| obtain ⟨_, _, _, _, _, _⟩ := nm__law_mean (by assumption))
abbrev s_law : Stmt := top 17
abbrev p_law : List Str := ["_law_script"]
abbrev n_law : List Str := ["_law_script", "_law_some", "_law_due", "_law_k", "_law_handed", "_law_found", "_law_cell_here", "_law_top", "_law_bottom"] -- 0:_law_script 1:_law_some 2:_law_due 3:_law_k 4:_law_handed 5:_law_found 6:_law_cell_here 7:_law_top 8:_law_bottom
abbrev g_law : List Str := ["_law_cell", "sum", "range", "list", "_law_is", "total", "_law_low", "_law_mean", "len"]
theorem dk_law : DefOk n_law p_law (defScope s_law) [0, 1, 2, 3, 4, 5] g_law := defOk_mk (zn := [z_18, z_36, z_28, z_19, z_38, z_27, z_34, z_23, z_24]) (zg := [z_39, z_40, z_41, z_42, z_43, z_16, z_35, z_44, z_17]) (sn := [(z_18, .local), (z_36, .local), (z_28, .local), (z_19, .local), (z_38, .local), (z_27, .local), (z_39, .globalImplicit), (z_40, .globalImplicit), (z_41, .globalImplicit), (z_42, .globalImplicit), (z_43, .globalImplicit), (z_16, .globalImplicit), (z_35, .globalImplicit), (z_44, .globalImplicit), (z_17, .globalImplicit)]) rfl rfl rfl (nmc e_18 (nmc e_36 (nmc e_28 (nmc e_19 (nmc e_38 (nmc e_27 (nmc e_39 (nmc e_40 (nmc e_41 (nmc e_42 (nmc e_43 (nmc e_16 (nmc e_35 (nmc e_44 (nmc e_17 (rfl)))))))))))))))) (lsc e_18 (lsc e_36 (lsc e_28 (lsc e_19 (lsc e_38 (lsc e_27 (lsc e_34 (lsc e_23 (lsc e_24 (rfl)))))))))) (lsc e_39 (lsc e_40 (lsc e_41 (lsc e_42 (lsc e_43 (lsc e_16 (lsc e_35 (lsc e_44 (lsc e_17 (rfl)))))))))) rfl (by decide +kernel)
abbrev b_law_0 : Scope := { kind := .function, names := [(".0", .local), ("_law_cell_here", .local), ("_law_fraction", .globalImplicit)], isGenerator := false, isCoroutine := false, more := [] }
theorem bd_law_0 : BDef n_law (defScope s_law).names b_law_0 [6] [6] ["_law_fraction"] := bdef_mk (zn := [z_18, z_36, z_28, z_19, z_38, z_27, z_34, z_23, z_24]) (zg := [z_46]) (osn := [(z_18, .local), (z_36, .local), (z_28, .local), (z_19, .local), (z_38, .local), (z_27, .local), (z_39, .globalImplicit), (z_40, .globalImplicit), (z_41, .globalImplicit), (z_42, .globalImplicit), (z_43, .globalImplicit), (z_16, .globalImplicit), (z_35, .globalImplicit), (z_44, .globalImplicit), (z_17, .globalImplicit)]) (sn := [(z_45, .local), (z_34, .local), (z_46, .globalImplicit)]) rfl (nmc e_45 (nmc e_34 (nmc e_46 (rfl)))) (lsc e_18 (lsc e_36 (lsc e_28 (lsc e_19 (lsc e_38 (lsc e_27 (lsc e_34 (lsc e_23 (lsc e_24 (rfl)))))))))) (lsc e_46 (rfl)) (nmc e_18 (nmc e_36 (nmc e_28 (nmc e_19 (nmc e_38 (nmc e_27 (nmc e_39 (nmc e_40 (nmc e_41 (nmc e_42 (nmc e_43 (nmc e_16 (nmc e_35 (nmc e_44 (nmc e_17 (rfl)))))))))))))))) (by decide +kernel)
abbrev b_law_1 : Scope := { kind := .function, names := [(".0", .local), ("_law_top", .local), ("_law_bottom", .local)], isGenerator := false, isCoroutine := false, more := [] }
theorem bd_law_1 : BDef n_law (defScope s_law).names b_law_1 [7, 8] [7, 8] [] := bdef_mk (zn := [z_18, z_36, z_28, z_19, z_38, z_27, z_34, z_23, z_24]) (zg := []) (osn := [(z_18, .local), (z_36, .local), (z_28, .local), (z_19, .local), (z_38, .local), (z_27, .local), (z_39, .globalImplicit), (z_40, .globalImplicit), (z_41, .globalImplicit), (z_42, .globalImplicit), (z_43, .globalImplicit), (z_16, .globalImplicit), (z_35, .globalImplicit), (z_44, .globalImplicit), (z_17, .globalImplicit)]) (sn := [(z_45, .local), (z_23, .local), (z_24, .local)]) rfl (nmc e_45 (nmc e_23 (nmc e_24 (rfl)))) (lsc e_18 (lsc e_36 (lsc e_28 (lsc e_19 (lsc e_38 (lsc e_27 (lsc e_34 (lsc e_23 (lsc e_24 (rfl)))))))))) (rfl) (nmc e_18 (nmc e_36 (nmc e_28 (nmc e_19 (nmc e_38 (nmc e_27 (nmc e_39 (nmc e_40 (nmc e_41 (nmc e_42 (nmc e_43 (nmc e_16 (nmc e_35 (nmc e_44 (nmc e_17 (rfl)))))))))))))))) (by decide +kernel)
theorem nb_law_0 {B : Cx} (nb : Bl n_law b_law_0 B) : Rd1 B "_law_cell_here" 6 ∧ Glo B "_law_fraction" ∧ B.calm = true := ⟨bd_law_0.r nb (.head _) rfl, bd_law_0.g nb (.head _), nb.calm⟩
local macro_rules | `(tactic| walk_at "bk law 0") => `(tactic| obtain ⟨_, _, _⟩ := nb_law_0 (by assumption))
theorem nb_law_1 {B : Cx} (nb : Bl n_law b_law_1 B) : Rd1 B "_law_top" 7 ∧ Rd1 B "_law_bottom" 8 ∧ B.calm = true := ⟨bd_law_1.r nb (.head _) rfl, bd_law_1.r nb (.tail _ (.head _)) rfl, nb.calm⟩
local macro_rules | `(tactic| walk_at "bk law 1") => `(tactic| obtain ⟨_, _, _⟩ := nb_law_1 (by assumption))
theorem nm_law {X : Cx} (nx : Nx X n_law (defScope s_law)) : At X "_law_script" 0 ∧ At X "_law_some" 1 ∧ At X "_law_due" 2 ∧ At X "_law_k" 3 ∧ At X "_law_handed" 4 ∧ At X "_law_found" 5 ∧ Glo X "_law_cell" ∧ Glo X "sum" ∧ Glo X "range" ∧ Glo X "list" ∧ Glo X "_law_is" ∧ Glo X "total" ∧ Glo X "_law_low" ∧ Glo X "_law_mean" ∧ Glo X "len" ∧ X.calm = true ∧ PassesOwn (model X.prog X.w) X.A X.env X.xe ∧ BOk X n_law b_law_0 [6] ∧ (∀ C : Cx, Bl n_law b_law_0 C → At C "_law_cell_here" 6) ∧ BOk X n_law b_law_1 [7, 8] ∧ (∀ C : Cx, Bl n_law b_law_1 C → At C "_law_top" 7) ∧ (∀ C : Cx, Bl n_law b_law_1 C → At C "_law_bottom" 8) ∧ Sw X b_law_0 "_law_some" := ⟨dk_law.at nx (.head _) rfl, dk_law.at nx (.tail _ (.head _)) rfl, dk_law.at nx (.tail _ (.tail _ (.head _))) rfl, dk_law.at nx (.tail _ (.tail _ (.tail _ (.head _)))) rfl, dk_law.at nx (.tail _ (.tail _ (.tail _ (.tail _ (.head _))))) rfl, dk_law.at nx (.tail _ (.tail _ (.tail _ (.tail _ (.tail _ (.head _)))))) rfl, dk_law.glo nx (.head _), dk_law.glo nx (.tail _ (.head _)), dk_law.glo nx (.tail _ (.tail _ (.head _))), dk_law.glo nx (.tail _ (.tail _ (.tail _ (.head _)))), dk_law.glo nx (.tail _ (.tail _ (.tail _ (.tail _ (.head _))))), dk_law.glo nx (.tail _ (.tail _ (.tail _ (.tail _ (.tail _ (.head _)))))), dk_law.glo nx (.tail _ (.tail _ (.tail _ (.tail _ (.tail _ (.tail _ (.head _))))))), dk_law.glo nx (.tail _ (.tail _ (.tail _ (.tail _ (.tail _ (.tail _ (.tail _ (.head _)))))))), dk_law.glo nx (.tail _ (.tail _ (.tail _ (.tail _ (.tail _ (.tail _ (.tail _ (.tail _ (.head _))))))))), nx.calm, nx.pas, bd_law_0.top nx rfl, fun C nc => bd_law_0.a nc (.head _) rfl, bd_law_1.top nx rfl, fun C nc => bd_law_1.a nc (.head _) rfl, fun C nc => bd_law_1.a nc (.tail _ (.head _)) rfl, sw_mk nx (osn := [(z_18, .local), (z_36, .local), (z_28, .local), (z_19, .local), (z_38, .local), (z_27, .local), (z_39, .globalImplicit), (z_40, .globalImplicit), (z_41, .globalImplicit), (z_42, .globalImplicit), (z_43, .globalImplicit), (z_16, .globalImplicit), (z_35, .globalImplicit), (z_44, .globalImplicit), (z_17, .globalImplicit)]) (sn := [(z_45, .local), (z_34, .local), (z_46, .globalImplicit)]) rfl (nmc e_18 (nmc e_36 (nmc e_28 (nmc e_19 (nmc e_38 (nmc e_27 (nmc e_39 (nmc e_40 (nmc e_41 (nmc e_42 (nmc e_43 (nmc e_16 (nmc e_35 (nmc e_44 (nmc e_17 (rfl)))))))))))))))) (nmc e_45 (nmc e_34 (nmc e_46 (rfl)))) e_36 (by decide +kernel)⟩
local macro_rules | `(tactic| walk_at "nm law") => `(tactic| obtain ⟨_, _, _, _, _, _, _, _, _, _, _, _, _, _, _, _, _, _, _, _, _, _, _⟩ := nm_law (by assumption))
structure Base (K : PySem.W.Frag) (mg : Str → Option Value) : Prop where
  f_abs : mg "abs" = none
  f_len : mg "len" = none
  f_isinstance : mg "isinstance" = none
  f_range : mg "range" = none
  f_list : mg "list" = none
  f_int : mg "int" = none
  f_bool : mg "bool" = none
  f_tuple : mg "tuple" = none
  f_sum : mg "sum" = none
  f_ValueError : mg "ValueError" = none
  g_HallError : mg "HallError" = some (.ref (He.ga K "HallError"))
  x_HallError : ExcT K mg "HallError"
  g_NoFraction : mg "NoFraction" = some (.ref (He.ga K "NoFraction"))
  x_NoFraction : ExcT K mg "NoFraction"
  m_NoFraction_NoFraction : PySem.W.exmOne K (.ref (He.ga K "NoFraction")) (.ref (He.ga K "NoFraction")) = some true
section
variable {P : Program} {w : World} {K : PySem.W.Frag} {mg : Str → Option Value} {base : Heap}
/-! ### divisor -/
def R_divisor (ds : List Dt) (r : Except Er Dt) : Prop := ∃ a b : Int, ds = [.int a, .int b] ∧ r = .ok (.int (Int.gcd a b))
theorem sx_divisor {X : Cx} {W : WX} (nx : Nx X n_divisor (defScope s_divisor)) (B : Base X.K X.mg) (tk : Takes X W) (hr : Room 0 X.A) {ds : List Dt} {r : Except Er Dt} (h : R_divisor ds r) : SX X W (defBody s_divisor) (ini n_divisor ds) (EndR r) := by
  obtain ⟨a, b, rfl, rfl⟩ := h
  walk_at "nm divisor"
  show SX X W _ [.dt (.int a), .dt (.int b), .no, .no, .no] _
  refine sx_set (ex_abs B.f_abs ex_v) ?_
  refine sx_set (ex_abs B.f_abs ex_v) ?_
  refine sx_while (fun δ' => ∃ (h t : Nat) (s : Sl), δ' = [.dt (.int a), .dt (.int b), .dt (.int h), .dt (.int t), s] ∧ Nat.gcd h t = Int.gcd a b) (fun δ' => match δ' with
    | [_, _, _, .dt (.int t), _] => t.natAbs
    | _ => 0) ⟨_, _, _, rfl, rfl⟩ ?_
  rintro δ' ⟨h, t, s, rfl, e⟩
  refine ⟨_, tx_neI ex_v ex_int, fun ht => ?_, fun ht => ?_⟩
  · have ht : t ≠ 0 := by simpa using ht
    refine sx_set (ex_mod ?_ ex_v ex_v) ?_
    · omega
    refine sx_set ex_v ?_
    refine sx_set ex_v ?_
    refine sx_nil ⟨⟨t, h % t, .dt (.int ((h % t : Nat) : Int)), rfl, ?_⟩, ?_⟩
    · rw [← e, Nat.gcd_comm h t, Nat.gcd_rec t h, Nat.gcd_comm]
    · show ((h : Int) % (t : Int)).natAbs < (t : Int).natAbs
      have := Nat.mod_lt h (Nat.pos_of_ne_zero ht)
      omega
  · have ht : t = 0 := by simpa using ht
    subst ht
    refine sx_ret ex_v ?_
    show Except.ok (Dt.int (Int.gcd a b)) = .ok (Dt.int h)
    rw [← e, Nat.gcd_zero_right]
theorem ok_divisor (B : Base K mg) {f : Addr} {fd : FuncData} (F : FunD K "divisor" "divisor" (defArgs s_divisor) (defBody s_divisor) (defScope s_divisor) [] [] f fd) :
    FnOk P w K mg base (L2.CX P w) 1 f fd p_divisor (spR K 2 R_divisor) :=
  fn_mk F dk_divisor.S rfl fun cdv A outer s H E hr tk ds r h => sx_divisor (nx_of dk_divisor.S) B tk hr h
/-! ### fraction -/
def fd (a : Int × Int) : Dt := .tup [.int a.1, .int a.2]
theorem ex_fd0 {X : Cx} {W : WX} {δ : List Sl} {e : Expr} {a : Int × Int} {p1 p2 : Pos} {j : Nat} (h : EX X W e δ (.ok (fd a))) : EX X W (.Subscript e (.Constant (.int 0) j p1) p2) δ (.ok (.int a.1)) := ex_ixT (ds := [.int a.1, .int a.2]) h ex_int
theorem ex_fd1 {X : Cx} {W : WX} {δ : List Sl} {e : Expr} {a : Int × Int} {p1 p2 : Pos} {j : Nat} (h : EX X W e δ (.ok (fd a))) : EX X W (.Subscript e (.Constant (.int 1) j p1) p2) δ (.ok (.int a.2)) := ex_ixT (ds := [.int a.1, .int a.2]) h ex_int
def noFr : Er := ⟨"NoFraction", none⟩
def R_fraction (ds : List Dt) (r : Except Er Dt) : Prop := ∃ t b : Int, ds = [.int t, .int b] ∧ ((b = 0 ∧ r = .error noFr) ∨ (b ≠ 0 ∧ (Int.gcd t b).log2 < 9000 ∧ r = .ok (fd (Fm.mk t b))))
theorem sx_fraction {X : Cx} {W : WX} (nx : Nx X n_fraction (defScope s_fraction)) (B : Base X.K X.mg) (tk : Takes X W) (hr : Room 1 X.A) (G_divisor : Fn X.prog X.w X.K X.mg X.base "divisor" 2 1 R_divisor) {ds : List Dt} {r : Except Er Dt} (h : R_fraction ds r) : SX X W (defBody s_fraction) (ini n_fraction ds) (EndR r) := by
  obtain ⟨t, b, rfl, h⟩ := h
  walk_at "nm fraction"
  show SX X W _ [.dt (.int t), .dt (.int b), .no] _
  refine sx_if (tx_eqI ex_v ex_int) (fun hb => ?_) (fun hb => ?_)
  · have hb : b = 0 := by simpa using hb
    refine sx_raise1 B.x_NoFraction tk ?_
    rcases h with ⟨_, rfl⟩ | ⟨h, _⟩
    · rfl
    · exact absurd hb h
  have hb : b ≠ 0 := by simpa using hb
  obtain ⟨hl9, rfl⟩ : (Int.gcd t b).log2 < 9000 ∧ r = .ok (Pf.fd (Fm.mk t b)) := by
    rcases h with ⟨h, _⟩ | ⟨_, h1, h2⟩
    · exact absurd h hb
    · exact ⟨h1, h2⟩
  refine sx_nil ?_
  refine sx_set (ex_call G_divisor tk (hr.mono (by decide)) (ax_cons ex_v (ax_cons ex_v ax_nil)) ⟨t, b, rfl, rfl⟩) ?_
  have hc : CDivG t (Fm.by_ t b) ∧ CDivG b (Fm.by_ t b) := ⟨⟨Fm.by_ne hb, by rw [Fm.by_abs]; exact hl9⟩, ⟨Fm.by_ne hb, by rw [Fm.by_abs]; exact hl9⟩⟩
  refine sx_if (tx_lt ex_v ex_int) (fun hn => ?_) (fun hn => ?_)
  · have hn : b < 0 := by simpa using hn
    refine sx_set (ex_sub ex_int ex_v) ?_
    have e : 0 - ((Int.gcd t b : Nat) : Int) = Fm.by_ t b := by
      unfold Fm.by_
      rw [if_pos hn]
    rw [e]
    refine sx_nil (sx_ret (ex_tup (ax_cons (ex_divG hc.1 ex_v ex_v) (ax_cons (ex_divG hc.2 ex_v ex_v) ax_nil))) ?_)
    rw [← Fm.mk_by hb]
    rfl
  · have hn : ¬ b < 0 := by simpa using hn
    have e : ((Int.gcd t b : Nat) : Int) = Fm.by_ t b := by
      unfold Fm.by_
      rw [if_neg hn]
    rw [e]
    refine sx_nil (sx_ret (ex_tup (ax_cons (ex_divG hc.1 ex_v ex_v) (ax_cons (ex_divG hc.2 ex_v ex_v) ax_nil))) ?_)
    rw [← Fm.mk_by hb]
    rfl
theorem ok_fraction (B : Base K mg) {f : Addr} {fd : FuncData} (F : FunD K "fraction" "fraction" (defArgs s_fraction) (defBody s_fraction) (defScope s_fraction) [] [] f fd) (G_divisor : Fn P w K mg base "divisor" 2 1 R_divisor) :
    FnOk P w K mg base (L2.CX P w) 2 f fd p_fraction (spR K 2 R_fraction) :=
  fn_mk F dk_fraction.S rfl fun cdv A outer s H E hr tk ds r h => sx_fraction (nx_of dk_fraction.S) B tk hr G_divisor h
/-! ### plus -/
def R_plus (ds : List Dt) (r : Except Er Dt) : Prop := ∃ (a b : Fm.Fr) (n m : Nat), ds = [fd a, fd b] ∧ Fm.Sz n a ∧ Fm.Sz m b ∧ n + m ≤ 8900 ∧ 0 < n ∧ 0 < m ∧ r = .ok (fd (Fm.plus a b))
theorem sx_plus {X : Cx} {W : WX} (nx : Nx X n_plus (defScope s_plus)) (B : Base X.K X.mg) (tk : Takes X W) (hr : Room 2 X.A) (G_fraction : Fn X.prog X.w X.K X.mg X.base "fraction" 2 2 R_fraction) {ds : List Dt} {r : Except Er Dt} (h : R_plus ds r) : SX X W (defBody s_plus) (ini n_plus ds) (EndR r) := by
  obtain ⟨a, b, n, m, rfl, ha, hb, hl, n0, m0, hres⟩ := h
  walk_at "nm plus"
  show SX X W _ [.dt (fd a), .dt (fd b)] _
  have w00 : CMulW a.1 b.1 := wide_mul ha.top hb.top n0 m0 (by omega)
  have w01 : CMulW a.1 b.2 := wide_mul ha.top hb.bot n0 m0 (by omega)
  have w10 : CMulW b.1 a.2 := wide_mul hb.top ha.bot m0 n0 (by omega)
  have w11 : CMulW a.2 b.2 := wide_mul ha.bot hb.bot n0 m0 (by omega)
  have w12 : CMulW a.2 b.1 := wide_mul ha.bot hb.top n0 m0 (by omega)
  have hne : a.2 * b.2 ≠ 0 := Fm.mul_ne (by have := ha.pos; omega) (by have := hb.pos; omega)
  have hlog : ∀ t, (Int.gcd t (a.2 * b.2)).log2 < 9000 := fun t => Nat.lt_of_lt_of_le (Fm.gcd_log (by omega) hne (Fm.lt_mul ha.bot hb.bot)) (by omega)
  subst hres
  exact sx_ret (ex_call G_fraction tk (hr.mono (by decide)) (ax_cons (ex_add (ex_mul w01 (ex_fd0 ex_v) (ex_fd1 ex_v)) (ex_mul w10 (ex_fd0 ex_v) (ex_fd1 ex_v))) (ax_cons (ex_mul w11 (ex_fd1 ex_v) (ex_fd1 ex_v)) ax_nil)) ⟨_, _, rfl, .inr ⟨hne, hlog _, rfl⟩⟩) rfl
theorem ok_plus (B : Base K mg) {f : Addr} {fd : FuncData} (F : FunD K "plus" "plus" (defArgs s_plus) (defBody s_plus) (defScope s_plus) [] [] f fd) (G_fraction : Fn P w K mg base "fraction" 2 2 R_fraction) :
    FnOk P w K mg base (L2.CX P w) 3 f fd p_plus (spR K 2 R_plus) :=
  fn_mk F dk_plus.S rfl fun cdv A outer s H E hr tk ds r h => sx_plus (nx_of dk_plus.S) B tk hr G_fraction h
/-! ### over -/
def R_over (ds : List Dt) (r : Except Er Dt) : Prop := ∃ (a b : Fm.Fr) (n m : Nat), ds = [fd a, fd b] ∧ Fm.Sz n a ∧ Fm.Sz m b ∧ n + m ≤ 8900 ∧ 0 < n ∧ 0 < m ∧ ((b.1 = 0 ∧ r = .error noFr) ∨ (b.1 ≠ 0 ∧ r = .ok (fd (Fm.over a b))))
theorem sx_over {X : Cx} {W : WX} (nx : Nx X n_over (defScope s_over)) (B : Base X.K X.mg) (tk : Takes X W) (hr : Room 2 X.A) (G_fraction : Fn X.prog X.w X.K X.mg X.base "fraction" 2 2 R_fraction) {ds : List Dt} {r : Except Er Dt} (h : R_over ds r) : SX X W (defBody s_over) (ini n_over ds) (EndR r) := by
  obtain ⟨a, b, n, m, rfl, ha, hb, hl, n0, m0, hres⟩ := h
  walk_at "nm over"
  show SX X W _ [.dt (fd a), .dt (fd b)] _
  have w00 : CMulW a.1 b.1 := wide_mul ha.top hb.top n0 m0 (by omega)
  have w01 : CMulW a.1 b.2 := wide_mul ha.top hb.bot n0 m0 (by omega)
  have w10 : CMulW b.1 a.2 := wide_mul hb.top ha.bot m0 n0 (by omega)
  have w11 : CMulW a.2 b.2 := wide_mul ha.bot hb.bot n0 m0 (by omega)
  have w12 : CMulW a.2 b.1 := wide_mul ha.bot hb.top n0 m0 (by omega)
  rcases hres with ⟨hz, rfl⟩ | ⟨hz, rfl⟩
  · exact sx_ret_er (ex_call G_fraction tk (hr.mono (by decide)) (ax_cons (ex_mul w01 (ex_fd0 ex_v) (ex_fd1 ex_v)) (ax_cons (ex_mul w12 (ex_fd1 ex_v) (ex_fd0 ex_v)) ax_nil)) ⟨_, _, rfl, .inl ⟨by rw [hz, Int.mul_zero], rfl⟩⟩) rfl
  · have hne : a.2 * b.1 ≠ 0 := Fm.mul_ne (by have := ha.pos; omega) hz
    exact sx_ret (ex_call G_fraction tk (hr.mono (by decide)) (ax_cons (ex_mul w01 (ex_fd0 ex_v) (ex_fd1 ex_v)) (ax_cons (ex_mul w12 (ex_fd1 ex_v) (ex_fd0 ex_v)) ax_nil)) ⟨_, _, rfl, .inr ⟨hne, Nat.lt_of_lt_of_le (Fm.gcd_log (by omega) hne (Fm.lt_mul ha.bot hb.top)) (by omega), rfl⟩⟩) rfl
theorem ok_over (B : Base K mg) {f : Addr} {fd : FuncData} (F : FunD K "over" "over" (defArgs s_over) (defBody s_over) (defScope s_over) [] [] f fd) (G_fraction : Fn P w K mg base "fraction" 2 2 R_fraction) :
    FnOk P w K mg base (L2.CX P w) 3 f fd p_over (spR K 2 R_over) :=
  fn_mk F dk_over.S rfl fun cdv A outer s H E hr tk ds r h => sx_over (nx_of dk_over.S) B tk hr G_fraction h
/-! ### total -/
def fq (q : Rat) : Dt := fd (Fm.fr q)
theorem fq_zero : fq 0 = .tup [.int 0, .int 1] := rfl
theorem fq_int (n : Int) : fq (n : Rat) = .tup [.int n, .int 1] := by
  unfold fq
  rw [Fm.fr_int]
  rfl
/-- fractions over one common bottom -/
structure Summing (t d : Nat) (qs : List Rat) : Prop where
  ex : ∃ D : Nat, 0 < D ∧ D < 2 ^ d ∧ ∀ q ∈ qs, q.den ∣ D
  top : ∀ q ∈ qs, q.num.natAbs < 2 ^ t
  len : qs.length < 2 ^ 20
  sml : 2 * (t + d) ≤ 8000
theorem Summing.take {t d : Nat} {qs : List Rat} (h : Summing t d qs) (i : Nat) : Fm.Sz (t + d + 20) (Fm.fr (qs.take i).sum) := by
  obtain ⟨D, h0, h1, h2⟩ := h.ex
  exact Fm.sum_sz h0 h1 (fun q hq => h2 q (List.mem_of_mem_take hq)) (fun q hq => h.top q (List.mem_of_mem_take hq)) (Nat.lt_of_le_of_lt (List.length_take_le' _ _) h.len)
theorem Summing.sz {t d : Nat} {qs : List Rat} (h : Summing t d qs) : Fm.Sz (t + d + 20) (Fm.fr qs.sum) := by
  have := h.take qs.length
  rwa [List.take_length] at this
theorem Summing.one {t d : Nat} {qs : List Rat} (h : Summing t d qs) {q : Rat} (hq : q ∈ qs) : Fm.Sz (t + d + 1) (Fm.fr q) := by
  obtain ⟨D, h0, h1, h2⟩ := h.ex
  refine Fm.sz_fr (Nat.lt_of_lt_of_le (h.top q hq) (Nat.pow_le_pow_right (by decide) (by omega))) ?_
  have := Nat.le_of_dvd h0 (h2 q hq)
  have : 2 ^ d ≤ 2 ^ (t + d + 1) := Nat.pow_le_pow_right (by decide) (by omega)
  omega
theorem sum_take {qs : List Rat} {i : Nat} {q : Rat} (h : qs[i]? = some q) : (qs.take (i + 1)).sum = (qs.take i).sum + q := by
  have sum_app : ∀ l : List Rat, (l ++ [q]).sum = l.sum + q := fun l => by
    induction l with
    | nil => show q + 0 = 0 + q; rw [Rat.add_comm]
    | cons a l ih => rw [List.cons_append, List.sum_cons, ih, List.sum_cons, Rat.add_assoc]
  rw [List.take_add_one, h]
  exact sum_app _
def R_total (ds : List Dt) (r : Except Er Dt) : Prop := ∃ (qs : List Rat) (t d : Nat), ds = [.lst (qs.map fq)] ∧ Summing t d qs ∧ r = .ok (fq qs.sum)
theorem sx_total {X : Cx} {W : WX} (nx : Nx X n_total (defScope s_total)) (B : Base X.K X.mg) (tk : Takes X W) (hr : Room 3 X.A) (G_plus : Fn X.prog X.w X.K X.mg X.base "plus" 2 3 R_plus) {ds : List Dt} {r : Except Er Dt} (h : R_total ds r) : SX X W (defBody s_total) (ini n_total ds) (EndR r) := by
  obtain ⟨qs, t, d, rfl, hs, rfl⟩ := h
  walk_at "nm total"
  show SX X W _ [.dt (.lst (qs.map fq)), .no, .no] _
  refine sx_set (ex_tup (ax_cons ex_int (ax_cons ex_int ax_nil))) ?_
  refine sx_forL ex_v (fun i δ' => ∃ s1 : Sl, δ' = [.dt (.lst (qs.map fq)), .dt (fq (qs.take i).sum), s1]) ⟨_, rfl⟩ ?_ ?_
  · rintro i dd δ' hi ⟨s1, rfl⟩
    rw [List.getElem?_map] at hi
    obtain ⟨q, hq, rfl⟩ := Option.map_eq_some_iff.mp hi
    have hm : q ∈ qs := List.mem_of_getElem? hq
    have hb := hs.sml
    refine sx_set (ex_call G_plus tk (hr.mono (by decide)) (ax_cons ex_v (ax_cons ex_v ax_nil)) ⟨_, _, _, _, rfl, hs.take i, hs.one hm, by omega, by omega, by omega, rfl⟩) (sx_nil ⟨.dt (fq q), ?_⟩)
    rw [Fm.plus_fr, ← sum_take hq]
    rfl
  · rintro δ' ⟨s1, rfl⟩
    refine sx_ret ex_v (endR_rt ?_)
    rw [List.length_map, List.take_length]
theorem ok_total (B : Base K mg) {f : Addr} {fd : FuncData} (F : FunD K "total" "total" (defArgs s_total) (defBody s_total) (defScope s_total) [] [] f fd) (G_plus : Fn P w K mg base "plus" 2 3 R_plus) :
    FnOk P w K mg base (L2.CX P w) 4 f fd p_total (spR K 1 R_total) :=
  fn_mk F dk_total.S rfl fun cdv A outer s H E hr tk ds r h => sx_total (nx_of dk_total.S) B tk hr G_plus h
/-! ### mean -/
def R_mean (ds : List Dt) (r : Except Er Dt) : Prop := ∃ (qs : List Rat) (t d : Nat), ds = [.lst (qs.map fq)] ∧ Summing t d qs ∧ ((qs = [] ∧ r = .error noFr) ∨ (qs ≠ [] ∧ r = .ok (fq (qs.sum / ((qs.length : Int) : Rat)))))
theorem len_sz {qs : List Rat} (h : qs.length < 2 ^ 20) : Fm.Sz 20 (Fm.fr ((qs.length : Int) : Rat)) := by
  rw [Fm.fr_int]
  refine ⟨?_, (by decide : (0 : Int) < 1), (by decide : (1 : Int).natAbs < 2 ^ 20)⟩
  show ((qs.length : Int)).natAbs < _
  omega
theorem sx_mean {X : Cx} {W : WX} (nx : Nx X n_mean (defScope s_mean)) (B : Base X.K X.mg) (tk : Takes X W) (hr : Room 4 X.A) (G_over : Fn X.prog X.w X.K X.mg X.base "over" 2 3 R_over) (G_total : Fn X.prog X.w X.K X.mg X.base "total" 1 4 R_total) {ds : List Dt} {r : Except Er Dt} (h : R_mean ds r) : SX X W (defBody s_mean) (ini n_mean ds) (EndR r) := by
  obtain ⟨qs, t, d, rfl, hs, hr2⟩ := h
  walk_at "nm mean"
  show SX X W _ [.dt (.lst (qs.map fq))] _
  have hb := hs.sml
  have hl := len_sz hs.len
  have el : Dt.tup [.int ((qs.map fq).length : Nat), .int 1] = fd (Fm.fr ((qs.length : Int) : Rat)) := by
    rw [List.length_map, Fm.fr_int]
    rfl
  rcases hr2 with ⟨rfl, rfl⟩ | ⟨hne, rfl⟩
  · exact sx_ret_er (ex_call G_over tk (hr.mono (by decide)) (ax_cons (ex_call G_total tk (hr.mono (by decide)) (ax_cons ex_v ax_nil) ⟨_, t, d, rfl, hs, rfl⟩) (ax_cons (ex_tup (ax_cons (ex_lenL B.f_len ex_v) (ax_cons ex_int ax_nil))) ax_nil)) ⟨_, (0, 1), _, 20, rfl, hs.sz, ⟨by decide, by decide, by decide⟩, by omega, by omega, by omega, .inl ⟨rfl, rfl⟩⟩) rfl
  · have hn : ((qs.length : Int) : Rat) ≠ 0 := Fm.ne_of_pos (by have := List.length_pos_iff.mpr hne; omega)
    refine sx_ret (ex_call G_over tk (hr.mono (by decide)) (ax_cons (ex_call G_total tk (hr.mono (by decide)) (ax_cons ex_v ax_nil) ⟨_, t, d, rfl, hs, rfl⟩) (ax_cons (el ▸ ex_tup (ax_cons (ex_lenL B.f_len ex_v) (ax_cons ex_int ax_nil))) ax_nil)) ⟨_, _, _, 20, rfl, hs.sz, hl, by omega, by omega, by omega, .inr ⟨fun e => hn (Fm.fr_zero.mp e), rfl⟩⟩) ?_
    rw [Fm.over_fr hn]
    rfl
theorem ok_mean (B : Base K mg) {f : Addr} {fd : FuncData} (F : FunD K "mean" "mean" (defArgs s_mean) (defBody s_mean) (defScope s_mean) [] [] f fd) (G_over : Fn P w K mg base "over" 2 3 R_over) (G_total : Fn P w K mg base "total" 1 4 R_total) :
    FnOk P w K mg base (L2.CX P w) 5 f fd p_mean (spR K 1 R_mean) :=
  fn_mk F dk_mean.S rfl fun cdv A outer s H E hr tk ds r h => sx_mean (nx_of dk_mean.S) B tk hr G_over G_total h
/-! ### _law_cell -/
def cellN (ns : List Int) (k : Nat) : Int := if 0 < ns.length then (ns.getD (k * 7 % ns.length) 0 * 48271 + (k : Int) * 7919) % 2147483647 else (k : Int) * 7919 + 5
def cellV (ns : List Int) (k : Nat) : Int := if k < ns.length then ns.getD k 0 else cellN ns k * cellN ns k % 2147483629
theorem at_ints {ns : List Int} {k : Nat} (h : k < ns.length) : atI (ns.map Dt.int) (k : Int) = some (.int (ns.getD k 0)) := by
  refine atI_nat ?_
  rw [List.getElem?_map, List.getElem?_eq_getElem h, List.getD_eq_getElem?_getD, List.getElem?_eq_getElem h]
  rfl
def R__law_cell (ds : List Dt) (r : Except Er Dt) : Prop := ∃ (ns : List Int) (k : Nat), ds = [.lst (ns.map Dt.int), .int k] ∧ k < 1000000 ∧ r = .ok (.int (cellV ns k))
theorem sx__law_cell {X : Cx} {W : WX} (nx : Nx X n__law_cell (defScope s__law_cell)) (B : Base X.K X.mg) (tk : Takes X W) (hr : Room 0 X.A) {ds : List Dt} {r : Except Er Dt} (h : R__law_cell ds r) : SX X W (defBody s__law_cell) (ini n__law_cell ds) (EndR r) := by
  obtain ⟨ns, k, rfl, hk, rfl⟩ := h
  walk_at "nm _law_cell"
  show SX X W _ [.dt (.lst (ns.map Dt.int)), .dt (.int k), .no] _
  refine sx_if (tx_lt ex_v (ex_lenL B.f_len ex_v)) (fun h => ?_) (fun h => ?_)
  · have h : k < ns.length := by simpa using h
    refine sx_ret (ex_ixL ex_v ex_v (at_ints h)) ?_
    show Except.ok (Dt.int (cellV ns k)) = _
    unfold cellV
    rw [if_pos h]
  have h : ¬ k < ns.length := by simpa using h
  refine sx_nil ?_
  refine sx_set (ex_add (ex_mulS ?_ ex_v ex_int) ex_int) ?_
  · exact .inr ⟨by decide, by decide⟩
  refine sx_if (tx_gt (ex_lenL B.f_len ex_v) ex_int) (fun h2 => ?_) (fun h2 => ?_)
  · have h2 : 0 < ns.length := by simpa using h2
    have hm : k * 7 % ns.length < ns.length := Nat.mod_lt _ h2
    refine sx_set (ex_mod ?_ (ex_add (ex_mulS ?_ (ex_ixL ex_v (ex_mod ?_ (ex_mulS ?_ ex_v ex_int) (ex_lenL B.f_len ex_v)) (d := .int (ns.getD (k * 7 % ns.length) 0)) ?_) ex_int) (ex_mulS ?_ ex_v ex_int)) ex_int) ?_
    · decide
    · exact .inr ⟨by decide, by decide⟩
    · rw [List.length_map]; omega
    · exact .inr ⟨by decide, by decide⟩
    · rw [List.length_map, show (k : Int) * 7 % (ns.length : Int) = ((k * 7 % ns.length : Nat) : Int) by rw [Int.natCast_emod, Int.natCast_mul]; rfl]
      exact at_ints hm
    · exact .inr ⟨by decide, by decide⟩
    have e : (ns.getD (k * 7 % ns.length) 0 * 48271 + (k : Int) * 7919) % 2147483647 = cellN ns k := by
      unfold cellN
      rw [if_pos h2]
    have b1 : 0 ≤ cellN ns k := by rw [← e]; exact Int.emod_nonneg _ (by decide)
    have b2 : cellN ns k < 2147483647 := by rw [← e]; exact Int.emod_lt_of_pos _ (by decide)
    rw [e]
    refine sx_nil (sx_ret (ex_mod ?_ (ex_mulS ?_ ex_v ex_v) ex_int) ?_)
    · decide
    · exact .inl ⟨by omega, by omega⟩
    show Except.ok (Dt.int (cellV ns k)) = _
    unfold cellV
    rw [if_neg h]
  · have h2 : ¬ 0 < ns.length := by simpa using h2
    have e : (k : Int) * 7919 + 5 = cellN ns k := by
      unfold cellN
      rw [if_neg h2]
    rw [e]
    refine sx_nil (sx_ret (ex_mod ?_ (ex_mulS ?_ ex_v ex_v) ex_int) ?_)
    · decide
    · rw [← e]
      exact .inl ⟨by omega, by omega⟩
    show Except.ok (Dt.int (cellV ns k)) = _
    unfold cellV
    rw [if_neg h]
theorem ok__law_cell (B : Base K mg) {f : Addr} {fd : FuncData} (F : FunD K "_law_cell" "_law_cell" (defArgs s__law_cell) (defBody s__law_cell) (defScope s__law_cell) [] [] f fd) :
    FnOk P w K mg base (L2.CX P w) 1 f fd p__law_cell (spR K 2 R__law_cell) :=
  fn_mk F dk__law_cell.S rfl fun cdv A outer s H E hr tk ds r h => sx__law_cell (nx_of dk__law_cell.S) B tk hr h
/-! ### _law_divisor -/
def R__law_divisor (ds : List Dt) (r : Except Er Dt) : Prop := ∃ a b : Int, ds = [.int a, .int b] ∧ r = .ok (.int (Int.gcd a b))
theorem sx__law_divisor {X : Cx} {W : WX} (nx : Nx X n__law_divisor (defScope s__law_divisor)) (B : Base X.K X.mg) (tk : Takes X W) (hr : Room 0 X.A) {ds : List Dt} {r : Except Er Dt} (h : R__law_divisor ds r) : SX X W (defBody s__law_divisor) (ini n__law_divisor ds) (EndR r) := by
  obtain ⟨a, b, rfl, rfl⟩ := h
  walk_at "nm _law_divisor"
  show SX X W _ [.dt (.int a), .dt (.int b)] _
  refine sx_set (ex_abs B.f_abs ex_v) ?_
  refine sx_set (ex_abs B.f_abs ex_v) ?_
  refine sx_while (fun δ' => ∃ h t : Nat, δ' = [.dt (.int h), .dt (.int t)] ∧ Nat.gcd h t = Int.gcd a b) (fun δ' => match δ' with
    | [_, .dt (.int t)] => t.natAbs
    | _ => 0) ⟨_, _, rfl, rfl⟩ ?_
  rintro δ' ⟨h, t, rfl, e⟩
  refine ⟨_, tx_gt ex_v ex_int, fun ht => ?_, fun ht => ?_⟩
  · have ht : 0 < t := by simpa using ht
    refine sx_par nx ex_v (ex_mod ?_ ex_v ex_v) ?_
    · omega
    refine sx_nil ⟨⟨t, h % t, rfl, ?_⟩, ?_⟩
    · rw [← e, Nat.gcd_comm h t, Nat.gcd_rec t h, Nat.gcd_comm]
    · show ((h : Int) % (t : Int)).natAbs < (t : Int).natAbs
      have := Nat.mod_lt h ht
      omega
  · have ht : t = 0 := by simpa using ht
    subst ht
    refine sx_ret ex_v ?_
    show Except.ok (Dt.int (Int.gcd a b)) = .ok (Dt.int h)
    rw [← e, Nat.gcd_zero_right]
theorem ok__law_divisor (B : Base K mg) {f : Addr} {fd : FuncData} (F : FunD K "_law_divisor" "_law_divisor" (defArgs s__law_divisor) (defBody s__law_divisor) (defScope s__law_divisor) [] [] f fd) :
    FnOk P w K mg base (L2.CX P w) 1 f fd p__law_divisor (spR K 2 R__law_divisor) :=
  fn_mk F dk__law_divisor.S rfl fun cdv A outer s H E hr tk ds r h => sx__law_divisor (nx_of dk__law_divisor.S) B tk hr h
/-! ### _law_low -/
def R__law_low (ds : List Dt) (r : Except Er Dt) : Prop := ∃ t b : Int, ds = [.int t, .int b] ∧ b ≠ 0 ∧ (Int.gcd t b).log2 < 9000 ∧ r = .ok (fd (Fm.mk t b))
theorem sx__law_low {X : Cx} {W : WX} (nx : Nx X n__law_low (defScope s__law_low)) (B : Base X.K X.mg) (tk : Takes X W) (hr : Room 1 X.A) (G__law_divisor : Fn X.prog X.w X.K X.mg X.base "_law_divisor" 2 1 R__law_divisor) {ds : List Dt} {r : Except Er Dt} (h : R__law_low ds r) : SX X W (defBody s__law_low) (ini n__law_low ds) (EndR r) := by
  obtain ⟨t, b, rfl, hb, hl9, rfl⟩ := h
  walk_at "nm _law_low"
  show SX X W _ [.dt (.int t), .dt (.int b), .no] _
  refine sx_set (ex_call G__law_divisor tk (hr.mono (by decide)) (ax_cons ex_v (ax_cons ex_v ax_nil)) ⟨t, b, rfl, rfl⟩) ?_
  have hc : CDivG t (Fm.by_ t b) ∧ CDivG b (Fm.by_ t b) := ⟨⟨Fm.by_ne hb, by rw [Fm.by_abs]; exact hl9⟩, ⟨Fm.by_ne hb, by rw [Fm.by_abs]; exact hl9⟩⟩
  refine sx_if (tx_lt ex_v ex_int) (fun hn => ?_) (fun hn => ?_)
  · have hn : b < 0 := by simpa using hn
    refine sx_set (ex_sub ex_int ex_v) ?_
    have e : 0 - ((Int.gcd t b : Nat) : Int) = Fm.by_ t b := by
      unfold Fm.by_
      rw [if_pos hn]
    rw [e]
    refine sx_nil (sx_ret (ex_tup (ax_cons (ex_divG hc.1 ex_v ex_v) (ax_cons (ex_divG hc.2 ex_v ex_v) ax_nil))) ?_)
    rw [← Fm.mk_by hb]
    rfl
  · have hn : ¬ b < 0 := by simpa using hn
    have e : ((Int.gcd t b : Nat) : Int) = Fm.by_ t b := by
      unfold Fm.by_
      rw [if_neg hn]
    rw [e]
    refine sx_nil (sx_ret (ex_tup (ax_cons (ex_divG hc.1 ex_v ex_v) (ax_cons (ex_divG hc.2 ex_v ex_v) ax_nil))) ?_)
    rw [← Fm.mk_by hb]
    rfl
theorem ok__law_low (B : Base K mg) {f : Addr} {fd : FuncData} (F : FunD K "_law_low" "_law_low" (defArgs s__law_low) (defBody s__law_low) (defScope s__law_low) [] [] f fd) (G__law_divisor : Fn P w K mg base "_law_divisor" 2 1 R__law_divisor) :
    FnOk P w K mg base (L2.CX P w) 2 f fd p__law_low (spR K 2 R__law_low) :=
  fn_mk F dk__law_low.S rfl fun cdv A outer s H E hr tk ds r h => sx__law_low (nx_of dk__law_low.S) B tk hr G__law_divisor h
/-! ### _law_is -/
theorem eqOk_fd (a : Int × Int) : EqOk (fd a) := ⟨rfl, by simp [fd, Dt.py, Dt.pys, SeqAt.shaped, PyData.canLay0, PyData.canLayAll0, PyData.depth, PyData.depthAll]⟩
theorem eqv_fd (a b : Int × Int) : PyData.eqv (fd a).py (fd b).py = decide (a = b) := by
  obtain ⟨a1, a2⟩ := a
  obtain ⟨b1, b2⟩ := b
  simp only [fd, Dt.py, Dt.pys, PyData.eqv, PyData.eqvAll, Bool.and_true]
  by_cases h1 : a1 = b1 <;> by_cases h2 : a2 = b2 <;> simp [h1, h2]
def R__law_is (ds : List Dt) (r : Except Er Dt) : Prop := ∃ a b : Int × Int, ds = [fd a, fd b] ∧ r = .ok (.bl (decide (a = b)))
theorem sx__law_is {X : Cx} {W : WX} (nx : Nx X n__law_is (defScope s__law_is)) (B : Base X.K X.mg) (tk : Takes X W) (hr : Room 0 X.A) {ds : List Dt} {r : Except Er Dt} (h : R__law_is ds r) : SX X W (defBody s__law_is) (ini n__law_is ds) (EndR r) := by
  obtain ⟨a, b, rfl, rfl⟩ := h
  walk_at "nm _law_is"
  show SX X W _ [.dt (Pf.fd a), .dt (Pf.fd b), .no] _
  refine sx_if (tx_bool (tw_or (k := false) (tx_not (k := true) (tx_val (ex_isi "tuple" B.f_isinstance B.f_tuple ex_v))) fun _ => tw_or (tx_neI (ex_lenT B.f_len ex_v) ex_int) fun _ => tw_or1 (tx_neD (eqv_fd a b) (eqOk_fd a) (eqOk_fd b) hr.units ex_v ex_v))) (fun h => ?_) (fun h => ?_)
  · have h : ¬ a = b := by simpa using h
    exact sx_ret ex_bl (endR_rt (by rw [decide_eq_false h]))
  · have h : a = b := by simpa using h
    subst h
    refine sx_nil ?_
    refine sx_forT (ds := [.int a.1, .int a.2]) ex_v (fun i δ' => ∃ s, δ' = [.dt (Pf.fd a), .dt (Pf.fd a), s]) ⟨_, rfl⟩ ?_ ?_
    · rintro i d δ' hd ⟨s, rfl⟩
      have hd : ∃ n : Int, d = .int n := by
        have := List.mem_of_getElem? hd
        simp only [List.mem_cons, List.mem_nil_iff, or_false] at this
        rcases this with rfl | rfl
        · exact ⟨_, rfl⟩
        · exact ⟨_, rfl⟩
      obtain ⟨n, rfl⟩ := hd
      refine sx_if (k := false) (tx_bool (tw_or (k := false) (tx_not (k := true) (tx_val (ex_isi "int" B.f_isinstance B.f_int ex_v))) fun _ => tw_or1 (tx_val (ex_isi "bool" B.f_isinstance B.f_bool ex_v)))) (fun h => absurd h (by decide)) (fun h => ?_)
      exact sx_nil (sx_nil ⟨_, rfl⟩)
    · rintro δ' ⟨s, rfl⟩
      exact sx_ret ex_bl (endR_rt (by rw [decide_eq_true rfl]))
theorem ok__law_is (B : Base K mg) {f : Addr} {fd : FuncData} (F : FunD K "_law_is" "_law_is" (defArgs s__law_is) (defBody s__law_is) (defScope s__law_is) [] [] f fd) :
    FnOk P w K mg base (L2.CX P w) 1 f fd p__law_is (spR K 2 R__law_is) :=
  fn_mk F dk__law_is.S rfl fun cdv A outer s H E hr tk ds r h => sx__law_is (nx_of dk__law_is.S) B tk hr h
/-! ### _law_fraction -/
def topV (c : Int) : Int := if c % 2 = 1 then c / 24 % (2 * 10 ^ 20) - 10 ^ 20 else c / 24 % 19 - 9
def botV (c : Int) : Int := 1 + c / 2 % 12
theorem topV_bd (c : Int) : (topV c).natAbs < 2 ^ 70 := by
  have h1 : 0 ≤ c / 24 % 19 := Int.emod_nonneg _ (by decide)
  have h2 : c / 24 % 19 < 19 := Int.emod_lt_of_pos _ (by decide)
  have h3 : 0 ≤ c / 24 % (2 * 10 ^ 20) := Int.emod_nonneg _ (by decide)
  have h4 : c / 24 % (2 * 10 ^ 20) < 2 * 10 ^ 20 := Int.emod_lt_of_pos _ (by decide)
  unfold topV
  split <;> omega
theorem botV_bd (c : Int) : 1 ≤ botV c ∧ botV c ≤ 12 := by
  unfold botV
  omega
/-- the drawn fraction -/
def lawQ (c : Int) : Rat := (topV c : Rat) / (botV c : Rat)
theorem lawQ_mk (c : Int) : Fm.mk (topV c) (botV c) = Fm.fr (lawQ c) := Fm.mk_rat (by have := botV_bd c; omega)
theorem lawQ_sz (c : Int) : Fm.Sz 70 (Fm.fr (lawQ c)) := by
  rw [← lawQ_mk]
  have hb := botV_bd c
  exact Fm.mk_sz (by omega) (topV_bd c) (by omega)
theorem lawQ_den (c : Int) : (lawQ c).den ∣ 27720 := by
  have hb := botV_bd c
  have h1 : ((lawQ c).den : Int) ∣ botV c := by
    have e : (Fm.fr (lawQ c)).2 = (Fm.mk (topV c) (botV c)).2 := by rw [lawQ_mk]
    have e2 : ((lawQ c).den : Int) = (Fm.mk (topV c) (botV c)).2 := e
    rw [e2]
    unfold Fm.mk
    rw [if_neg (by omega)]
    exact Int.ediv_dvd_of_dvd (Fm.gd2 _ _)
  have h2 : botV c ∣ 27720 := by
    have : botV c = 1 ∨ botV c = 2 ∨ botV c = 3 ∨ botV c = 4 ∨ botV c = 5 ∨ botV c = 6 ∨ botV c = 7 ∨ botV c = 8 ∨ botV c = 9 ∨ botV c = 10 ∨ botV c = 11 ∨ botV c = 12 := by omega
    rcases this with h | h | h | h | h | h | h | h | h | h | h | h <;> rw [h] <;> decide
  have h3 := Int.dvd_trans h1 h2
  exact Int.natCast_dvd_natCast.mp h3
def R__law_fraction (ds : List Dt) (r : Except Er Dt) : Prop := ∃ c : Int, ds = [.int c] ∧ r = .ok (fq (lawQ c))
theorem sx__law_fraction {X : Cx} {W : WX} (nx : Nx X n__law_fraction (defScope s__law_fraction)) (B : Base X.K X.mg) (tk : Takes X W) (hr : Room 2 X.A) (G__law_low : Fn X.prog X.w X.K X.mg X.base "_law_low" 2 2 R__law_low) {ds : List Dt} {r : Except Er Dt} (h : R__law_fraction ds r) : SX X W (defBody s__law_fraction) (ini n__law_fraction ds) (EndR r) := by
  obtain ⟨c, rfl, rfl⟩ := h
  walk_at "nm _law_fraction"
  show SX X W _ [.dt (.int c), .no] _
  refine sx_set (ex_sub (ex_mod ?_ (ex_divS ?_ ex_v ex_int) ex_int) ex_int) ?_
  · decide
  · exact ⟨by decide, by decide⟩
  refine sx_ifJ (fun δ => δ = [.dt (.int c), .dt (.int (topV c))]) (tx_eqI (ex_mod ?_ ex_v ex_int) ex_int) (fun h => ?_) (fun h => ?_) ?_
  · decide
  · refine sx_set (ex_sub (ex_mod ?_ (ex_divS ?_ ex_v ex_int) (ex_mulS ?_ ex_int (ex_pow ?_ ex_int ex_int))) (ex_pow ?_ ex_int ex_int)) (sx_nil ?_)
    · decide
    · exact ⟨by decide, by decide⟩
    · exact .inl ⟨by decide, by decide⟩
    · exact ⟨by decide, by decide, by decide⟩
    · exact ⟨by decide, by decide, by decide⟩
    · unfold topV
      rw [if_pos (by simpa using h)]
      rfl
  · refine sx_nil ?_
    unfold topV
    rw [if_neg (by simpa using h)]
    rfl
  rintro δ rfl
  have hb := botV_bd c
  refine sx_ret (ex_call G__law_low tk (hr.mono (by decide)) (ax_cons ex_v (ax_cons (ex_add ex_int (ex_mod ?_ (ex_divS ?_ ex_v ex_int) ex_int)) ax_nil)) ⟨topV c, botV c, rfl, by omega, Nat.lt_of_lt_of_le (Fm.gcd_log (k := 70) (by decide) (by omega) (by omega)) (by decide), rfl⟩) ?_
  · decide
  · exact ⟨by decide, by decide⟩
  rw [lawQ_mk]
  rfl
theorem ok__law_fraction (B : Base K mg) {f : Addr} {fd : FuncData} (F : FunD K "_law_fraction" "_law_fraction" (defArgs s__law_fraction) (defBody s__law_fraction) (defScope s__law_fraction) [] [] f fd) (G__law_low : Fn P w K mg base "_law_low" 2 2 R__law_low) :
    FnOk P w K mg base (L2.CX P w) 3 f fd p__law_fraction (spR K 1 R__law_fraction) :=
  fn_mk F dk__law_fraction.S rfl fun cdv A outer s H E hr tk ds r h => sx__law_fraction (nx_of dk__law_fraction.S) B tk hr G__law_low h
/-! ### _law_mean -/
def meanOr (qs : List Rat) : Dt := if qs = [] then .non else fq (qs.sum / ((qs.length : Int) : Rat))
def R__law_mean (ds : List Dt) (r : Except Er Dt) : Prop := ∃ (qs : List Rat) (t d : Nat), ds = [.lst (qs.map fq)] ∧ Summing t d qs ∧ r = .ok (meanOr qs)
theorem sx__law_mean {X : Cx} {W : WX} (nx : Nx X n__law_mean (defScope s__law_mean)) (B : Base X.K X.mg) (tk : Takes X W) (hr : Room 5 X.A) (G_mean : Fn X.prog X.w X.K X.mg X.base "mean" 1 5 R_mean) {ds : List Dt} {r : Except Er Dt} (h : R__law_mean ds r) : SX X W (defBody s__law_mean) (ini n__law_mean ds) (EndR r) := by
  obtain ⟨qs, t, d, rfl, hs, rfl⟩ := h
  walk_at "nm _law_mean"
  show SX X W _ [.dt (.lst (qs.map fq)), .no] _
  refine sx_set ex_non ?_
  refine sx_try nx tk (fun o => (qs = [] ∧ o = .er [.dt (.lst (qs.map fq)), .dt .non] noFr) ∨ (qs ≠ [] ∧ o = .nx [.dt (.lst (qs.map fq)), .dt (fq (qs.sum / ((qs.length : Int) : Rat)))])) B.g_NoFraction (fun W' pn xe tk' nx' => ?_) ?_
  · walk_at "nm _law_mean"
    by_cases hz : qs = []
    · exact sx_set_er (ex_call G_mean tk' (hr.mono (by decide)) (ax_cons ex_v ax_nil) ⟨qs, t, d, rfl, hs, .inl ⟨hz, rfl⟩⟩) (.inl ⟨hz, rfl⟩)
    · refine sx_set (ex_call G_mean tk' (hr.mono (by decide)) (ax_cons ex_v ax_nil) ⟨qs, t, d, rfl, hs, .inr ⟨hz, rfl⟩⟩) ?_
      exact sx_nil (.inr ⟨hz, rfl⟩)
  · rintro o (⟨hz, rfl⟩ | ⟨hz, rfl⟩)
    · refine ⟨true, B.m_NoFraction_NoFraction, fun _ a oe d pn cg => ?_, fun z => absurd z (by decide)⟩
      refine sx_setS ex_non ?_
      exact sx_nil (sx_ret ex_v (endR_rt (if_pos hz).symm))
    · exact sx_ret ex_v (endR_rt (if_neg hz).symm)
theorem ok__law_mean (B : Base K mg) {f : Addr} {fd : FuncData} (F : FunD K "_law_mean" "_law_mean" (defArgs s__law_mean) (defBody s__law_mean) (defScope s__law_mean) [] [] f fd) (G_mean : Fn P w K mg base "mean" 1 5 R_mean) :
    FnOk P w K mg base (L2.CX P w) 6 f fd p__law_mean (spR K 1 R__law_mean) :=
  fn_mk F dk__law_mean.S rfl fun cdv A outer s H E hr tk ds r h => sx__law_mean (nx_of dk__law_mean.S) B tk hr G_mean h
/-! ### law -/
def R_law (ds : List Dt) (r : Except Er Dt) : Prop := ∃ ns : List Int, ns.length ≤ 63 ∧ ds = [.lst (ns.map Dt.int)] ∧ r = .ok (.bl true)
theorem R_law_mk (ns : List Int) (h : ns.length ≤ 63) : R_law [.lst (ns.map Dt.int)] (.ok (.bl true)) := ⟨ns, h, rfl, rfl⟩
theorem cut_ints (ns : List Int) (u v : Option Int) : ∃ cs : List Int, cutD (ns.map Dt.int) u v = cs.map Dt.int ∧ cs.length ≤ ns.length := by
  unfold cutD
  rw [List.length_map, ← List.map_drop, ← List.map_take]
  refine ⟨_, rfl, ?_⟩
  rw [List.length_take, List.length_drop]
  omega
theorem perm_sum {xs ys : List Rat} (h : xs.Perm ys) : xs.sum = ys.sum := by
  induction h with
  | nil => rfl
  | cons x _ ih => rw [List.sum_cons, List.sum_cons, ih]
  | swap x y l => rw [List.sum_cons, List.sum_cons, List.sum_cons, List.sum_cons, ← Rat.add_assoc, ← Rat.add_assoc, Rat.add_comm x y]
  | trans _ _ h1 h2 => exact h1.trans h2
theorem Summing.perm {t d : Nat} {xs ys : List Rat} (h : Summing t d xs) (p : ys.Perm xs) : Summing t d ys := by
  obtain ⟨⟨D, h1, h2, h3⟩, h4, h5, h6⟩ := h
  exact ⟨⟨D, h1, h2, fun q hq => h3 q (p.mem_iff.mp hq)⟩, fun q hq => h4 q (p.mem_iff.mp hq), by rw [p.length_eq]; exact h5, h6⟩
theorem hd_fq (q : Rat) : Dt.hard 1 (fq q) := hard_tup fun d hd => by
  simp only [List.mem_cons, List.mem_nil_iff, or_false] at hd
  rcases hd with rfl | rfl <;> exact hard_int
theorem hd_fqs (qs : List Rat) : Hd (.lst (qs.map fq)) := ⟨2, by decide, hard_lst fun d hd => by
  obtain ⟨q, _, rfl⟩ := List.mem_map.mp hd
  exact hd_fq q⟩
theorem fq_inj (p q : Rat) (h : fq p = fq q) : p = q := by
  apply Fm.fr_inj
  unfold fq fd at h
  injection h with h
  injection h with h1 h2
  injection h2 with h2
  injection h1 with h1
  injection h2 with h2
  exact Prod.ext h1 h2
theorem fqs_nil (qs : List Rat) : Dt.lst (qs.map fq) = .lst [] ↔ qs = [] := by
  rw [lst_inj]
  simp
theorem sx_law {X : Cx} {W : WX} (nx : Nx X n_law (defScope s_law)) (B : Base X.K X.mg) (tk : Takes X W) (hr : Room 6 X.A) (G__law_cell : Fn X.prog X.w X.K X.mg X.base "_law_cell" 2 1 R__law_cell) (G__law_fraction : Fn X.prog X.w X.K X.mg X.base "_law_fraction" 1 3 R__law_fraction) (G__law_low : Fn X.prog X.w X.K X.mg X.base "_law_low" 2 2 R__law_low) (G__law_is : Fn X.prog X.w X.K X.mg X.base "_law_is" 2 1 R__law_is) (G_total : Fn X.prog X.w X.K X.mg X.base "total" 1 4 R_total) (G__law_mean : Fn X.prog X.w X.K X.mg X.base "_law_mean" 1 6 R__law_mean) {ds : List Dt} {r : Except Er Dt} (h : R_law ds r) : SX X W (defBody s_law) (ini n_law ds) (EndR r) := by
  obtain ⟨ns, hns, rfl, rfl⟩ := h
  walk_at "nm law"
  show SX X W _ [.dt (.lst (ns.map Dt.int)), .no, .no, .no, .no, .no, .no, .no, .no] _
  refine sx_set (ex_lst ax_nil) ?_
  have hu : X.A.units + 64 < cLine := hr.units
  refine sx_ifJ (fun δ => ∃ cs : List Int, cs.length ≤ 63 ∧ δ = [.dt (.lst (ns.map Dt.int)), .dt (.lst ((cs.map lawQ).map fq)), .no, .no, .no, .no, .no, .no, .no]) (tx_neI (ex_mod ?_ (ex_call G__law_cell tk (hr.mono (by decide)) (ax_cons ex_v (ax_cons ex_int ax_nil)) ⟨ns, 0, rfl, by decide, rfl⟩) ex_int) ex_int) (fun _ => ?_) (fun _ => sx_nil ⟨[], by decide, rfl⟩) ?_
  · decide
  · obtain ⟨cs, hcs, hcl⟩ := cut_ints ns (some 1) (some 31)
    refine sx_setLc (lc1 cs Dt.int (fun c => fq (lawQ c)) (src_list (hcs ▸ ex_cut ex_v (px_int ex_int) (px_int ex_int))) ?_ ?_) ?_
    · rw [sizeLine_eq]; omega
    · intro i c _ q nb
      walk_at "bk law 0"
      exact ex_call G__law_fraction tk0 (hr.mono (by decide)) (ax_cons ex_w ax_nil) ⟨c, rfl, rfl⟩
    · refine sx_nil ⟨cs, by omega, ?_⟩
      rw [List.map_map]
      rfl
  rintro δ ⟨cs, hcl, rfl⟩
  have hS : Summing 70 15 (cs.map lawQ) := ⟨⟨27720, by decide, by decide, fun q hq => by
      obtain ⟨c, _, rfl⟩ := List.mem_map.mp hq
      exact lawQ_den c⟩, fun q hq => by
      obtain ⟨c, _, rfl⟩ := List.mem_map.mp hq
      exact (lawQ_sz c).top, by rw [List.length_map]; omega, by decide⟩
  generalize hdue : ((cs.map lawQ).map (Fm.up 27720)).sum = due
  have hsum : (cs.map lawQ).sum = (due : Rat) / ((27720 : Int) : Rat) := by
    rw [← hdue]
    refine Fm.sum_val (by decide) fun q hq => ?_
    obtain ⟨c, _, rfl⟩ := List.mem_map.mp hq
    exact lawQ_den c
  refine sx_set (ex_sum (ns := (cs.map lawQ).map (Fm.up 27720)) B.f_sum ?_) ?_
  · refine ex_eq (ex_lc (lc2 cs (fun c => .int (lawQ c).num) (fun c => .int ((lawQ c).den : Int)) (fun c => .int (Fm.up 27720 (lawQ c))) (src_list ?_) ?_ ?_)) ?_
    · refine ex_eq ex_v ?_
      rw [List.map_map]
      rfl
    · rw [sizeLine_eq]; omega
    · intro i c _ q nb
      walk_at "bk law 1"
      have h1 := (lawQ c).den_pos
      have h2 := (lawQ_sz c).bot
      have h3 : ((lawQ c).den : Int) ≤ 27720 := by have := Nat.le_of_dvd (by decide) (lawQ_den c); omega
      refine ex_eq (ex_mulS ?_ ex_w (ex_divS ?_ ex_int ex_w)) ?_
      · refine .inr ⟨?_, ?_⟩
        · have : 0 ≤ (27720 : Int) / ((lawQ c).den : Int) := Int.ediv_nonneg (by decide) (by omega)
          omega
        · have : (27720 : Int) / ((lawQ c).den : Int) ≤ 27720 := Int.ediv_le_self _ (by decide)
          omega
      · exact ⟨by omega, by omega⟩
      · show Except.ok (Dt.int _) = Except.ok (Dt.int (Fm.up 27720 (lawQ c)))
        unfold Fm.up
        rw [Int.natCast_ediv]
        rfl
    · rw [List.map_map, List.map_map]
      rfl
  rw [hdue]
  generalize hq0 : cs.map lawQ = q0 at *
  refine sx_forR (n := 2) ex_int (by decide) B.f_range (fun i δ' => ∃ (qs : List Rat) (s1 s2 s3 s4 s5 s6 : Sl), qs.Perm q0 ∧ δ' = [.dt (.lst (ns.map Dt.int)), .dt (.lst (qs.map fq)), .dt (.int due), s1, s2, s3, s4, s5, s6]) ⟨q0, _, _, _, _, _, _, .refl _, rfl⟩ ?_ ?_
  · rintro t δ' ht ⟨qs, s1, s2, s3, s4, s5, s6, hp, rfl⟩
    have hS2 := hS.perm hp
    have hsum2 : qs.sum = (due : Rat) / ((27720 : Int) : Rat) := (perm_sum hp).trans hsum
    have hlen : qs.length ≤ 63 := by rw [hp.length_eq, ← hq0, List.length_map]; exact hcl
    refine sx_set (ex_listL B.f_list ex_v) ?_
    refine sx_ifJ (k := false) (fun δ => δ = [.dt (.lst (ns.map Dt.int)), .dt (.lst (qs.map fq)), .dt (.int due), .dt (.int t), .dt (.lst (qs.map fq)), s3, s4, s5, s6]) (tx_not (k := true) (tx_val (ex_call G__law_is tk (hr.mono (by decide)) (ax_cons (ex_call G_total tk (hr.mono (by decide)) (ax_cons ex_v ax_nil) ⟨qs, _, _, rfl, hS2, rfl⟩)
      (ax_cons (ex_call G__law_low tk (hr.mono (by decide)) (ax_cons ex_v (ax_cons ex_int ax_nil)) ⟨_, _, rfl, by decide, Nat.lt_of_lt_of_le (Fm.gcd_log (k := 15) (by decide) (by decide) (by decide)) (by decide), rfl⟩) ax_nil)) ⟨Fm.fr qs.sum, Fm.mk due 27720, rfl, ?_⟩))) (fun h => absurd h (by decide)) (fun _ => sx_nil rfl) ?_
    · rw [Fm.mk_rat (by decide), hsum2, decide_eq_true rfl]
    rintro δ rfl
    refine sx_set (ex_call G__law_mean tk (hr.mono (by decide)) (ax_cons ex_v ax_nil) ⟨qs, _, _, rfl, hS2, rfl⟩) ?_
    refine sx_ifJ (k := false) (fun δ => δ = [.dt (.lst (ns.map Dt.int)), .dt (.lst (qs.map fq)), .dt (.int due), .dt (.int t), .dt (.lst (qs.map fq)), .dt (meanOr qs), s4, s5, s6]) ?_ (fun h => absurd h (by decide)) (fun _ => sx_nil rfl) ?_
    · refine tx_bool (tw_or (k := false) (l := false) (tx_eq (tx_neH (P := True) (hd_fqs qs) (hd_fqs qs) (by simp) hu ex_v ex_v) rfl) fun _ => tw_or1 ?_)
      by_cases hz : qs = []
      · have e : meanOr qs = .non := if_pos hz
        rw [e]
        exact tx_bool (tw_and (k := true) (l := false) (tx_eq (tx_eqH (P := qs = []) (hd_fqs qs) (hd_fqs []) (fqs_nil qs) hu ex_v (ex_lst (ds := []) ax_nil)) (by rw [decide_eq_true hz])) fun _ => tw_and1 (tx_notN (da := .non) ex_v))
      · exact tx_bool (tw_and (k := false) (l := false) (tx_eq (tx_eqH (P := qs = []) (hd_fqs qs) (hd_fqs []) (fqs_nil qs) hu ex_v (ex_lst (ds := []) ax_nil)) (by rw [decide_eq_false hz])) fun h => absurd h (by decide))
    rintro δ rfl
    refine sx_ifJ (k := false) (fun δ => δ = [.dt (.lst (ns.map Dt.int)), .dt (.lst (qs.map fq)), .dt (.int due), .dt (.int t), .dt (.lst (qs.map fq)), .dt (meanOr qs), s4, s5, s6]) ?_ (fun h => absurd h (by decide)) (fun _ => sx_nil rfl) ?_
    · by_cases hz : qs = []
      · exact tx_bool (tw_and (k := false) (l := false) (tx_eq (tx_neH (P := qs = []) (hd_fqs qs) (hd_fqs []) (fqs_nil qs) hu ex_v (ex_lst (ds := []) ax_nil)) (by rw [decide_eq_true hz]; rfl)) fun h => absurd h (by decide))
      · have e : meanOr qs = fq (qs.sum / ((qs.length : Int) : Rat)) := if_neg hz
        have h0 : 0 < qs.length := List.length_pos_iff.mpr hz
        have hb : (27720 * (qs.length : Int)).natAbs < 2 ^ 30 := by omega
        rw [e]
        refine tx_bool (tw_and (k := true) (l := false) (tx_eq (tx_neH (P := qs = []) (hd_fqs qs) (hd_fqs []) (fqs_nil qs) hu ex_v (ex_lst (ds := []) ax_nil)) (by rw [decide_eq_false hz]; rfl)) fun _ => tw_and1 (tx_not (k := true) (tx_val (ex_call G__law_is tk (hr.mono (by decide)) (ax_cons ex_v (ax_cons (ex_call G__law_low tk (hr.mono (by decide)) (ax_cons ex_v (ax_cons (ex_mulS ?_ ex_int (ex_lenL B.f_len ex_v)) ax_nil)) ⟨due, 27720 * (qs.length : Int), ?_, by omega, Nat.lt_of_lt_of_le (Fm.gcd_log (k := 30) (by decide) (by omega) hb) (by decide), rfl⟩) ax_nil)) ⟨_, _, rfl, ?_⟩))))
        · exact .inl ⟨by decide, by decide⟩
        · rw [List.length_map]
        · have e2 : Fm.fr (qs.sum / ((qs.length : Int) : Rat)) = Fm.mk due (27720 * (qs.length : Int)) := by
            rw [Fm.mk_rat (by omega), hsum2, Rat.intCast_mul]
            have h1 : ((27720 : Int) : Rat) ≠ 0 := Fm.ne_of_pos (by decide)
            have h2 : ((qs.length : Int) : Rat) ≠ 0 := Fm.ne_of_pos (by omega)
            congr 1
            grind
          rw [e2, decide_eq_true rfl]
    rintro δ rfl
    refine sx_set (ex_eq (r' := .ok (.lst (qs.reverse.map fq))) (ex_revL ex_v) (by rw [List.map_reverse])) (sx_nil ⟨qs.reverse, _, _, _, _, _, _, (List.reverse_perm qs).trans hp, rfl⟩)
  · rintro δ' ⟨qs, s1, s2, s3, s4, s5, s6, hp, rfl⟩
    exact sx_ret ex_bl rfl
theorem ok_law (B : Base K mg) {f : Addr} {fd : FuncData} (F : FunD K "law" "law" (defArgs s_law) (defBody s_law) (defScope s_law) [] [] f fd) (G__law_cell : Fn P w K mg base "_law_cell" 2 1 R__law_cell) (G__law_fraction : Fn P w K mg base "_law_fraction" 1 3 R__law_fraction) (G__law_low : Fn P w K mg base "_law_low" 2 2 R__law_low) (G__law_is : Fn P w K mg base "_law_is" 2 1 R__law_is) (G_total : Fn P w K mg base "total" 1 4 R_total) (G__law_mean : Fn P w K mg base "_law_mean" 1 6 R__law_mean) :
    FnOk P w K mg base (L2.CX P w) 7 f fd p_law (spR K 1 R_law) :=
  fn_mk F dk_law.S rfl fun cdv A outer s H E hr tk ds r h => sx_law (nx_of dk_law.S) B tk hr G__law_cell G__law_fraction G__law_low G__law_is G_total G__law_mean h
end
def d_divisor : He.DefD := ⟨("divisor", none), "divisor", "divisor", defArgs s_divisor, defBody s_divisor, defScope s_divisor, [], []⟩
def d_fraction : He.DefD := ⟨("fraction", none), "fraction", "fraction", defArgs s_fraction, defBody s_fraction, defScope s_fraction, [], []⟩
def d_plus : He.DefD := ⟨("plus", none), "plus", "plus", defArgs s_plus, defBody s_plus, defScope s_plus, [], []⟩
def d_over : He.DefD := ⟨("over", none), "over", "over", defArgs s_over, defBody s_over, defScope s_over, [], []⟩
def d_total : He.DefD := ⟨("total", none), "total", "total", defArgs s_total, defBody s_total, defScope s_total, [], []⟩
def d_mean : He.DefD := ⟨("mean", none), "mean", "mean", defArgs s_mean, defBody s_mean, defScope s_mean, [], []⟩
def d__law_cell : He.DefD := ⟨("_law_cell", none), "_law_cell", "_law_cell", defArgs s__law_cell, defBody s__law_cell, defScope s__law_cell, [], []⟩
def d__law_divisor : He.DefD := ⟨("_law_divisor", none), "_law_divisor", "_law_divisor", defArgs s__law_divisor, defBody s__law_divisor, defScope s__law_divisor, [], []⟩
def d__law_low : He.DefD := ⟨("_law_low", none), "_law_low", "_law_low", defArgs s__law_low, defBody s__law_low, defScope s__law_low, [], []⟩
def d__law_is : He.DefD := ⟨("_law_is", none), "_law_is", "_law_is", defArgs s__law_is, defBody s__law_is, defScope s__law_is, [], []⟩
def d__law_fraction : He.DefD := ⟨("_law_fraction", none), "_law_fraction", "_law_fraction", defArgs s__law_fraction, defBody s__law_fraction, defScope s__law_fraction, [], []⟩
def d__law_mean : He.DefD := ⟨("_law_mean", none), "_law_mean", "_law_mean", defArgs s__law_mean, defBody s__law_mean, defScope s__law_mean, [], []⟩
def d_law : He.DefD := ⟨("law", none), "law", "law", defArgs s_law, defBody s_law, defScope s_law, [], []⟩
def fa0 : List He.Fa := [.free "abs", .free "len", .free "isinstance", .free "range", .free "list", .free "int", .free "bool", .free "tuple", .free "sum", .free "ValueError", .glo "HallError", .exc "HallError", .glo "NoFraction", .exc "NoFraction", .exm "NoFraction" "NoFraction" true, .glo "divisor", .glo "fraction", .glo "plus", .glo "over", .glo "total", .glo "mean", .glo "_law_cell", .glo "_law_divisor", .glo "_law_low", .glo "_law_is", .glo "_law_fraction", .glo "_law_mean", .glo "law"]
def fa : List He.Fa := fa0
def fn0 : List He.DefD := [d_divisor, d_fraction, d_plus, d_over, d_total, d_mean, d__law_cell, d__law_divisor, d__law_low, d__law_is, d__law_fraction, d__law_mean, d_law]
def fn : List He.DefD := fn0
def exF (K : PySem.W.Frag) : List Bool := []

abbrev Rw : PySem.W.OpenRow := PySem.W.OpenLaw.row PySem.Challenge.rw_hall_k03_totals_and_means
def hk : PySem.W.Hook := He.hookX 5 fa fn [] [] fun K => (exF K).all id
def ob (s : PySem.W.SharedT) : He.AlX := He.obsX 5 fa fn [] [] (fun K => (exF K).all id) (HandSHeadRun.getT s)
theorem ob_eq (s : PySem.W.SharedT) : ob s = hk.obs s.abs := He.obsX_eq (HandSHeadRun.getT_eq s)
def loose0 : List Str := ["HallError", "NoFraction", "divisor", "fraction", "plus", "over", "total", "mean", "_law_cell", "_law_divisor", "_law_low", "_law_is", "_law_fraction", "_law_mean"]
def loose : List Str := loose0
theorem run (w : World) : HandSHeadRun.RunEq Rw (PySem.W.view Rw.prog [17]) hk ob 3000 loose w := by
  intro os
  kernel_rfl
def lawLevel : Nat := 7
set_option maxHeartbeats 0 in
theorem facts {P : Program} {w : World} {K : PySem.W.Frag} {h : Heap} {mg : Str → Option Value} {f : Addr} (X : K.In h) (G : h.Ns mainGlobals mg) (hfa : mg ("law" : Str) = some (.ref f)) (c : He.SaysD fa fn K) (hx : (exF K).all id = true) :
    ∃ fd : FuncData, (∀ (s : Shared) (v : Value), BindsTo s fd ⟨[v], []⟩ [("_law_script", v)]) ∧ ∀ base : Heap, K.In base → base.Ns mainGlobals mg → FnOk P w K mg base (L2.CX P w) lawLevel f fd ["_law_script"] (spR K 1 R_law) := by
  have B : Base K mg := ⟨He.free_ok X G (c.fact 0 (f := .free "abs") rfl),
    He.free_ok X G (c.fact 1 (f := .free "len") rfl),
    He.free_ok X G (c.fact 2 (f := .free "isinstance") rfl),
    He.free_ok X G (c.fact 3 (f := .free "range") rfl),
    He.free_ok X G (c.fact 4 (f := .free "list") rfl),
    He.free_ok X G (c.fact 5 (f := .free "int") rfl),
    He.free_ok X G (c.fact 6 (f := .free "bool") rfl),
    He.free_ok X G (c.fact 7 (f := .free "tuple") rfl),
    He.free_ok X G (c.fact 8 (f := .free "sum") rfl),
    He.free_ok X G (c.fact 9 (f := .free "ValueError") rfl),
    He.glo_ok X G (c.fact 10 (f := .glo "HallError") rfl),
    excT_ok X G (c.fact 10 (f := .glo "HallError") rfl) (c.fact 11 (f := .exc "HallError") rfl),
    He.glo_ok X G (c.fact 12 (f := .glo "NoFraction") rfl),
    excT_ok X G (c.fact 12 (f := .glo "NoFraction") rfl) (c.fact 13 (f := .exc "NoFraction") rfl),
    He.exm_ok (c.fact 14 (f := .exm "NoFraction" "NoFraction" true) rfl)⟩
  obtain ⟨fd_divisor, F_divisor⟩ := c.def_ 0 (d := d_divisor) rfl
  obtain ⟨fd_fraction, F_fraction⟩ := c.def_ 1 (d := d_fraction) rfl
  obtain ⟨fd_plus, F_plus⟩ := c.def_ 2 (d := d_plus) rfl
  obtain ⟨fd_over, F_over⟩ := c.def_ 3 (d := d_over) rfl
  obtain ⟨fd_total, F_total⟩ := c.def_ 4 (d := d_total) rfl
  obtain ⟨fd_mean, F_mean⟩ := c.def_ 5 (d := d_mean) rfl
  obtain ⟨fd__law_cell, F__law_cell⟩ := c.def_ 6 (d := d__law_cell) rfl
  obtain ⟨fd__law_divisor, F__law_divisor⟩ := c.def_ 7 (d := d__law_divisor) rfl
  obtain ⟨fd__law_low, F__law_low⟩ := c.def_ 8 (d := d__law_low) rfl
  obtain ⟨fd__law_is, F__law_is⟩ := c.def_ 9 (d := d__law_is) rfl
  obtain ⟨fd__law_fraction, F__law_fraction⟩ := c.def_ 10 (d := d__law_fraction) rfl
  obtain ⟨fd__law_mean, F__law_mean⟩ := c.def_ 11 (d := d__law_mean) rfl
  obtain ⟨fd_law, F_law⟩ := c.def_ 12 (d := d_law) rfl
  have e := hfa.symm.trans (He.glo_ok X G (c.fact 27 (f := .glo "law") rfl))
  cases e
  refine ⟨fd_law, fun s v => (FunD.bindsA (ps := p_law) F_law fun _ _ _ _ _ _ us hl => match us, hl with | [_], _ => rfl) s [v] rfl, fun base _ _ => ?_⟩
  have b_divisor : Binds K fd_divisor p_divisor [] := F_divisor.bindsN fun _ _ _ _ _ _ us hl => match us, hl with | [_, _], _ => rfl
  have G_divisor := fn_pack (P := P) (w := w) (base := base) (He.glo_ok X G (c.fact 15 (f := .glo "divisor") rfl)) F_divisor b_divisor (ok_divisor B F_divisor )
  have b_fraction : Binds K fd_fraction p_fraction [] := F_fraction.bindsN fun _ _ _ _ _ _ us hl => match us, hl with | [_, _], _ => rfl
  have G_fraction := fn_pack (P := P) (w := w) (base := base) (He.glo_ok X G (c.fact 16 (f := .glo "fraction") rfl)) F_fraction b_fraction (ok_fraction B F_fraction (G_divisor := G_divisor))
  have b_plus : Binds K fd_plus p_plus [] := F_plus.bindsN fun _ _ _ _ _ _ us hl => match us, hl with | [_, _], _ => rfl
  have G_plus := fn_pack (P := P) (w := w) (base := base) (He.glo_ok X G (c.fact 17 (f := .glo "plus") rfl)) F_plus b_plus (ok_plus B F_plus (G_fraction := G_fraction))
  have b_over : Binds K fd_over p_over [] := F_over.bindsN fun _ _ _ _ _ _ us hl => match us, hl with | [_, _], _ => rfl
  have G_over := fn_pack (P := P) (w := w) (base := base) (He.glo_ok X G (c.fact 18 (f := .glo "over") rfl)) F_over b_over (ok_over B F_over (G_fraction := G_fraction))
  have b_total : Binds K fd_total p_total [] := F_total.bindsN fun _ _ _ _ _ _ us hl => match us, hl with | [_], _ => rfl
  have G_total := fn_pack (P := P) (w := w) (base := base) (He.glo_ok X G (c.fact 19 (f := .glo "total") rfl)) F_total b_total (ok_total B F_total (G_plus := G_plus))
  have b_mean : Binds K fd_mean p_mean [] := F_mean.bindsN fun _ _ _ _ _ _ us hl => match us, hl with | [_], _ => rfl
  have G_mean := fn_pack (P := P) (w := w) (base := base) (He.glo_ok X G (c.fact 20 (f := .glo "mean") rfl)) F_mean b_mean (ok_mean B F_mean (G_over := G_over) (G_total := G_total))
  have b__law_cell : Binds K fd__law_cell p__law_cell [] := F__law_cell.bindsN fun _ _ _ _ _ _ us hl => match us, hl with | [_, _], _ => rfl
  have G__law_cell := fn_pack (P := P) (w := w) (base := base) (He.glo_ok X G (c.fact 21 (f := .glo "_law_cell") rfl)) F__law_cell b__law_cell (ok__law_cell B F__law_cell )
  have b__law_divisor : Binds K fd__law_divisor p__law_divisor [] := F__law_divisor.bindsN fun _ _ _ _ _ _ us hl => match us, hl with | [_, _], _ => rfl
  have G__law_divisor := fn_pack (P := P) (w := w) (base := base) (He.glo_ok X G (c.fact 22 (f := .glo "_law_divisor") rfl)) F__law_divisor b__law_divisor (ok__law_divisor B F__law_divisor )
  have b__law_low : Binds K fd__law_low p__law_low [] := F__law_low.bindsN fun _ _ _ _ _ _ us hl => match us, hl with | [_, _], _ => rfl
  have G__law_low := fn_pack (P := P) (w := w) (base := base) (He.glo_ok X G (c.fact 23 (f := .glo "_law_low") rfl)) F__law_low b__law_low (ok__law_low B F__law_low (G__law_divisor := G__law_divisor))
  have b__law_is : Binds K fd__law_is p__law_is [] := F__law_is.bindsN fun _ _ _ _ _ _ us hl => match us, hl with | [_, _], _ => rfl
  have G__law_is := fn_pack (P := P) (w := w) (base := base) (He.glo_ok X G (c.fact 24 (f := .glo "_law_is") rfl)) F__law_is b__law_is (ok__law_is B F__law_is )
  have b__law_fraction : Binds K fd__law_fraction p__law_fraction [] := F__law_fraction.bindsN fun _ _ _ _ _ _ us hl => match us, hl with | [_], _ => rfl
  have G__law_fraction := fn_pack (P := P) (w := w) (base := base) (He.glo_ok X G (c.fact 25 (f := .glo "_law_fraction") rfl)) F__law_fraction b__law_fraction (ok__law_fraction B F__law_fraction (G__law_low := G__law_low))
  have b__law_mean : Binds K fd__law_mean p__law_mean [] := F__law_mean.bindsN fun _ _ _ _ _ _ us hl => match us, hl with | [_], _ => rfl
  have G__law_mean := fn_pack (P := P) (w := w) (base := base) (He.glo_ok X G (c.fact 26 (f := .glo "_law_mean") rfl)) F__law_mean b__law_mean (ok__law_mean B F__law_mean (G_mean := G_mean))
  exact ok_law B F_law (G__law_cell := G__law_cell) (G__law_fraction := G__law_fraction) (G__law_low := G__law_low) (G__law_is := G__law_is) (G_total := G_total) (G__law_mean := G__law_mean)
end Pf
open PySem PySem.W PySem.Calls PyProof.Rows
set_option maxHeartbeats 0 in
theorem PySem.Challenge.cw_hall_k03_totals_and_means_holds : PySem.Challenge.rw_hall_k03_totals_and_means.Holds := by
  w_on; o_law
  refine HandSHeadRun.head_any (r := Pf.Rw) (q := view Pf.Rw.prog [17]) (H := Pf.hk) (ob := Pf.ob) (M := 3000) (loose := Pf.loose) (d := HandSHeadRun.topDef Pf.Rw.prog 17) (kwd := []) Pf.ob_eq
    (by kernel_rfl) (fun s => by kernel_rfl) Pf.run (by kernel_rfl) (by kernel_rfl) (by kernel_rfl) (by rfl) (by first | assumption | decide +kernel) (by decide +kernel) ⟨rfl, rfl, rfl, rfl, rfl, by decide +kernel⟩ ?hw ?hc
  case hw => w_witness2
  case hc =>
    refine L2.walk_ofE (l := PySem.Challenge.rw_hall_k03_totals_and_means) (n := 63) (k := Pf.lawLevel) (x := "_law_script") (CX := L2.CX0) rfl (by decide) (by kernel_rfl) ⟨rfl, by decide, by decide⟩ ?F (fun _ _ _ _ z => z)
    intro w mg fa h Y G hmg0
    obtain ⟨K, KX, c⟩ := Y
    have hmg : mg ("law" : PySem.Str) = some (.ref fa) := by
      have e : (HandSHeadRun.topDef Pf.Rw.prog 17).name = ("law" : PySem.Str) := by kernel_rfl
      rw [← e]
      exact hmg0
    obtain ⟨fd, hb, hF⟩ := Pf.facts (P := Pf.Rw.prog) (w := w) KX G hmg c.t.d c.more
    exact ⟨K, fd, fun vs H Q _ => My.spR K 1 Pf.R_law vs H Q fun _ _ _ => False, KX, hb, fun H a ns hl _ hS => My.law_sp hS (Pf.R_law_mk ns hl), fun base h1 h2 => My.fn_calm (hF base h1 h2)⟩
#print axioms PySem.Challenge.cw_hall_k03_totals_and_means_holds
