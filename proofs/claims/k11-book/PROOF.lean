import PyProof.Rows.All
import Wide.All
import OpenK.AllK
import Wide.FinOn
import HandS.Words
import HandS.Comp
import HandS.Iter
import HandS.Exc
import HandS.ExcOwn
import HandS.TryOnly
import HandS.Dict
import HandS.Text
import HandS.Defaults
import HandS.HeadHook2
import HandS.HeadHook4
import HandS.Lambda
import KE.SortData
import HandS.Wide
import HandS.IsInst
import HandS.WordsExc
import HandS.Deep
import HandS.Style
import HandS.SortInts
import HandS.SetTxt0
import HandS.Set
import HandS.SetFor
import PyProof.Rows.SortShellAny
import HandS.DictTup
import PyProof.DictMoreH
import HandS.ExcIs
import HandS.ExcInit
import HandS.ExcField
import HandS.HeadEnd
import HandS.Head2
import HandS.Ends
import HandS.SetKeys
import HandS.CallSlots
import KE.SortKeyHeap
import HandS.HeadWalk
import HandS.Nested
import HandS.TupLe
import KE.KExcIs
import PySem.Challenge.RW_hall_k11_book
set_option Elab.async false
set_option linter.all false
set_option maxRecDepth 100000
set_option maxHeartbeats 4000000
namespace Ip
open PySem L2 PySem.Spec
/-! ## data, live objects -/
inductive Dt where
  | non | bl (b : Bool) | int (i : Int) | str (s : Str)
  | tup (l : List Dt) | lst (l : List Dt)
  | dic (l : List (Key × Dt))
  | obj (n : Nat)
instance : Inhabited Dt := ⟨.non⟩
inductive Ob where
  | lst (l : List Dt) | dK (l : List (Key × Dt)) | dT (l : List (List Key × Dt))
  | ins (c : Nat) (fs : List (Nat × Dt))
  | fz (d : Dt) | lk (o : Ob)
abbrev Sto := List Ob
mutual
inductive Rp (K : PySem.W.Frag) (G : Hp) (m : List Addr) : V → Dt → Prop
  | non : Rp K G m .non .non
  | bl (b : Bool) : Rp K G m (.bl b) (.bl b)
  | int (i : Int) : Rp K G m (.int i) (.int i)
  | str (s : Str) : Rp K G m (.str s) (.str s)
  | tup {a : Addr} {vs : List V} {ds : List Dt} : SqT K G a vs → RpA K G m vs ds → (∀ z : Str, V.str z ∈ vs → G a = some (.tup vs)) → Rp K G m (.ref a) (.tup ds)
  | lst {a : Addr} {vs : List V} {ds : List Dt} : SqL K G a vs → RpA K G m vs ds → Rp K G m (.ref a) (.lst ds)
  | dic {a : Addr} {kvs : List (Key × V)} {ds : List (Key × Dt)} : G a = some (.dK kvs) → RpK K G m kvs ds → Rp K G m (.ref a) (.dic ds)
  | obj {a : Addr} {n : Nat} : m[n]? = some a → Rp K G m (.ref a) (.obj n)
inductive RpA (K : PySem.W.Frag) (G : Hp) (m : List Addr) : List V → List Dt → Prop
  | nil : RpA K G m [] []
  | cons {x : V} {xs : List V} {d : Dt} {ds : List Dt} : Rp K G m x d → RpA K G m xs ds → RpA K G m (x :: xs) (d :: ds)
inductive RpK (K : PySem.W.Frag) (G : Hp) (m : List Addr) : List (Key × V) → List (Key × Dt) → Prop
  | nil : RpK K G m [] []
  | cons {k : Key} {x : V} {xs : List (Key × V)} {d : Dt} {ds : List (Key × Dt)} : Rp K G m x d → RpK K G m xs ds → RpK K G m ((k, x) :: xs) ((k, d) :: ds)
end
theorem same_tseq {K : PySem.W.Frag} {H H' : Hp} {a : Addr} {xs : List V} (e : Same H H') (h : SqT K H a xs) : SqT K H' a xs := by
  rcases h with (h | ⟨o, h⟩) | h
  · exact .inl (.inl (e _ _ h))
  · exact .inl (.inr ⟨o, e _ _ h⟩)
  · exact .inr h
theorem same_rd {H H' : Hp} {a : Addr} {u : HO} (e : Same H H') (h : Rd H a u) : Rd H' a u := by
  rcases h with h | ⟨o, h⟩
  · exact .inl (e _ _ h)
  · exact .inr ⟨o, e _ _ h⟩
def Pre (m m' : List Addr) : Prop := ∀ (n : Nat) (a : Addr), m[n]? = some a → m'[n]? = some a
theorem Pre.refl (m : List Addr) : Pre m m := fun _ _ h => h
theorem Pre.app (m t : List Addr) : Pre m (m ++ t) := fun n a h => by
  rw [List.getElem?_append_left (List.getElem?_eq_some_iff.mp h).1]
  exact h
section
variable {K : PySem.W.Frag} {G G' : Hp} {m m' : List Addr}
mutual
theorem Rp.mono (s : Same G G') (p : Pre m m') : ∀ (d : Dt) (x : V), Rp K G m x d → Rp K G' m' x d
  | .non, _, h => by cases h; exact .non
  | .bl b, _, h => by cases h; exact .bl b
  | .int i, _, h => by cases h; exact .int i
  | .str z, _, h => by cases h; exact .str z
  | .obj n, _, h => by
    cases h with
    | obj e => exact .obj (p _ _ e)
  | .tup l, _, h => by
    cases h with
    | tup q r z => exact .tup (same_tseq s q) (RpA.mono s p l _ r) fun y hy => s _ _ (z y hy)
  | .lst l, _, h => by
    cases h with
    | lst q r => exact .lst (Same.seq s q) (RpA.mono s p l _ r)
  | .dic l, _, h => by
    cases h with
    | dic q r => exact .dic (s _ _ q) (RpK.mono s p l _ r)
theorem RpA.mono (s : Same G G') (p : Pre m m') : ∀ (ds : List Dt) (xs : List V), RpA K G m xs ds → RpA K G' m' xs ds
  | [], _, h => by cases h; exact .nil
  | d :: ds, _, h => by
    cases h with
    | cons q r => exact .cons (Rp.mono s p d _ q) (RpA.mono s p ds _ r)
theorem RpK.mono (s : Same G G') (p : Pre m m') : ∀ (ds : List (Key × Dt)) (xs : List (Key × V)), RpK K G m xs ds → RpK K G' m' xs ds
  | [], _, h => by cases h; exact .nil
  | (k, d) :: ds, _, h => by
    cases h with
    | cons q r => exact .cons (Rp.mono s p d _ q) (RpK.mono s p ds _ r)
end
theorem Rp.up {x : V} {d : Dt} (h : Rp K G m x d) (s : Same G G') (p : Pre m m') : Rp K G' m' x d := Rp.mono s p d x h
theorem RpA.up {x : List V} {d : List Dt} (h : RpA K G m x d) (s : Same G G') (p : Pre m m') : RpA K G' m' x d := RpA.mono s p d x h
theorem RpK.up {x : List (Key × V)} {d : List (Key × Dt)} (h : RpK K G m x d) (s : Same G G') (p : Pre m m') : RpK K G' m' x d := RpK.mono s p d x h
theorem RpA.length : ∀ {xs : List V} {ds : List Dt}, RpA K G m xs ds → xs.length = ds.length
  | _, _, .nil => rfl
  | _, _, .cons _ t => congrArg (· + 1) (RpA.length t)
theorem RpK.length : ∀ {xs : List (Key × V)} {ds : List (Key × Dt)}, RpK K G m xs ds → xs.length = ds.length
  | _, _, .nil => rfl
  | _, _, .cons _ t => congrArg (· + 1) (RpK.length t)
theorem RpA.get : ∀ {xs : List V} {ds : List Dt} {i : Nat} {d : Dt}, RpA K G m xs ds → ds[i]? = some d → ∃ x, xs[i]? = some x ∧ Rp K G m x d
  | _, _, _, _, .nil, e => by simp at e
  | _, _, 0, _, .cons r _, e => by
    simp at e
    subst e
    exact ⟨_, rfl, r⟩
  | _, _, i + 1, d, .cons _ t, e => by
    obtain ⟨u, h1, h2⟩ := RpA.get (i := i) (d := d) t (by simpa using e)
    exact ⟨u, by simpa using h1, h2⟩
theorem RpA.getV : ∀ {xs : List V} {ds : List Dt} {i : Nat} {x : V}, RpA K G m xs ds → xs[i]? = some x → ∃ d, ds[i]? = some d ∧ Rp K G m x d
  | _, _, _, _, .nil, e => by simp at e
  | _, _, 0, _, .cons r _, e => by
    simp at e
    subst e
    exact ⟨_, rfl, r⟩
  | _, _, i + 1, d, .cons _ t, e => by
    obtain ⟨u, h1, h2⟩ := RpA.getV (i := i) (x := d) t (by simpa using e)
    exact ⟨u, by simpa using h1, h2⟩
theorem RpA.append : ∀ {xs ys : List V} {ds es : List Dt}, RpA K G m xs ds → RpA K G m ys es → RpA K G m (xs ++ ys) (ds ++ es)
  | _, _, _, _, .nil, s => s
  | _, _, _, _, .cons r t, s => .cons r (RpA.append t s)
theorem RpA.take : ∀ {xs : List V} {ds : List Dt} (n : Nat), RpA K G m xs ds → RpA K G m (xs.take n) (ds.take n)
  | _, _, 0, _ => .nil
  | _, _, _ + 1, .nil => .nil
  | _, _, n + 1, .cons r t => .cons r (RpA.take n t)
theorem RpA.drop : ∀ {xs : List V} {ds : List Dt} (n : Nat), RpA K G m xs ds → RpA K G m (xs.drop n) (ds.drop n)
  | _, _, 0, r => r
  | _, _, _ + 1, .nil => .nil
  | _, _, n + 1, .cons _ t => RpA.drop n t
theorem RpA.set {x : V} {d : Dt} (r : Rp K G m x d) : ∀ {xs : List V} {ds : List Dt} (i : Nat), RpA K G m xs ds → RpA K G m (xs.set i x) (ds.set i d)
  | _, _, _, .nil => .nil
  | _, _, 0, .cons _ t => .cons r t
  | _, _, i + 1, .cons q t => .cons q (RpA.set r i t)
theorem RpA.rev : ∀ {xs : List V} {ds : List Dt}, RpA K G m xs ds → RpA K G m xs.reverse ds.reverse
  | _, _, .nil => .nil
  | _, _, .cons h r => by
    rw [List.reverse_cons, List.reverse_cons]
    exact (RpA.rev r).append (.cons h .nil)
theorem RpA.ints : ∀ {ns : List Int} {xs : List V}, RpA K G m xs (ns.map Dt.int) → xs = ns.map V.int
  | [], _, h => by cases h; rfl
  | n :: ns, _, h => by
    cases h with
    | cons q r =>
      cases q
      rw [RpA.ints r]
      rfl
theorem RpA.of_ints : ∀ ns : List Int, RpA K G m (ns.map V.int) (ns.map Dt.int)
  | [] => .nil
  | n :: ns => .cons (.int n) (RpA.of_ints ns)
end
/-- dicts whose keys are tuples; fields by their numbers -/
inductive RpT (K : PySem.W.Frag) (G : Hp) (m : List Addr) : List (List Key × V) → List (List Key × Dt) → Prop
  | nil : RpT K G m [] []
  | cons {k : List Key} {x : V} {xs : List (List Key × V)} {d : Dt} {ds : List (List Key × Dt)} : Rp K G m x d → RpT K G m xs ds → RpT K G m ((k, x) :: xs) ((k, d) :: ds)
inductive RpF (K : PySem.W.Frag) (tb : List Str) (G : Hp) (m : List Addr) : List (Str × V) → List (Nat × Dt) → Prop
  | nil : RpF K tb G m [] []
  | cons {k : Nat} {z : Str} {x : V} {xs : List (Str × V)} {d : Dt} {ds : List (Nat × Dt)} : tb[k]? = some z → Rp K G m x d → RpF K tb G m xs ds → RpF K tb G m ((z, x) :: xs) ((k, d) :: ds)
section
variable {K : PySem.W.Frag} {tb : List Str} {G G' : Hp} {m m' : List Addr}
theorem RpT.up (s : Same G G') (p : Pre m m') : ∀ {xs : List (List Key × V)} {ds : List (List Key × Dt)}, RpT K G m xs ds → RpT K G' m' xs ds
  | _, _, .nil => .nil
  | _, _, .cons q r => .cons (q.up s p) (RpT.up s p r)
theorem RpF.up (s : Same G G') (p : Pre m m') : ∀ {xs : List (Str × V)} {ds : List (Nat × Dt)}, RpF K tb G m xs ds → RpF K tb G' m' xs ds
  | _, _, .nil => .nil
  | _, _, .cons e q r => .cons e (q.up s p) (RpF.up s p r)
end
/-! ## tables of code objects (they grow) -/
abbrev lamQ : Str := "in_order.<locals>.<lambda>"
def NoT (G : Hp) : Prop := ∀ b ps, G b ≠ some (.tbl ps)
def TabK (K : PySem.W.Frag) (H : Hp) : Prop := PySem.W.nsIn K mainGlobals "in_order" = some none ∨ LamX.TabS H (He.tabOf K (He.codeOf K ("in_order", none))) lamQ
/-- nothing is known there, but perhaps a table -/
def Nil (H : Hp) (b : Addr) : Prop := ∀ o, H b = some o → ∃ ps, o = .tbl ps
theorem Nil.of {H : Hp} {b : Addr} (h : H b = none) : Nil H b := fun o e => by rw [h] at e; cases e
theorem Nil.not {H : Hp} {b : Addr} {o : HO} (h : Nil H b) (e : H b = some o) (n : ∀ ps, o ≠ .tbl ps := by nofun) : False := by
  obtain ⟨ps, z⟩ := h o e
  exact n ps z
theorem same_upd {H : Hp} {p : Addr} {o : HO} (h : H p = none) : Same H (upd H p o) := fun b x e => by
  rw [upd_ne (ne_of_none e h)]
  exact e
theorem sub_upd {G H : Hp} (s : Same G H) {p : Addr} {o : HO} : Same (upd G p o) (upd H p o) := fun b x e => by
  by_cases hb : b = p
  · subst hb
    rw [upd_same] at e ⊢
    exact e
  · rw [upd_ne hb] at e ⊢
    exact s b x e
theorem none_back {H H' : Hp} (e : Same H H') {b : Addr} (h : H' b = none) : H b = none := Same.free e h
theorem nt_upd {G : Hp} (n : NoT G) {p : Addr} {o : HO} (ho : ∀ ps, o ≠ .tbl ps) : NoT (upd G p o) := fun b ps e => by
  by_cases hb : b = p
  · rw [hb, upd_same] at e
    cases e
    exact ho ps rfl
  · rw [upd_ne hb] at e
    exact n b ps e
theorem sub_mut {G H : Hp} {p : Addr} {o : HO} (s : Same G H) (hp : G p = none) : Same G (upd H p o) := fun b x e => by
  rw [upd_ne (ne_of_none e hp)]
  exact s b x e
theorem tab_mut {H : Hp} {p : Addr} {u o : HO} (e : H p = some u) (nu : ∀ ps, u ≠ .tbl ps) (nc : ∀ c q, u ≠ LamX.CodeO c q) {P : Addr} (h : LamX.TabS H P lamQ) : LamX.TabS (upd H p o) P lamQ := by
  obtain ⟨ps, hP, ht, ha⟩ := h
  refine ⟨ps, ?_, ht, fun pos cv hc => ?_⟩
  · rw [upd_ne (fun z => by rw [z, e] at hP; exact nu ps (Option.some.inj hP))]
    exact hP
  · obtain ⟨c, e1, e2⟩ := ha pos cv hc
    refine ⟨c, e1, ?_⟩
    rw [upd_ne (fun z => by rw [z, e] at e2; exact nc _ _ (Option.some.inj e2))]
    exact e2
/-! ## worlds: frozen part, heap, addresses of the live objects, their contents -/
structure Wd where
  G : Hp
  H : Hp
  m : List Addr
  s : Sto
section
variable (K : PySem.W.Frag) (tb : List Str)
/-- a content -/
def ObV (G : Hp) (m : List Addr) (u : HO) : Ob → Prop
  | .lst ds => ∃ vs, u = .lst vs ∧ RpA K G m vs ds
  | .dK ds => ∃ vs, u = .dK vs ∧ RpK K G m vs ds
  | .dT ds => ∃ vs, u = .dT vs ∧ RpT K G m vs ds
  | .ins c fs => ∃ z dx vs, tb[c]? = some z ∧ u = .ins (He.ga K z) dx vs ∧ RpF K tb G m vs fs
  | .fz _ => False
  | .lk _ => False
def ObR (G H : Hp) (m : List Addr) (a : Addr) : Ob → Prop
  | .fz d => Rp K G m (.ref a) d
  | .lk o => G a = none ∧ ∃ od u, H a = some (.frz od u) ∧ ObV K tb G m u o
  | o => G a = none ∧ ∃ u, H a = some u ∧ ObV K tb G m u o
structure Sim (w : Wd) : Prop where
  sub : Same w.G w.H
  nt : NoT w.G
  tk : TabK K w.H
  len : w.m.length = w.s.length
  nd : w.m.Nodup
  th : ∀ a, a ∈ w.m → ∃ o, w.H a = some o ∧ ∀ ps, o ≠ .tbl ps
  ob : ∀ (n : Nat) o a, w.s[n]? = some o → w.m[n]? = some a → ObR K tb w.G w.H w.m a o
structure Stp (w w' : Wd) : Prop where
  sim : Sim K tb w'
  g : Same w.G w'.G
  m : ∃ t, w'.m = w.m ++ t
  fr : ∀ b o, w.H b = some o → (∀ ps, o ≠ .tbl ps) → b ∉ w.m → w'.H b = some o
  tb : ∀ P, LamX.TabS w.H P lamQ → LamX.TabS w'.H P lamQ
  fs : ∀ a, a ∈ w'.m → a ∉ w.m → Nil w.H a
  nw : ∀ b o, w'.G b = some o → w.G b = none → Nil w.H b ∨ b ∈ w.m ∨ ∃ vs, w.H b = some (.tup vs)
  fz : ∀ b od u, w.H b = some (.frz od u) → w'.H b = some (.frz od u)
end
def Ob.live : Ob → Bool
  | .fz _ => false
  | .lk _ => false
  | _ => true
section
variable {K : PySem.W.Frag} {tb : List Str} {w w1 w2 : Wd}
theorem Stp.pre (s : Stp K tb w w1) : Pre w.m w1.m := by
  obtain ⟨t, e⟩ := s.m
  rw [e]
  exact Pre.app _ _
theorem Stp.mem (s : Stp K tb w w1) {a : Addr} (h : a ∈ w.m) : a ∈ w1.m := by
  obtain ⟨t, e⟩ := s.m
  rw [e]
  exact List.mem_append_left _ h
theorem Stp.refl (h : Sim K tb w) : Stp K tb w w := ⟨h, Same.refl _, ⟨[], by simp⟩, fun b o e _ _ => e, fun _ h => h, fun a h n => absurd h n, fun b o e n => (by rw [e] at n; cases n), fun _ _ _ e => e⟩
theorem Stp.nil (s : Stp K tb w w1) {b : Addr} (h : Nil w1.H b) (n : b ∉ w.m) : Nil w.H b := fun o e => by
  by_cases q : ∃ ps, o = .tbl ps
  · exact q
  · exact h o (s.fr b o e (fun ps z => q ⟨ps, z⟩) n)
theorem Stp.trans (a : Stp K tb w w1) (b : Stp K tb w1 w2) : Stp K tb w w2 where
  sim := b.sim
  g := a.g.trans b.g
  m := by
    obtain ⟨t, e⟩ := a.m
    obtain ⟨u, e2⟩ := b.m
    exact ⟨t ++ u, by rw [e2, e, List.append_assoc]⟩
  fr := fun c o e n h => b.fr c o (a.fr c o e n h) n fun q => by
    obtain ⟨ps, z⟩ := a.fs c q h o e
    exact n ps z
  tb := fun P h => b.tb P (a.tb P h)
  fs := fun c h n => by
    by_cases q : c ∈ w1.m
    · exact a.fs c q n
    · exact a.nil (b.fs c h q) n
  nw := fun c o e n => by
    cases q : w1.G c with
    | some u => exact a.nw c u q n
    | none =>
      by_cases hm : c ∈ w.m
      · exact .inr (.inl hm)
      · rcases b.nw c o e q with h | h | ⟨vs, h⟩
        · exact .inl (a.nil h hm)
        · exact .inl (a.fs c h hm)
        · by_cases z : Nil w.H c
          · exact .inl z
          · obtain ⟨u, hu⟩ : ∃ u, w.H c = some u ∧ ∀ ps, u ≠ .tbl ps := Classical.byContradiction fun no => z fun u hu => Classical.byContradiction fun nt => no ⟨u, hu, fun ps e => nt ⟨ps, e⟩⟩
            have := (a.fr c u hu.1 hu.2 hm).symm.trans h
            exact .inr (.inr ⟨vs, hu.1.trans this⟩)
  fz := fun c od u e => b.fz c od u (a.fz c od u e)
theorem ObV.up {G G' : Hp} {m m' : List Addr} {u : HO} (s : Same G G') (p : Pre m m') : ∀ {o : Ob}, ObV K tb G m u o → ObV K tb G' m' u o
  | .lst ds, ⟨vs, e, r⟩ => ⟨vs, e, r.up s p⟩
  | .dK ds, ⟨vs, e, r⟩ => ⟨vs, e, r.up s p⟩
  | .dT ds, ⟨vs, e, r⟩ => ⟨vs, e, r.up s p⟩
  | .ins c fs, ⟨z, dx, vs, e, e2, r⟩ => ⟨z, dx, vs, e, e2, r.up s p⟩
theorem ObV.nt {G : Hp} {m : List Addr} {u : HO} : ∀ {o : Ob}, ObV K tb G m u o → (∀ ps, u ≠ .tbl ps) ∧ (∀ c q, u ≠ LamX.CodeO c q)
  | .lst ds, ⟨vs, e, r⟩ => by subst e; exact ⟨by nofun, by nofun⟩
  | .dK ds, ⟨vs, e, r⟩ => by subst e; exact ⟨by nofun, by nofun⟩
  | .dT ds, ⟨vs, e, r⟩ => by subst e; exact ⟨by nofun, by nofun⟩
  | .ins c fs, ⟨z, dx, vs, e, e2, r⟩ => by subst e2; exact ⟨by nofun, by nofun⟩
theorem ObV.nfz {G : Hp} {m : List Addr} {u : HO} : ∀ {o : Ob}, ObV K tb G m u o → ∀ od x, u ≠ .frz od x
  | .lst ds, ⟨vs, e, r⟩ => by subst e; exact fun od x z => (by cases z)
  | .dK ds, ⟨vs, e, r⟩ => by subst e; exact fun od x z => (by cases z)
  | .dT ds, ⟨vs, e, r⟩ => by subst e; exact fun od x z => (by cases z)
  | .ins c fs, ⟨z, dx, vs, e, e2, r⟩ => by subst e2; exact fun od x z => (by cases z)
theorem ObV.nt1 {G : Hp} {m : List Addr} {u : HO} {o : Ob} (h : ObV K tb G m u o) : ∀ ps, u ≠ .tbl ps := (ObV.nt h).1
theorem ObV.ntt {G : Hp} {m : List Addr} {u : HO} : ∀ {o : Ob}, ObV K tb G m u o → ∀ vs, u ≠ .tup vs
  | .lst ds, ⟨vs, e, r⟩ => by subst e; exact fun x z => (by cases z)
  | .dK ds, ⟨vs, e, r⟩ => by subst e; exact fun x z => (by cases z)
  | .dT ds, ⟨vs, e, r⟩ => by subst e; exact fun x z => (by cases z)
  | .ins c fs, ⟨z, dx, vs, e, e2, r⟩ => by subst e2; exact fun x z => (by cases z)
/-- a content stays as it is, its address stays not frozen -/
theorem ObR.up {G G' H H' : Hp} {m m' : List Addr} {a : Addr} (s : Same G G') (p : Pre m m') (hG : G a = none → (∃ u, H a = some u ∧ (∀ ps, u ≠ .tbl ps) ∧ ∀ vs, u ≠ .tup vs) → G' a = none) (hH : ∀ u, H a = some u → (∀ ps, u ≠ .tbl ps) → H' a = some u) : ∀ {o : Ob}, ObR K tb G H m a o → ObR K tb G' H' m' a o
  | .fz d, h => Rp.up h s p
  | .lk o, ⟨n, od, u, e, r⟩ => ⟨hG n ⟨_, e, by nofun, by nofun⟩, od, u, hH _ e (by nofun), r.up s p⟩
  | .lst ds, ⟨n, u, e, r⟩ => ⟨hG n ⟨_, e, ObV.nt1 r, ObV.ntt r⟩, _, hH _ e (ObV.nt1 r), r.up s p⟩
  | .dK ds, ⟨n, u, e, r⟩ => ⟨hG n ⟨_, e, ObV.nt1 r, ObV.ntt r⟩, _, hH _ e (ObV.nt1 r), r.up s p⟩
  | .dT ds, ⟨n, u, e, r⟩ => ⟨hG n ⟨_, e, ObV.nt1 r, ObV.ntt r⟩, _, hH _ e (ObV.nt1 r), r.up s p⟩
  | .ins c fs, ⟨n, u, e, r⟩ => ⟨hG n ⟨_, e, ObV.nt1 r, ObV.ntt r⟩, _, hH _ e (ObV.nt1 r), r.up s p⟩
theorem ObR.live {G H : Hp} {m : List Addr} {a : Addr} : ∀ {o : Ob}, o.live = true → ObR K tb G H m a o → G a = none ∧ ∃ u, H a = some u ∧ ObV K tb G m u o
  | .lst ds, _, h => h
  | .dK ds, _, h => h
  | .dT ds, _, h => h
  | .ins c fs, _, h => h
theorem ObR.of {G H : Hp} {m : List Addr} {a : Addr} {u : HO} (n : G a = none) (e : H a = some u) : ∀ {o : Ob}, ObV K tb G m u o → ObR K tb G H m a o
  | .lst ds, h => ⟨n, u, e, h⟩
  | .dK ds, h => ⟨n, u, e, h⟩
  | .dT ds, h => ⟨n, u, e, h⟩
  | .ins c fs, h => ⟨n, u, e, h⟩
theorem Sim.get (S : Sim K tb w) {n : Nat} {o : Ob} (e : w.s[n]? = some o) : ∃ a, w.m[n]? = some a ∧ ObR K tb w.G w.H w.m a o := by
  have h : n < w.m.length := by rw [S.len]; exact (List.getElem?_eq_some_iff.mp e).1
  exact ⟨w.m[n], List.getElem?_eq_getElem h, S.ob n o _ e (List.getElem?_eq_getElem h)⟩
theorem Sim.notG (S : Sim K tb w) {a : Addr} (h : w.G a = none) {p : Addr} (hp : w.H p = none) {u : HO} (e : w.H a = some u) {o : HO} : upd w.G p o a = none := by
  rw [upd_ne (ne_of_none e hp)]
  exact h
theorem Sim.ne (S : Sim K tb w) {p a : Addr} (hp : w.H p = none) (h : a ∈ w.m) : a ≠ p := by
  obtain ⟨o, e, _⟩ := S.th a h
  exact ne_of_none e hp
/-- a new frozen object -/
theorem Stp.lay (S : Sim K tb w) {p : Addr} (o : HO) (hp : w.H p = none) (ho : ∀ ps, o ≠ .tbl ps := by nofun) : Stp K tb w ⟨upd w.G p o, upd w.H p o, w.m, w.s⟩ where
  sim := ⟨sub_upd S.sub, nt_upd S.nt ho, S.tk.imp id fun h => h.ext (same_upd hp), S.len, S.nd, fun a h => by
      obtain ⟨u, e, n⟩ := S.th a h
      exact ⟨u, by show upd w.H p o a = _; rw [upd_ne (ne_of_none e hp)]; exact e, n⟩, fun n ob a e1 e2 => (S.ob n ob a e1 e2).up (same_upd (none_back S.sub hp)) (Pre.refl _) (fun q ⟨u, e, _⟩ => S.notG q hp e) fun u e _ => by
    show upd w.H p o a = _
    rw [upd_ne (ne_of_none e hp)]
    exact e⟩
  g := same_upd (none_back S.sub hp)
  m := ⟨[], by simp⟩
  fr := fun b x e _ _ => by
    show upd w.H p o b = _
    rw [upd_ne (ne_of_none e hp)]
    exact e
  tb := fun P h => h.ext (same_upd hp)
  fs := fun a h n => absurd h n
  nw := fun b x e n => by
    by_cases hb : b = p
    · rw [hb]; exact .inl (Nil.of hp)
    · have e' : upd w.G p o b = some x := e
      rw [upd_ne hb, n] at e'; cases e'
  fz := fun b od u e => by
    show upd w.H p o b = _
    rw [upd_ne (ne_of_none e hp)]
    exact e
/-- a new live object -/
theorem Stp.new (S : Sim K tb w) {p : Addr} {u : HO} {o : Ob} (hp : w.H p = none) (r : ObV K tb w.G w.m u o) : Stp K tb w ⟨w.G, upd w.H p u, w.m ++ [p], w.s ++ [o]⟩ where
  sim := by
    have gp : w.G p = none := none_back S.sub hp
    have nm : p ∉ w.m := fun h => S.ne hp h rfl
    have keep : ∀ (a : Addr) u', w.H a = some u' → upd w.H p u a = some u' := fun a u' e => by rw [upd_ne (ne_of_none e hp)]; exact e
    refine ⟨sub_mut S.sub gp, S.nt, S.tk.imp id fun h => h.ext (same_upd hp), by simp [S.len], ?_, fun a h => ?_, fun n ob a e1 e2 => ?_⟩
    · rw [List.nodup_append]
      refine ⟨S.nd, by simp, fun a ha b hb z => ?_⟩
      rw [List.mem_singleton] at hb
      exact nm (hb ▸ z ▸ ha)
    · rcases List.mem_append.mp h with h | h
      · obtain ⟨u', e, n⟩ := S.th a h
        exact ⟨u', keep a u' e, n⟩
      · rw [List.mem_singleton] at h
        subst h
        exact ⟨u, upd_same, ObV.nt1 r⟩
    · by_cases hn : n < w.s.length
      · have e1' : w.s[n]? = some ob := by
          have z : (w.s ++ [o])[n]? = some ob := e1
          rwa [List.getElem?_append_left hn] at z
        have e2' : w.m[n]? = some a := by
          have z : (w.m ++ [p])[n]? = some a := e2
          rwa [List.getElem?_append_left (by rw [S.len]; exact hn)] at z
        exact (S.ob n ob a e1' e2').up (Same.refl _) (Pre.app _ _) (fun q _ => q) fun u' e _ => keep a u' e
      · have hl : n < (w.s ++ [o]).length := (List.getElem?_eq_some_iff.mp e1).1
        have hn' : n = w.s.length := by rw [List.length_append, List.length_singleton] at hl; omega
        subst hn'
        have z1 : (w.s ++ [o])[w.s.length]? = some ob := e1
        have z2 : (w.m ++ [p])[w.s.length]? = some a := e2
        rw [List.getElem?_concat_length] at z1
        rw [← S.len, List.getElem?_concat_length] at z2
        cases z1
        cases z2
        exact ObR.of gp upd_same (r.up (Same.refl _) (Pre.app _ _))
  g := Same.refl _
  m := ⟨[p], rfl⟩
  fr := fun b x e _ _ => by
    show upd w.H p u b = _
    rw [upd_ne (ne_of_none e hp)]
    exact e
  tb := fun P h => h.ext (same_upd hp)
  fs := fun a h n => by
    rcases List.mem_append.mp h with h | h
    · exact absurd h n
    · rw [List.mem_singleton] at h
      subst h
      exact Nil.of hp
  nw := fun b x e n => by rw [show w.G b = some x from e] at n; cases n
  fz := fun b od x e => by
    show upd w.H p u b = _
    rw [upd_ne (ne_of_none e hp)]
    exact e
theorem get_mem {m : List Addr} {n : Nat} {a : Addr} (h : m[n]? = some a) : a ∈ m := List.mem_of_getElem? h
theorem nd_eq {m : List Addr} (nd : m.Nodup) {n k : Nat} {a : Addr} (h : m[n]? = some a) (h2 : m[k]? = some a) : n = k := by
  obtain ⟨h1, e1⟩ := List.getElem?_eq_some_iff.mp h
  obtain ⟨h3, e3⟩ := List.getElem?_eq_some_iff.mp h2
  exact (List.getElem_inj nd).mp (e1.trans e3.symm)
/-- a live object is written -/
theorem Stp.put (S : Sim K tb w) {n : Nat} {a : Addr} {o o' : Ob} {u : HO} (hs : w.s[n]? = some o) (hm : w.m[n]? = some a) (hl : o.live = true) (r : ObV K tb w.G w.m u o') : Stp K tb w ⟨w.G, upd w.H a u, w.m, w.s.set n o'⟩ := by
  obtain ⟨gp, u0, hu, r0⟩ := (S.ob n o a hs hm).live hl
  have tabs : ∀ P, LamX.TabS w.H P lamQ → LamX.TabS (upd w.H a u) P lamQ := fun P h => tab_mut hu (ObV.nt r0).1 (ObV.nt r0).2 h
  refine ⟨⟨sub_mut S.sub gp, S.nt, S.tk.imp id (tabs _), by simp [S.len], S.nd, fun b h => ?_, fun k ob b e1 e2 => ?_⟩, Same.refl _, ⟨[], by simp⟩, fun b x e _ h => ?_, tabs, fun b h n => absurd h n, fun b x e n => (by rw [show w.G b = some x from e] at n; cases n), fun b od x e => ?_⟩
  · by_cases hb : b = a
    · rw [hb]; exact ⟨u, upd_same, ObV.nt1 r⟩
    · obtain ⟨u', e, n⟩ := S.th b h
      exact ⟨u', by show upd w.H a u b = _; rw [upd_ne hb]; exact e, n⟩
  · have e1' : (w.s.set n o')[k]? = some ob := e1
    rw [List.getElem?_set] at e1'
    by_cases hk : n = k
    · subst hk
      rw [if_pos rfl] at e1'
      split at e1'
      · cases e1'
        have := hm.symm.trans e2
        cases this
        exact ObR.of gp upd_same r
      · cases e1'
    · rw [if_neg hk] at e1'
      have nb : b ≠ a := fun z => hk (nd_eq S.nd hm (z ▸ e2))
      exact (S.ob k ob b e1' e2).up (Same.refl _) (Pre.refl _) (fun q _ => q) fun u' e _ => by
        show upd w.H a u b = _
        rw [upd_ne nb]
        exact e
  · show upd w.H a u b = _
    rw [upd_ne (fun z => h (by rw [z]; exact get_mem hm))]
    exact e
  · show upd w.H a u b = _
    rw [upd_ne (fun z => by rw [z, hu] at e; exact ObV.nfz r0 _ _ (Option.some.inj e))]
    exact e
end
end Ip

namespace Ip
open PySem L2 PySem.Spec
/-! ## the small language -/
/-- targets: a name, names in a tuple -/
inductive Tg where
  | nm (i : Nat) | tp (is : List Nat)
inductive BO where
  | add | sub | mul | div | mod | pow
inductive CO where
  | eq | ne | lt | le | gt | ge | inn | nin
/-- built-in defs -/
inductive BI where
  | abs | len | mx | mn | int | str | list | dict | sum | sorted | sset | lset
/-- kinds, for isinstance -/
inductive Ty where
  | non | bool | int | str | tup | lst | dic
  deriving DecidableEq
/-- methods of built-in types -/
inductive MI where
  | append | insert | reverse | pop0 | pop1 | clear | index | get1 | get2 | setd | join | split | part | upper
inductive E where
  | var (i : Nat) | con (d : Dt) | nil | cons (a r : E)
  | tup (a : E) | lst (lv : Bool) (a : E) | dic (t : Bool) | neg (a : E)
  | bin (o : BO) (a b : E) | cmp (o : CO) (a b : E) | chn (o p : CO) (a b c : E)
  | isN (n : Bool) (a : E) | isB (n b : Bool) (a : E)
  | and (a b : E) | or (a b : E) | not (a : E) | ite (c a b : E)
  | ix (a b : E) | sl (a lo hi : E) | rev (a : E) | rev0 (a : E) | sst (lv : Bool) (a : E) | sln (a : E)
  | bi (b : BI) (lv : Bool) (a : E) | isT (n : Ty) (a : E) | mt (m : MI) (o a : E)
  | call (f : Nat) (a : E) | cali (f : Nat) (a : E) | cald (f : Nat) (ds : List Dt) (a : E)
  | new (c : Nat) (a : E) | ome (c m : Nat) (o a : E) | att (f : Nat) (o : E)
  | lc (lv : Bool) (own : List Nat) (elt : E) (tg : Tg) (it c : E)
  | srtK (a : E) (cm : Nat)
  | rng1 (b : E) | rng (a b : E) | rngd (a b : E) | zip (a b : E) | enu (a : E)
  | isX (cs : List Nat) | exf (f : Nat) | fz (a : E) | sdf (t : Bool) (d k : E) | lkd (o e : E)
inductive S where
  | skip | seq (a b : S) | set (i : Nat) (e : E) | unp (tg : List Nat) (e : E) | par (i j : Nat) (a b : E)
  | six (o i e : E) | sat (f : Nat) (o e : E) | ex (e : E) | ret (e : E) | retN
  | ite (c : E) (a b : S) | for_ (tg : Tg) (it : E) (b : S) | whl (c : E) (b : S)
  | rai (x : Nat) (a : E) | tri (b h : S) | hd (x : Nat) (v : Option Nat) (b r : S) | hn | lkd (o : E) (b : S)
/-! ## results -/
structure Er where
  cls : Nat
  pay : List (Nat × Dt) := []
inductive R (α : Type) where
  | no | ok (a : α) (s : Sto) | er (e : Er) (s : Sto)
def R.bind {α β : Type} (r : R α) (k : α → Sto → R β) : R β :=
  match r with
  | .no => .no
  | .ok a s => k a s
  | .er e s => .er e s
@[simp] theorem R.bind_ok {α β : Type} (a : α) (s : Sto) (k : α → Sto → R β) : (R.ok a s).bind k = k a s := rfl
@[simp] theorem R.bind_no {α β : Type} (k : α → Sto → R β) : (R.no).bind k = .no := rfl
@[simp] theorem R.bind_er {α β : Type} (e : Er) (s : Sto) (k : α → Sto → R β) : (R.er e s).bind k = .er e s := rfl
abbrev Loc := List (Option Dt)
inductive O where
  | no | nx (l : Loc) (s : Sto) | rt (d : Dt) (s : Sto) | er (e : Er) (l : Loc) (s : Sto)
def O.then (o : O) (k : Loc → Sto → O) : O :=
  match o with
  | .nx l s => k l s
  | o => o
@[simp] theorem O.then_nx (l : Loc) (s : Sto) (k : Loc → Sto → O) : (O.nx l s).then k = k l s := rfl
@[simp] theorem O.then_no (k : Loc → Sto → O) : (O.no).then k = .no := rfl
@[simp] theorem O.then_rt (d : Dt) (s : Sto) (k : Loc → Sto → O) : (O.rt d s).then k = .rt d s := rfl
@[simp] theorem O.then_er (e : Er) (l : Loc) (s : Sto) (k : Loc → Sto → O) : (O.er e l s).then k = .er e l s := rfl
/-- no error may leave -/
def R.tame {α : Type} (r : R α) : R α := match r with
  | .er _ _ => .no
  | r => r
@[simp] theorem R.tame_ok {α : Type} (a : α) (s : Sto) : (R.ok a s).tame = .ok a s := rfl
@[simp] theorem R.tame_no {α : Type} : (R.no : R α).tame = .no := rfl
/-- an expression's result in a statement -/
def R.out {α : Type} (r : R α) (l : Loc) (k : α → Sto → O) : O :=
  match r with
  | .no => .no
  | .ok a s => k a s
  | .er e s => .er e l s
@[simp] theorem R.out_ok {α : Type} (a : α) (s : Sto) (l : Loc) (k : α → Sto → O) : (R.ok a s).out l k = k a s := rfl
@[simp] theorem R.out_no {α : Type} (l : Loc) (k : α → Sto → O) : (R.no).out l k = .no := rfl
@[simp] theorem R.out_er {α : Type} (e : Er) (s : Sto) (l : Loc) (k : α → Sto → O) : (R.er e s).out l k = .er e l s := rfl
theorem R.bind_congr {α β : Type} {r r' : R α} {k : α → Sto → R β} (e : r = r') : r.bind k = r'.bind k := by rw [e]
theorem R.out_congr {α : Type} {r r' : R α} {l : Loc} {k : α → Sto → O} (e : r = r') : r.out l k = r'.out l k := by rw [e]
theorem O.then_congr {o o' : O} {k : Loc → Sto → O} (e : o = o') : o.then k = o'.then k := by rw [e]
/-- by a truth -/
def brn {α : Type} (d : Dt) (no t f : α) : α := match d with
  | .bl true => t
  | .bl false => f
  | _ => no
@[simp] theorem brn_bl {α : Type} (k : Bool) (n t f : α) : brn (.bl k) n t f = cond k t f := by cases k <;> rfl
theorem brn_congr {α : Type} {d d' : Dt} {n t f : α} (e : d = d') : brn d n t f = brn d' n t f := by rw [e]
theorem cond_congr' {α : Type} {c c' : Bool} {t f : α} (e : c = c') : cond c t f = cond c' t f := by rw [e]
def getL (o : Option (Option Dt)) (s : Sto) : R Dt := match o with
  | some (some d) => .ok d s
  | _ => .no
@[simp] theorem getL_some (d : Dt) (s : Sto) : getL (some (some d)) s = .ok d s := rfl
def withO {α β : Type} (o : Option α) (n : β) (k : α → β) : β := match o with
  | some a => k a
  | none => n
@[simp] theorem withO_some {α β : Type} (a : α) (n : β) (k : α → β) : withO (some a) n k = k a := rfl
@[simp] theorem withO_none {α β : Type} (n : β) (k : α → β) : withO none n k = n := rfl
theorem withO_congr {α β : Type} {o o' : Option α} {n : β} {k : α → β} (e : o = o') : withO o n k = withO o' n k := by rw [e]
/-- whole numbers -/
def asI {β : Type} (d : Dt) (n : β) (k : Int → β) : β := match d with
  | .int i => k i
  | _ => n
@[simp] theorem asI_int {β : Type} (i : Int) (n : β) (k : Int → β) : asI (.int i) n k = k i := rfl
theorem asI_congr {β : Type} {d d' : Dt} {n : β} {k : Int → β} (e : d = d') : asI d n k = asI d' n k := by rw [e]
/-! ## values -/
/-- a live object seen as data -/
def viewO (o : Option Ob) (n : Nat) : Dt := match o with
  | some (.lst l) => .lst l
  | some (.dK l) => .dic l
  | some (.fz d) => d
  | some (.lk (.lst l)) => .lst l
  | some (.lk (.dK l)) => .dic l
  | _ => .obj n
def view (s : Sto) (d : Dt) : Dt := match d with
  | .obj n => viewO s[n]? n
  | d => d
mutual
def Dt.py : Dt → PyData
  | .non => .none
  | .bl b => .bool b
  | .int i => .int i
  | .str s => .str s
  | .tup l => .tuple (Dt.pys l)
  | .lst l => .list (Dt.pys l)
  | .dic _ => .none
  | .obj _ => .none
def Dt.pys : List Dt → List PyData
  | [] => []
  | d :: ds => d.py :: Dt.pys ds
end
mutual
/-- data without dicts and live objects -/
def Dt.flat : Dt → Bool
  | .tup l => Dt.flats l
  | .lst l => Dt.flats l
  | .dic _ => false
  | .obj _ => false
  | _ => true
def Dt.flats : List Dt → Bool
  | [] => true
  | d :: ds => d.flat && Dt.flats ds
end
mutual
/-- data without live objects -/
def Dt.fr : Dt → Bool
  | .tup l => Dt.frs l
  | .lst l => Dt.frs l
  | .dic l => Dt.frk l
  | .obj _ => false
  | _ => true
def Dt.frs : List Dt → Bool
  | [] => true
  | d :: ds => d.fr && Dt.frs ds
def Dt.frk : List (Key × Dt) → Bool
  | [] => true
  | (_, d) :: ds => d.fr && Dt.frk ds
end
/-- data that == may look at -/
def okEq (d : Dt) : Bool := d.flat && SeqAt.shaped d.py
def keyOf : Dt → Option Key
  | .int i => some (.inl i)
  | .str x => some (.inr x)
  | _ => none
def keysOf : List Dt → Option (List Key)
  | [] => some []
  | d :: ds => match keyOf d, keysOf ds with
    | some k, some ks => some (k :: ks)
    | _, _ => none
def ofKey : Key → Dt
  | .inl i => .int i
  | .inr x => .str x
def ofKeyT (k : List Key) : Dt := .tup (k.map ofKey)
def isStrD : Dt → Bool
  | .str _ => true
  | _ => false
def tkeyOf : Dt → Option (List Key)
  | .tup l => if l.any isStrD = true then keysOf l else none
  | _ => none
def lookK {κ α : Type} [DecidableEq κ] (l : List (κ × α)) (k : κ) : Option α := (l.find? fun p => decide (p.1 = k)).map (·.2)
def setK {κ α : Type} [DecidableEq κ] (l : List (κ × α)) (k : κ) (v : α) : List (κ × α) := if (lookK l k).isSome = true then l.map (fun p => if p.1 = k then (p.1, v) else p) else l ++ [(k, v)]
def delK {κ α : Type} [DecidableEq κ] (l : List (κ × α)) (k : κ) : List (κ × α) := l.filter fun p => decide (p.1 ≠ k)
/-- what stands at a key, where it is a dict and a key -/
def dGet (o k : Dt) (s : Sto) : Option (Option Dt) := match view s o with
  | .dic l => (keyOf k).map fun k => lookK l k
  | .obj n => match s[n]? with
    | some (.dT l) => (tkeyOf k).map fun k => lookK l k
    | some (.lk (.dT l)) => (tkeyOf k).map fun k => lookK l k
    | _ => none
  | _ => none
/-- what a result is, its live objects resolved -/
def rslv (s : Sto) : Nat → Dt → Option Dt
  | 0, d => if d.fr = true then some d else none
  | n + 1, d => if d.fr = true then some d else match d with
    | .obj i => match s[i]? with
      | some (.lst l) => (l.mapM (rslv s n)).map .lst
      | some (.dK l) => (l.mapM fun p => (rslv s n p.2).map fun z => (p.1, z)).map .dic
      | some (.fz e) => if e.fr = true then some e else none
      | _ => none
    | .tup l => (l.mapM (rslv s n)).map .tup
    | _ => none
/-! ## operators -/
def cPow (i j : Int) : Bool := decide (0 ≤ j) && (decide (j ≤ 1000000) && decide (i.natAbs < 2 ^ 64))
noncomputable def binS (o : BO) (a b : Dt) (s : Sto) : R Dt :=
  open Classical in
  match o with
  | .add => match view s a, view s b with
    | .int i, .int j => .ok (.int (i + j)) s
    | .str x, .str y => if x.length + y.length ≤ sizeLine then .ok (.str (x ++ y)) s else .no
    | .lst x, .lst y => if x.length + y.length ≤ sizeLine then .ok (.lst (x ++ y)) s else .no
    | _, _ => .no
  | .sub => match a, b with
    | .int i, .int j => .ok (.int (i - j)) s
    | _, _ => .no
  | .mul => match a, b with
    | .int i, .int j => if IntMulOk i j then .ok (.int (i * j)) s else .no
    | .obj n, .int k => match s[n]? with
      | some (.lst l) => if 0 ≤ k ∧ k < 2 ^ 40 ∧ l.length * k.toNat ≤ sizeLine then .ok (.lst (List.replicate k.toNat l).flatten) s else .no
      | _ => .no
    | _, _ => .no
  | .div => match a, b with
    | .int i, .int j => if j ≠ 0 ∧ Builtin.divisionGoesByPylong i j = false then .ok (.int (i.fdiv j)) s else .no
    | _, _ => .no
  | .mod => match a, b with
    | .int i, .int j => if j ≠ 0 then .ok (.int (i.fmod j)) s else .no
    | _, _ => .no
  | .pow => match a, b with
    | .int i, .int j => if cPow i j = true then .ok (.int (i ^ j.toNat)) s else .no
    | _, _ => .no
/-- comparisons of two values -/
noncomputable def cmpS (o : CO) (a b : Dt) (s : Sto) : R Dt :=
  open Classical in
  match o with
  | .eq => if okEq (view s a) = true ∧ okEq (view s b) = true then .ok (.bl (PyData.eqv (view s a).py (view s b).py)) s else match rslv s 4 a, rslv s 4 b with
    | some x, some y => if okEq x = true ∧ okEq y = true then .ok (.bl (PyData.eqv x.py y.py)) s else .no
    | _, _ => .no
  | .ne => if okEq (view s a) = true ∧ okEq (view s b) = true then .ok (.bl (!PyData.eqv (view s a).py (view s b).py)) s else match rslv s 4 a, rslv s 4 b with
    | some x, some y => if okEq x = true ∧ okEq y = true then .ok (.bl (!PyData.eqv x.py y.py)) s else .no
    | _, _ => .no
  | .lt => match a, b with
    | .int i, .int j => .ok (.bl (decide (i < j))) s
    | .str x, .str y => .ok (.bl (decide (x.cps.toList < y.cps.toList))) s
    | _, _ => .no
  | .le => match a, b with
    | .int i, .int j => .ok (.bl (decide (i ≤ j))) s
    | .str x, .str y => .ok (.bl (!decide (y.cps.toList < x.cps.toList))) s
    | _, _ => .no
  | .gt => match a, b with
    | .int i, .int j => .ok (.bl (decide (j < i))) s
    | _, _ => .no
  | .ge => match a, b with
    | .int i, .int j => .ok (.bl (decide (j ≤ i))) s
    | _, _ => .no
  | .inn => match view s b with
    | .lst l => if okEq (view s a) = true ∧ okEq (.lst l) = true then .ok (.bl ((Dt.pys l).any fun z => PyData.eqv z (view s a).py)) s else .no
    | .str z => match a with
      | .str x => .ok (.bl (!(Builtin.Str.occurrences z x 0 z.length 1).isEmpty)) s
      | _ => .no
    | _ => match dGet b a s with
      | some o => .ok (.bl o.isSome) s
      | none => .no
  | .nin => match view s b with
    | .lst l => if okEq (view s a) = true ∧ okEq (.lst l) = true then .ok (.bl (!(Dt.pys l).any fun z => PyData.eqv z (view s a).py)) s else .no
    | .str z => match a with
      | .str x => .ok (.bl (!!(Builtin.Str.occurrences z x 0 z.length 1).isEmpty)) s
      | _ => .no
    | _ => match dGet b a s with
      | some o => .ok (.bl (!o.isSome)) s
      | none => .no
/-- x[i] -/
def ixS (a b : Dt) (s : Sto) : R Dt :=
  match view s a, b with
  | .tup l, .int i => withO (atI l i) .no fun d => .ok d s
  | .lst l, .int i => withO (atI l i) .no fun d => .ok d s
  | .str z, .int i => if z.length ≤ sizeLine then withO (atI z.cps.toList i) .no fun c => .ok (.str ⟨#[c]⟩) s else .no
  | _, _ => match dGet a b s with
    | some (some d) => .ok d s
    | _ => .no
def cutD (ds : List Dt) (lo hi : Option Int) : List Dt := (ds.drop (HT.sIx ds.length 0 lo)).take (HT.sIx ds.length ds.length hi - HT.sIx ds.length 0 lo)
def slS (a : Dt) (lo hi : Option Int) (s : Sto) : R Dt :=
  match view s a with
  | .lst l => .ok (.lst (cutD l lo hi)) s
  | _ => .no
def revS (a : Dt) (s : Sto) : R Dt :=
  match view s a with
  | .lst l => .ok (.lst l.reverse) s
  | _ => .no
/-- x[:0:-1] -/
def rev0S (a : Dt) (s : Sto) : R Dt :=
  match view s a with
  | .lst l => .ok (.lst (l.drop 1).reverse) s
  | _ => .no
/-! ## built-ins -/
def intsOf : List Dt → Option (List Int)
  | [] => some []
  | .int i :: ds => (intsOf ds).map (i :: ·)
  | _ :: _ => none
def strsOf : List Dt → Option (List Str)
  | [] => some []
  | .str i :: ds => (strsOf ds).map (i :: ·)
  | _ :: _ => none
def srtI (l : List Int) : List Int := l.mergeSort fun a b => decide (a ≤ b)
/-- a new list, live or not -/
def mkL (lv : Bool) (l : List Dt) (s : Sto) : R Dt := if lv = true then .ok (.obj s.length) (s ++ [.lst l]) else .ok (.lst l) s
/-- texts, each once -/
def nubS : List Str → List Str
  | [] => []
  | x :: r => if x ∈ r then nubS r else x :: nubS r
def leS (a b : Str) : Bool := decide (a.cps.toList ≤ b.cps.toList)
/-- sorted(set(texts)) -/
def sstS (lv : Bool) (a : Dt) (s : Sto) : R Dt := match view s a with
  | .lst l => match strsOf l with
    | some xs => if xs.length < 4000 then mkL lv (((nubS xs).mergeSort leS).map Dt.str) s else .no
    | none => .no
  | _ => .no
/-- len(set(texts)) -/
def slnS (a : Dt) (s : Sto) : R Dt := match view s a with
  | .lst l => match strsOf l with
    | some xs => if xs.length < 4000 then .ok (.int ((nubS xs).length : Nat)) s else .no
    | none => .no
  | _ => .no
def isTupD : Dt → Bool
  | .tup (_ :: _) => true
  | _ => false
/-- tuples that sorted may look at -/
def SortOk (l : List Dt) : Prop := (∀ d ∈ l, d.flat = true) ∧ PySem.W.AllAlike (l.map Dt.py) ∧ PySem.W.Sortable (l.map Dt.py) ∧ ∀ d ∈ l, d.py.depth ≤ 60
open Classical in
noncomputable def biS (b : BI) (lv : Bool) (as : List Dt) (s : Sto) : R Dt :=
  match b, as with
  | .abs, [.int i] => .ok (.int i.natAbs) s
  | .len, [a] => match view s a with
    | .lst l => .ok (.int l.length) s
    | .tup l => .ok (.int l.length) s
    | .dic l => .ok (.int l.length) s
    | .str z => if z.length ≤ sizeLine then .ok (.int z.length) s else .no
    | _ => .no
  | .mx, [.int i, .int j] => .ok (.int (max i j)) s
  | .mn, [.int i, .int j] => .ok (.int (min i j)) s
  | .int, [.int i] => .ok (.int i) s
  | .int, [.bl k] => .ok (.int (if k = true then 1 else 0)) s
  | .list, [a] => match view s a with
    | .lst l => mkL lv l s
    | .tup l => mkL lv l s
    | .dic l => mkL lv (l.map fun p => ofKey p.1) s
    | _ => .no
  | .dict, [a] => match view s a with
    | .dic l => .ok (.obj s.length) (s ++ [.dK l])
    | _ => .no
  | .mx, [a] => match view s a with
    | .lst l => match intsOf l with
      | some (i :: ns) => .ok (.int (ns.foldl max i)) s
      | _ => .no
    | _ => .no
  | .sum, [a] => match view s a with
    | .lst l => match intsOf l with
      | some ns => .ok (.int ns.sum) s
      | none => .no
    | _ => .no
  | .sorted, [a] => match view s a with
    | .lst l => match intsOf l with
      | some ns => mkL lv ((srtI ns).map Dt.int) s
      | none => if SortOk l then mkL lv (l.mergeSort (PySem.W.dataLe false Dt.py)) s else .no
    | .dic l => if l.length < 64 ∧ ((∀ p ∈ l, ∃ x : Str, p.1 = .inr x) ∨ ∀ p ∈ l, ∃ i : Int, p.1 = .inl i) then mkL lv ((l.map fun p => ofKey p.1).mergeSort (PySem.W.dataLe false Dt.py)) s else .no
    | .obj n => match s[n]? with
      | some (.dT l) => if SortOk (l.map fun p => ofKeyT p.1) then mkL lv ((l.map fun p => ofKeyT p.1).mergeSort (PySem.W.dataLe false Dt.py)) s else .no
      | _ => .no
    | _ => .no
  | .str, [.int i] => if i.natAbs.log2 < 1920 then .ok (.str (toString i)) s else .no
  | .int, [.str x] => match PySem.intText? x with
    | some n => if x.length ≤ 640 then .ok (.int n) s else .no
    | none => .no
  | _, _ => .no
def tyOf : Dt → Option Ty
  | .non => some .non | .bl _ => some .bool | .int _ => some .int | .str _ => some .str | .tup _ => some .tup | .lst _ => some .lst
  | _ => none
def subTy (t n : Ty) : Bool := decide (t = n) || (decide (t = .bool) && decide (n = .int))
def isTS (n : Ty) (d : Dt) (s : Sto) : R Dt := withO (tyOf (view s d)) .no fun t => .ok (.bl (subTy t n)) s
def mtS (m : MI) (o : Dt) (as : List Dt) (s : Sto) : R Dt :=
  match m, o, as with
  | .append, .obj n, [d] => match s[n]? with
    | some (.lst l) => if l.length < sizeLine then .ok .non (s.set n (.lst (l ++ [d]))) else .no
    | _ => .no
  | .insert, .obj n, [.int i, d] => match s[n]? with
    | some (.lst l) => if l.length < sizeLine ∧ 0 ≤ i ∧ i ≤ l.length then .ok .non (s.set n (.lst (l.take i.toNat ++ [d] ++ l.drop i.toNat))) else .no
    | _ => .no
  | .reverse, .obj n, [] => match s[n]? with
    | some (.lst l) => .ok .non (s.set n (.lst l.reverse))
    | _ => .no
  | .clear, .obj n, [] => match s[n]? with
    | some (.lst _) => .ok .non (s.set n (.lst []))
    | _ => .no
  | .get2, o, [k, d] => match dGet o k s with
    | some r => .ok (r.getD d) s
    | none => .no
  | .pop1, .obj n, [k] => match s[n]? with
    | some (.dK l) => match keyOf k with
      | some kk => match lookK l kk with
        | some v => .ok v (s.set n (.dK (delK l kk)))
        | none => .no
      | none => .no
    | some (.dT l) => match tkeyOf k with
      | some kk => match lookK l kk with
        | some v => .ok v (s.set n (.dT (delK l kk)))
        | none => .no
      | none => .no
    | _ => .no
  | .index, o, [x] => match view s o with
    | .lst l => if okEq (.lst l) = true ∧ okEq (view s x) = true then match (Dt.pys l).findIdx? fun z => PyData.eqv z (view s x).py with
      | some j => .ok (.int (j : Nat)) s
      | none => .no
      else .no
    | _ => .no
  | .join, .str y, [a] => match view s a with
    | .lst l => match strsOf l with
      | some ys => if (ys.map (·.length)).sum + ys.length * y.length ≤ 16777216 then .ok (.str (Txt.join y ys)) s else .no
      | none => .no
    | _ => .no
  | .split, .str a, [.str b] => if (b.length == 0) = false ∧ a.length + 2 ≤ sizeLine then .ok (.lst ((Txt.split a b).map Dt.str)) s else .no
  | .part, .str a, [.str b] => if (b.length == 0) = false ∧ a.length ≤ sizeLine then .ok (.tup [.str (Txt.partition a b).1, .str (Txt.partition a b).2.1, .str (Txt.partition a b).2.2]) s else .no
  | .upper, .str a, [] => if a.length ≤ 5592405 then .ok (.str (Txt.upper a)) s else .no
  | _, _, _ => .no
/-- the receiver's kind -/
def rcv (m : MI) (o : Dt) (s : Sto) : Bool :=
  match m with
  | .append | .insert | .reverse | .pop0 | .clear | .index => match view s o with
    | .lst _ => true
    | _ => false
  | .get1 | .get2 | .setd | .pop1 => match o with
    | .dic _ => true
    | .obj n => match s[n]? with
      | some (.dK _) => true
      | some (.dT _) => true
      | some (.fz (.dic _)) => true
      | _ => false
    | _ => false
  | .join | .split | .part | .upper => match view s o with
    | .str _ => true
    | _ => false
/-- x[i] = v -/
def sixS (o i v : Dt) (s : Sto) : Option Sto :=
  match o with
  | .obj n => match s[n]? with
    | some (.lst l) => match i with
      | .int k => match ixN l.length k with
        | some j => some (s.set n (.lst (l.set j v)))
        | none => none
      | _ => none
    | some (.dK l) => match keyOf i with
      | some k => if l.length < sizeLine then some (s.set n (.dK (setK l k v))) else none
      | none => none
    | some (.dT l) => match tkeyOf i with
      | some k => if l.length < sizeLine then some (s.set n (.dT (setK l k v))) else none
      | none => none
    | _ => none
  | _ => none
def Dt.isNon : Dt → Bool
  | .non => true
  | _ => false
/-- a live object is frozen -/
def frzS (d : Dt) (s : Sto) : R Dt := match d with
  | .obj n => match s[n]? with
    | some (.lst l) => if Dt.frs l = true then .ok (.lst l) (s.set n (.fz (.lst l))) else .no
    | some (.dK l) => if Dt.frk l = true then .ok (.dic l) (s.set n (.fz (.dic l))) else .no
    | some (.fz d) => .ok d s
    | _ => .no
  | d => .ok d s
/-! ## calls with frozen arguments -/
def norm (s : Sto) : Dt → Dt
  | .obj n => match s[n]? with
    | some (.fz d) => d
    | _ => .obj n
  | d => d
def rslvP (s : Sto) (l : List (Nat × Dt)) : Option (List (Nat × Dt)) := l.mapM fun p => (rslv s 4 p.2).map fun z => (p.1, z)
abbrev Cl := Nat → List Dt → Sto → R Dt
/-- a call that sees no live object and leaves none -/
def callP (C : Cl) (f : Nat) (as : List Dt) (s : Sto) : R Dt :=
  if Dt.frs (as.map (norm s)) = true then match C f (as.map (norm s)) [] with
    | .ok d s1 => match rslv s1 4 d with
      | some e => .ok e s
      | none => .no
    | .er z s1 => match rslvP s1 z.pay with
      | some p => .er ⟨z.cls, p⟩ s
      | none => .no
    | .no => .no
  else .no
/-! ## the program -/
structure FD where
  np : Nat
  nz : Nat
  dv : List Dt
  b : S
structure CD where
  ini : Option Nat
  mts : List (Nat × Nat)
  fls : List Nat
structure Pg where
  fns : List FD
  cls : List (Nat × CD)
  exf : List (Nat × List Nat)
  sub : List (Nat × List Nat)
def Pg.isSub (P : Pg) (a b : Nat) : Bool := decide (b ∈ (P.sub.lookup a).getD [])
def Pg.isExc (P : Pg) (a : Nat) : Bool := (P.sub.lookup a).isSome
/-! ## instances -/
/-- the number by which a class is called -/
def nwI (c : Nat) : Nat := 1000 + c
def Pg.hasF (P : Pg) (c f : Nat) : Bool := match P.cls.lookup c with
  | some cd => decide (f ∈ cd.fls)
  | none => false
def attS (P : Pg) (f : Nat) (x : Dt) (s : Sto) : R Dt := match x with
  | .obj n => match s[n]? with
    | some (.ins c fs) => if P.hasF c f = true then withO (fs.lookup f) .no fun d => .ok d s else .no
    | _ => .no
  | _ => .no
def mthO (P : Pg) (m : Nat) : Option Ob → Option Nat
  | some (.ins c fs) => if (fs.lookup m).isNone = true then (P.cls.lookup c).bind fun cd => cd.mts.lookup m else none
  | _ => none
def mthS (P : Pg) (m : Nat) (x : Dt) (s : Sto) : Option Nat := match x with
  | .obj n => mthO P m s[n]?
  | _ => none
def putN (f : Nat) (v : Dt) : List (Nat × Dt) → List (Nat × Dt)
  | [] => [(f, v)]
  | (g, x) :: r => if g = f then (g, v) :: r else (g, x) :: putN f v r
def satS (P : Pg) (f : Nat) (x v : Dt) (s : Sto) : Option Sto := match x with
  | .obj n => match s[n]? with
    | some (.ins c fs) => if P.hasF c f = true ∧ fs.length < 1000 then some (s.set n (.ins c (putN f v fs))) else none
    | _ => none
  | _ => none
/-- a class is called -/
def newF (C : Cl) (c : Nat) (ini : Option Nat) (as : List Dt) (s : Sto) : R Dt := match ini with
  | some fi => (C fi (.obj s.length :: as) (s ++ [.ins c []])).bind fun d s1 => if d.isNon = true then .ok (.obj s.length) s1 else .no
  | none => if as.isEmpty = true then .ok (.obj s.length) (s ++ [.ins c []]) else .no
/-! ## expressions -/
def setTg (t : Tg) (d : Dt) (l : Loc) : Option Loc :=
  match t with
  | .nm i => some (l.set i (some d))
  | .tp is => match d with
    | .tup ds => if is.length = ds.length then some ((is.zip ds).foldl (fun l p => l.set p.1 (some p.2)) l) else none
    | _ => none
def wipeL (l : Loc) : List Nat → Loc
  | [] => l
  | v :: vs => (wipeL l vs).set v none
def dRange (lo : Int) (n : Nat) : List Dt := (List.range n).map fun k => Dt.int (lo + (k : Nat))
def dEnum (l : List Dt) : List Dt := l.mapIdx fun i d => .tup [.int (i : Nat), d]
def dZip (l r : List Dt) : List Dt := (l.zip r).map fun p => .tup [p.1, p.2]
def strItems (z : Str) : List Dt := z.cps.toList.map fun c => .str ⟨#[c]⟩
/-- a comprehension's turns -/
def compL (f : Dt → Sto → R (Option Dt)) : List Dt → List Dt → Sto → R (List Dt)
  | [], acc, s => .ok acc s
  | d :: ds, acc, s => (f d s).bind fun o s1 => match o with
    | some e => if acc.length < sizeLine then compL f ds (acc ++ [e]) s1 else .no
    | none => compL f ds acc s1
def asB (r : R Dt) : R Bool := r.bind fun d s => brn d .no (.ok true s) (.ok false s)
@[simp] theorem asB_ok (k : Bool) (s : Sto) : asB (.ok (.bl k) s) = .ok k s := by cases k <;> rfl
@[simp] theorem asB_no : asB .no = .no := rfl
@[simp] theorem asB_er (e : Er) (s : Sto) : asB (.er e s) = .er e s := rfl
/-- what is walked: data; a live list by its number; a live dict by its number -/
inductive It where
  | pl (l : List Dt) | lv (n : Nat) (ob : Ob) (l : List Dt)
def It.items : It → List Dt
  | .pl l => l
  | .lv _ _ l => l
def It.cond : It → Sto → Prop
  | .pl _, _ => True
  | .lv n ob _, s => s[n]? = some ob
def iterS (a : Dt) (s : Sto) : R It :=
  match a with
  | .lst l => .ok (.pl l) s
  | .tup l => .ok (.pl l) s
  | .str z => .ok (.pl (strItems z)) s
  | .obj n => match s[n]? with
    | some (.lst l) => .ok (.lv n (.lst l) l) s
    | some (.fz (.lst l)) => .ok (.pl l) s
    | some (.lk (.dK l)) => .ok (.lv n (.lk (.dK l)) (l.map fun p => ofKey p.1)) s
    | some (.lk (.dT l)) => .ok (.lv n (.lk (.dT l)) (l.map fun p => ofKeyT p.1)) s
    | _ => .no
  | _ => .no
def rngS1 (y : Dt) (s : Sto) : R It := asI y .no fun j => if -(2 ^ 62) ≤ j ∧ j < 2 ^ 62 then .ok (.pl (dRange 0 j.toNat)) s else .no
def rngS2 (x y : Dt) (s : Sto) : R It := asI x .no fun i => asI y .no fun j => if -(2 ^ 62) ≤ i ∧ i < 2 ^ 62 ∧ -(2 ^ 62) ≤ j ∧ j < 2 ^ 62 then .ok (.pl (dRange i (j - i).toNat)) s else .no
def dRangeD (hi : Int) (n : Nat) : List Dt := (List.range n).map fun k => Dt.int (hi - (k : Nat))
def rngSd (x y : Dt) (s : Sto) : R It := asI x .no fun i => asI y .no fun j => if -(2 ^ 62) ≤ i ∧ i < 2 ^ 62 ∧ -(2 ^ 62) ≤ j ∧ j < 2 ^ 62 then .ok (.pl (dRangeD i (i - j).toNat)) s else .no
def zipS (x y : Dt) (s : Sto) : R It := match norm s x, norm s y with
  | .lst p, .lst q => .ok (.pl (dZip p q)) s
  | _, _ => .no
def enuS (x : Dt) (s : Sto) : R It := match norm s x with
  | .lst p => .ok (.pl (dEnum p)) s
  | _ => .no
open Classical in
/-- a turn of a comprehension; what is walked stays as it is -/
noncomputable def gdI (i : It) (f : Dt → Sto → R (Option Dt)) : Dt → Sto → R (Option Dt) := match i with
  | .pl _ => f
  | .lv n ob _ => fun d s => (f d s).bind fun o s1 => if s1[n]? = some ob then .ok o s1 else .no
/-- a live dict that may be locked, by a name or a field of a name -/
def peekO (P : Pg) (e : E) (l : Loc) (s : Sto) : Option Nat := match e with
  | .var i => match l[i]? with
    | some (some (.obj n)) => some n
    | _ => none
  | .att f (.var i) => match l[i]? with
    | some (some d) => match attS P f d s with
      | .ok (.obj n) _ => some n
      | _ => none
    | _ => none
  | _ => none
def lkOk (o : Option Ob) : Option Ob := match o with
  | some (.dK l) => some (.dK l)
  | some (.dT l) => some (.dT l)
  | _ => none
open Classical in
/-- out of a lock -/
noncomputable def unlkR {α : Type} (n : Nat) (ob : Ob) (r : R α) : R α := match r with
  | .ok d s => if s[n]? = some (.lk ob) then .ok d (s.set n ob) else .no
  | _ => .no
open Classical in
noncomputable def unlkO (n : Nat) (ob : Ob) (o : O) : O := match o with
  | .nx l s => if s[n]? = some (.lk ob) then .nx l (s.set n ob) else .no
  | .rt d s => if s[n]? = some (.lk ob) then .rt d (s.set n ob) else .no
  | _ => .no
/-- d.setdefault(k, []), d.setdefault(k, {}) -/
def setdS (t : Bool) (x y : Dt) (s : Sto) : R Dt := match x with
  | .obj n => match s[n]? with
    | some (.dK l) => match keyOf y with
      | some k => if l.length < sizeLine then match lookK l k with
        | some v => .ok v s
        | none => .ok (.obj s.length) (s.set n (.dK (setK l k (.obj s.length))) ++ [if t = true then .dK [] else .lst []])
        else .no
      | none => .no
    | _ => .no
  | _ => .no
noncomputable section
open Classical
variable (P : Pg) (C C' : Cl) (h : Option Er)
def srtKey (c : Int) (l : List Dt) (s : Sto) : R Dt :=
  open Classical in
  if H : ∃ as : List (Int × Int), l = as.map (fun p => Dt.tup [.int p.1, .int p.2]) ∧ as.length ≤ sizeLine ∧ ∀ a ∈ as, a.2 ≠ 0 ∧ a.2.natAbs.log2 < 9000 ∧ IntMulOk a.1 (c.fdiv a.2)
    then .ok (.lst (((Classical.choose H).mergeSort fun x y => decide (x.1 * c.fdiv x.2 ≤ y.1 * c.fdiv y.2)).map fun p => Dt.tup [.int p.1, .int p.2])) s else .no
mutual
def evE : E → Loc → Sto → R Dt
  | .var i, l, s => getL l[i]? s
  | .con d, _, s => .ok d s
  | .nil, _, _ => .no
  | .cons _ _, _, _ => .no
  | .tup a, l, s => (evA a l s).bind fun ds s => if ds.length ≤ sizeLine then .ok (.tup ds) s else .no
  | .lst lv a, l, s => (evA a l s).bind fun ds s => if ds.length ≤ sizeLine then mkL lv ds s else .no
  | .dic t, _, s => .ok (.obj s.length) (s ++ [if t = true then .dT [] else .dK []])
  | .neg a, l, s => (evE a l s).bind fun d s => asI d .no fun i => .ok (.int (-i)) s
  | .bin o a b, l, s => (evE a l s).bind fun x s => (evE b l s).bind fun y s => binS o x y s
  | .cmp o a b, l, s => (evE a l s).bind fun x s => (evE b l s).bind fun y s => cmpS o x y s
  | .chn o p a b c, l, s => (evE a l s).bind fun x s => (evE b l s).bind fun y s => (cmpS o x y s).bind fun k s => brn k .no ((evE c l s).bind fun z s => cmpS p y z s) (.ok (.bl false) s)
  | .isN n a, l, s => (evE a l s).bind fun d s => .ok (.bl (n != d.isNon)) s
  | .isB n b a, l, s => (evE a l s).bind fun d s => brn d .no (.ok (.bl (n != (b == true))) s) (.ok (.bl (n != (b == false))) s)
  | .and a b, l, s => (evE a l s).bind fun d s => brn d .no (evE b l s) (.ok (.bl false) s)
  | .or a b, l, s => (evE a l s).bind fun d s => brn d .no (.ok (.bl true) s) (evE b l s)
  | .not a, l, s => (evE a l s).bind fun d s => brn d .no (.ok (.bl false) s) (.ok (.bl true) s)
  | .ite c a b, l, s => (evE c l s).bind fun d s => brn d .no (evE a l s) (evE b l s)
  | .ix a b, l, s => (evE a l s).bind fun x s => (evE b l s).bind fun y s => ixS x y s
  | .sl a lo hi, l, s => (evE a l s).bind fun x s => (evO lo l s).bind fun i s => (evO hi l s).bind fun j s => slS x i j s
  | .rev a, l, s => (evE a l s).bind fun x s => revS x s
  | .rev0 a, l, s => (evE a l s).bind fun x s => rev0S x s
  | .sst lv a, l, s => (evE a l s).bind fun x s => sstS lv x s
  | .sln a, l, s => (evE a l s).bind fun x s => slnS x s
  | .bi b lv a, l, s => (evA a l s).bind fun as s => biS b lv as s
  | .isT n a, l, s => (evE a l s).bind fun x s => isTS n x s
  | .mt m o a, l, s => (evE o l s).bind fun x s => if rcv m x s = true then (evA a l s).bind fun as s => mtS m x as s else .no
  | .call f a, l, s => (evA a l s).bind fun as s => callP C f as s
  | .cali f a, l, s => (evA a l s).bind fun as s => C f as s
  | .cald f ds a, l, s => (evA a l s).bind fun as s => callP C f (as ++ ds) s
  | .new c a, l, s => (evA a l s).bind fun as s => C (nwI c) as s
  | .ome c m o a, l, s => (evE o l s).bind fun x s => withO (mthS P m x s) .no fun f => (evA a l s).bind fun as s => C f (x :: as) s
  | .att f o, l, s => (evE o l s).bind fun x s => attS P f x s
  | .lc lv own elt tg it c, l, s => (evI it l s).bind fun i s => (compL (gdI i fun d s => withO (setTg tg d (wipeL l own)) .no fun l1 =>
      (evE c l1 s).tame.bind fun k s => brn k .no ((evE elt l1 s).tame.bind fun e s => .ok (some e) s) (.ok none s)) i.items [] s).bind fun r s => mkL lv r s
  | .srtK a cm, l, s => (evE a l s).bind fun x s => match view s x, l[cm]? with
    | .lst ds, some (some (.int c)) => srtKey c ds s
    | _, _ => .no
  | .rng1 _, _, _ => .no
  | .rng _ _, _, _ => .no
  | .rngd _ _, _, _ => .no
  | .zip _ _, _, _ => .no
  | .enu _, _, _ => .no
  | .isX cs, _, s => withO h .no fun z => cond (P.isExc z.cls) (.ok (.bl (cs.any fun c => P.isSub z.cls c)) s) .no
  | .exf f, _, s => withO h .no fun z => cond (P.isExc z.cls) (withO (z.pay.lookup f) .no fun d => .ok d s) .no
  | .fz a, l, s => (evE a l s).bind fun d s => frzS d s
  | .sdf t d k, l, s => (evE d l s).bind fun x s => if rcv .setd x s = true then (evE k l s).bind fun y s => setdS t x y s else .no
  | .lkd o e, l, s => withO (peekO P o l s) .no fun n => withO (lkOk s[n]?) .no fun ob => unlkR n ob (evE e l (s.set n (.lk ob)))
/-- arguments -/
def evA : E → Loc → Sto → R (List Dt)
  | .nil, _, s => .ok [] s
  | .cons a r, l, s => (evE a l s).bind fun x s => (evA r l s).bind fun xs s => .ok (x :: xs) s
  | _, _, _ => .no
/-- a part of a slice -/
def evO : E → Loc → Sto → R (Option Int)
  | .nil, _, s => .ok none s
  | .cons a _, l, s => (evE a l s).bind fun x s => asI x .no fun i => .ok (some i) s
  | _, _, _ => .no
/-- what is walked -/
def evI : E → Loc → Sto → R It
  | .rng1 b, l, s => (evE b l s).bind fun y s => rngS1 y s
  | .rng a b, l, s => (evE a l s).bind fun x s => (evE b l s).bind fun y s => rngS2 x y s
  | .rngd a b, l, s => (evE a l s).bind fun x s => (evE b l s).bind fun y s => rngSd x y s
  | .zip a b, l, s => (evE a l s).bind fun x s => (evE b l s).bind fun y s => zipS x y s
  | .enu a, l, s => (evE a l s).bind fun x s => enuS x s
  | .cons a _, l, s => (evE a l s).bind fun x s => iterS x s
  | _, _, _ => .no
end
/-! ## statements -/
def forL (f : Dt → Loc → Sto → O) : List Dt → Loc → Sto → O
  | [], l, s => .nx l s
  | d :: ds, l, s => (f d l s).then fun l s => forL f ds l s
/-- over a live list that stays as it is -/
def forV (n : Nat) (ob : Ob) (f : Dt → Loc → Sto → O) : List Dt → Loc → Sto → O
  | [], l, s => .nx l s
  | d :: ds, l, s => (f d l s).then fun l s => if s[n]? = some ob then forV n ob f ds l s else .no
def whN (c : Loc → Sto → R Bool) (b : Loc → Sto → O) : Nat → Loc → Sto → Option O
  | 0, _, _ => none
  | n + 1, l, s => match c l s with
    | .ok true s => match b l s with
      | .nx l s => whN c b n l s
      | o => some o
    | .ok false s => some (.nx l s)
    | .er e s => some (.er e l s)
    | .no => some .no
def whS (c : Loc → Sto → R Bool) (b : Loc → Sto → O) (l : Loc) (s : Sto) : O :=
  if H : ∃ n o, whN c b n l s = some o then Classical.choose (Classical.choose_spec H) else .no
def exS (P : Pg) (C C' : Cl) : S → Option Er → Loc → Sto → O
  | .skip, _, l, s => .nx l s
  | .seq a b, h, l, s => (exS P C C' a h l s).then fun l s => exS P C C' b h l s
  | .set i e, h, l, s => (evE P C h e l s).out l fun d s => .nx (l.set i (some d)) s
  | .unp is e, h, l, s => (evE P C h e l s).out l fun d s => withO (setTg (.tp is) d l) .no fun l => .nx l s
  | .par i j a b, h, l, s => (evE P C h a l s).out l fun x s => (evE P C h b l s).out l fun y s => .nx ((l.set i (some x)).set j (some y)) s
  | .six o i e, h, l, s => (evE P C h e l s).out l fun v s => (evE P C h o l s).out l fun x s => (evE P C h i l s).out l fun y s => withO (sixS x y v s) .no fun s => .nx l s
  | .sat f o e, h, l, s => (evE P C h e l s).out l fun v s => (evE P C h o l s).out l fun x s => withO (satS P f x v s) .no fun s => .nx l s
  | .ex e, h, l, s => (evE P C h e l s).out l fun _ s => .nx l s
  | .ret e, h, l, s => (evE P C h e l s).out l fun d s => .rt d s
  | .retN, _, _, s => .rt .non s
  | .ite c a b, h, l, s => (evE P C h c l s).out l fun k s => brn k .no (exS P C C' a h l s) (exS P C C' b h l s)
  | .for_ tg it b, h, l, s => (evI P C h it l s).out l fun i s => match i with
    | .pl ds => forL (fun d l s => withO (setTg tg d l) .no fun l => exS P C C' b h l s) ds l s
    | .lv n ob ds => forV n ob (fun d l s => withO (setTg tg d l) .no fun l => exS P C C' b h l s) ds l s
  | .whl c b, h, l, s => whS (fun l s => asB (evE P C h c l s)) (fun l s => exS P C C' b h l s) l s
  | .rai x a, h, l, s => match h with
    | none => (evA P C h a l s).out l fun ds s => match P.exf.lookup x with
      | none => cond ds.isEmpty (.er ⟨x, []⟩ l s) .no
      | some fs => cond (decide (fs.length = ds.length) && (decide (0 < ds.length) && decide (ds.length ≤ 10))) (.er ⟨x, (fs.zip ds).reverse⟩ l s) .no
    | some _ => .no
  | .tri b hs, h, l, s => match h with
    | none => match exS P C C' b none l s with
      | .er z l s => exS P C C' hs (some z) l s
      | o => o
    | some _ => .no
  | .lkd o b, h, l, s => withO (peekO P o l s) .no fun n => withO (lkOk s[n]?) .no fun ob => unlkO n ob (exS P C C' b h l (s.set n (.lk ob)))
  | .hn, h, l, s => match h with
    | some z => .er z l s
    | none => .no
  | .hd x v b r, h, l, s => withO h .no fun z => cond (P.isExc z.cls) (cond (P.isSub z.cls x) (match v with
      | some i => cond (decide (i < l.length)) (match exS P C C' b (some z) (l.set i none) s with
        | .nx l s => .nx (l.set i none) s
        | .rt d s => .rt d s
        | _ => .no) .no
      | none => match exS P C C' b (some z) l s with
        | .nx l s => .nx l s
        | .rt d s => .rt d s
        | _ => .no) (exS P C C' r h l s)) .no
/-! ## defs -/
def goF (P : Pg) (C C' : Cl) (f : Nat) (as : List Dt) (s : Sto) : R Dt :=
  match P.fns[f]? with
  | none => if f < 1000 then .no else withO (P.cls.lookup (f - 1000)) .no fun cd => newF C (f - 1000) cd.ini as s
  | some fd => if as.length = fd.np then match exS P C C' fd.b none (as.map some ++ List.replicate (fd.nz - fd.np) none) s with
      | .nx _ s => .ok .non s
      | .rt d s => .ok d s
      | .er e _ s => .er e s
      | .no => .no
    else .no
def runF (P : Pg) : Nat → Cl
  | 0 => fun _ _ _ => .no
  | 1 => goF P (fun _ _ _ => .no) (fun _ _ _ => .no)
  | k + 2 => goF P (runF P (k + 1)) (runF P k)
end
end Ip

namespace Ip
open PySem L2 PySem.Spec
/-! ## what is wanted behind a reading -/
/-- names by number; the slot that holds the caught exception, and its address -/
structure Tb where
  l : List Str
  hx : Option (Nat × Addr) := none
  px : Option (Addr × List (Nat × Dt)) := none
instance : Coe Tb (List Str) := ⟨Tb.l⟩
def Tb.ok (tb : Tb) (i : Nat) : Prop := ∀ v a, tb.hx = some (v, a) → i ≠ v
def ErOk (K : PySem.W.Frag) (tb : List Str) (w : Wd) (e : Er) (c : Value) (dx : Option Addr) : Prop :=
  (∃ z, tb[e.cls]? = some z ∧ c = .ref (He.ga K z)) ∧ match e.pay with
    | [] => dx = none
    | p => ∃ d fs, dx = some d ∧ w.G d = some (.xd fs) ∧ RpF K tb w.G w.m fs p
structure Fit (K : PySem.W.Frag) (tb : Tb) (w0 w : Wd) (σ : L2.St) (l : Loc) : Prop where
  st : Stp K tb w0 w
  len : σ.length = l.length
  sl : ∀ (i : Nat) d, l[i]? = some (some d) → ∃ v, σ[i]? = some (some v) ∧ Rp K w.G w.m v d
  hx : ∀ v a, tb.hx = some (v, a) → σ[v]? = some (some (.ref a))
  px : ∀ d p, tb.px = some (d, p) → ∃ fs, w.G d = some (.xd fs) ∧ RpF K tb.l w.G w.m fs p
def Ret {α β : Type} (K : PySem.W.Frag) (tb : Tb) (W : WX) (rel : Wd → β → α → Prop) (σ : L2.St) (w : Wd) (Q : β → Hp → Prop) : R α → Prop
  | .no => False
  | .ok d s' => ∀ v w', w'.s = s' → Stp K tb w w' → rel w' v d → Q v w'.H
  | .er e s' => ∀ c dx w', w'.s = s' → Stp K tb w w' → ErOk K tb w' e c dx → W c dx σ w'.H
def GO {α β : Type} (K : PySem.W.Frag) (tb : Tb) (W : WX) (rel : Wd → β → α → Prop) (t : L2.St → Hp → (β → Hp → Prop) → Prop) (l : Loc) (s : Sto) (r : R α) : Prop :=
  ∀ w0 w σ Q, Fit K tb w0 w σ l → w.s = s → Ret K tb W rel σ w Q r → t σ w.H Q
abbrev RV (K : PySem.W.Frag) : Wd → V → Dt → Prop := fun w v d => Rp K w.G w.m v d
abbrev RA (K : PySem.W.Frag) : Wd → List V → List Dt → Prop := fun w v d => RpA K w.G w.m v d
abbrev RB : Wd → Bool → Bool → Prop := fun _ b c => b = c
section
variable {K : PySem.W.Frag} {tb : Tb} {W : WX} {w w0 w1 : Wd} {σ : L2.St} {l : Loc} {s : Sto}
theorem Fit.sim (F : Fit K tb w0 w σ l) : Sim K tb w := F.st.sim
theorem Fit.step (F : Fit K tb w0 w σ l) (st : Stp K tb w w1) : Fit K tb w0 w1 σ l := ⟨F.st.trans st, F.len, fun i d e => by
  obtain ⟨v, h1, h2⟩ := F.sl i d e
  exact ⟨v, h1, h2.up st.g st.pre⟩, F.hx, fun d p e => by
  obtain ⟨fs, h1, h2⟩ := F.px d p e
  exact ⟨fs, st.g _ _ h1, h2.up st.g st.pre⟩⟩
theorem Fit.get (F : Fit K tb w0 w σ l) {i : Nat} {d : Dt} (e : l[i]? = some (some d)) : ∃ v, σ[i]? = some (some v) ∧ Rp K w.G w.m v d := F.sl i d e
theorem Fit.set (F : Fit K tb w0 w σ l) {i : Nat} {v : V} {d : Dt} (r : Rp K w.G w.m v d) (ok : tb.ok i) : Fit K tb w0 w (σ.set i (some v)) (l.set i (some d)) := ⟨F.st, by simp [F.len], fun j e h => by
  rw [List.getElem?_set] at h ⊢
  rw [F.len]
  by_cases hj : i = j
  · rw [if_pos hj] at h ⊢
    split at h
    · cases h; rename_i q; rw [if_pos q]; exact ⟨v, rfl, r⟩
    · cases h
  · rw [if_neg hj] at h ⊢
    exact F.sl j e h, fun u a e => by
  rw [List.getElem?_set, if_neg (ok u a e)]
  exact F.hx u a e, F.px⟩
theorem Fit.forget (F : Fit K tb w0 w σ l) {i : Nat} {x : Option V} (ok : tb.ok i) : Fit K tb w0 w (σ.set i x) (l.set i none) := ⟨F.st, by simp [F.len], fun j e h => by
  rw [List.getElem?_set] at h ⊢
  by_cases hj : i = j
  · rw [if_pos hj] at h
    split at h <;> cases h
  · rw [if_neg hj] at h ⊢
    exact F.sl j e h, fun u a e => by
  rw [List.getElem?_set, if_neg (ok u a e)]
  exact F.hx u a e, F.px⟩
theorem Ret.up {α β : Type} {rel : Wd → β → α → Prop} {Q : β → Hp → Prop} (st : Stp K tb w w1) : ∀ {r : R α}, Ret K tb W rel σ w Q r → Ret K tb W rel σ w1 Q r
  | .no, h => h
  | .ok d s', h => fun v w' e t q => h v w' e (st.trans t) q
  | .er e s', h => fun c dx w' e t q => h c dx w' e (st.trans t) q
/-- one reading behind another -/
theorem GO.bind {α β γ δ : Type} {rel : Wd → β → α → Prop} {rel' : Wd → δ → γ → Prop} {t : L2.St → Hp → (β → Hp → Prop) → Prop} {r : R α} {k : α → Sto → R γ} {Qf : δ → Hp → Prop} (h : GO K tb W rel t l s r) (F : Fit K tb w0 w σ l) (hs : w.s = s) (hr : Ret K tb W rel' σ w Qf (r.bind k)) {Q1 : β → Hp → Prop}
    (hq : ∀ v w1 d, r = .ok d w1.s → Stp K tb w w1 → rel w1 v d → Ret K tb W rel' σ w1 Qf (k d w1.s) → Q1 v w1.H) : t σ w.H Q1 := by
  refine h w0 w σ Q1 F hs ?_
  cases r with
  | no => exact hr
  | ok d s1 =>
    intro v w' e st rv
    subst e
    exact hq v w' d rfl st rv (Ret.up st hr)
  | er e s1 => exact hr
end
/-! ## readings that say just what the machine does -/
section
variable (X : Cx)
def semE (e : Expr) : TE := fun σ H Q => ∀ pins s, Inv X pins σ H s → wpAny (model X.prog X.w) X.A (eval e X.env) (EP X pins σ Q) X.xe s
def semT (e : Expr) : TT := fun σ H Q => ∀ pins s, Inv X pins σ H s → wpAny (model X.prog X.w) X.A (isTrue e X.env (eval e X.env)) (TP X pins σ Q) X.xe s
def semW (e : Expr) : TT := fun σ H Q => ∀ (whole : Sem Value) pins s, Inv X pins σ H s → wpAny (model X.prog X.w) X.A (isTrue e X.env whole) (TP X pins σ Q) X.xe s
def semA (es : List Expr) : TA := fun σ H Q => ∀ (pos : Pos) pins s, Inv X pins σ H s → wpAny (model X.prog X.w) X.A (spliced (backTo pos (starEach es X.env))) (AP X pins σ Q) X.xe s
def semS (st : List Stmt) : TS := fun D σ H => ∀ pins s, Inv X pins σ H s → wpAny (model X.prog X.w) X.A (execs st X.env) (SP X pins D) X.xe s
def semO (f : Value → Value → Sem Value) : R2 := fun x y H Q => ∀ pins s σ v u, Inv X pins σ H s → RelV x v → RelV y u → wpAny (model X.prog X.w) X.A (f v u) (EP X pins σ Q) X.xe s
def semU (f : Value → Sem Value) : V → Hp → VK → Prop := fun x H Q => ∀ pins s σ v, Inv X pins σ H s → RelV x v → wpAny (model X.prog X.w) X.A (f v) (EP X pins σ Q) X.xe s
def semC (f : Value) : List V → Hp → VK → Prop := fun xs H Q => ∀ pins s σ us, Inv X pins σ H s → Vals xs us → wpAny (model X.prog X.w) X.A (call f us) (EP X pins σ Q) X.xe s
def semM (id : String) : V → List V → Hp → VK → Prop := fun x xs H Q => ∀ pins s σ v us, Inv X pins σ H s → RelV x v → Vals xs us → wpAny (model X.prog X.w) X.A (call (.builtin id) (v :: us)) (EP X pins σ Q) X.xe s
end
section
variable {X : Cx}
theorem pe_sem (e : Expr) : PE X e (semE X e) := ⟨fun pins s σ H Q I h => h pins s I⟩
theorem pt_sem (e : Expr) : PT X e (semT X e) := ⟨fun pins s σ H Q I h => h pins s I⟩
theorem pw_sem (e : Expr) : PW X e (semW X e) := ⟨fun w pins s σ H Q I h => h w pins s I⟩
theorem pa_sem (es : List Expr) : PA X es (semA X es) := ⟨fun pos pins s σ H Q I h => h pos pins s I⟩
theorem pss_sem (st : List Stmt) : PSs X st (semS X st) := ⟨fun pins s σ H D I h => h pins s I⟩
theorem or_sem (f : Value → Value → Sem Value) : OpR X f (semO X f) := fun pins s σ H x y v u Q I rx ry h => h pins s σ v u I rx ry
theorem ur_sem (f : Value → Sem Value) : UnR X f (semU X f) := fun pins s σ H x v Q I rx h => h pins s σ v I rx
theorem cr_sem (f : Value) : CallR X f (semC X f) := fun pins s σ H xs us Q I r h => h pins s σ us I r
theorem mr_sem (id : String) : MtR X id (semM X id) := fun pins s σ H x xs v us Q I rx r h => h pins s σ v us I rx r
theorem semO.of {f : Value → Value → Sem Value} {r : R2} (h : OpR X f r) {x y : V} {H : Hp} {Q : VK} (q : r x y H Q) : semO X f x y H Q := fun pins s σ v u I rx ry => h pins s σ H x y v u Q I rx ry q
theorem semU.of {f : Value → Sem Value} {r : V → Hp → VK → Prop} (h : UnR X f r) {x : V} {H : Hp} {Q : VK} (q : r x H Q) : semU X f x H Q := fun pins s σ v I rx => h pins s σ H x v Q I rx q
theorem semC.of {f : Value} {r : List V → Hp → VK → Prop} (h : CallR X f r) {xs : List V} {H : Hp} {Q : VK} (q : r xs H Q) : semC X f xs H Q := fun pins s σ us I r' => h pins s σ H xs us Q I r' q
theorem semM.of {id : String} {r : V → List V → Hp → VK → Prop} (h : MtR X id r) {x : V} {xs : List V} {H : Hp} {Q : VK} (q : r x xs H Q) : semM X id x xs H Q := fun pins s σ v us I rx r' => h pins s σ H x xs v us Q I rx r' q
structure EX (X : Cx) (tb : Tb) (W : WX) (e : Expr) (l : Loc) (s : Sto) (r : R Dt) : Prop where
  go : GO X.K tb W (RV X.K) (semE X e) l s r
structure TX (X : Cx) (tb : Tb) (W : WX) (e : Expr) (l : Loc) (s : Sto) (r : R Bool) : Prop where
  go : GO X.K tb W RB (semT X e) l s r
structure TW (X : Cx) (tb : Tb) (W : WX) (e : Expr) (l : Loc) (s : Sto) (r : R Bool) : Prop where
  go : GO X.K tb W RB (semW X e) l s r
structure AX (X : Cx) (tb : Tb) (W : WX) (es : List Expr) (l : Loc) (s : Sto) (r : R (List Dt)) : Prop where
  go : GO X.K tb W (RA X.K) (semA X es) l s r
variable {tb : Tb} {W : WX} {l : Loc} {s : Sto} {e a b c : Expr} {es : List Expr} {pos : Pos}
theorem ex_of {t : TE} {r : R Dt} (h : PE X e t) (q : GO X.K tb W (RV X.K) t l s r) : EX X tb W e l s r := ⟨fun w0 w σ Q F hs hr pins s' I => h.run pins s' σ w.H Q I (q w0 w σ Q F hs hr)⟩
theorem tx_of {t : TT} {r : R Bool} (h : PT X e t) (q : GO X.K tb W RB t l s r) : TX X tb W e l s r := ⟨fun w0 w σ Q F hs hr pins s' I => h.run pins s' σ w.H Q I (q w0 w σ Q F hs hr)⟩
theorem tw_of {t : TT} {r : R Bool} (h : PW X e t) (q : GO X.K tb W RB t l s r) : TW X tb W e l s r := ⟨fun w0 w σ Q F hs hr wh pins s' I => h.run wh pins s' σ w.H Q I (q w0 w σ Q F hs hr)⟩
theorem ax_of {t : TA} {r : R (List Dt)} (h : PA X es t) (q : GO X.K tb W (RA X.K) t l s r) : AX X tb W es l s r := ⟨fun w0 w σ Q F hs hr pos pins s' I => h.run pos pins s' σ w.H Q I (q w0 w σ Q F hs hr)⟩
theorem ex_no : EX X tb W e l s .no := ⟨fun w0 w σ Q F hs hr => hr.elim⟩
theorem tx_no : TX X tb W e l s .no := ⟨fun w0 w σ Q F hs hr => hr.elim⟩
theorem ax_no : AX X tb W es l s .no := ⟨fun w0 w σ Q F hs hr => hr.elim⟩
/-! ## names and constants -/
structure Rd1 (X : Cx) (x : Str) (i : Nat) : Prop where
  ix : X.N[i]? = some x
  vi : Vis X.env.scope x
  d1 : (x == ("__debug__" : Str)) = false
  d2 : (x == ("__classdict__" : Str)) = false
structure At (X : Cx) (x : Str) (i : Nat) : Prop extends Rd1 X x i where
  nd : X.N.Nodup
  lo : L2.Loc X.env.scope x
  fn : X.fn x = true ∨ X.env.scope.names.lookup x = some .local
structure Glo (X : Cx) (x : Str) : Prop where
  gl : Gl X x
  d1 : (x == ("__debug__" : Str)) = false
  nn : x ≠ "__name__"
theorem ex_var {x : Str} {i : Nat} (h : Rd1 X x i) : EX X tb W (.Name x pos) l s (getL l[i]? s) := ex_of (pe_var h.ix h.vi h.d1 h.d2) fun w0 w σ Q F hs hr => by
  cases e : l[i]? with
  | none => rw [e] at hr; exact hr.elim
  | some o => cases o with
    | none => rw [e] at hr; exact hr.elim
    | some d =>
      rw [e] at hr
      obtain ⟨v, h1, h2⟩ := F.get e
      exact ⟨v, h1, hr v w hs (.refl F.sim) h2⟩
theorem ex_c {v : V} {d : Dt} (h : PE X e (tC v)) (r : ∀ G m, Rp X.K G m v d) : EX X tb W e l s (.ok d s) := ex_of h fun w0 w σ Q F hs hr => hr v w hs (.refl F.sim) (r _ _)
/-! ## operators -/
/-- what an operation on values keeps -/
def OpOk (K : PySem.W.Frag) (tb : Tb) (r : R2) (f : Dt → Dt → Sto → R Dt) : Prop :=
  ∀ W w σ x y a b Q, Sim K tb w → Rp K w.G w.m x a → Rp K w.G w.m y b → Ret K tb W (RV K) σ w Q (f a b w.s) → r x y w.H Q
theorem ex_op {r : R2} {ra : R Dt} {rb : Sto → R Dt} {f : Dt → Dt → Sto → R Dt} (hp : PE X e (tOp r (semE X a) (semE X b))) (ro : OpOk X.K tb r f) (ha : EX X tb W a l s ra) (hb : ∀ s, EX X tb W b l s (rb s)) : EX X tb W e l s (ra.bind fun x s => (rb s).bind fun y s => f x y s) :=
  ex_of hp fun w0 w σ Q F hs hr => ha.go.bind F hs hr fun x w1 d e1 st1 rx hr => (hb _).go.bind (F.step st1) rfl hr fun y w2 d2 e2 st2 ry hr => ro W w2 σ x y d d2 Q st2.sim (rx.up st2.g st2.pre) ry hr
theorem tx_op {r : R2} {ra : R Dt} {rb : Sto → R Dt} {f : Dt → Dt → Sto → R Dt} (hp : PT X e (tTest (tOp r (semE X a) (semE X b)))) (ro : OpOk X.K tb r f) (ha : EX X tb W a l s ra) (hb : ∀ s, EX X tb W b l s (rb s)) : TX X tb W e l s (asB (ra.bind fun x s => (rb s).bind fun y s => f x y s)) :=
  tx_of hp fun w0 w σ Q F hs hr => by
    have hr' : Ret X.K tb W (RV X.K) σ w (fun x H' => ∃ k, x = .bl k ∧ Q k H') (ra.bind fun x s => (rb s).bind fun y s => f x y s) := by
      revert hr
      unfold asB
      cases (ra.bind fun x s => (rb s).bind fun y s => f x y s) with
      | no => exact id
      | er e s => exact id
      | ok d s1 =>
        rw [R.bind_ok]
        cases d with
        | bl k => cases k with
          | true => exact fun hr v w' e st rv => by cases rv; exact ⟨true, rfl, hr true w' e st rfl⟩
          | false => exact fun hr v w' e st rv => by cases rv; exact ⟨false, rfl, hr false w' e st rfl⟩
        | _ => exact fun hr => hr.elim
    exact ha.go.bind F hs hr' fun x w1 d e1 st1 rx hr => (hb _).go.bind (F.step st1) rfl hr fun y w2 d2 e2 st2 ry hr => ro W w2 σ x y d d2 _ st2.sim (rx.up st2.g st2.pre) ry hr
end
/-! ## seen as data -/
section
variable {K : PySem.W.Frag} {tb : List Str} {w : Wd} {x : V} {d : Dt}
theorem sq_of {a : Addr} {G H : Hp} (S : Same G H) {vs : List V} (h : SqL K G a vs) : SqL K H a vs := Same.seq S h
/-- a list, live or not -/
theorem view_lst (S : Sim K tb w) (r : Rp K w.G w.m x d) {ds : List Dt} (e : view w.s d = .lst ds) : ∃ a vs, x = .ref a ∧ SqL K w.H a vs ∧ RpA K w.G w.m vs ds := by
  cases r with
  | lst q r => cases e; exact ⟨_, _, rfl, Same.seq S.sub q, r⟩
  | obj q =>
    rename_i a n
    have e : viewO w.s[n]? n = .lst ds := e
    have ob := S.ob n
    generalize w.s[n]? = o at e ob
    cases o with
    | none => cases e
    | some o =>
      have z := ob o a rfl q
      cases o with
      | lst l =>
        cases e
        obtain ⟨_, u, hu, vs, rfl, r⟩ := z
        exact ⟨a, vs, rfl, .inl (.inl hu), r⟩
      | dK l => cases e
      | dT l => cases e
      | ins c l => cases e
      | fz dd =>
        have e : dd = .lst ds := e
        subst e
        cases z with
        | lst q r => exact ⟨a, _, rfl, Same.seq S.sub q, r⟩
      | lk o => cases o with
        | lst l =>
          cases e
          obtain ⟨_, od, u, hu, vs, rfl, r⟩ := z
          exact ⟨a, vs, rfl, .inl (.inr ⟨od, hu⟩), r⟩
        | _ => cases e
  | _ => cases e
theorem view_same (r : Rp K w.G w.m x d) (n : ∀ k, d ≠ .obj k) : view w.s d = d := by
  cases d <;> first | rfl | exact absurd rfl (n _)
/-- seen as data that is no list and no dict, it is that data (frozen) -/
theorem view_rp (S : Sim K tb w) (r : Rp K w.G w.m x d) (h : (∀ ds, view w.s d ≠ .lst ds)) (h2 : ∀ ds, view w.s d ≠ .dic ds) : Rp K w.G w.m x (view w.s d) := by
  cases r with
  | obj q =>
    rename_i a n
    show Rp K w.G w.m (.ref a) (viewO w.s[n]? n)
    have h : ∀ ds, viewO w.s[n]? n ≠ .lst ds := h
    have h2 : ∀ ds, viewO w.s[n]? n ≠ .dic ds := h2
    have ob := S.ob n
    generalize w.s[n]? = o at h h2 ob
    cases o with
    | none => exact .obj q
    | some o => cases o with
      | lst l => exact absurd rfl (h l)
      | dK l => exact absurd rfl (h2 l)
      | dT l => exact .obj q
      | ins c l => exact .obj q
      | fz dd => exact ob _ a rfl q
      | lk o => cases o with
        | lst l => exact absurd rfl (h l)
        | dK l => exact absurd rfl (h2 l)
        | _ => exact .obj q
  | non => exact .non
  | bl b => exact .bl b
  | int b => exact .int b
  | str b => exact .str b
  | tup q r z => exact .tup q r z
  | lst q r => exact .lst q r
  | dic q r => exact .dic q r
theorem view_tup (S : Sim K tb w) (r : Rp K w.G w.m x d) {ds : List Dt} (e : view w.s d = .tup ds) : ∃ a vs, x = .ref a ∧ SqT K w.H a vs ∧ RpA K w.G w.m vs ds := by
  have h := view_rp S r (by rw [e]; nofun) (by rw [e]; nofun)
  rw [e] at h
  cases h with
  | tup q r z => exact ⟨_, _, rfl, same_tseq S.sub q, r⟩
theorem view_int (S : Sim K tb w) (r : Rp K w.G w.m x d) {i : Int} (e : view w.s d = .int i) : x = .int i := by
  have h := view_rp S r (by rw [e]; nofun) (by rw [e]; nofun)
  rw [e] at h
  cases h
  rfl
theorem view_str (S : Sim K tb w) (r : Rp K w.G w.m x d) {i : Str} (e : view w.s d = .str i) : x = .str i := by
  have h := view_rp S r (by rw [e]; nofun) (by rw [e]; nofun)
  rw [e] at h
  cases h
  rfl
theorem view_bl (S : Sim K tb w) (r : Rp K w.G w.m x d) {i : Bool} (e : view w.s d = .bl i) : x = .bl i := by
  have h := view_rp S r (by rw [e]; nofun) (by rw [e]; nofun)
  rw [e] at h
  cases h
  rfl
theorem view_non (S : Sim K tb w) (r : Rp K w.G w.m x d) (e : view w.s d = .non) : x = .non := by
  have h := view_rp S r (by rw [e]; nofun) (by rw [e]; nofun)
  rw [e] at h
  cases h
  rfl
mutual
theorem Rp.dp {G H : Hp} {m : List Addr} (S : Same G H) : ∀ (d : Dt) (x : V), d.flat = true → Rp K G m x d → Dp K H x d.py
  | .non, _, _, h => by cases h; exact .non
  | .bl b, _, _, h => by cases h; exact .bl b
  | .int i, _, _, h => by cases h; exact .int i
  | .str z, _, _, h => by cases h; exact .str z
  | .obj x, _, f, h => by cases f
  | .dic l, _, f, h => by cases f
  | .tup l, _, f, h => by
    cases h with
    | tup q r z => exact .tup (same_tseq S q) (RpA.dp S l _ f r)
  | .lst l, _, f, h => by
    cases h with
    | lst q r => exact .lst (Same.seq S q) (RpA.dp S l _ f r)
theorem RpA.dp {G H : Hp} {m : List Addr} (S : Same G H) : ∀ (ds : List Dt) (xs : List V), Dt.flats ds = true → RpA K G m xs ds → DpAll K H xs (Dt.pys ds)
  | [], _, _, h => by cases h; exact .nil
  | d :: ds, _, f, h => by
    have f' : (d.flat && Dt.flats ds) = true := f
    rw [Bool.and_eq_true] at f'
    cases h with
    | cons q r => exact .cons (Rp.dp S d _ f'.1 q) (RpA.dp S ds _ f'.2 r)
end
theorem view_dp (S : Sim K tb w) (r : Rp K w.G w.m x d) (h : (view w.s d).flat = true) : Dp K w.H x (view w.s d).py := by
  by_cases h1 : ∃ ds, view w.s d = .lst ds
  · obtain ⟨ds, e⟩ := h1
    obtain ⟨a, vs, rfl, q, r⟩ := view_lst S r e
    rw [e] at h ⊢
    exact .lst q (RpA.dp S.sub ds _ h r)
  · by_cases h2 : ∃ ds, view w.s d = .dic ds
    · obtain ⟨ds, e⟩ := h2
      rw [e] at h
      cases h
    · exact Rp.dp S.sub _ _ h (view_rp S r (fun ds e => h1 ⟨ds, e⟩) fun ds e => h2 ⟨ds, e⟩)
theorem okEq_dp (S : Sim K tb w) (r : Rp K w.G w.m x d) (h : okEq (view w.s d) = true) : Dp K w.H x (view w.s d).py ∧ SeqAt.shaped (view w.s d).py = true := by
  unfold okEq at h
  rw [Bool.and_eq_true] at h
  exact ⟨view_dp S r h.1, h.2⟩
theorem view_dic (S : Sim K tb w) (r : Rp K w.G w.m x d) {ds : List (Key × Dt)} (e : view w.s d = .dic ds) : ∃ a vs, x = .ref a ∧ Rd w.H a (.dK vs) ∧ RpK K w.G w.m vs ds := by
  cases r with
  | dic q r => cases e; exact ⟨_, _, rfl, .inl (S.sub _ _ q), r⟩
  | obj q =>
    rename_i a n
    have e : viewO w.s[n]? n = .dic ds := e
    have ob := S.ob n
    generalize w.s[n]? = o at e ob
    cases o with
    | none => cases e
    | some o =>
      have z := ob o a rfl q
      cases o with
      | lst l => cases e
      | dK l =>
        cases e
        obtain ⟨_, u, hu, vs, rfl, r⟩ := z
        exact ⟨a, vs, rfl, .inl hu, r⟩
      | dT l => cases e
      | ins c l => cases e
      | fz dd =>
        have e : dd = .dic ds := e
        subst e
        cases z with
        | dic q r => exact ⟨a, _, rfl, .inl (S.sub _ _ q), r⟩
      | lk o => cases o with
        | dK l =>
          cases e
          obtain ⟨_, od, u, hu, vs, rfl, r⟩ := z
          exact ⟨a, vs, rfl, .inr ⟨od, hu⟩, r⟩
        | _ => cases e
  | _ => cases e
def RpO (K : PySem.W.Frag) (G : Hp) (m : List Addr) : Option V → Option Dt → Prop
  | none, none => True
  | some v, some d => Rp K G m v d
  | _, _ => False
theorem RpO.get {K : PySem.W.Frag} {G : Hp} {m : List Addr} {o : Option V} {d : Dt} (h : RpO K G m o (some d)) : ∃ v, o = some v ∧ Rp K G m v d := by
  cases o with
  | none => exact h.elim
  | some v => exact ⟨v, rfl, h⟩
theorem RpO.non {K : PySem.W.Frag} {G : Hp} {m : List Addr} {o : Option V} (h : RpO K G m o none) : o = none := by
  cases o with
  | none => rfl
  | some v => exact h.elim
theorem RpO.some_eq {K : PySem.W.Frag} {G : Hp} {m : List Addr} {o : Option V} {p : Option Dt} (h : RpO K G m o p) : o.isSome = p.isSome := by
  cases o <;> cases p <;> first | rfl | exact h.elim
theorem RpK.look {K : PySem.W.Frag} {G : Hp} {m : List Addr} (k : Key) : ∀ {vs : List (Key × V)} {ds : List (Key × Dt)}, RpK K G m vs ds → RpO K G m (valV vs k) (lookK ds k)
  | _, _, .nil => True.intro
  | _, _, .cons (k := j) r t => by
    have ih := RpK.look k t
    unfold lookK at *
    by_cases e : j = k
    · rw [valV_pos e, List.find?_cons_of_pos (by simpa using e)]
      exact r
    · rw [valV_neg e, List.find?_cons_of_neg (by simpa using e)]
      exact ih
theorem RpT.look {K : PySem.W.Frag} {G : Hp} {m : List Addr} (k : List Key) : ∀ {vs : List (List Key × V)} {ds : List (List Key × Dt)}, RpT K G m vs ds → RpO K G m (valV vs k) (lookK ds k)
  | _, _, .nil => True.intro
  | _, _, .cons (k := j) r t => by
    have ih := RpT.look k t
    unfold lookK at *
    by_cases e : j = k
    · rw [valV_pos e, List.find?_cons_of_pos (by simpa using e)]
      exact r
    · rw [valV_neg e, List.find?_cons_of_neg (by simpa using e)]
      exact ih
theorem keyOf_rp {K : PySem.W.Frag} {G : Hp} {m : List Addr} {y : V} {d : Dt} {k : Key} (r : Rp K G m y d) (e : keyOf d = some k) : y = kV k := by
  cases r <;> first | (cases e; rfl) | cases e
theorem keysOf_rp {K : PySem.W.Frag} {G : Hp} {m : List Addr} : ∀ {ys : List V} {ds : List Dt} {ks : List Key}, RpA K G m ys ds → keysOf ds = some ks → ys = ks.map kV
  | _, _, ks, .nil, e => by cases e; rfl
  | _, _, ks, .cons (d := d) (ds := ds) r t, e => by
    unfold keysOf at e
    cases e1 : keyOf d with
    | none => rw [e1] at e; cases e
    | some k =>
      cases e2 : keysOf ds with
      | none => rw [e1, e2] at e; cases e
      | some ks2 =>
        rw [e1, e2] at e
        cases e
        rw [keyOf_rp r e1, keysOf_rp t e2]
        rfl
theorem any_str {K : PySem.W.Frag} {G : Hp} {m : List Addr} : ∀ {ys : List V} {ds : List Dt}, RpA K G m ys ds → ds.any isStrD = true → ∃ z : Str, V.str z ∈ ys
  | _, _, .nil, e => by cases e
  | _, _, .cons (d := d) r t, e => by
    rw [List.any_cons, Bool.or_eq_true] at e
    rcases e with e | e
    · cases r <;> first | exact ⟨_, .head _⟩ | cases e
    · obtain ⟨z, h⟩ := any_str t e
      exact ⟨z, .tail _ h⟩
theorem tkeyOf_rp (S : Sim K tb w) {y : V} {d : Dt} {k : List Key} (r : Rp K w.G w.m y d) (e : tkeyOf d = some k) : ∃ b, y = .ref b ∧ w.H b = some (.tup (k.map kV)) ∧ w.G b = some (.tup (k.map kV)) := by
  cases r with
  | tup q r z =>
    unfold tkeyOf at e
    dsimp only at e
    split at e
    · rename_i h
      obtain ⟨x, hx⟩ := any_str r h
      have g := z x hx
      rw [keysOf_rp r e] at g
      exact ⟨_, rfl, S.sub _ _ g, g⟩
    · cases e
  | _ => cases e
/-- a dict's place, read -/
theorem dGet_ok (S : Sim K tb w) (r : Rp K w.G w.m x d) {y : V} {k : Dt} (ry : Rp K w.G w.m y k) {o : Option Dt} (e : dGet d k w.s = some o) : ∃ a ov, x = .ref a ∧ DGet w.H a y ov ∧ RpO K w.G w.m ov o := by
  unfold dGet at e
  split at e
  · rename_i l e1
    obtain ⟨a, vs, rfl, q, rr⟩ := view_dic S r e1
    obtain ⟨kk, e2, rfl⟩ := Option.map_eq_some_iff.mp e
    rw [keyOf_rp ry e2]
    exact ⟨a, _, rfl, .inl ⟨vs, kk, q, rfl, rfl⟩, rr.look kk⟩
  · rename_i n e1
    have hr := view_rp S r (by rw [e1]; nofun) (by rw [e1]; nofun)
    rw [e1] at hr
    cases hr with
    | obj q =>
      split at e
      · rename_i l el
        obtain ⟨_, u, hu, vs, rfl, rr⟩ := S.ob _ _ _ el q
        obtain ⟨kk, e2, rfl⟩ := Option.map_eq_some_iff.mp e
        obtain ⟨b, rfl, hb, _⟩ := tkeyOf_rp S ry e2
        exact ⟨_, _, rfl, .inr ⟨vs, kk, b, .inl hu, rfl, hb, rfl⟩, rr.look kk⟩
      · rename_i l el
        obtain ⟨_, od, u, hu, vs, rfl, rr⟩ := S.ob _ _ _ el q
        obtain ⟨kk, e2, rfl⟩ := Option.map_eq_some_iff.mp e
        obtain ⟨b, rfl, hb, _⟩ := tkeyOf_rp S ry e2
        exact ⟨_, _, rfl, .inr ⟨vs, kk, b, .inr ⟨od, hu⟩, rfl, hb, rfl⟩, rr.look kk⟩
      · cases e
  · cases e
theorem mapM_dpA {f : Dt → Option Dt} {G H : Hp} {m : List Addr} (hf : ∀ d e x, f d = some e → e.flat = true → Rp K G m x d → Dp K H x e.py) : ∀ {l l' : List Dt} {xs : List V}, l.mapM f = some l' → Dt.flats l' = true → RpA K G m xs l → DpAll K H xs (Dt.pys l')
  | [], l', xs, h, _, r => by
    cases r
    simp at h
    subst h
    exact .nil
  | d :: l, l', xs, h, hfl, r => by
    cases r with
    | cons r1 r2 =>
      rw [List.mapM_cons] at h
      cases e1 : f d with
      | none => rw [e1] at h; cases h
      | some d' =>
        cases e2 : l.mapM f with
        | none => rw [e1, e2] at h; cases h
        | some t =>
          rw [e1, e2] at h
          cases h
          have f' : (d'.flat && Dt.flats t) = true := hfl
          rw [Bool.and_eq_true] at f'
          exact .cons (hf _ _ _ e1 f'.1 r1) (mapM_dpA hf e2 f'.2 r2)
theorem rslv_dp (S : Sim K tb w) : ∀ (n : Nat) (d e : Dt) (x : V), rslv w.s n d = some e → e.flat = true → Rp K w.G w.m x d → Dp K w.H x e.py
  | 0, d, e, x, h, f, r => by
    unfold rslv at h
    split at h
    · cases h
      exact Rp.dp S.sub _ _ f r
    · cases h
  | n + 1, d, e, x, h, f, r => by
    unfold rslv at h
    split at h
    · cases h
      exact Rp.dp S.sub _ _ f r
    · cases r with
      | obj q =>
        dsimp only at h
        split at h
        · rename_i l ei
          obtain ⟨t, et, rfl⟩ := Option.map_eq_some_iff.mp h
          obtain ⟨gp, u, hu, vs, rfl, rr⟩ := S.ob _ _ _ ei q
          exact .lst (.inl (.inl hu)) (mapM_dpA (fun d e x h1 h2 h3 => rslv_dp S n d e x h1 h2 h3) et f rr)
        · obtain ⟨t, et, rfl⟩ := Option.map_eq_some_iff.mp h
          cases f
        · rename_i ei
          split at h
          · cases h
            exact Rp.dp S.sub _ _ f (S.ob _ _ _ ei q)
          · cases h
        · cases h
      | tup q r z =>
        dsimp only at h
        obtain ⟨t, et, rfl⟩ := Option.map_eq_some_iff.mp h
        exact .tup (same_tseq S.sub q) (mapM_dpA (fun d e x h1 h2 h3 => rslv_dp S n d e x h1 h2 h3) et f r)
      | _ => cases h
end
/-! ## operators on values -/
section
variable {X : Cx} {tb : Tb}
theorem op_fdivG : OpR X (binaryOp .FloorDiv) (rI (fun i j => j ≠ 0 ∧ Builtin.divisionGoesByPylong i j = false) fun i j => .int (i.fdiv j)) := opI fun _ _ _ _ _ _ _ hc q => PyProof.Rows.floordiv_int hc.1 q (.inl hc.2)
theorem op_mulG : OpR X (binaryOp .Mult) (rI IntMulOk fun i j => .int (i * j)) := opI fun _ _ _ _ _ _ _ hc q => PyProof.Rows.mul_int q hc
def rCatL (K : PySem.W.Frag) : R2 := fun x y H Q => ∃ l b xs zs, x = .ref l ∧ y = .ref b ∧ SqL K H l xs ∧ SqL K H b zs ∧ xs.length + zs.length ≤ sizeLine ∧ ∀ p, H p = none → Q (.ref p) (upd H p (.lst (xs ++ zs)))
theorem op_catL : OpR X (binaryOp .Add) (rCatL X.K) := fun pins s σ H x y v u Q I rx ry h => by
  obtain ⟨l, b, xs, zs, rfl, rfl, hl, hb, hz, q⟩ := h
  cases rx
  cases ry
  obtain ⟨i1, r1, p1, _⟩ := I.list hl
  obtain ⟨i2, r2, p2, _⟩ := I.list hb
  obtain ⟨o1, a1, c1, n1, d1⟩ := p1.isList
  obtain ⟨o2, a2, c2, n2, d2⟩ := p2.isList
  obtain ⟨k1, dd1, da1, sl1⟩ := o1
  obtain ⟨k2, dd2, da2, sl2⟩ := o2
  dsimp only at c1 c2 d1 d2
  subst c1 c2 d1 d2
  have h1 := r1.length
  have h2 := r2.length
  have ez : i1.toArray ++ i2.toArray = (i1 ++ i2).toArray := by simp
  refine PySem.concat_meets ⟨_, a1, rfl⟩ ⟨_, a2, rfl⟩ noFill_list_add seq_list_add PySem.F.slot_list_add PySem.F.entry_list_add (PySem.F.args_list_add_2 _ _) (PyProof.Rows.list_addW l b _ _ n1 n2 dd1 dd2 sl1 sl2 (by rw [List.size_toArray, List.size_toArray]; omega)) ⟨a1, a2, ?_⟩
  rw [ez]
  exact ⟨.ref _, _, I.lnew (t' := s.toks) (r1.append r2) (by rw [List.length_append]; omega), rfl, q _ I.fresh⟩
/-- a new frozen list, told -/
theorem Ret.laid {K : PySem.W.Frag} {W : WX} {w : Wd} {σ : L2.St} {Q : VK} {vs : List V} {ds : List Dt} (S : Sim K tb w) (r : RpA K w.G w.m vs ds) (h : Ret K tb W (RV K) σ w Q (.ok (.lst ds) w.s)) : ∀ p, w.H p = none → Q (.ref p) (upd w.H p (.lst vs)) := fun p hp => by
  have st := Stp.lay S (.lst vs) hp
  exact h (.ref p) ⟨upd w.G p (.lst vs), upd w.H p (.lst vs), w.m, w.s⟩ rfl st (.lst (.inl (.inl upd_same)) (r.up st.g st.pre))
theorem Ret.laidT {K : PySem.W.Frag} {W : WX} {w : Wd} {σ : L2.St} {Q : VK} {vs : List V} {ds : List Dt} (S : Sim K tb w) (r : RpA K w.G w.m vs ds) (h : Ret K tb W (RV K) σ w Q (.ok (.tup ds) w.s)) : ∀ p, w.H p = none → Q (.ref p) (upd w.H p (.tup vs)) := fun p hp => by
  have st := Stp.lay S (.tup vs) hp
  exact h (.ref p) ⟨upd w.G p (.tup vs), upd w.H p (.tup vs), w.m, w.s⟩ rfl st (.tup (.inl (.inl upd_same)) (r.up st.g st.pre) fun _ _ => upd_same)
/-- a new list, live or not -/
theorem Ret.mkL {K : PySem.W.Frag} {W : WX} {w : Wd} {σ : L2.St} {Q : VK} {lv : Bool} {vs : List V} {ds : List Dt} (S : Sim K tb w) (r : RpA K w.G w.m vs ds) (h : Ret K tb W (RV K) σ w Q (mkL lv ds w.s)) : ∀ p, w.H p = none → Q (.ref p) (upd w.H p (.lst vs)) := fun p hp => by
  cases lv with
  | false => exact Ret.laid S r h p hp
  | true =>
    have st := Stp.new S (u := .lst vs) (o := .lst ds) hp ⟨vs, rfl, r⟩
    refine h (.ref p) ⟨w.G, upd w.H p (.lst vs), w.m ++ [p], w.s ++ [.lst ds]⟩ rfl st (.obj ?_)
    show (w.m ++ [p])[w.s.length]? = some p
    rw [← S.len, List.getElem?_concat_length]
theorem RpA.rep {K : PySem.W.Frag} {G : Hp} {m : List Addr} {vs : List V} {ds : List Dt} (r : RpA K G m vs ds) : ∀ k : Nat, RpA K G m (List.replicate k vs).flatten (List.replicate k ds).flatten
  | 0 => .nil
  | k + 1 => by
    rw [List.replicate_succ, List.replicate_succ, List.flatten_cons, List.flatten_cons]
    exact r.append (RpA.rep r k)
def opOf : BO → Operator
  | .add => .Add | .sub => .Sub | .mul => .Mult | .div => .FloorDiv | .mod => .Mod | .pow => .Pow
theorem ok_bin (o : BO) : OpOk X.K tb (semO X (binaryOp (opOf o))) (binS o) := fun W w σ x y a b Q S rx ry hr => by
  have int2 : ∀ {i j : Int}, a = .int i → b = .int j → x = .int i ∧ y = .int j := fun e1 e2 => by
    subst e1 e2
    cases rx
    cases ry
    exact ⟨rfl, rfl⟩
  cases o with
  | add =>
    unfold binS at hr
    dsimp only at hr
    split at hr
    · rename_i i j e1 e2
      obtain rfl := view_int S rx e1
      obtain rfl := view_int S ry e2
      exact semO.of op_add ⟨i, j, rfl, rfl, hr _ w rfl (.refl S) (.int _)⟩
    · rename_i i j e1 e2
      obtain rfl := view_str S rx e1
      obtain rfl := view_str S ry e2
      split at hr
      · rename_i hz
        exact semO.of op_add_str ⟨i, j, rfl, rfl, hz, hr _ w rfl (.refl S) (.str _)⟩
      · exact hr.elim
    · rename_i p q e1 e2
      split at hr
      · rename_i hz
        obtain ⟨a1, vs, rfl, q1, r1⟩ := view_lst S rx e1
        obtain ⟨a2, us, rfl, q2, r2⟩ := view_lst S ry e2
        exact semO.of op_catL ⟨a1, a2, vs, us, rfl, rfl, q1, q2, by rw [r1.length, r2.length]; exact hz, Ret.laid S (r1.append r2) hr⟩
      · exact hr.elim
    · exact hr.elim
  | sub =>
    unfold binS at hr
    dsimp only at hr
    split at hr
    · obtain ⟨rfl, rfl⟩ := int2 rfl rfl
      exact semO.of op_sub ⟨_, _, rfl, rfl, hr _ w rfl (.refl S) (.int _)⟩
    · exact hr.elim
  | mul =>
    unfold binS at hr
    dsimp only at hr
    split at hr
    · obtain ⟨rfl, rfl⟩ := int2 rfl rfl
      split at hr
      · rename_i c
        exact semO.of op_mulG ⟨_, _, rfl, rfl, c, hr _ w rfl (.refl S) (.int _)⟩
      · exact hr.elim
    · cases rx
      cases ry
      rename_i n k a q
      split at hr
      · rename_i l el
        split at hr
        · rename_i c
          obtain ⟨_, u, hu, vs, rfl, r⟩ := S.ob n _ a el q
          exact semO.of op_rep ⟨a, k, vs, rfl, rfl, hu, by omega, by omega, by rw [r.length]; exact c.2.2, Ret.laid S (RpA.rep r k.toNat) hr⟩
        · exact hr.elim
      · exact hr.elim
    · exact hr.elim
  | div =>
    unfold binS at hr
    dsimp only at hr
    split at hr
    · obtain ⟨rfl, rfl⟩ := int2 rfl rfl
      split at hr
      · rename_i c
        exact semO.of op_fdivG ⟨_, _, rfl, rfl, c, hr _ w rfl (.refl S) (.int _)⟩
      · exact hr.elim
    · exact hr.elim
  | mod =>
    unfold binS at hr
    dsimp only at hr
    split at hr
    · obtain ⟨rfl, rfl⟩ := int2 rfl rfl
      split at hr
      · rename_i c
        exact semO.of op_modN ⟨_, _, rfl, rfl, c, hr _ w rfl (.refl S) (.int _)⟩
      · exact hr.elim
    · exact hr.elim
  | pow =>
    unfold binS at hr
    dsimp only at hr
    split at hr
    · obtain ⟨rfl, rfl⟩ := int2 rfl rfl
      split at hr
      · rename_i c
        unfold cPow at c
        simp only [Bool.and_eq_true, decide_eq_true_eq] at c
        exact semO.of op_pow ⟨_, _, rfl, rfl, c, hr _ w rfl (.refl S) (.int _)⟩
      · exact hr.elim
    · exact hr.elim
def cmpOf : CO → CmpOp
  | .eq => .Eq | .ne => .NotEq | .lt => .Lt | .le => .LtE | .gt => .Gt | .ge => .GtE | .inn => .In | .nin => .NotIn
theorem ok_cmp (o : CO) (hu : X.A.units + 65 < cLine) : OpOk X.K tb (semO X (compareOp (cmpOf o))) (cmpS o) := fun W w σ x y a b Q S rx ry hr => by
  have int2 : ∀ {i j : Int}, a = .int i → b = .int j → x = .int i ∧ y = .int j := fun e1 e2 => by
    subst e1 e2
    cases rx
    cases ry
    exact ⟨rfl, rfl⟩
  have str2 : ∀ {i j : Str}, a = .str i → b = .str j → x = .str i ∧ y = .str j := fun e1 e2 => by
    subst e1 e2
    cases rx
    cases ry
    exact ⟨rfl, rfl⟩
  cases o with
  | eq =>
    unfold cmpS at hr
    dsimp only at hr
    split at hr
    · rename_i c
      obtain ⟨d1, h1⟩ := okEq_dp S rx c.1
      obtain ⟨d2, h2⟩ := okEq_dp S ry c.2
      exact semO.of (op_eqD (by omega)) ⟨_, _, d1, d2, h1, h2, hr _ w rfl (.refl S) (.bl _)⟩
    · split at hr
      · rename_i e1 e2
        split at hr
        · rename_i c
          unfold okEq at c
          rw [Bool.and_eq_true, Bool.and_eq_true] at c
          exact semO.of (op_eqD (by omega)) ⟨_, _, rslv_dp S 4 _ _ _ e1 c.1.1 rx, rslv_dp S 4 _ _ _ e2 c.2.1 ry, c.1.2, c.2.2, hr _ w rfl (.refl S) (.bl _)⟩
        · exact hr.elim
      · exact hr.elim
  | ne =>
    unfold cmpS at hr
    dsimp only at hr
    split at hr
    · rename_i c
      obtain ⟨d1, h1⟩ := okEq_dp S rx c.1
      obtain ⟨d2, h2⟩ := okEq_dp S ry c.2
      exact semO.of (op_neD (by omega)) ⟨_, _, d1, d2, h1, h2, hr _ w rfl (.refl S) (.bl _)⟩
    · split at hr
      · rename_i e1 e2
        split at hr
        · rename_i c
          unfold okEq at c
          rw [Bool.and_eq_true, Bool.and_eq_true] at c
          exact semO.of (op_neD (by omega)) ⟨_, _, rslv_dp S 4 _ _ _ e1 c.1.1 rx, rslv_dp S 4 _ _ _ e2 c.2.1 ry, c.1.2, c.2.2, hr _ w rfl (.refl S) (.bl _)⟩
        · exact hr.elim
      · exact hr.elim
  | lt =>
    unfold cmpS at hr
    dsimp only at hr
    split at hr
    · obtain ⟨rfl, rfl⟩ := int2 rfl rfl
      exact semO.of op_lt ⟨_, _, rfl, rfl, hr _ w rfl (.refl S) (.bl _)⟩
    · obtain ⟨rfl, rfl⟩ := str2 rfl rfl
      exact semO.of op_lt_str ⟨_, _, rfl, rfl, hr _ w rfl (.refl S) (.bl _)⟩
    · exact hr.elim
  | le =>
    unfold cmpS at hr
    dsimp only at hr
    split at hr
    · obtain ⟨rfl, rfl⟩ := int2 rfl rfl
      exact semO.of op_le ⟨_, _, rfl, rfl, hr _ w rfl (.refl S) (.bl _)⟩
    · obtain ⟨rfl, rfl⟩ := str2 rfl rfl
      exact semO.of op_le_str ⟨_, _, rfl, rfl, hr _ w rfl (.refl S) (.bl _)⟩
    · exact hr.elim
  | gt =>
    unfold cmpS at hr
    dsimp only at hr
    split at hr
    · obtain ⟨rfl, rfl⟩ := int2 rfl rfl
      exact semO.of op_gt ⟨_, _, rfl, rfl, hr _ w rfl (.refl S) (.bl _)⟩
    · exact hr.elim
  | ge =>
    unfold cmpS at hr
    dsimp only at hr
    split at hr
    · obtain ⟨rfl, rfl⟩ := int2 rfl rfl
      exact semO.of op_ge ⟨_, _, rfl, rfl, hr _ w rfl (.refl S) (.bl _)⟩
    · exact hr.elim
  | inn =>
    unfold cmpS at hr
    dsimp only at hr
    split at hr
    · rename_i ds e
      split at hr
      · rename_i c
        obtain ⟨d1, h1⟩ := okEq_dp S rx c.1
        obtain ⟨d2, h2⟩ := okEq_dp S ry (by rw [e]; exact c.2)
        rw [e] at d2 h2
        exact semO.of (op_inD (by omega)) ⟨_, _, d1, d2, h1, h2, hr _ w rfl (.refl S) (.bl _)⟩
      · exact hr.elim
    · rename_i z e
      obtain rfl := view_str S ry e
      split at hr
      · cases rx
        exact semO.of op_in_str ⟨_, _, rfl, rfl, hr _ w rfl (.refl S) (.bl _)⟩
      · exact hr.elim
    · split at hr
      · rename_i o eo
        obtain ⟨p, ov, rfl, g, ro⟩ := dGet_ok S ry rx eo
        intro pins s σ v u I rv ru
        obtain rfl : u = Value.ref p := ru
        exact d_in (by omega) I g rv fun s3 I3 => ⟨.bl (ov.isSome), w.H, I3, rfl, hr _ w rfl (.refl S) (by rw [ro.some_eq]; exact .bl _)⟩
      · exact hr.elim
  | nin =>
    unfold cmpS at hr
    dsimp only at hr
    split at hr
    · rename_i ds e
      split at hr
      · rename_i c
        obtain ⟨d1, h1⟩ := okEq_dp S rx c.1
        obtain ⟨d2, h2⟩ := okEq_dp S ry (by rw [e]; exact c.2)
        rw [e] at d2 h2
        exact semO.of (op_notInD (by omega)) ⟨_, _, d1, d2, h1, h2, hr _ w rfl (.refl S) (.bl _)⟩
      · exact hr.elim
    · rename_i z e
      obtain rfl := view_str S ry e
      split at hr
      · cases rx
        exact semO.of op_notIn_str ⟨_, _, rfl, rfl, hr _ w rfl (.refl S) (.bl _)⟩
      · exact hr.elim
    · split at hr
      · rename_i o eo
        obtain ⟨p, ov, rfl, g, ro⟩ := dGet_ok S ry rx eo
        intro pins s σ v u I rv ru
        obtain rfl : u = Value.ref p := ru
        exact d_notIn (by omega) I g rv fun s3 I3 => ⟨.bl (!ov.isSome), w.H, I3, rfl, hr _ w rfl (.refl S) (by rw [ro.some_eq]; exact .bl _)⟩
      · exact hr.elim
end
end Ip

namespace Ip
open PySem L2 PySem.Spec
open PySem.W PyProof.Rows in
theorem kr0_range (n : Nat) : ∃ b, sliceBounds none (some 0) (some (-1)) n = ((n : Int) - 1, b, -1) ∧ sliceRange ((n : Int) - 1) b (-1) = (List.range (n - 1)).map fun k => n - 1 - k := by
  have h : sliceBounds none (some 0) (some (-1)) n = ((n : Int) - 1, min 0 ((n : Int) - 1), -1) := by
    simp [sliceBounds]
    omega
  refine ⟨_, h, ?_⟩
  unfold sliceRange
  have h1 : ¬ ((-1 : Int) > 0) := by decide
  by_cases h : 1 < n
  · have e0 : min 0 ((n : Int) - 1) = 0 := by omega
    rw [e0]
    have h2 : (n : Int) - 1 > 0 := by omega
    have e : ((n : Int) - 1 - 0 - -1 - 1) / (- -1) = ((n - 1 : Nat) : Int) := by
      rw [show (- -1 : Int) = 1 by decide, Int.ediv_one]
      omega
    simp only [h1, if_false, h2, if_true, e, Int.toNat_natCast]
    apply List.map_congr_left
    intro k hk
    have := List.mem_range.mp hk
    omega
  · have e0 : min 0 ((n : Int) - 1) = (n : Int) - 1 := by omega
    rw [e0]
    have e : n - 1 = 0 := by omega
    rw [e]
    simp
theorem fm_congr {α β : Type} {f g : α → Option β} : ∀ {l : List α}, (∀ x ∈ l, f x = g x) → l.filterMap f = l.filterMap g
  | [], _ => rfl
  | x :: l, h => by
    rw [List.filterMap_cons, List.filterMap_cons, h x List.mem_cons_self, fm_congr fun y hy => h y (List.mem_cons_of_mem _ hy)]
open PySem.W PyProof.Rows in
theorem kr0_pick (items : Array Value) : slicePick items none (some 0) (some (-1)) = (items.toList.drop 1).reverse.toArray := by
  unfold slicePick
  obtain ⟨b, h1, h2⟩ := kr0_range items.size
  rw [h1]
  show ((sliceRange ((items.size : Int) - 1) b (-1)).filterMap (items[·]?)).toArray = _
  rw [h2]
  congr 1
  obtain ⟨l⟩ := items
  cases l with
  | nil => rfl
  | cons x t =>
    have h3 := krv_all t.toArray
    have h4 := krv_range t.length
    simp only [List.size_toArray, List.length_cons, Nat.add_sub_cancel, List.getElem?_toArray, List.drop_succ_cons, List.drop_zero]
    rw [List.filterMap_map]
    have h5 : (List.range t.length).filterMap ((fun x_1 : Nat => (x :: t)[x_1]?) ∘ fun k => t.length - k) = (List.range t.length).filterMap ((fun i => t[i]?) ∘ fun k => t.length - 1 - k) := by
      apply fm_congr
      intro k hk
      have := List.mem_range.mp hk
      show (x :: t)[t.length - k]? = t[t.length - 1 - k]?
      rw [show t.length - k = (t.length - 1 - k) + 1 by omega, List.getElem?_cons_succ]
    rw [h5, ← List.filterMap_map, h4, List.filterMap_reverse]
    congr 1
    simpa using h3
end Ip
namespace L2
open PySem PySem.Spec PySem.W PyProof.Rows
def tRev0 (K : PySem.W.Frag) (te : TE) : TE := fun σ H Q => te σ H fun x H1 => ∃ a xs, x = .ref a ∧ SqL K H1 a xs ∧ ∀ p, H1 p = none → Q (.ref p) (upd H1 p (.lst (xs.drop 1).reverse))
theorem pe_rev0 {X : Cx} {e : Expr} {te : TE} {j k : Nat} {p0 p1 p2 p3 pos : Pos} (he : PE X e te) : PE X (.Subscript e (.Slice none (some (.Constant (.int 0) j p0)) (some (.UnaryOp .USub (.Constant (.int 1) k p1) p2)) p3) pos) (tRev0 X.K te) := by
  refine ⟨fun pins s σ H Q I h => ?_⟩
  refine Subscript_ (thn (he.run pins s σ H _ I h) fun v s1 ⟨x, H1, I1, r1, q1⟩ => ?_)
  obtain ⟨a, xs, ex, hx, q⟩ := q1
  subst ex
  cases r1
  have hst : PO X (some (.UnaryOp .USub (.Constant (.int 1) k p1) p2)) (tPart (tUn (rU fun i => .int (-i)) (tC (.int 1)))) := po_some (pe_un un_neg pe_int)
  have hhi : PO X (some (.Constant (.int 0) j p0)) (tPart (tC (.int 0))) := po_some pe_int
  refine wpAny_Slice (thn (po_none.run pins s1 σ H1 (fun o H2 => o = none ∧ H2 = H1) I1 ⟨rfl, rfl⟩) fun vl s2 ⟨l, H2, I2, pl, el, e2⟩ => ?_)
  subst el e2
  refine thn (hhi.run pins s2 σ H2 (fun o H3 => o = some 0 ∧ H3 = H2) I2 ⟨0, rfl, rfl, rfl⟩) fun vu s3 ⟨u, H3, I3, pu, eu, e3⟩ => ?_
  subst eu e3
  refine thn (hst.run pins s3 σ H3 (fun o H4 => o = some (-1) ∧ H4 = H3) I3 ⟨1, rfl, -1, rfl, rfl, rfl⟩) fun vs s4 ⟨o, H4, I4, ps, eo, e4⟩ => ?_
  subst eo e4
  have I5 : Inv X pins σ H4 { s4 with heap := s4.heap.push { cls := .type "slice", data := .fields #[vl, vu, vs] } } := I4.kept (t' := s4.toks) fun b ob q => Heap.get?_push_of_some _ q
  obtain ⟨its, r, ht, hz⟩ := I5.list hx
  have hlen := r.length
  show wpAny (model X.prog X.w) X.A (subscriptTail e (.Slice none (some (.Constant (.int 0) j p0)) (some (.UnaryOp .USub (.Constant (.int 1) k p1) p2)) p3) (.ref a) (.ref s4.heap.objs.size)) (EP X pins σ Q) X.xe { s4 with heap := s4.heap.push { cls := .type "slice", data := .fields #[vl, vu, vs] } }
  refine tail_any (ops := [.ref a, .ref s4.heap.objs.size]) ht.isList.typeIs (PySem.slot_list_getitem.lookup) ?_ (by with_unfolding_all rfl)
  refine wpAny_getItem_list_slice ht.isList (Heap.IsSliceOf.new _ vl vu vs) pl pu ps (by decide) ?_ (by rw [List.size_toArray]; omega)
  rw [Ip.kr0_pick]
  refine ⟨.ref _, _, I5.laid (t' := s4.toks) (o := .lst (xs.drop 1).reverse) (fun b ob q => Heap.get?_push_of_some _ q) (Nat.le_refl _) ?_, rfl, q _ (I5.hok.fresh (Nat.le_refl _))⟩
  exact ⟨by rw [List.length_reverse, List.length_drop]; omega, _, 0, (r.drop 1).reverse, Heap.get?_push_size _ rfl⟩
end L2
namespace Ip
open PySem L2 PySem.Spec
section
variable {X : Cx} {tb : Tb} {W : WX} {l : Loc} {s : Sto} {e a b c : Expr} {es : List Expr} {pos : Pos}
/-! ## tests, arguments, displays -/
theorem ret_asB {w : Wd} {σ : L2.St} {Q : Bool → Hp → Prop} {r : R Dt} (hr : Ret X.K tb W RB σ w Q (asB r)) : Ret X.K tb W (RV X.K) σ w (fun x H' => ∃ k, x = .bl k ∧ Q k H') r := by
  revert hr
  unfold asB
  cases r with
  | no => exact id
  | er e s => exact id
  | ok d s1 =>
    rw [R.bind_ok]
    cases d with
    | bl k => cases k with
      | true => exact fun hr v w' e st rv => by cases rv; exact ⟨true, rfl, hr true w' e st rfl⟩
      | false => exact fun hr v w' e st rv => by cases rv; exact ⟨false, rfl, hr false w' e st rfl⟩
    | _ => exact fun hr => hr.elim
theorem tx_val {r : R Dt} (h : EX X tb W e l s r) (he : ∀ whole, isTrue e X.env whole = (do let v ← whole; standAt e.pos; holding [v] (truthy v))) : TX X tb W e l s (asB r) :=
  tx_of (pt_val (pe_sem e) he) fun w0 w σ Q F hs hr => h.go w0 w σ _ F hs (ret_asB hr)
theorem ax_nil : AX X tb W [] l s (.ok [] s) := ax_of pa_nil fun w0 w σ Q F hs hr => hr [] w hs (.refl F.sim) .nil
theorem ax_cons {r : R Dt} {rs : Sto → R (List Dt)} (he : EX X tb W e l s r) (hs : ∀ s, AX X tb W es l s (rs s)) (h : starEach (e :: es) X.env = (false, eval e X.env) :: starEach es X.env) : AX X tb W (e :: es) l s (r.bind fun x s => (rs s).bind fun xs s => .ok (x :: xs) s) :=
  ax_of (pa_cons (pe_sem e) (pa_sem es) h) fun w0 w σ Q F hs' hr => he.go.bind F hs' hr fun x w1 d e1 st1 rx hr => (hs _).go.bind (F.step st1) rfl hr fun xs w2 ds e2 st2 rs hr => hr (x :: xs) w2 rfl (.refl st2.sim) (.cons (rx.up st2.g st2.pre) rs)
theorem ex_tup {x1} {r : R (List Dt)} (h : AX X tb W es l s r) : EX X tb W (.Tuple es x1 pos) l s (r.bind fun ds s => if ds.length ≤ sizeLine then .ok (.tup ds) s else .no) :=
  ex_of (pe_tup (pa_sem es)) fun w0 w σ Q F hs hr => h.go.bind F hs hr fun xs w1 ds e1 st1 rx hr => by
    by_cases hz : ds.length ≤ sizeLine
    · rw [if_pos hz] at hr
      exact ⟨by rw [rx.length]; exact hz, Ret.laidT st1.sim rx hr⟩
    · rw [if_neg hz] at hr
      exact hr.elim
theorem ex_lst {lv : Bool} {r : R (List Dt)} (h : AX X tb W es l s r) : EX X tb W (.List es pos) l s (r.bind fun ds s => if ds.length ≤ sizeLine then mkL lv ds s else .no) :=
  ex_of (pe_lst (pa_sem es)) fun w0 w σ Q F hs hr => h.go.bind F hs hr fun xs w1 ds e1 st1 rx hr => by
    by_cases hz : ds.length ≤ sizeLine
    · rw [if_pos hz] at hr
      exact ⟨by rw [rx.length]; exact hz, Ret.mkL st1.sim rx hr⟩
    · rw [if_neg hz] at hr
      exact hr.elim
theorem ret_new {w : Wd} {σ : L2.St} {Q : VK} {u : HO} {o : Ob} (S : Sim X.K tb w) (r : ObV X.K tb w.G w.m u o) (h : Ret X.K tb W (RV X.K) σ w Q (.ok (.obj w.s.length) (w.s ++ [o]))) : ∀ p, w.H p = none → Q (.ref p) (upd w.H p u) := fun p hp => by
  have st := Stp.new S hp r
  refine h (.ref p) ⟨w.G, upd w.H p u, w.m ++ [p], w.s ++ [o]⟩ rfl st (.obj ?_)
  show (w.m ++ [p])[w.s.length]? = some p
  rw [← S.len, List.getElem?_concat_length]
theorem ex_dic {t : Bool} : EX X tb W (.Dict [] [] pos) l s (.ok (.obj s.length) (s ++ [if t = true then .dT [] else .dK []])) := by
  cases t with
  | true => exact ex_of pe_dnewT fun w0 w σ Q F hs hr => by subst hs; exact ret_new (o := .dT []) F.sim ⟨_, rfl, .nil⟩ hr
  | false => exact ex_of pe_dnewK fun w0 w σ Q F hs hr => by subst hs; exact ret_new (o := .dK []) F.sim ⟨_, rfl, .nil⟩ hr
/-! ## truths -/
theorem ex_neg {r : R Dt} (h : EX X tb W a l s r) : EX X tb W (.UnaryOp .USub a pos) l s (r.bind fun d s => asI d .no fun i => .ok (.int (-i)) s) :=
  ex_of (pe_un un_neg (pe_sem a)) fun w0 w σ Q F hs hr => h.go.bind F hs hr fun x w1 d e1 st1 rx hr => by
    cases rx with
    | int i => exact ⟨i, rfl, hr _ w1 rfl (.refl st1.sim) (.int _)⟩
    | _ => exact hr.elim
theorem ex_cmp {o : CO} {ra : R Dt} {rb : Sto → R Dt} (hu : X.A.units + 65 < cLine) (hm : behindInMarks (cmpOf o) b = false) (ha : EX X tb W a l s ra) (hb : ∀ s, EX X tb W b l s (rb s)) : EX X tb W (.Compare a [cmpOf o] [b] pos) l s (ra.bind fun x s => (rb s).bind fun y s => cmpS o x y s) :=
  ex_op (pe_cmpR (or_sem _) (pe_sem a) (pe_sem b) hm) (ok_cmp o hu) ha hb
theorem tx_cmp {o : CO} {ra : R Dt} {rb : Sto → R Dt} (hu : X.A.units + 65 < cLine) (hm : behindInMarks (cmpOf o) b = false) (ha : EX X tb W a l s ra) (hb : ∀ s, EX X tb W b l s (rb s)) : TX X tb W (.Compare a [cmpOf o] [b] pos) l s (asB (ra.bind fun x s => (rb s).bind fun y s => cmpS o x y s)) :=
  tx_op (pt_cmpR (or_sem _) (pe_sem a) (pe_sem b) hm) (ok_cmp o hu) ha hb
theorem ex_bin {o : BO} {ra : R Dt} {rb : Sto → R Dt} (ha : EX X tb W a l s ra) (hb : ∀ s, EX X tb W b l s (rb s)) : EX X tb W (.BinOp a (opOf o) b pos) l s (ra.bind fun x s => (rb s).bind fun y s => binS o x y s) :=
  ex_op (pe_op (or_sem _) (pe_sem a) (pe_sem b)) (ok_bin o) ha hb
/-- a chain of two comparisons -/
theorem go_chain {o p : CO} {ra : R Dt} {rb rc : Sto → R Dt} (hu : X.A.units + 65 < cLine) (ha : EX X tb W a l s ra) (hb : ∀ s, EX X tb W b l s (rb s)) (hc : ∀ s, EX X tb W c l s (rc s)) :
    GO X.K tb W (RV X.K) (tChain (semO X (compareOp (cmpOf o))) (semO X (compareOp (cmpOf p))) (semE X a) (semE X b) (semE X c)) l s (ra.bind fun x s => (rb s).bind fun y s => (cmpS o x y s).bind fun k s => brn k .no ((rc s).bind fun z s => cmpS p y z s) (.ok (.bl false) s)) :=
  fun w0 w σ Q F hs hr => ha.go.bind F hs hr fun x w1 d1 e1 st1 rx hr => (hb _).go.bind (F.step st1) rfl hr fun y w2 d2 e2 st2 ry hr => by
    refine ok_cmp o hu W w2 σ x y d1 d2 _ st2.sim (rx.up st2.g st2.pre) ry ?_
    revert hr
    cases cmpS o d1 d2 w2.s with
    | no => exact id
    | er e s => exact id
    | ok k s3 =>
      rw [R.bind_ok]
      intro hr z w3 e3 st3 rz
      subst e3
      cases rz with
      | bl k =>
        refine ⟨k, rfl, ?_⟩
        rw [brn_bl] at hr
        cases k with
        | true =>
          refine iteT ?_
          have hr : Ret X.K tb W (RV X.K) σ w3 Q ((rc w3.s).bind fun z s => cmpS p d2 z s) := Ret.up st3 hr
          exact (hc _).go.bind (((F.step st1).step st2).step st3) rfl hr fun z w4 d4 e4 st4 rz hr => ok_cmp p hu W w4 σ y z d2 d4 _ st4.sim ((ry.up st3.g st3.pre).up st4.g st4.pre) rz hr
        | false => exact iteF (hr _ w3 rfl st3 (.bl false))
      | _ => exact hr.elim
theorem ex_chn {o p : CO} {ra : R Dt} {rb rc : Sto → R Dt} (hu : X.A.units + 65 < cLine) (hm : lastMarks [cmpOf o, cmpOf p] [b, c] = false) (ha : EX X tb W a l s ra) (hb : ∀ s, EX X tb W b l s (rb s)) (hc : ∀ s, EX X tb W c l s (rc s)) :
    EX X tb W (.Compare a [cmpOf o, cmpOf p] [b, c] pos) l s (ra.bind fun x s => (rb s).bind fun y s => (cmpS o x y s).bind fun k s => brn k .no ((rc s).bind fun z s => cmpS p y z s) (.ok (.bl false) s)) :=
  ex_of (pe_chain (or_sem _) (or_sem _) (pe_sem a) (pe_sem b) (pe_sem c) hm) (go_chain hu ha hb hc)
theorem tx_chn {o p : CO} {ra : R Dt} {rb rc : Sto → R Dt} (hu : X.A.units + 65 < cLine) (hm : lastMarks [cmpOf o, cmpOf p] [b, c] = false) (ha : EX X tb W a l s ra) (hb : ∀ s, EX X tb W b l s (rb s)) (hc : ∀ s, EX X tb W c l s (rc s)) :
    TX X tb W (.Compare a [cmpOf o, cmpOf p] [b, c] pos) l s (asB (ra.bind fun x s => (rb s).bind fun y s => (cmpS o x y s).bind fun k s => brn k .no ((rc s).bind fun z s => cmpS p y z s) (.ok (.bl false) s))) :=
  tx_of (pt_chain (or_sem _) (or_sem _) (pe_sem a) (pe_sem b) (pe_sem c) hm) fun w0 w σ Q F hs hr => go_chain hu ha hb hc w0 w σ _ F hs (ret_asB hr)
theorem rp_non {K : PySem.W.Frag} {G : Hp} {m : List Addr} {x : V} {d : Dt} (r : Rp K G m x d) : decide (x = .non) = d.isNon := by
  cases r <;> rfl
theorem ex_isN {n : Bool} {r : R Dt} {p1 j1} (h : EX X tb W a l s r) : EX X tb W (.Compare a [if n = true then .IsNot else .Is] [.Constant .none j1 p1] pos) l s (r.bind fun d s => .ok (.bl (n != d.isNon)) s) := by
  cases n with
  | true => exact ex_of (pe_cmpR op_notN (pe_sem a) pe_non (nomark _)) fun w0 w σ Q F hs hr => h.go.bind F hs hr fun x w1 d e1 st1 rx hr => ⟨rfl, by rw [rp_non rx]; cases e : d.isNon <;> (rw [e] at hr; exact hr _ w1 rfl (.refl st1.sim) (.bl _))⟩
  | false => exact ex_of (pe_cmpR op_isN (pe_sem a) pe_non (nomark _)) fun w0 w σ Q F hs hr => h.go.bind F hs hr fun x w1 d e1 st1 rx hr => ⟨rfl, by rw [rp_non rx]; cases e : d.isNon <;> (rw [e] at hr; exact hr _ w1 rfl (.refl st1.sim) (.bl _))⟩
theorem tx_isN {n : Bool} {r : R Dt} {p1 j1} (h : EX X tb W a l s r) : TX X tb W (.Compare a [if n = true then .IsNot else .Is] [.Constant .none j1 p1] pos) l s (asB (r.bind fun d s => .ok (.bl (n != d.isNon)) s)) := by
  cases n with
  | true => exact tx_of (pt_cmpR op_notN (pe_sem a) pe_non (nomark _)) fun w0 w σ Q F hs hr => h.go.bind F hs (ret_asB hr) fun x w1 d e1 st1 rx hr => ⟨rfl, by rw [rp_non rx]; cases e : d.isNon <;> (rw [e] at hr; exact hr _ w1 rfl (.refl st1.sim) (.bl _))⟩
  | false => exact tx_of (pt_cmpR op_isN (pe_sem a) pe_non (nomark _)) fun w0 w σ Q F hs hr => h.go.bind F hs (ret_asB hr) fun x w1 d e1 st1 rx hr => ⟨rfl, by rw [rp_non rx]; cases e : d.isNon <;> (rw [e] at hr; exact hr _ w1 rfl (.refl st1.sim) (.bl _))⟩
theorem ex_one {op} {r : R Dt} (h : EX X tb W a l s r) : EX X tb W (.BoolOp op [a] pos) l s r := ex_of (pe_one (pe_sem a)) h.go
theorem ex_and {r : R Dt} {r2 : Sto → R Dt} (h : EX X tb W a l s r) (h2 : ∀ s, EX X tb W (.BoolOp .And (b :: es) pos) l s (r2 s)) : EX X tb W (.BoolOp .And (a :: b :: es) pos) l s (r.bind fun d s => brn d .no (r2 s) (.ok (.bl false) s)) :=
  ex_of (pe_and (pe_sem a) (pe_sem _)) fun w0 w σ Q F hs hr => h.go.bind F hs hr fun x w1 d e1 st1 rx hr => by
    cases rx with
    | bl k =>
      refine ⟨k, rfl, ?_⟩
      rw [brn_bl] at hr
      cases k with
      | true => exact iteT ((h2 _).go w0 w1 σ Q (F.step st1) rfl hr)
      | false => exact iteF (hr _ w1 rfl (.refl st1.sim) (.bl false))
    | _ => exact hr.elim
theorem ex_or {r : R Dt} {r2 : Sto → R Dt} (h : EX X tb W a l s r) (h2 : ∀ s, EX X tb W (.BoolOp .Or (b :: es) pos) l s (r2 s)) : EX X tb W (.BoolOp .Or (a :: b :: es) pos) l s (r.bind fun d s => brn d .no (.ok (.bl true) s) (r2 s)) :=
  ex_of (pe_or (pe_sem a) (pe_sem _)) fun w0 w σ Q F hs hr => h.go.bind F hs hr fun x w1 d e1 st1 rx hr => by
    cases rx with
    | bl k =>
      refine ⟨k, rfl, ?_⟩
      rw [brn_bl] at hr
      cases k with
      | false => exact iteF ((h2 _).go w0 w1 σ Q (F.step st1) rfl hr)
      | true => exact iteT (hr _ w1 rfl (.refl st1.sim) (.bl true))
    | _ => exact hr.elim
theorem ex_not {r : R Dt} (h : EX X tb W a l s r) : EX X tb W (.UnaryOp .Not a pos) l s (r.bind fun d s => brn d .no (.ok (.bl false) s) (.ok (.bl true) s)) :=
  ex_of (pe_not (pe_sem a)) fun w0 w σ Q F hs hr => h.go.bind F hs hr fun x w1 d e1 st1 rx hr => by
    cases rx with
    | bl k =>
      refine ⟨k, rfl, ?_⟩
      rw [brn_bl] at hr
      cases k with
      | false => exact hr _ w1 rfl (.refl st1.sim) (.bl true)
      | true => exact hr _ w1 rfl (.refl st1.sim) (.bl false)
    | _ => exact hr.elim
theorem tw_one1 {r : R Bool} (h : TX X tb W a l s r) : TW X tb W (.BoolOp .And [a] pos) l s r := tw_of (pw_and1 (pt_sem a)) h.go
theorem tw_one2 {r : R Bool} (h : TX X tb W a l s r) : TW X tb W (.BoolOp .Or [a] pos) l s r := tw_of (pw_or1 (pt_sem a)) h.go
theorem tx_tw {r : R Bool} (h : TW X tb W e l s r) : TX X tb W e l s r := tx_of (PW.pt (pw_sem e)) h.go
/-- asB of a choice -/
theorem asB_brn (r : R Dt) (f g : Sto → R Dt) : asB (r.bind fun d s => brn d .no (f s) (g s)) = (asB r).bind fun k s => cond k (asB (f s)) (asB (g s)) := by
  cases r with
  | no => rfl
  | er e s => rfl
  | ok d s => cases d with
    | bl k => cases k <;> rfl
    | _ => rfl
theorem tw_and {r : R Dt} {r2 : Sto → R Dt} (h : TX X tb W a l s (asB r)) (h2 : ∀ s, TW X tb W (.BoolOp .And (b :: es) pos) l s (asB (r2 s))) : TW X tb W (.BoolOp .And (a :: b :: es) pos) l s (asB (r.bind fun d s => brn d .no (r2 s) (.ok (.bl false) s))) :=
  tw_of (pw_and (pt_sem a) (pw_sem _)) fun w0 w σ Q F hs hr => by
    rw [asB_brn r (fun s => r2 s) fun s => .ok (.bl false) s] at hr
    refine h.go.bind F hs hr fun k w1 d e1 st1 rx hr => ?_
    cases (show k = d from rx)
    cases k with
    | true => exact iteT ((h2 _).go w0 w1 σ Q (F.step st1) rfl hr)
    | false => exact iteF (hr false w1 rfl (.refl st1.sim) rfl)
theorem tw_or {r : R Dt} {r2 : Sto → R Dt} (h : TX X tb W a l s (asB r)) (h2 : ∀ s, TW X tb W (.BoolOp .Or (b :: es) pos) l s (asB (r2 s))) : TW X tb W (.BoolOp .Or (a :: b :: es) pos) l s (asB (r.bind fun d s => brn d .no (.ok (.bl true) s) (r2 s))) :=
  tw_of (pw_or (pt_sem a) (pw_sem _)) fun w0 w σ Q F hs hr => by
    rw [asB_brn r (fun s => .ok (.bl true) s) fun s => r2 s] at hr
    refine h.go.bind F hs hr fun k w1 d e1 st1 rx hr => ?_
    cases (show k = d from rx)
    cases k with
    | false => exact iteF ((h2 _).go w0 w1 σ Q (F.step st1) rfl hr)
    | true => exact iteT (hr true w1 rfl (.refl st1.sim) rfl)
theorem tx_not {r : R Dt} (h : TX X tb W a l s (asB r)) : TX X tb W (.UnaryOp .Not a pos) l s (asB (r.bind fun d s => brn d .no (.ok (.bl false) s) (.ok (.bl true) s))) :=
  tx_of (pt_not (pt_sem a)) fun w0 w σ Q F hs hr => by
    rw [asB_brn r (fun s => .ok (.bl false) s) fun s => .ok (.bl true) s] at hr
    refine h.go.bind F hs hr fun k w1 d e1 st1 rx hr => ?_
    cases (show k = d from rx)
    cases k with
    | false => exact hr true w1 rfl (.refl st1.sim) rfl
    | true => exact hr false w1 rfl (.refl st1.sim) rfl
theorem ret_brn {α β : Type} {rel : Wd → β → α → Prop} {w : Wd} {σ : L2.St} {Q : β → Hp → Prop} {r : R Dt} {f g : Sto → R α} : Ret X.K tb W rel σ w Q (r.bind fun d s => brn d .no (f s) (g s)) → Ret X.K tb W rel σ w Q ((asB r).bind fun k s => cond k (f s) (g s)) := by
  cases r with
  | no => exact id
  | er e s => exact id
  | ok d s => cases d with
    | bl k => cases k <;> exact id
    | _ => exact id
theorem ex_ite {r : R Dt} {r1 r2 : Sto → R Dt} (hc : TX X tb W c l s (asB r)) (h1 : ∀ s, EX X tb W a l s (r1 s)) (h2 : ∀ s, EX X tb W b l s (r2 s)) : EX X tb W (.IfExp c a b pos) l s (r.bind fun d s => brn d .no (r1 s) (r2 s)) :=
  ex_of (pe_ifExp (pt_sem c) (pe_sem a) (pe_sem b)) fun w0 w σ Q F hs hr => by
    have hr := ret_brn (f := r1) (g := r2) hr
    refine hc.go.bind F hs hr fun k w1 d e1 st1 rx hr => ?_
    cases (show k = d from rx)
    cases k with
    | false => exact iteF ((h2 _).go w0 w1 σ Q (F.step st1) rfl hr)
    | true => exact iteT ((h1 _).go w0 w1 σ Q (F.step st1) rfl hr)
/-! ## subscripts -/
theorem atI_rp {K : PySem.W.Frag} {G : Hp} {m : List Addr} {xs : List V} {ds : List Dt} {i : Int} {d : Dt} (r : RpA K G m xs ds) (h : atI ds i = some d) : ∃ x, atI xs i = some x ∧ Rp K G m x d := by
  unfold atI at h ⊢
  rw [r.length]
  cases q : ixN ds.length i with
  | none => rw [q] at h; cases h
  | some j =>
    rw [q] at h
    exact r.get h
def rIxD : R2 := fun x y H Q => ∃ a v, x = .ref a ∧ DGet H a y (some v) ∧ Q v H
theorem ix_dict (hu : X.A.units + 1 < cLine) : IxR X rIxD := by
  intro value slice pins s σ H x y v u Q I rx ry h hs
  obtain ⟨a, z, rfl, g, q⟩ := h
  obtain rfl : v = Value.ref a := rx
  have hT := dict_typeIs I g
  unfold PyProof.Rows.subscriptTail
  refine wpAny_bind ?_
  rw [getitemInPython_of_ne hT.not_modules]
  refine wpAny_bind (wpAny_specialOf hT PySem.F.slot_dict_getitem.lookup ?_)
  have fin : wpAny (model X.prog X.w) X.A (subscripted slice false (.ref a) u) (fun r s₃ => wpAny (model X.prog X.w) X.A (letTemporaryGo value (.ref a) r >>= fun _ => pure r) (EP X pins σ Q) X.xe s₃) X.xe s := by
    rw [hs]
    exact wpAny_operating (wpAny_mono (d_getItem (Q := EP X pins σ Q) hu I g ry fun w' s3 I3 rw' => ⟨z, H, I3, rw', q⟩) (fun r s₃ h₃ => wpAny_bind (wpAny_letTemporaryGo (wpAny_pure h₃))) fun _ _ x => x)
  first
    | exact wpAny_pure (wpAny_bind fin)
    | exact wpAny_bind (wpAny_pure (wpAny_bind fin))
    | exact wpAny_bind fin
def rIxX (K : PySem.W.Frag) : R2 := fun x y H Q => rIx K x y H Q ∨ rIxD x y H Q
theorem ok_ix : OpOk X.K tb (rIxX X.K) ixS := fun W w σ x y a b Q S rx ry hr => by
  unfold ixS at hr
  split at hr
  · rename_i ds i e1
    cases ry
    obtain ⟨p, vs, rfl, q1, r1⟩ := view_tup S rx e1
    cases e : atI ds i with
    | none => rw [e] at hr; exact hr.elim
    | some d =>
      rw [e] at hr
      obtain ⟨v, ev, rv⟩ := atI_rp r1 e
      exact .inl (.inr (.inl ⟨p, vs, i, v, rfl, rfl, q1, ev, hr v w rfl (.refl S) rv⟩))
  · rename_i ds i e1
    cases ry
    obtain ⟨p, vs, rfl, q1, r1⟩ := view_lst S rx e1
    cases e : atI ds i with
    | none => rw [e] at hr; exact hr.elim
    | some d =>
      rw [e] at hr
      obtain ⟨v, ev, rv⟩ := atI_rp r1 e
      exact .inl (.inl ⟨p, vs, i, v, rfl, rfl, q1, ev, hr v w rfl (.refl S) rv⟩)
  · rename_i z i e1
    cases ry
    obtain rfl := view_str S rx e1
    split at hr
    · rename_i hz
      cases e : atI z.cps.toList i with
      | none => rw [e] at hr; exact hr.elim
      | some c =>
        rw [e] at hr
        exact .inl (.inr (.inr ⟨z, i, c, rfl, rfl, hz, e, hr _ w rfl (.refl S) (.str _)⟩))
    · exact hr.elim
  · split at hr
    · rename_i d ed
      obtain ⟨p, ov, rfl, g, ro⟩ := dGet_ok S rx ry ed
      obtain ⟨v, rfl, rv⟩ := ro.get
      exact .inr ⟨p, v, rfl, g, hr v w rfl (.refl S) rv⟩
    · exact hr.elim
theorem ex_ix {ra : R Dt} {rb : Sto → R Dt} (hu : X.A.units + 65 < cLine) (ha : EX X tb W a l s ra) (hb : ∀ s, EX X tb W b l s (rb s)) (hs : PlainIx b) : EX X tb W (.Subscript a b pos) l s (ra.bind fun x s => (rb s).bind fun y s => ixS x y s) :=
  ex_op (pe_ix (ix_seq.or (ix_dict (by omega))) (pe_sem a) (pe_sem b) hs) ok_ix ha hb
/-- a slice's part -/
def semP (X : Cx) (o : Option Expr) : TO := fun σ H Q => ∀ pins s, Inv X pins σ H s → wpAny (model X.prog X.w) X.A (evalPart o X.env) (fun u s' => ∃ o H', Inv X pins σ H' s' ∧ IsPart u o ∧ Q o H') X.xe s
theorem po_sem (o : Option Expr) : PO X o (semP X o) := ⟨fun pins s σ H Q I h => h pins s I⟩
structure PX (X : Cx) (tb : Tb) (W : WX) (o : Option Expr) (l : Loc) (s : Sto) (r : R (Option Int)) : Prop where
  go : GO X.K tb W (fun _ b c => b = c) (semP X o) l s r
theorem px_no : PX X tb W none l s (.ok none s) := ⟨fun w0 w σ Q F hs hr pins s' I => po_none.run pins s' σ w.H Q I (hr none w hs (.refl F.sim) rfl)⟩
theorem px_some {r : R Dt} (h : EX X tb W e l s r) : PX X tb W (some e) l s (r.bind fun x s => asI x .no fun i => .ok (some i) s) := ⟨fun w0 w σ Q F hs hr pins s' I => (po_some (pe_sem e)).run pins s' σ w.H Q I (h.go.bind F hs hr fun x w1 d e1 st1 rx hr => by
  cases rx with
  | int i => exact ⟨i, rfl, hr _ w1 rfl (.refl st1.sim) rfl⟩
  | _ => exact hr.elim)⟩
theorem ex_sl {lo hi : Option Expr} {p1 : Pos} {ra : R Dt} {rl rh : Sto → R (Option Int)} (ha : EX X tb W a l s ra) (hl : ∀ s, PX X tb W lo l s (rl s)) (hh : ∀ s, PX X tb W hi l s (rh s)) :
    EX X tb W (.Subscript a (.Slice lo hi none p1) pos) l s (ra.bind fun x s => (rl s).bind fun i s => (rh s).bind fun j s => slS x i j s) :=
  ex_of (pe_slice sl_list (pe_sem a) (po_sem lo) (po_sem hi)) fun w0 w σ Q F hs hr => ha.go.bind F hs hr fun x w1 d1 e1 st1 rx hr => (hl _).go.bind (F.step st1) rfl hr fun i w2 d2 e2 st2 ri hr => (hh _).go.bind ((F.step st1).step st2) rfl hr fun j w3 d3 e3 st3 rj hr => by
    cases ri
    cases rj
    have rx := (rx.up st2.g st2.pre).up st3.g st3.pre
    unfold slS at hr
    split at hr
    · rename_i ds e
      obtain ⟨p, vs, rfl, q1, r1⟩ := view_lst st3.sim rx e
      refine ⟨p, vs, rfl, q1, Ret.laid st3.sim ?_ hr⟩
      unfold cutV cutD
      rw [r1.length]
      exact (r1.drop _).take _
    · exact hr.elim
theorem ex_rev {kk : Nat} {p1 p2 p3 : Pos} {r : R Dt} (h : EX X tb W a l s r) : EX X tb W (.Subscript a (.Slice none none (some (.UnaryOp .USub (.Constant (.int 1) kk p1) p2)) p3) pos) l s (r.bind fun x s => revS x s) :=
  ex_of (pe_revL (pe_sem a)) fun w0 w σ Q F hs hr => h.go.bind F hs hr fun x w1 d e1 st1 rx hr => by
    unfold revS at hr
    split at hr
    · rename_i ds e
      obtain ⟨p, vs, rfl, q1, r1⟩ := view_lst st1.sim rx e
      exact ⟨p, vs, rfl, q1, Ret.laid st1.sim r1.rev hr⟩
    · exact hr.elim
theorem ex_rev0 {jj kk : Nat} {p0 p1 p2 p3 : Pos} {r : R Dt} (h : EX X tb W a l s r) : EX X tb W (.Subscript a (.Slice none (some (.Constant (.int 0) jj p0)) (some (.UnaryOp .USub (.Constant (.int 1) kk p1) p2)) p3) pos) l s (r.bind fun x s => rev0S x s) :=
  ex_of (pe_rev0 (pe_sem a)) fun w0 w σ Q F hs hr => h.go.bind F hs hr fun x w1 d e1 st1 rx hr => by
    unfold rev0S at hr
    split at hr
    · rename_i ds e
      obtain ⟨p, vs, rfl, q1, r1⟩ := view_lst st1.sim rx e
      exact ⟨p, vs, rfl, q1, Ret.laid st1.sim (r1.drop 1).rev hr⟩
    · exact hr.elim
end
/-! ## what is walked -/
def Wk (K : PySem.W.Frag) (tb : List Str) (w1 : Wd) (J : L2.It) (ds : List Dt) (c : Sto → Prop) : Prop := ∀ (i : Nat) w, Same w1.G w.G → Pre w1.m w.m → (∀ b od u, w1.H b = some (.frz od u) → w.H b = some (.frz od u)) → Sim K tb w → c w.s →
  (∀ d, ds[i]? = some d → J.go i w.H ∧ ∀ x H', J.yld i w.H x H' → ∃ w', w'.H = H' ∧ w'.s = w.s ∧ Stp K tb w w' ∧ Rp K w'.G w'.m x d) ∧ (ds.length ≤ i → J.stop i w.H)
abbrev RI (K : PySem.W.Frag) (tb : List Str) : Wd → L2.It → It → Prop := fun w J it => it.cond w.s ∧ Wk K tb w J it.items it.cond
section
variable {X : Cx} {tb : Tb} {W : WX} {l : Loc} {s : Sto} {e a b c tg it : Expr} {es : List Expr} {pos : Pos}
def semI (X : Cx) (tg iter : Expr) : TI := fun σ H R => ∀ pins s, Inv X pins σ H s → wpAny (model X.prog X.w) X.A (eval iter X.env) (fun v s1 => wpAny (model X.prog X.w) X.A (pyIter v) (PIE X pins σ tg R) X.xe s1) X.xe s
theorem pi_sem (tg iter : Expr) : PI X tg iter (semI X tg iter) := ⟨fun pins s σ H R I h => h pins s I⟩
structure IX (X : Cx) (tb : Tb) (W : WX) (tg it : Expr) (l : Loc) (s : Sto) (r : R It) : Prop where
  go : GO X.K tb W (RI X.K tb) (semI X tg it) l s r
theorem ix_of {wi : TI} {r : R It} (h : PI X tg it wi) (q : GO X.K tb W (RI X.K tb) wi l s r) : IX X tb W tg it l s r := ⟨fun w0 w σ Q F hs hr pins s' I => h.run pins s' σ w.H Q I (q w0 w σ Q F hs hr)⟩
theorem wk_seqL {K : PySem.W.Frag} {w1 : Wd} {a : Addr} {vs : List V} {ds : List Dt} (h : SqL K w1.G a vs) (r : RpA K w1.G w1.m vs ds) : Wk K tb w1 (Itl K a) ds fun _ => True := fun i w s1 s2 _ S _ => by
  have hl := Same.seq (s1.trans S.sub) h
  refine ⟨fun d e => ?_, fun hi => ⟨vs, hl, by rw [r.length]; exact hi⟩⟩
  obtain ⟨x, ex, rx⟩ := r.get e
  refine ⟨⟨vs, x, hl, ex⟩, fun y H' ⟨e1, e2⟩ => ?_⟩
  subst e1
  have e3 := (e2 vs hl).symm.trans ex
  cases e3
  exact ⟨w, rfl, rfl, .refl S, rx.up s1 s2⟩
theorem wk_seqT {K : PySem.W.Frag} {w1 : Wd} {a : Addr} {vs : List V} {ds : List Dt} (h : SqT K w1.G a vs) (r : RpA K w1.G w1.m vs ds) : Wk K tb w1 (Itt K a) ds fun _ => True := fun i w s1 s2 _ S _ => by
  have hl := same_tseq (s1.trans S.sub) h
  refine ⟨fun d e => ?_, fun hi => ⟨vs, hl, by rw [r.length]; exact hi⟩⟩
  obtain ⟨x, ex, rx⟩ := r.get e
  refine ⟨⟨vs, x, hl, ex⟩, fun y H' ⟨e1, e2⟩ => ?_⟩
  subst e1
  have e3 := (e2 vs hl).symm.trans ex
  cases e3
  exact ⟨w, rfl, rfl, .refl S, rx.up s1 s2⟩
/-- a live list, as long as it stays -/
theorem wk_live {K : PySem.W.Frag} {w1 : Wd} {a : Addr} {n : Nat} {ds : List Dt} (h : w1.m[n]? = some a) : Wk K tb w1 (Itl K a) ds fun s => s[n]? = some (.lst ds) := fun i w s1 s2 _ S hc => by
  obtain ⟨_, u, hu, vs, rfl, r⟩ := S.ob n _ a hc (s2 _ _ h)
  have hl : SqL K w.H a vs := .inl (.inl hu)
  refine ⟨fun d e => ?_, fun hi => ⟨vs, hl, by rw [r.length]; exact hi⟩⟩
  obtain ⟨x, ex, rx⟩ := r.get e
  refine ⟨⟨vs, x, hl, ex⟩, fun y H' ⟨e1, e2⟩ => ?_⟩
  subst e1
  have e3 := (e2 vs hl).symm.trans ex
  cases e3
  exact ⟨w, rfl, rfl, .refl S, rx⟩
theorem RpK.keys {K : PySem.W.Frag} {G : Hp} {m : List Addr} : ∀ {vs : List (Key × V)} {ds : List (Key × Dt)}, RpK K G m vs ds → vs.map (·.1) = ds.map (·.1)
  | _, _, .nil => rfl
  | _, _, .cons r t => by rw [List.map_cons, List.map_cons, RpK.keys t]
theorem rp_key {K : PySem.W.Frag} {G : Hp} {m : List Addr} : ∀ k : Key, Rp K G m (kV k) (ofKey k)
  | .inl i => .int i
  | .inr x => .str x
/-- a locked dict, as long as it is locked -/
theorem wk_lock {K : PySem.W.Frag} {w1 : Wd} {a : Addr} {od : Obj} {vs : List (Key × V)} {ds : List (Key × Dt)} {c : Sto → Prop} (h : w1.H a = some (.frz od (.dK vs))) (r : RpK K w1.G w1.m vs ds) : Wk K tb w1 (Itk a od vs) (ds.map fun p => ofKey p.1) c := fun i w s1 s2 s3 S hc => by
  have hl := s3 _ _ _ h
  have hk := r.keys
  have hn : vs.length = ds.length := by
    have := congrArg List.length hk
    rwa [List.length_map, List.length_map] at this
  refine ⟨fun d e => ?_, fun hi => ⟨hl, by rw [List.length_map] at hi; omega⟩⟩
  have hi : i < ds.length := by
    have := (List.getElem?_eq_some_iff.mp e).1
    rwa [List.length_map] at this
  refine ⟨⟨hl, by omega⟩, fun y H' ⟨e1, k, v, e2, e3⟩ => ?_⟩
  subst e1 e3
  refine ⟨w, rfl, rfl, .refl S, ?_⟩
  have e4 : (vs.map (·.1))[i]? = some k := by rw [List.getElem?_map, e2]; rfl
  rw [hk, List.getElem?_map] at e4
  rw [List.getElem?_map] at e
  cases e5 : ds[i]? with
  | none => rw [e5] at e; cases e
  | some p =>
    rw [e5] at e e4
    cases e
    cases e4
    exact rp_key _
theorem RpT.keys {K : PySem.W.Frag} {G : Hp} {m : List Addr} : ∀ {vs : List (List Key × V)} {ds : List (List Key × Dt)}, RpT K G m vs ds → vs.map (·.1) = ds.map (·.1)
  | _, _, .nil => rfl
  | _, _, .cons r t => by rw [List.map_cons, List.map_cons, RpT.keys t]
theorem rpa_key {K : PySem.W.Frag} {G : Hp} {m : List Addr} : ∀ k : List Key, RpA K G m (k.map kV) (k.map ofKey)
  | [] => .nil
  | k :: r => .cons (rp_key k) (rpa_key r)
/-- a tuple that is there may be learnt -/
theorem Stp.learn {K : PySem.W.Frag} {w : Wd} (S : Sim K tb w) {q : Addr} {vs : List V} (hq : w.H q = some (.tup vs)) : ∃ w' : Wd, w'.H = w.H ∧ w'.s = w.s ∧ w'.m = w.m ∧ Stp K tb w w' ∧ w'.G q = some (.tup vs) := by
  cases e : w.G q with
  | some u =>
    have := S.sub q u e
    rw [hq] at this
    cases this
    exact ⟨w, rfl, rfl, rfl, .refl S, e⟩
  | none =>
    have sm : Same w.G (upd w.G q (.tup vs)) := same_upd e
    refine ⟨⟨upd w.G q (.tup vs), w.H, w.m, w.s⟩, rfl, rfl, rfl, ⟨⟨fun b o h => ?_, nt_upd S.nt (by nofun), S.tk, S.len, S.nd, S.th, fun n ob a e1 e2 => (S.ob n ob a e1 e2).up sm (Pre.refl _) (fun h ⟨u, hu, _, nt⟩ => ?_) fun u hu _ => hu⟩, sm, ⟨[], by simp⟩, fun b o h _ _ => h, fun P h => h, fun a h n => absurd h n, fun b o h n => ?_, fun b od u h => h⟩, upd_same⟩
    · by_cases z : b = q
      · subst z
        have h : upd w.G b (.tup vs) b = some o := h
        rw [upd_same] at h
        rw [← h]
        exact hq
      · have h : upd w.G q (.tup vs) b = some o := h
        rw [upd_ne z] at h
        exact S.sub b o h
    · by_cases z : b = q
      · subst z
        exact .inr (.inr ⟨vs, hq⟩)
      · have h : upd w.G q (.tup vs) b = some o := h
        rw [upd_ne z, n] at h
        cases h
    · by_cases z : a = q
      · subst z
        exact absurd (Option.some.inj (hu.symm.trans hq)) (nt vs)
      · show upd w.G q (.tup vs) a = none
        rw [upd_ne z]
        exact h
theorem rp_keyT {K : PySem.W.Frag} {G : Hp} {m : List Addr} {q : Addr} {k : List Key} (h : G q = some (.tup (k.map kV))) : Rp K G m (.ref q) (ofKeyT k) := .tup (.inl (.inl h)) (rpa_key k) fun _ _ => h
/-- a locked dict with tuple keys -/
theorem wk_lockT {K : PySem.W.Frag} {w1 : Wd} {a : Addr} {od : Obj} {vs : List (List Key × V)} {ds : List (List Key × Dt)} {c : Sto → Prop} (h : w1.H a = some (.frz od (.dT vs))) (r : RpT K w1.G w1.m vs ds) : Wk K tb w1 (Itkt a od vs) (ds.map fun p => ofKeyT p.1) c := fun i w s1 s2 s3 S hc => by
  have hl := s3 _ _ _ h
  have hk := r.keys
  have hn : vs.length = ds.length := by
    have := congrArg List.length hk
    rwa [List.length_map, List.length_map] at this
  refine ⟨fun d e => ?_, fun hi => ⟨hl, by rw [List.length_map] at hi; omega⟩⟩
  have hi : i < ds.length := by
    have := (List.getElem?_eq_some_iff.mp e).1
    rwa [List.length_map] at this
  refine ⟨⟨hl, by omega⟩, fun y H' ⟨e1, k, v, q, e2, e3, e6⟩ => ?_⟩
  subst e1 e3
  obtain ⟨w', h1, h2, h3, st, hg⟩ := Stp.learn S e6
  refine ⟨w', h1, h2, st, ?_⟩
  have e4 : (vs.map (·.1))[i]? = some k := by rw [List.getElem?_map, e2]; rfl
  rw [hk, List.getElem?_map] at e4
  rw [List.getElem?_map] at e
  cases e5 : ds[i]? with
  | none => rw [e5] at e; cases e
  | some p =>
    rw [e5] at e e4
    cases e
    cases e4
    exact rp_keyT hg
theorem wk_str {K : PySem.W.Frag} {w1 : Wd} {z : Str} : Wk K tb w1 (Its z) (strItems z) fun _ => True := fun i w s1 s2 _ S _ => by
  refine ⟨fun d e => ?_, fun hi => by unfold strItems at hi; rw [List.length_map, Array.length_toList] at hi; exact hi⟩
  unfold strItems at e
  rw [List.getElem?_map, Array.getElem?_toList] at e
  cases e0 : z.cps[i]? with
  | none => rw [e0] at e; cases e
  | some c =>
    rw [e0] at e
    cases e
    refine ⟨(Array.getElem?_eq_some_iff.mp e0).1, fun y H' ⟨e1, c', e2, e3⟩ => ?_⟩
    rw [e0] at e2
    cases e2
    subst e1 e3
    exact ⟨w, rfl, rfl, .refl S, .str _⟩
theorem dRange_len (lo : Int) (n : Nat) : (dRange lo n).length = n := by simp [dRange]
theorem wk_range {K : PySem.W.Frag} {w1 : Wd} {lo : Int} {n : Nat} : Wk K tb w1 (Itr lo n) (dRange lo n) fun _ => True := fun i w s1 s2 _ S _ => by
  refine ⟨fun d e => ?_, fun hi => by rw [dRange_len] at hi; exact hi⟩
  have hi : i < n := by
    have z := (List.getElem?_eq_some_iff.mp e).1
    rw [dRange_len] at z
    exact z
  unfold dRange at e
  rw [List.getElem?_map, List.getElem?_range hi] at e
  cases e
  exact ⟨hi, fun y H' ⟨e1, e2⟩ => by subst e1 e2; exact ⟨w, rfl, rfl, .refl S, .int _⟩⟩
theorem dEnum_get (ds : List Dt) (i : Nat) : (dEnum ds)[i]? = (ds[i]?).map fun d => Dt.tup [.int (i : Nat), d] := by
  unfold dEnum
  rw [List.getElem?_mapIdx]
theorem wk_enum {K : PySem.W.Frag} {w1 : Wd} {a : Addr} {vs : List V} {ds : List Dt} (h : SqL K w1.G a vs) (r : RpA K w1.G w1.m vs ds) : Wk K tb w1 (Ite K a) (dEnum ds) fun _ => True := fun i w s1 s2 _ S _ => by
  have hl := Same.seq (s1.trans S.sub) h
  refine ⟨fun d e => ?_, fun hi => ⟨vs, hl, by unfold dEnum at hi; rw [List.length_mapIdx] at hi; rw [r.length]; exact hi⟩⟩
  rw [dEnum_get] at e
  cases e0 : ds[i]? with
  | none => rw [e0] at e; cases e
  | some d0 =>
    rw [e0] at e
    cases e
    obtain ⟨x, ex, rx⟩ := r.get e0
    refine ⟨⟨vs, x, hl, ex⟩, fun y H' ⟨T, x', e1, hT, e2, e3⟩ => ?_⟩
    have e4 := (e3 vs hl).symm.trans ex
    cases e4
    subst e1 e2
    have st := Stp.lay (tb := tb) S (.tup [.int (i : Nat), x]) hT
    exact ⟨⟨upd w.G T (.tup [.int (i : Nat), x]), upd w.H T (.tup [.int (i : Nat), x]), w.m, w.s⟩, rfl, rfl, st, .tup (.inl (.inl upd_same)) (.cons (.int _) (.cons ((rx.up s1 s2).up st.g st.pre) .nil)) fun _ _ => upd_same⟩
theorem wk_zip {K : PySem.W.Frag} {w1 : Wd} {a b : Addr} {vs us : List V} {ds es : List Dt} (h : SqL K w1.G a vs) (r : RpA K w1.G w1.m vs ds) (h2 : SqL K w1.G b us) (r2 : RpA K w1.G w1.m us es) : Wk K tb w1 (Itz K a b) (dZip ds es) fun _ => True := fun i w s1 s2 _ S _ => by
  have hl := Same.seq (s1.trans S.sub) h
  have hl2 := Same.seq (s1.trans S.sub) h2
  refine ⟨fun d e => ?_, fun hi => ⟨vs, us, hl, hl2, by unfold dZip at hi; rw [List.length_map, List.length_zip] at hi; rw [r.length, r2.length]; omega⟩⟩
  unfold dZip at e
  rw [List.getElem?_map] at e
  cases e0 : (ds.zip es)[i]? with
  | none => rw [e0] at e; cases e
  | some p =>
    rw [e0] at e
    cases e
    rw [List.getElem?_zip_eq_some] at e0
    obtain ⟨x, ex, rx⟩ := r.get e0.1
    obtain ⟨x2, ex2, rx2⟩ := r2.get e0.2
    refine ⟨⟨vs, us, x, x2, hl, hl2, ex, ex2⟩, fun y H' ⟨T, x', y', e1, hT, e2, e3, e5⟩ => ?_⟩
    have e4 := (e3 vs hl).symm.trans ex
    have e6 := (e5 us hl2).symm.trans ex2
    cases e4
    cases e6
    subst e1 e2
    have st := Stp.lay (tb := tb) S (.tup [x, x2]) hT
    exact ⟨⟨upd w.G T (.tup [x, x2]), upd w.H T (.tup [x, x2]), w.m, w.s⟩, rfl, rfl, st, .tup (.inl (.inl upd_same)) (.cons ((rx.up s1 s2).up st.g st.pre) (.cons ((rx2.up s1 s2).up st.g st.pre) .nil)) fun _ _ => upd_same⟩
/-- over a value -/
theorem norm_lst {K : PySem.W.Frag} {w : Wd} {x : V} {d : Dt} (S : Sim K tb w) (r : Rp K w.G w.m x d) {ds : List Dt} (e : norm w.s d = .lst ds) : ∃ a vs, x = .ref a ∧ SqL K w.G a vs ∧ RpA K w.G w.m vs ds := by
  cases r with
  | lst q r => cases e; exact ⟨_, _, rfl, q, r⟩
  | obj q =>
    rename_i a n
    unfold norm at e
    dsimp only at e
    have ob := S.ob n
    generalize w.s[n]? = o at e ob
    cases o with
    | none => cases e
    | some o => cases o with
      | fz dd =>
        have e : dd = .lst ds := e
        subst e
        have z := ob _ a rfl q
        cases z with
        | lst q r => exact ⟨a, _, rfl, q, r⟩
      | _ => cases e
  | _ => cases e
theorem ix_e {r : R Dt} (h : EX X tb W e l s r) : IX X tb W tg e l s (r.bind fun x s => iterS x s) := ⟨fun w0 w σ Q F hs hr pins s' I => by
  cases r with
  | no =>
    have hr : False := hr
    exact hr.elim
  | er z s1 => exact (pi_list (tg := tg) (pe_sem e)).run pins s' σ w.H Q I (h.go w0 w σ _ F hs hr)
  | ok d s1 =>
    rw [R.bind_ok] at hr
    unfold iterS at hr
    split at hr
    · refine (pi_list (tg := tg) (pe_sem e)).run pins s' σ w.H Q I (h.go w0 w σ _ F hs fun v w1 e1 st1 rv => ?_)
      cases rv with
      | lst q r => exact ⟨_, rfl, ⟨_, Same.seq st1.sim.sub q⟩, hr _ w1 e1 st1 ⟨trivial, wk_seqL q r⟩⟩
    · refine (pi_tup (tg := tg) (pe_sem e)).run pins s' σ w.H Q I (h.go w0 w σ _ F hs fun v w1 e1 st1 rv => ?_)
      cases rv with
      | tup q r z => exact ⟨_, rfl, ⟨_, same_tseq st1.sim.sub q⟩, hr _ w1 e1 st1 ⟨trivial, wk_seqT q r⟩⟩
    · refine (pi_str (tg := tg) (pe_sem e)).run pins s' σ w.H Q I (h.go w0 w σ _ F hs fun v w1 e1 st1 rv => ?_)
      cases rv with
      | str z => exact ⟨_, rfl, hr _ w1 e1 st1 ⟨trivial, wk_str⟩⟩
    · split at hr
      · rename_i hd
        refine (pi_list (tg := tg) (pe_sem e)).run pins s' σ w.H Q I (h.go w0 w σ _ F hs fun v w1 e1 st1 rv => ?_)
        cases rv with
        | obj q =>
          subst e1
          obtain ⟨_, u, hu, vs, rfl, r⟩ := st1.sim.ob _ _ _ hd q
          exact ⟨_, rfl, ⟨_, .inl (.inl hu)⟩, hr _ w1 rfl st1 ⟨hd, wk_live q⟩⟩
      · rename_i hd
        refine (pi_list (tg := tg) (pe_sem e)).run pins s' σ w.H Q I (h.go w0 w σ _ F hs fun v w1 e1 st1 rv => ?_)
        cases rv with
        | obj q =>
          subst e1
          have z := st1.sim.ob _ _ _ hd q
          cases z with
          | lst q r => exact ⟨_, rfl, ⟨_, Same.seq st1.sim.sub q⟩, hr _ w1 rfl st1 ⟨trivial, wk_seqL q r⟩⟩
      · rename_i hd
        refine (pi_keys (tg := tg) (pe_sem e)).run pins s' σ w.H Q I (h.go w0 w σ _ F hs fun v w1 e1 st1 rv => ?_)
        cases rv with
        | obj q =>
          subst e1
          obtain ⟨_, od, u, hu, vs, rfl, r⟩ := st1.sim.ob _ _ _ hd q
          exact ⟨_, od, rfl, .inl ⟨vs, hu, hr _ w1 rfl st1 ⟨hd, wk_lock hu r⟩⟩⟩
      · rename_i hd
        refine (pi_keys (tg := tg) (pe_sem e)).run pins s' σ w.H Q I (h.go w0 w σ _ F hs fun v w1 e1 st1 rv => ?_)
        cases rv with
        | obj q =>
          subst e1
          obtain ⟨_, od, u, hu, vs, rfl, r⟩ := st1.sim.ob _ _ _ hd q
          exact ⟨_, od, rfl, .inr ⟨vs, hu, hr _ w1 rfl st1 ⟨hd, wk_lockT hu r⟩⟩⟩
      · exact hr.elim
    · exact hr.elim⟩
theorem ret_one {α β : Type} {w : Wd} {σ : L2.St} {rel : Wd → β → α → Prop} {Q : β → Hp → Prop} {ra : R Dt} {f : Dt → Sto → R α} :
    Ret X.K tb W rel σ w Q (ra.bind fun x s => f x s) → Ret X.K tb W rel σ w Q ((ra.bind fun x s => (R.ok [] s).bind fun xs s => .ok (x :: xs) s).bind fun xs s => f (xs.headD .non) s) := by
  cases ra with
  | no => exact id
  | er z s => exact id
  | ok d s => exact id
theorem one_eq {ra : R Dt} {xs : List Dt} {s1 : Sto} (h : (ra.bind fun x s => (R.ok [] s).bind fun xs s => .ok (x :: xs) s) = .ok xs s1) : ∃ a, xs = [a] := by
  cases ra with
  | no => cases h
  | er z s => cases h
  | ok d s => cases h; exact ⟨_, rfl⟩
theorem ix_rng1 {q1 q2 : Pos} {r : R Dt} (h : EX X tb W e l s r) (hm : X.mg "range" = none) (hg : Glo X "range") (h1 : ∀ es, starEach (e :: es) X.env = (false, eval e X.env) :: starEach es X.env) :
    IX X tb W tg (.Call (.Name "range" q1) [e] [] q2) l s (r.bind fun y s => rngS1 y s) :=
  ix_of (pi_range1 hg.gl hm (pa_sem [e]) (by rw [h1]; rfl)) fun w0 w σ Q F hs hr => (ax_cons h (fun _ => ax_nil) (h1 _)).go.bind F hs (ret_one hr) fun xs w1 ds e1 st1 rx hr => by
    obtain ⟨d, rfl⟩ := one_eq e1
    cases rx with
    | cons rx r2 =>
      cases r2
      cases rx with
      | int j =>
        have hr : Ret X.K tb W (RI X.K tb) σ w1 Q (if -(2 ^ 62) ≤ j ∧ j < 2 ^ 62 then .ok (.pl (dRange 0 j.toNat)) w1.s else .no) := hr
        split at hr
        · rename_i c
          exact ⟨j, rfl, c.1, c.2, hr _ w1 rfl (.refl st1.sim) ⟨trivial, wk_range⟩⟩
        · exact hr.elim
      | _ => exact hr.elim
theorem ret_two {α β : Type} {w : Wd} {σ : L2.St} {rel : Wd → β → α → Prop} {Q : β → Hp → Prop} {ra : R Dt} {rb : Sto → R Dt} {f : Dt → Dt → Sto → R α} :
    Ret X.K tb W rel σ w Q (ra.bind fun x s => (rb s).bind fun y s => f x y s) → Ret X.K tb W rel σ w Q ((ra.bind fun x s => ((rb s).bind fun y s => (R.ok [] s).bind fun xs s => .ok (y :: xs) s).bind fun xs s => .ok (x :: xs) s).bind fun xs s => f (xs.headD .non) (xs.tail.headD .non) s) := by
  cases ra with
  | no => exact id
  | er z s => exact id
  | ok d s =>
    rw [R.bind_ok, R.bind_ok]
    cases rb s with
    | no => exact id
    | er z s => exact id
    | ok d s => exact id
theorem two_eq {ra : R Dt} {rb : Sto → R Dt} {xs : List Dt} {s1 : Sto} (h : (ra.bind fun x s => ((rb s).bind fun y s => (R.ok [] s).bind fun xs s => .ok (y :: xs) s).bind fun xs s => .ok (x :: xs) s) = .ok xs s1) : ∃ a b, xs = [a, b] := by
  cases ra with
  | no => cases h
  | er z s => cases h
  | ok d s =>
    rw [R.bind_ok] at h
    cases e : rb s with
    | no => rw [e] at h; cases h
    | er z s => rw [e] at h; cases h
    | ok d2 s2 => rw [e] at h; cases h; exact ⟨_, _, rfl⟩
theorem ix_rng2 {q1 q2 : Pos} {ra : R Dt} {rb : Sto → R Dt} (ha : EX X tb W a l s ra) (hb : ∀ s, EX X tb W b l s (rb s)) (hm : X.mg "range" = none) (hg : Glo X "range") (h1 : ∀ es, starEach (a :: es) X.env = (false, eval a X.env) :: starEach es X.env) (h2 : ∀ es, starEach (b :: es) X.env = (false, eval b X.env) :: starEach es X.env) :
    IX X tb W tg (.Call (.Name "range" q1) [a, b] [] q2) l s (ra.bind fun x s => (rb s).bind fun y s => rngS2 x y s) :=
  ix_of (pi_range2 hg.gl hm (pa_sem [a, b]) (by rw [h1, h2]; rfl) (by rw [h2]; rfl)) fun w0 w σ Q F hs hr => (ax_cons ha (fun s => ax_cons (hb s) (fun _ => ax_nil) (h2 _)) (h1 _)).go.bind F hs (ret_two hr) fun xs w1 ds e1 st1 rx hr => by
    obtain ⟨d1, d2, rfl⟩ := two_eq e1
    cases rx with
    | cons rx r2 =>
      cases r2 with
      | cons ry r3 =>
        cases r3
        cases rx with
        | int i => cases ry with
          | int j =>
            have hr : Ret X.K tb W (RI X.K tb) σ w1 Q (if -(2 ^ 62) ≤ i ∧ i < 2 ^ 62 ∧ -(2 ^ 62) ≤ j ∧ j < 2 ^ 62 then .ok (.pl (dRange i (j - i).toNat)) w1.s else .no) := hr
            split at hr
            · rename_i c
              exact ⟨i, j, rfl, c, hr _ w1 rfl (.refl st1.sim) ⟨trivial, wk_range⟩⟩
            · exact hr.elim
          | _ => exact hr.elim
        | _ => exact hr.elim
theorem wk_rangeD {K : PySem.W.Frag} {w1 : Wd} {hi : Int} {n : Nat} : Wk K tb w1 (Itc hi (-1) n) (dRangeD hi n) fun _ => True := fun i w s1 s2 _ S _ => by
  have hl : (dRangeD hi n).length = n := by simp [dRangeD]
  refine ⟨fun d e => ?_, fun hi => by rw [hl] at hi; exact hi⟩
  have hi : i < n := by
    have z := (List.getElem?_eq_some_iff.mp e).1
    rw [hl] at z
    exact z
  unfold dRangeD at e
  rw [List.getElem?_map, List.getElem?_range hi] at e
  cases e
  exact ⟨hi, fun y H' ⟨e1, e2⟩ => by subst e1 e2; exact ⟨w, rfl, rfl, .refl S, by rw [Int.mul_neg_one, ← Int.sub_eq_add_neg]; exact .int _⟩⟩
theorem ix_rngd {q1 q2 p1 p2 : Pos} {jj : Nat} {ra : R Dt} {rb : Sto → R Dt} (ha : EX X tb W a l s ra) (hb : ∀ s, EX X tb W b l s (rb s)) (hm : X.mg "range" = none) (hg : Glo X "range") (h1 : ∀ es, starEach (a :: es) X.env = (false, eval a X.env) :: starEach es X.env) (h2 : ∀ es, starEach (b :: es) X.env = (false, eval b X.env) :: starEach es X.env) :
    IX X tb W tg (.Call (.Name "range" q1) [a, b, .UnaryOp .USub (.Constant (.int 1) jj p1) p2] [] q2) l s (ra.bind fun x s => (rb s).bind fun y s => rngSd x y s) :=
  ix_of (pi_range3 hg.gl hm (pa_sem [a, b, _]) (by rw [h1, h2] <;> rfl) (by rw [h2] <;> rfl)) fun w0 w σ Q F hs hr => by
    have hc : ∀ s, EX X tb W (.UnaryOp .USub (.Constant (.int 1) jj p1) p2) l s (.ok (.int (-1)) s) := fun s => ex_neg (ex_c pe_int fun _ _ => .int _)
    have hL := ax_cons ha (fun s => ax_cons (hb s) (fun s => ax_cons (hc s) (fun _ => ax_nil) rfl) (h2 _)) (h1 _)
    have e : ((ra.bind fun x s => ((rb s).bind fun y s => ((R.ok (Dt.int (-1)) s).bind fun z s => (R.ok [] s).bind fun xs s => .ok (z :: xs) s).bind fun xs s => .ok (y :: xs) s).bind fun xs s => .ok (x :: xs) s).bind fun xs s => match xs with
      | [x, y, .int (-1)] => rngSd x y s
      | _ => .no) = ra.bind fun x s => (rb s).bind fun y s => rngSd x y s := by
      cases ra with
      | ok x s1 =>
        show (((rb s1).bind _).bind _).bind _ = (rb s1).bind _
        cases rb s1 <;> rfl
      | _ => rfl
    rw [← e] at hr
    refine hL.go.bind F hs hr fun xs w1 ds e1 st1 rx hr => ?_
    split at hr
    · cases rx with
      | cons rx r2 =>
      cases r2 with
      | cons ry r3 =>
      cases r3 with
      | cons rz r4 =>
      cases r4
      cases rz
      cases rx with
      | int i => cases ry with
        | int j =>
          have hr : Ret X.K tb W (RI X.K tb) σ w1 Q (if -(2 ^ 62) ≤ i ∧ i < 2 ^ 62 ∧ -(2 ^ 62) ≤ j ∧ j < 2 ^ 62 then .ok (.pl (dRangeD i (i - j).toNat)) w1.s else .no) := hr
          split at hr
          · rename_i c
            exact ⟨i, j, -1, _, rfl, RgC.neg c.1 c.2.1 c.2.2.1 c.2.2.2, hr _ w1 rfl (.refl st1.sim) ⟨trivial, wk_rangeD⟩⟩
          · exact hr.elim
        | _ => exact hr.elim
      | _ => exact hr.elim
    · exact hr.elim
theorem ix_zip {q1 q2 : Pos} {elts : List Expr} {kk : Nat} {tpos : Pos} {ra : R Dt} {rb : Sto → R Dt} (ha : EX X tb W a l s ra) (hb : ∀ s, EX X tb W b l s (rb s)) (hm : X.mg "zip" = none) (hg : Glo X "zip") (h1 : ∀ es, starEach (a :: es) X.env = (false, eval a X.env) :: starEach es X.env) (h2 : ∀ es, starEach (b :: es) X.env = (false, eval b X.env) :: starEach es X.env) :
    IX X tb W (.Tuple elts kk tpos) (.Call (.Name "zip" q1) [a, b] [] q2) l s (ra.bind fun x s => (rb s).bind fun y s => zipS x y s) :=
  ix_of (pi_zip hg.gl hm (pa_sem [a, b]) (h1 _) (by rw [h2]; rfl)) fun w0 w σ Q F hs hr => (ax_cons ha (fun s => ax_cons (hb s) (fun _ => ax_nil) (h2 _)) (h1 _)).go.bind F hs (ret_two hr) fun xs w1 ds e1 st1 rx hr => by
    obtain ⟨d1, d2, rfl⟩ := two_eq e1
    cases rx with
    | cons rx r2 =>
      cases r2 with
      | cons ry r3 =>
        cases r3
        have hr : Ret X.K tb W (RI X.K tb) σ w1 Q (zipS d1 d2 w1.s) := hr
        unfold zipS at hr
        split at hr
        · rename_i p q e1 e2
          obtain ⟨a1, vs, rfl, q1, r1⟩ := norm_lst st1.sim rx e1
          obtain ⟨a2, us, rfl, q2, r2⟩ := norm_lst st1.sim ry e2
          exact ⟨a1, a2, vs, us, rfl, Same.seq st1.sim.sub q1, Same.seq st1.sim.sub q2, hr _ w1 rfl (.refl st1.sim) ⟨trivial, wk_zip q1 r1 q2 r2⟩⟩
        · exact hr.elim
theorem ix_enu {q1 q2 : Pos} {elts : List Expr} {kk : Nat} {tpos : Pos} {r : R Dt} (h : EX X tb W e l s r) (hm : X.mg "enumerate" = none) (hg : Glo X "enumerate") (h1 : ∀ es, starEach (e :: es) X.env = (false, eval e X.env) :: starEach es X.env) :
    IX X tb W (.Tuple elts kk tpos) (.Call (.Name "enumerate" q1) [e] [] q2) l s (r.bind fun x s => enuS x s) :=
  ix_of (pi_enum hg.gl hm (pa_sem [e]) (by rw [h1]; rfl)) fun w0 w σ Q F hs hr => (ax_cons h (fun _ => ax_nil) (h1 _)).go.bind F hs (ret_one hr) fun xs w1 ds e1 st1 rx hr => by
    obtain ⟨d, rfl⟩ := one_eq e1
    cases rx with
    | cons rx r2 =>
      cases r2
      have hr : Ret X.K tb W (RI X.K tb) σ w1 Q (enuS d w1.s) := hr
      unfold enuS at hr
      split at hr
      · rename_i p e1
        obtain ⟨a1, vs, rfl, q1, r1⟩ := norm_lst st1.sim rx e1
        exact ⟨a1, vs, rfl, Same.seq st1.sim.sub q1, hr _ w1 rfl (.refl st1.sim) ⟨trivial, wk_enum q1 r1⟩⟩
      · exact hr.elim
end
end Ip

namespace Ip
open PySem L2 PySem.Spec
section
variable {K : PySem.W.Frag} {tb : List Str} {w w0 w1 w' : Wd}
/-! ## a new object that nobody sees yet -/
theorem Sim.hid (S : Sim K tb w) {D : Addr} {u : HO} (gD : w.G D = none) (mD : D ∉ w.m) (ho : w.H D = none ∨ ∃ us, w.H D = some (.lst us)) (hu : ∀ ps, u ≠ .tbl ps) : Sim K tb ⟨w.G, upd w.H D u, w.m, w.s⟩ ∧ ∀ P, LamX.TabS w.H P lamQ → LamX.TabS (upd w.H D u) P lamQ := by
  have tabs : ∀ P, LamX.TabS w.H P lamQ → LamX.TabS (upd w.H D u) P lamQ := fun P h => by
    rcases ho with e | ⟨us, e⟩
    · exact h.ext (same_upd e)
    · exact tab_mut e (by nofun) (by nofun) h
  refine ⟨⟨sub_mut S.sub gD, S.nt, S.tk.imp id (tabs _), S.len, S.nd, fun a h => ?_, fun n ob a e1 e2 => ?_⟩, tabs⟩
  · obtain ⟨o, e, n⟩ := S.th a h
    have ne : a ≠ D := fun z => mD (z ▸ h)
    exact ⟨o, by show upd w.H D u a = _; rw [upd_ne ne]; exact e, n⟩
  · have ne : a ≠ D := fun z => mD (z ▸ get_mem e2)
    exact (S.ob n ob a e1 e2).up (Same.refl _) (Pre.refl _) (fun q _ => q) fun u' e _ => by
      show upd w.H D u a = _
      rw [upd_ne ne]
      exact e
theorem Stp.hid (st : Stp K tb w w') {D : Addr} {u : HO} (hD : Nil w.H D) (gD : w'.G D = none) (mD : D ∉ w'.m) (ho : w'.H D = none ∨ ∃ us, w'.H D = some (.lst us)) (hu : ∀ ps, u ≠ .tbl ps) : Stp K tb w ⟨w'.G, upd w'.H D u, w'.m, w'.s⟩ := by
  obtain ⟨s1, t1⟩ := st.sim.hid gD mD ho hu
  refine ⟨s1, st.g, st.m, fun b o e n h => ?_, fun P h => t1 P (st.tb P h), st.fs, st.nw, fun b od x e => ?_⟩
  · have ne : b ≠ D := fun z => Nil.not hD (z ▸ e) n
    show upd w'.H D u b = _
    rw [upd_ne ne]
    exact st.fr b o e n h
  · have e2 := st.fz b od x e
    have ne : b ≠ D := fun z => by
      rw [z] at e2
      rcases ho with h | ⟨us, h⟩ <;> (rw [h] at e2; cases e2)
    show upd w'.H D u b = _
    rw [upd_ne ne]
    exact e2
theorem Stp.seal (st : Stp K tb w w') {D : Addr} {u : HO} (hD : Nil w.H D) (gD : w'.G D = none) (mD : D ∉ w'.m) (hu : w'.H D = some u) (nu : ∀ ps, u ≠ .tbl ps) : Stp K tb w ⟨upd w'.G D u, w'.H, w'.m, w'.s⟩ := by
  have S := st.sim
  have sm : Same w'.G (upd w'.G D u) := same_upd gD
  refine ⟨⟨fun b o e => ?_, nt_upd S.nt nu, S.tk, S.len, S.nd, S.th, fun n ob a e1 e2 => ?_⟩, st.g.trans sm, st.m, st.fr, st.tb, st.fs, fun b o e n => ?_, st.fz⟩
  · by_cases hb : b = D
    · have e' : upd w'.G D u b = some o := e
      rw [hb, upd_same] at e'
      rw [hb]
      exact hu.trans e'
    · have e' : upd w'.G D u b = some o := e
      rw [upd_ne hb] at e'
      exact S.sub b o e'
  · have ne : a ≠ D := fun z => mD (z ▸ get_mem e2)
    exact (S.ob n ob a e1 e2).up sm (Pre.refl _) (fun q _ => by show upd w'.G D u a = none; rw [upd_ne ne]; exact q) fun u' e _ => e
  · by_cases hb : b = D
    · rw [hb]; exact .inl hD
    · have e' : upd w'.G D u b = some o := e
      rw [upd_ne hb] at e'
      exact st.nw b o e' n
theorem Stp.take (st : Stp K tb w w') {D : Addr} {u : HO} {o : Ob} (hD : Nil w.H D) (gD : w'.G D = none) (mD : D ∉ w'.m) (hu : w'.H D = some u) (r : ObV K tb w'.G w'.m u o) : Stp K tb w ⟨w'.G, w'.H, w'.m ++ [D], w'.s ++ [o]⟩ := by
  have S := st.sim
  refine ⟨⟨S.sub, S.nt, S.tk, by simp [S.len], ?_, fun a h => ?_, fun n ob a e1 e2 => ?_⟩, st.g, ?_, st.fr, st.tb, fun a h n => ?_, st.nw, st.fz⟩
  · show (w'.m ++ [D]).Nodup
    rw [List.nodup_append]
    refine ⟨S.nd, by simp, fun a ha b hb z => ?_⟩
    rw [List.mem_singleton] at hb
    exact mD (hb ▸ z ▸ ha)
  · rcases List.mem_append.mp h with h | h
    · exact S.th a h
    · rw [List.mem_singleton] at h
      subst h
      exact ⟨u, hu, ObV.nt1 r⟩
  · by_cases hn : n < w'.s.length
    · have e1' : w'.s[n]? = some ob := by
        have z : (w'.s ++ [o])[n]? = some ob := e1
        rwa [List.getElem?_append_left hn] at z
      have e2' : w'.m[n]? = some a := by
        have z : (w'.m ++ [D])[n]? = some a := e2
        rwa [List.getElem?_append_left (by rw [S.len]; exact hn)] at z
      exact (S.ob n ob a e1' e2').up (Same.refl _) (Pre.app _ _) (fun q _ => q) fun u' e _ => e
    · have hl : n < (w'.s ++ [o]).length := (List.getElem?_eq_some_iff.mp e1).1
      have hn' : n = w'.s.length := by rw [List.length_append, List.length_singleton] at hl; omega
      subst hn'
      have z1 : (w'.s ++ [o])[w'.s.length]? = some ob := e1
      have z2 : (w'.m ++ [D])[w'.s.length]? = some a := e2
      rw [List.getElem?_concat_length] at z1
      rw [← S.len, List.getElem?_concat_length] at z2
      cases z1
      cases z2
      exact ObR.of gD hu (r.up (Same.refl _) (Pre.app _ _))
  · obtain ⟨t, e⟩ := st.m
    exact ⟨t ++ [D], by show w'.m ++ [D] = _; rw [e, List.append_assoc]⟩
  · rcases List.mem_append.mp h with h | h
    · exact st.fs a h n
    · rw [List.mem_singleton] at h
      subst h
      exact hD
/-- a hidden object stays hidden -/
theorem Stp.hidden (st : Stp K tb w w') {D : Addr} {us : List V} (hD : w.H D = some (.lst us)) (gD : w.G D = none) (mD : D ∉ w.m) : w'.H D = some (.lst us) ∧ w'.G D = none ∧ D ∉ w'.m := by
  refine ⟨st.fr D _ hD (by nofun) mD, ?_, fun h => Nil.not (st.fs D h mD) hD⟩
  cases q : w'.G D with
  | none => rfl
  | some u =>
    rcases st.nw D u q gD with h | h | ⟨vs, h⟩
    · exact (Nil.not h hD).elim
    · exact absurd h mD
    · rw [hD] at h
      cases h
end
section
variable {K : PySem.W.Frag} {tb : Tb} {w w0 w1 w' : Wd}
/-! ## targets -/
def Tg.ids : Tg → List Nat
  | .nm i => [i]
  | .tp is => is
def TgOk (K : PySem.W.Frag) (tb : Tb) (tg : Tg) (g : TG) : Prop := (∀ i ∈ tg.ids, tb.ok i) → ∀ w0 w σ l l' v d (Q : L2.St → Hp → Prop), Fit K tb w0 w σ l → Rp K w.G w.m v d → setTg tg d l = some l' → (∀ σ', Fit K tb w0 w σ' l' → Q σ' w.H) → g v σ w.H Q
def gNames : List Nat → TGs
  | [] => gNil
  | i :: is => gCons (gName i) (gNames is)
def gOf (K : PySem.W.Frag) : Tg → TG
  | .nm i => gName i
  | .tp is => gTup K is.length (gNames is)
theorem tgs_ok : ∀ (is : List Nat) (_ : ∀ i ∈ is, tb.ok i) (w0 w : Wd) (σ : L2.St) (l : Loc) (vs : List V) (ds : List Dt) (Q : L2.St → Hp → Prop), Fit K tb w0 w σ l → RpA K w.G w.m vs ds → is.length = ds.length → (∀ σ', Fit K tb w0 w σ' ((is.zip ds).foldl (fun l p => l.set p.1 (some p.2)) l) → Q σ' w.H) → gNames is vs σ w.H Q
  | [], _, w0, w, σ, l, vs, ds, Q, F, r, hl, q => by
    cases ds with
    | cons d ds => cases hl
    | nil =>
      cases r
      exact ⟨rfl, q σ F⟩
  | i :: is, ok, w0, w, σ, l, vs, ds, Q, F, r, hl, q => by
    cases ds with
    | nil => cases hl
    | cons d ds =>
      cases r with
      | cons r1 r2 => exact ⟨_, _, rfl, tgs_ok is (fun j hj => ok j (List.mem_cons_of_mem _ hj)) w0 w _ _ _ ds Q (F.set r1 (ok i List.mem_cons_self)) r2 (by simpa using hl) q⟩
theorem tg_ok (tg : Tg) : TgOk K tb tg (gOf K tg) := fun ok w0 w σ l l' v d Q F r e q => by
  cases tg with
  | nm i =>
    cases e
    exact q _ (F.set r (ok i (by simp [Tg.ids])))
  | tp is =>
    unfold setTg at e
    dsimp only at e
    cases r with
    | tup t r z =>
      dsimp only at e
      split at e
      · rename_i hl
        cases e
        exact ⟨_, _, rfl, same_tseq F.sim.sub t, by rw [r.length]; exact hl.symm, tgs_ok is ok w0 w σ l _ _ Q F r hl q⟩
      · cases e
    | _ => cases e
/-- a target that writes the slots vs alone -/
def TgIn (g : TG) (vs : List Nat) : Prop := ∀ v σ H (Q : L2.St → Hp → Prop), g v σ H Q → g v σ H fun σ' H' => L2.wipe σ' vs = L2.wipe σ vs ∧ Q σ' H'
theorem wipe_in {σ : L2.St} {x : Option V} {j : Nat} : ∀ (vs : List Nat), j ∈ vs → L2.wipe (σ.set j x) vs = L2.wipe σ vs
  | [], h => by cases h
  | v :: vs, h => by
    unfold L2.wipe
    by_cases hv : j ∈ vs
    · rw [wipe_in vs hv]
    · have e : j = v := by
        rcases List.mem_cons.mp h with z | z
        · exact z
        · exact absurd z hv
      subst e
      have z : ∀ ws : List Nat, j ∉ ws → L2.wipe (σ.set j x) ws = (L2.wipe σ ws).set j x := by
        intro ws
        induction ws with
        | nil => intro _; rfl
        | cons u us ih =>
          intro hn
          have h1 : j ≠ u := fun q => hn (by rw [q]; exact List.mem_cons_self)
          have h2 : j ∉ us := fun q => hn (List.mem_cons_of_mem _ q)
          unfold L2.wipe
          rw [ih h2, List.set_comm _ _ h1]
      rw [z vs hv, List.set_set]
theorem wipe_wipe {σ : L2.St} : ∀ vs : List Nat, L2.wipe (L2.wipe σ vs) vs = L2.wipe σ vs := by
  intro vs
  have gen : ∀ (ws vs : List Nat) (τ : L2.St), (∀ w ∈ ws, w ∈ vs) → L2.wipe (L2.wipe τ ws) vs = L2.wipe τ vs := by
    intro ws
    induction ws with
    | nil => intro vs τ _; rfl
    | cons u us ih =>
      intro vs τ h
      show L2.wipe ((L2.wipe τ us).set u none) vs = _
      rw [wipe_in vs (h u List.mem_cons_self), ih vs τ fun w hw => h w (List.mem_cons_of_mem _ hw)]
  exact gen vs vs σ fun _ h => h
theorem gNames_mono : ∀ (is : List Nat) (vs : List V) (σ : L2.St) (H : Hp) (Q Q' : L2.St → Hp → Prop), (∀ σ' H', Q σ' H' → Q' σ' H') → gNames is vs σ H Q → gNames is vs σ H Q'
  | [], vs, σ, H, Q, Q', h, q => ⟨q.1, h _ _ q.2⟩
  | i :: is, vs, σ, H, Q, Q', h, q => by
    obtain ⟨v, r, e, q⟩ := q
    exact ⟨v, r, e, gNames_mono is _ _ _ _ _ h q⟩
theorem gNames_in (vs : List Nat) : ∀ (is : List Nat), (∀ i ∈ is, i ∈ vs) → ∀ (xs : List V) (σ : L2.St) (H : Hp) (Q : L2.St → Hp → Prop), gNames is xs σ H Q → gNames is xs σ H fun σ' H' => L2.wipe σ' vs = L2.wipe σ vs ∧ Q σ' H'
  | [], _, xs, σ, H, Q, q => ⟨q.1, rfl, q.2⟩
  | i :: is, h, xs, σ, H, Q, q => by
    obtain ⟨v, r, e, q⟩ := q
    refine ⟨v, r, e, ?_⟩
    refine gNames_mono is _ _ _ _ _ (fun σ2 H2 z => ?_) (gNames_in vs is (fun j hj => h j (List.mem_cons_of_mem _ hj)) r (σ.set i (some v)) H Q q)
    rw [wipe_in vs (h i List.mem_cons_self)] at z
    exact z
theorem tg_in (tg : Tg) (vs : List Nat) (h : ∀ i ∈ tg.ids, i ∈ vs) : TgIn (gOf K tg) vs := by
  cases tg with
  | nm i => exact fun v σ H Q q => ⟨wipe_in vs (h i (by simp [Tg.ids])), q⟩
  | tp is => exact fun v σ H Q ⟨a, xs, e, s, hl, q⟩ => ⟨a, xs, e, s, hl, gNames_in vs is h xs σ H Q q⟩
theorem Fit.wipe {σ : L2.St} {l : Loc} (F : Fit K tb w0 w σ l) : ∀ vs : List Nat, (∀ i ∈ vs, tb.ok i) → Fit K tb w0 w (L2.wipe σ vs) (wipeL l vs)
  | [], _ => F
  | v :: vs, ok => (F.wipe vs fun i hi => ok i (List.mem_cons_of_mem _ hi)).forget (ok v List.mem_cons_self)
/-! ## comprehensions -/
abbrev W0 : WX := fun _ _ _ _ => False
open Classical in
theorem gdI_eq (it : It) (f : Dt → Sto → R (Option Dt)) (d : Dt) (s : Sto) : gdI it f d s = (f d s).bind fun o s1 => if it.cond s1 then .ok o s1 else .no := by
  cases it with
  | pl l =>
    show f d s = _
    cases f d s with
    | ok o s1 => exact (if_pos True.intro).symm
    | _ => rfl
  | lv n ob l =>
    show (f d s).bind _ = (f d s).bind _
    congr 1
    funext o s1
    by_cases h : s1[n]? = some ob
    · rw [if_pos h, if_pos (show (It.lv n ob l).cond s1 from h)]
    · rw [if_neg h, if_neg (show ¬ (It.lv n ob l).cond s1 from h)]
def compF (tg : Tg) (vs : List Nat) (l : Loc) (rc re : Loc → Sto → R Dt) : Dt → Sto → R (Option Dt) := fun d s => withO (setTg tg d (wipeL l vs)) .no fun l1 =>
      (rc l1 s).tame.bind fun k s => brn k .no ((re l1 s).tame.bind fun e s => .ok (some e) s) (.ok none s)
open Classical in
theorem go_lc {W : WX} {l : Loc} {s : Sto} {wi : TI} {tt : TT} {te : TE} {vs : List Nat} {tg : Tg} {lv : Bool} {ri : R It} {rc re : Loc → Sto → R Dt} (io : GO K tb W (RI K tb) wi l s ri) (hv : ∀ i ∈ tg.ids, i ∈ vs) (hok : ∀ i ∈ vs, tb.ok i)
    (hc : ∀ l s, GO K tb W0 RB tt l s (asB (rc l s))) (he : ∀ l s, GO K tb W0 (RV K) te l s (re l s)) :
    GO K tb W (RV K) (tLc wi (gOf K tg) tt te vs) l s (ri.bind fun it s => (compL (gdI it (compF tg vs l rc re)) it.items [] s).bind fun r s => mkL lv r s) := fun w0 w σ Q F hs hr => by
  refine io.bind F hs hr fun J w1 it e1 st1 wk hr => ?_
  obtain ⟨hc0, wk⟩ := wk
  generalize hds : it.items = ds at *
  have hgd : ∀ d s, gdI it (compF tg vs l rc re) d s = (compF tg vs l rc re d s).bind fun o s1 => if it.cond s1 then .ok o s1 else .no := fun d s => gdI_eq it _ d s
  generalize gdI it (compF tg vs l rc re) = GF at *
  generalize it.cond = cnd at *
  intro D nD
  have F1 := F.step st1
  have gD1 : w1.G D = none := none_back st1.sim.sub nD
  have mD1 : D ∉ w1.m := fun h => st1.sim.ne nD h rfl
  let Iv : Nat → Hp → Prop := fun i H' => i ≤ ds.length ∧ ∃ w' acc us, w'.H = H' ∧ Stp K tb w1 w' ∧ w'.G D = none ∧ D ∉ w'.m ∧ w'.H D = some (.lst us) ∧ RpA K w'.G w'.m us acc ∧ cnd w'.s ∧ Ret K tb W (RV K) σ w1 Q ((compL GF (ds.drop i) acc w'.s).bind fun r s => mkL lv r s)
  refine ⟨fun i m H' => m = ds.length - i ∧ Iv i H', ⟨_, rfl, Nat.zero_le _, ⟨w1.G, upd w1.H D (.lst []), w1.m, w1.s⟩, [], [], rfl, (Stp.refl st1.sim).hid (Nil.of nD) gD1 mD1 (.inl nD) (by nofun), gD1, mD1, upd_same, .nil, hc0, hr⟩, ?_⟩
  rintro i m H' ⟨rfl, hle, w', acc, us, rfl, st, gD, mD, hD, ru, hcn, hr⟩
  have wk' := wk i w' st.g st.pre st.fz st.sim hcn
  by_cases hlt : i < ds.length
  · have hd := List.getElem?_eq_getElem hlt
    obtain ⟨go, y⟩ := wk'.1 ds[i] hd
    refine .inr ⟨go, fun H2 => Iv (i + 1) H2, fun H2 z => ⟨ds.length - (i + 1), by omega, rfl, z⟩, fun x H2 hy => ?_⟩
    obtain ⟨w2, rfl, s2, st2, rx⟩ := y x H2 hy
    have edrop : ds.drop i = ds[i] :: ds.drop (i + 1) := List.drop_eq_getElem_cons hlt
    rw [edrop] at hr
    unfold compL at hr
    rw [hgd] at hr
    unfold compF at hr
    cases e1 : setTg tg ds[i] (wipeL l vs) with
    | none => rw [e1] at hr; exact hr.elim
    | some l1 =>
    rw [e1, withO_some] at hr
    have F2 := ((F1.step st).step st2).wipe vs hok
    have q := tg_ok tg (fun i hi => hok i (hv i hi)) w0 w2 (L2.wipe σ vs) (wipeL l vs) l1 x ds[i] (fun σ3 H3 => tt σ3 H3 fun b H4 => if b = true then te σ3 H4 fun y H5 => ∃ acc, H5 D = some (.lst acc) ∧ acc.length < sizeLine ∧ Iv (i + 1) (upd H5 D (.lst (acc ++ [y]))) else Iv (i + 1) H4) F2 rx e1 fun σ3 F3 => by
      rw [← s2] at hr
      refine hc l1 w2.s w0 w2 σ3 _ F3 rfl ?_
      cases ec : rc l1 w2.s with
      | no => rw [ec] at hr; exact hr.elim
      | er z s => rw [ec] at hr; exact hr.elim
      | ok k s3 =>
      rw [ec, R.tame_ok, R.bind_ok] at hr
      cases k with
      | bl k =>
        rw [asB_ok]
        rw [brn_bl] at hr
        intro b w3 e3 st3 rb
        subst e3
        cases (show b = k from rb)
        cases k with
        | false =>
          refine iteF ?_
          dsimp only [cond] at hr
          rw [R.bind_ok] at hr
          split at hr
          · rename_i hcz
            rw [R.bind_ok] at hr
            have stA := (st2.trans st3)
            obtain ⟨h1, h2, h3⟩ := stA.hidden hD gD mD
            exact ⟨hlt, w3, acc, us, rfl, st.trans stA, h2, h3, h1, ru.up stA.g stA.pre, hcz, hr⟩
          · exact hr.elim
        | true =>
          refine iteT (he l1 w3.s w0 w3 σ3 _ (F3.step st3) rfl ?_)
          dsimp only [cond] at hr
          cases ee : re l1 w3.s with
          | no => rw [ee] at hr; exact hr.elim
          | er z s => rw [ee] at hr; exact hr.elim
          | ok d s4 =>
          rw [ee, R.tame_ok, R.bind_ok, R.bind_ok] at hr
          split at hr
          case isFalse => exact hr.elim
          rename_i hcz
          rw [R.bind_ok] at hr
          dsimp only at hr
          split at hr
          · rename_i hz
            rintro y w4 rfl st4 ry
            have stA := (st2.trans st3).trans st4
            obtain ⟨h1, h2, h3⟩ := stA.hidden hD gD mD
            have ru4 := ru.up stA.g stA.pre
            refine ⟨us, h1, by rw [ru.length]; exact hz, hlt, ⟨w4.G, upd w4.H D (.lst (us ++ [y])), w4.m, w4.s⟩, acc ++ [d], us ++ [y], rfl, (st.trans stA).hid (Nil.of nD) h2 h3 (.inr ⟨_, h1⟩) (by nofun), h2, h3, upd_same, ru4.append (.cons ry .nil), hcz, hr⟩
          · exact hr.elim
      | _ => exact hr.elim
    have q2 := tg_in (K := K) tg vs hv _ _ _ _ q
    rw [wipe_wipe] at q2
    exact q2
  · have e : i = ds.length := by omega
    subst e
    refine .inl ⟨wk'.2 (Nat.le_refl _), ?_⟩
    rw [List.drop_length] at hr
    have hr : Ret K tb W (RV K) σ w1 Q (mkL lv acc w'.s) := hr
    cases lv with
    | false =>
      have st2 := st.seal (Nil.of nD) gD mD hD (by nofun)
      exact hr _ ⟨upd w'.G D (.lst us), w'.H, w'.m, w'.s⟩ rfl st2 (.lst (.inl (.inl upd_same)) (ru.up (same_upd gD) (Pre.refl _)))
    | true =>
      have st2 := st.take (o := .lst acc) (Nil.of nD) gD mD hD ⟨us, rfl, ru⟩
      refine hr (.ref D) ⟨w'.G, w'.H, w'.m ++ [D], w'.s ++ [.lst acc]⟩ rfl st2 (.obj ?_)
      show (w'.m ++ [D])[w'.s.length]? = some D
      rw [← st.sim.len, List.getElem?_concat_length]
end
end Ip

namespace Ip
open PySem L2 PySem.Spec PySem.Froz PyProof.Rows
/-! ## sets of texts -/
/-- the payload D holds the texts l, each once, and can be walked -/
structure TxR (P : Program) (w : World) (D : SD) (l : List Str) : Prop where
  ok : TxOk P w D l
  nd : l.Nodup
  ris : L2.Ris D.2.2.place.toList
  led : w.params.followText "set-order" = true ∨ D.2.2.led = true
theorem isStr_shape {P : Program} {w : World} {k : Str} {v : Value} (h : (strKind P w).is k v = true) : ∃ x u, v = .str x u := by
  have h : Value.isStrOf k v = true := h
  cases v with
  | str x u => exact ⟨x, u, rfl⟩
  | _ => cases h
theorem perm_of_sub : ∀ {l m : List Str}, l.Nodup → (∀ x ∈ l, x ∈ m) → m.length ≤ l.length → l.Perm m
  | [], m, _, _, hl => by
    rw [List.length_eq_zero_iff.mp (Nat.le_zero.mp hl)]
  | x :: l, m, hn, hs, hl => by
    obtain ⟨h1, h2⟩ := List.nodup_cons.mp hn
    have hx := hs x (.head _)
    have e := List.perm_cons_erase hx
    refine (List.Perm.cons x (perm_of_sub h2 (fun y hy => (List.mem_erase_of_ne (fun q : y = x => h1 (q ▸ hy))).mpr (hs y (.tail _ hy))) ?_)).trans e.symm
    have := e.length_eq
    rw [List.length_cons] at this hl
    omega
section
variable {P : Program} {w : World} {A : Around} {E : Value → Shared → Prop} {s : Shared}
theorem txr_nil : TxR P w (#[], 0, .fresh 0 0 (!w.params.followText "set-order")) [] where
  ok := TxOk.nil rfl
  nd := List.nodup_nil
  ris := List.Pairwise.nil
  led := by
    show _ ∨ (!w.params.followText "set-order") = true
    cases w.params.followText "set-order"
    · exact .inr rfl
    · exact .inl rfl
theorem tail_ris {ep : Nat} {es : Array (Int × Value)} {t : SetTable} {b : Bool} (hr : L2.Ris t.place.toList) (hl : w.params.followText "set-order" = true ∨ t.led = true) : L2.Ris (tailTx ep es t b).2.2.place.toList ∧ (w.params.followText "set-order" = true ∨ (tailTx ep es t b).2.2.led = true) := by
  unfold tailTx
  by_cases c : (!b && t.tooFull) = true
  · rw [if_pos c]
    exact ⟨L2.relayAll_ris t es _, hl.imp id fun z => by show (relayAll t es _).2.1.led = true; rw [L2.relayAll_led]; exact z⟩
  · rw [if_neg c]
    exact ⟨hr, hl⟩
theorem TxR.add {D : SD} {l : List Str} {k : Str} (u : Tok) (F : TxR P w D l) (hk : k ∉ l) : TxR P w (addTx (hashStr w k) (.str k u) D) (k :: l) := by
  have hr := L2.layNew_ris D.2.2 D.1 (hashStr w k) (.str k u) F.ris
  have hl : w.params.followText "set-order" = true ∨ (layNew D.2.2 D.1 (hashStr w k) (.str k u)).2.1.led = true := F.led.imp id fun z => by rw [L2.layNew_led]; exact z
  refine ⟨add_ok u F.ok, List.nodup_cons.mpr ⟨hk, F.nd⟩, ?_, ?_⟩
  · unfold addTx
    refine (tail_ris (w := w) ?_ ?_).1
    · split <;> exact hr
    · split <;> exact hl
  · unfold addTx
    refine (tail_ris (w := w) ?_ ?_).2
    · split <;> exact hr
    · split <;> exact hl
/-- a text that is there already -/
theorem add_same {a : Addr} {T : String} {D : SD} {l : List Str} {k : Str} {u : Tok} {Q : Bool → Shared → Prop} (ho : s.heap.get? a = some (sObj T D)) (F : TxOk P w D l) (hk : k ∈ l) (hb : l.length < scanBound)
    (h : Q false s) : wpAny (model P w) A (setAddHashed a (.str k u) (hashStr w k)) Q E s := by
  obtain ⟨es, ep, t⟩ := D
  have hd : (sObj T (es, ep, t)).data = .set es ep t := rfl
  have hsz : es.size = l.length := F.sz
  unfold setAddHashed setAddHashedIn
  refine wpAny_holding (wpAny_bind (wpAny_setState_of ho hd F.fit ?_))
  dsimp only
  rw [byScan_of rfl (show es.size < scanBound by omega) F.el]
  simp only [↓reduceIte]
  unfold setAddByScan
  refine wpAny_bind ?_
  refine wpAny_bind (wpAny_rule ?_)
  refine wpAny_bind (wpAny_setScan_of (knd := strKind P w) (k := k) (is_str k u) ho hd F.fit F.el ?_)
  cases hr : List.findIdx? (fun e => (strKind P w).is k e.2) es.toList with
  | some j =>
    dsimp only
    exact wpAny_pure (wpAny_pure h)
  | none =>
    obtain ⟨e, he, q⟩ := (F.mem k).mp hk
    have c := List.findIdx?_eq_none_iff.mp hr e he
    rw [q] at c
    cases c
/-- set.add -/
theorem setadd_tx {a : Addr} {D : SD} {l : List Str} {k : Str} {u : Tok} {Q : Bool → Shared → Prop} (ho : s.heap.get? a = some (sObj "set" D)) (F : TxR P w D l) (hb : l.length + 1 < scanBound)
    (h : ∀ b h' D' l', Heap.SameBut a s.heap h' → h'.get? a = some (sObj "set" D') → TxR P w D' l' → (∀ x, x ∈ l' ↔ x ∈ l ∨ x = k) → l'.length ≤ l.length + 1 → Q b { s with heap := h', toks := s.toks + 1 }) :
    wpAny (model P w) A (setAdd a (.str k u)) Q E s := by
  unfold setAdd
  refine wpAny_holding (wpAny_bind ((strKind P w).pyHash (is_str k u) ?_))
  by_cases hk : k ∈ l
  · exact add_same (s := { s with toks := s.toks + 1 }) ho F.ok hk (by omega) (h false s.heap D l (Heap.SameBut.refl a s.heap) ho F (fun x => ⟨.inl, fun z => z.elim id fun e => e ▸ hk⟩) (Nat.le_succ _))
  · exact add_x (s := { s with toks := s.toks + 1 }) ho F.ok hk hb (h true _ _ _ (Heap.SameBut.update s.heap a _) (get_upd _ ho rfl) (F.add u hk) (fun x => by rw [List.mem_cons]; exact Or.comm) (Nat.le_refl _))
/-- what the set has got of the first i items -/
structure GotS (ks : List Str) (i : Nat) (l : List Str) : Prop where
  mem : ∀ x, x ∈ l ↔ x ∈ ks.take i
  len : l.length ≤ i
theorem update_tx {I : Addr} {fp wr : List Addr} {G : Array GenState → Array GenState → Prop} {n : Nat} {Pv : Nat → Value → Prop} {St : Nat → Shared → Prop} {R : Result → Shared → Prop}
    (W : WalksS P w A.in1 I fp wr G n Pv St) (S : Addr) (hSf : S ∉ fp) (ks : List Str) (hn : n = ks.length) (hfew : ks.length + 1 < scanBound) (hval : ∀ i v, Pv i v → ∃ k tk, ks[i]? = some k ∧ v = .str k tk)
    (h0 : Heap) (hS0 : h0.get? S = none) (hw0 : ∀ b ∈ wr, h0.get? b = none) :
    ∀ (k i : Nat) (s : Shared), n - i = k → i ≤ n → St i s → (∀ b o, h0.get? b = some o → s.heap.get? b = some o) → (∃ D l, s.heap.get? S = some (sObj "set" D) ∧ TxR P w D l ∧ GotS ks i l) →
      (∀ s' D l, Moved (S :: wr) G s s' → s'.heap.get? S = some (sObj "set" D) → TxR P w D l → GotS ks n l → (∀ b o, h0.get? b = some o → s'.heap.get? b = some o) → R (.ok (.ret .none)) s') →
      codeAny (model P w) A (.builtin "set.update.loop" ⟨[.ref S, .ref I], []⟩) R s := by
  have hSw : S ∉ wr := fun h => hSf (W.sub _ h)
  have hsub : ∀ b ∈ wr, b ∈ S :: wr := fun b hb => List.mem_cons_of_mem _ hb
  have keepM : ∀ {s s' : Shared}, Moved wr G s s' → (∀ b o, h0.get? b = some o → s.heap.get? b = some o) → ∀ b o, h0.get? b = some o → s'.heap.get? b = some o := fun hm hkp b o e =>
    hm.heap b o (fun hb => by rw [hw0 b hb] at e; cases e) (hkp b o e)
  intro k
  induction k with
  | zero =>
    intro i s hk' hi hst hkp ⟨D, l, hS, FF, g⟩ hR
    obtain rfl : i = n := by omega
    refine codeAny_builtin F.entry_set_update_loop ?_
    rw [Around.under_plainId F.plain_set_update_loop _]
    show wpAny _ A.in1 (pyNext (.ref I) >>= _) _ _ s
    refine wpAny_bind (W.done s _ _ hst fun s' hm => ?_)
    show wpAny _ A.in1 (ret Value.none) _ _ s'
    exact wpAny_pure (hR s' D l (hm.mono hsub) (hm.heap S _ hSw hS) FF g (keepM hm hkp))
  | succ k ih =>
    intro i s hk' hi hst hkp ⟨D, l, hS, FF, g⟩ hR
    have hlt : i < n := by omega
    refine codeAny_builtin F.entry_set_update_loop ?_
    rw [Around.under_plainId F.plain_set_update_loop _]
    show wpAny _ A.in1 (pyNext (.ref I) >>= _) _ _ s
    refine wpAny_bind (W.item i s _ _ hlt hst fun v s' hP hst' hm => ?_)
    obtain ⟨x, tk, hx, rfl⟩ := hval i v hP
    have hkp' := keepM hm hkp
    have hS' : s'.heap.get? S = some (sObj "set" D) := hm.heap S _ hSw hS
    show wpAny _ A.in1 (holding [Value.str x tk] (setAdd S (.str x tk)) >>= _) _ _ s'
    refine wpAny_bind (wpAny_holding ?_)
    have := g.len
    refine setadd_tx hS' FF (by omega) fun b h' D' l' hsb hS2 F2 hm2 hl2 => ?_
    have g' : GotS ks (i + 1) l' := by
      refine ⟨fun y => ?_, by omega⟩
      rw [hm2, g.mem, List.take_add_one, hx, List.mem_append]
      exact or_congr_right (by show y = x ↔ y ∈ [x]; rw [List.mem_singleton])
    have hkp2 : ∀ b o, h0.get? b = some o → h'.get? b = some o := fun b o e => (hsb.2 b (fun z => by rw [z, hS0] at e; cases e)).trans (hkp' b o e)
    refine wpAny_pure ⟨plainId_quiet F.plain_set_update_loop _, ih (i + 1) _ (by omega) hlt (W.frame _ s' _ _ hst' (Nat.le_add_right _ _) fun b hb o e => ?_) hkp2 ⟨D', l', hS2, F2, g'⟩ fun s'' D3 l3 hm'' hS'' F3 g'' hkp'' => ?_⟩
    · rw [hsb.2 b (fun h : b = S => hSf (by rw [← h]; exact hb))]
      exact e
    · refine hR s'' D3 l3 (Moved.trans W.gtrans ((hm.mono hsub).then_heap (Nat.le_add_right _ _) fun b o hb e => ?_) hm'') hS'' F3 g'' hkp''
      rw [hsb.2 b (fun h : b = S => hb (by rw [h]; exact List.mem_cons_self))]
      exact e
theorem strs_get : ∀ {us : List Value} {ks : List Str} {i : Nat} {v : Value}, StrsAre us ks → us[i]? = some v → ∃ k tk, ks[i]? = some k ∧ v = .str k tk
  | _, _, i, v, .nil, h => by simp at h
  | _, _, 0, v, .cons x t r, h => ⟨x, t, rfl, (Option.some.inj h).symm⟩
  | _, _, i + 1, v, .cons x t r, h => by
    rw [List.getElem?_cons_succ] at h ⊢
    exact strs_get r h
/-- the members' values, in some order -/
theorem vals_tx {es : Array (Int × Value)} {ep : Nat} {t : SetTable} {l : List Str} {vs : List Value} (F : TxR P w (es, ep, t) l) (pm : vs.Perm (es.toList.map (·.2))) : ∃ ks : List Str, StrsAre vs ks ∧ ks.Perm l := by
  have one : ∀ v ∈ vs, ∃ x u, v = .str x u := fun v hv => by
    obtain ⟨e, he, rfl⟩ := List.mem_map.mp (pm.mem_iff.mp hv)
    obtain ⟨⟨k, hk, _⟩, _⟩ := F.ok.el e he
    exact isStr_shape hk
  have hS := strsAre_map vs one
  refine ⟨vs.map strOf, hS, ?_⟩
  have hlen : (vs.map strOf).length = l.length := by
    rw [List.length_map, pm.length_eq, List.length_map, Array.length_toList]
    exact F.ok.sz
  have hsub : ∀ x ∈ l, x ∈ vs.map strOf := fun x hx => by
    obtain ⟨e, he, q⟩ := (F.ok.mem x).mp hx
    refine List.mem_map.mpr ⟨e.2, pm.mem_iff.mpr (List.mem_map.mpr ⟨e, he, rfl⟩), ?_⟩
    obtain ⟨y, u, ey⟩ := isStr_shape q
    rw [ey] at q ⊢
    exact ((strKind P w).inj (.str y u) x y q (is_str y u)).symm
  exact (perm_of_sub F.nd hsub (Nat.le_of_eq hlen)).symm
/-- set(xs) -/
theorem call_set_tx {l : Addr} {items : Array Value} (ks : List Str) {Q : Value → Shared → Prop} (hh : A.handled = none) (hl : s.heap.IsList l items) (hit : StrsAre items.toList ks) (hfew : ks.length + 1 < scanBound)
    (h : ∀ (h' : Heap) (tk : Nat) D l', h'.get? s.heap.objs.size = some (sObj "set" D) → TxR P w D l' → GotS ks ks.length l' → (∀ b o, s.heap.get? b = some o → h'.get? b = some o) → Q (.ref s.heap.objs.size) { s with heap := h', toks := tk }) :
    wpAny (model P w) A (call (.type "set") [.ref l]) Q E s := by
  have hisz : items.size = ks.length := by
    rw [← Array.length_toList, hit.length]
  obtain ⟨c, tl, hmro⟩ := PySem.F.called_set.mro
  have hmade := PySem.F.called_set.made
  have hsub := PySem.F.called_set.sub
  refine wpAny_call (codeAny_of_tree ?_)
  show wpAny _ _ (callAny (.type "set") _) _ _ _
  refine wpAny_pure ⟨Code.quiet_builtin _ (by decide +kernel), codeAny_builtin PySem.F.entry_type_call ?_⟩
  rw [Around.under_plain (weight_type_call_type "set" [.ref l] []) rfl]
  have h1 := PySem.F.called_set.notType
  have h2 := PySem.F.called_set.canCreate
  have hct := PySem.F.typeCall_set_1 (.ref l)
  repeat (any_goals (first | assumption | wp_step))
  refine codeAny_mono (code_set_led1 (.ref l) (E := E) (Q₁ := fun obj s₁ => obj = .ref s.heap.objs.size ∧ s₁ = { s with heap := s.heap.push { cls := .type "set", dict := none, data := .set #[] 0 (.fresh 0 0 (!w.params.followText "set-order")) } }) ⟨rfl, rfl⟩) fun r s₁ hr => ?_
  cases r with
  | error e => exact hr
  | ok fl =>
    cases fl with
    | ret obj =>
      obtain ⟨rfl, rfl⟩ := hr
      have hS : (s.heap.push { cls := .type "set", dict := none, data := .set #[] 0 (.fresh 0 0 (!w.params.followText "set-order")) }).get? s.heap.objs.size = some { cls := .type "set", dict := none, data := .set #[] 0 (.fresh 0 0 (!w.params.followText "set-order")) } := Heap.get?_push_size _ rfl
      have hT : Shared.TypeIs { s with heap := s.heap.push { cls := .type "set", dict := none, data := .set #[] 0 (.fresh 0 0 (!w.params.followText "set-order")) } } (.ref s.heap.objs.size) "set" := ⟨_, hS, rfl⟩
      have hli := PySem.F.called_set.init.lookup
      have hbi := PySem.F.called_set.init.bind (.ref s.heap.objs.size)
      repeat (any_goals (first | assumption | wp_step))
      refine codeAny_mono (codeAny_call_builtin (R := wants (fun r s₂ => r = .none ∧ ∃ h' tk D l', s₂ = { s with heap := h', toks := tk } ∧ h'.get? s.heap.objs.size = some (sObj "set" D) ∧ TxR P w D l' ∧ GotS ks ks.length l' ∧
          (∀ b o, s.heap.get? b = some o → h'.get? b = some o)) E) PySem.F.called_set.init.plain PySem.F.entry_set_init (check_set_init_1 hT ?_)) fun r₂ s₂ hr₂ => ?_
      · obtain ⟨ol, hol, hcl, nl, hdl⟩ := hl
        obtain ⟨ocls, odict, odata, oslots⟩ := ol
        simp only at hcl hdl
        subst hcl; subst hdl
        have hol' : (s.heap.push { cls := .type "set", dict := none, data := .set #[] 0 (.fresh 0 0 (!w.params.followText "set-order")) }).get? l = some { cls := .type "list", dict := odict, data := .seq items nl, slots := oslots } := Heap.get?_push_of_some _ hol
        have hsls := PySem.F.sub_list_set
        have hslf := PySem.F.sub_list_frozenset
        have hne : (Value.type "list" == Value.type "dict") = false := by decide
        have hl1 : (s.heap.push { cls := .type "set", dict := none, data := .set #[] 0 (.fresh 0 0 (!w.params.followText "set-order")) }).IsList l items := ⟨_, hol', rfl, nl, rfl⟩
        unfold Builtin.«set.__init__» noKeywords Builtin.Frozenset.updateFrom
        generalize hPI : pyIter = PI
        wp_walk
        subst hPI
        refine wpAny_pyIter_list hl1 ?_
        refine wpAny_bind (wpAny_runValue ?_)
        have hlS : l < s.heap.objs.size := Heap.lt_size hol
        have hh3 : A.in1.in1.in1.handled = none := by simp [hh]
        have hneI : l ≠ (s.heap.push { cls := .type "set", dict := none, data := .set #[] 0 (.fresh 0 0 (!w.params.followText "set-order")) }).objs.size := by
          rw [Heap.size_push]; exact Nat.ne_of_lt (Nat.lt_succ_of_lt hlS)
        have hSf : s.heap.objs.size ∉ [(s.heap.push { cls := .type "set", dict := none, data := .set #[] 0 (.fresh 0 0 (!w.params.followText "set-order")) }).objs.size, l] := by
          rw [Heap.size_push]; simp only [List.mem_cons, List.mem_singleton, List.not_mem_nil, or_false, not_or]
          exact ⟨Nat.ne_of_lt (Nat.lt_succ_self _), Nat.ne_of_gt hlS⟩
        have hval : ∀ (i : Nat) (v : Value), items[i]? = some v → ∃ k tk, ks[i]? = some k ∧ v = .str k tk := fun i v hv => by
          have q : items.toList[i]? = some v := by rw [Array.getElem?_toList]; exact hv
          obtain ⟨k, tk, e1, e2⟩ := strs_get hit q
          exact ⟨k, tk, e1, e2⟩
        have none_of : ∀ b, s.heap.objs.size ≤ b → s.heap.get? b = none := fun b hb => by
          cases q : s.heap.get? b with
          | none => rfl
          | some o => exact absurd (Nat.lt_of_lt_of_le (Heap.lt_size q) hb) (Nat.lt_irrefl _)
        refine update_tx ((Walks.list hh3 _ l hneI items).toS) s.heap.objs.size
          hSf ks hisz hfew hval s.heap (none_of _ (Nat.le_refl _)) (fun b hb => none_of b (by
            rw [List.mem_singleton.mp hb, Heap.size_push]
            exact Nat.le_succ _)) (items.size - 0) 0 _ (by omega) (Nat.zero_le _)
          ⟨⟨_, Heap.get?_push_size _ rfl, rfl, rfl⟩, (hl1.push _)⟩ (fun b o e => Heap.get?_push_of_some _ (Heap.get?_push_of_some _ e)) ?hS0 ?hR
        case hS0 => exact ⟨(#[], 0, _), [], Heap.get?_push_of_some _ hS, txr_nil, fun x => by simp, Nat.le_refl _⟩
        case hR =>
          intro s' D l' hm hS' F' g' hkp
          obtain ⟨h', g2, d', tk', os'⟩ := s'
          have eg : g2 = s.gens := hm.gens
          have ed : d' = s.drawn := hm.drawn
          have eo : os' = s.os := hm.os
          subst eg; subst ed; subst eo
          show wpAny _ _ _ _ _ _
          refine wpAny_pure ?_
          show wpAny _ _ (ret Value.none) _ _ _
          rw [hisz] at g'
          exact wpAny_pure ⟨rfl, h', tk', D, l', rfl, hS', F', g', hkp⟩
      · cases r₂ with
        | error e => exact hr₂
        | ok fl₂ =>
          cases fl₂ with
          | ret r =>
            obtain ⟨rfl, h', tk, D, l', rfl, hS', F', g', hk'⟩ := hr₂
            repeat (any_goals (first | assumption | wp_step))
            exact h _ _ _ _ hS' F' g' hk'
          | _ => exact hr₂.elim
    | _ => exact hr.elim
/-- sorted(set) -/
theorem sorted_tx {a : Addr} {D : SD} {l : List Str} {Q : Value → Shared → Prop} (ho : s.heap.get? a = some (sObj "set" D)) (F : TxR P w D l) (hh : A.handled = none) (hb : l.length < scanBound)
    (hQ : ∀ s' p (out : Array Value) (c : Nat) (ys : List Str), (∀ b o, s.heap.get? b = some o → s'.heap.get? b = some o) → s'.gens = s.gens → s'.os = s.os → s.heap.objs.size ≤ p →
      s'.heap.get? p = some (seqObj "list" out c) → StrsAre out.toList ys → ys.Perm l → sortedS ys = true → Q (.ref p) s') :
    wpAny (model P w) A (call (.builtin "sorted") [.ref a]) Q E s := by
  obtain ⟨es, ep, t⟩ := D
  have hsz : es.size = l.length := F.ok.sz
  refine Calls.call_function_entry kind_sorted plain_sorted entry_sorted (args_sorted1 _) ?_
  unfold Builtin.«sorted»
  refine wpAny_bind (m := checkCount "sorted" 1 1 _) (wpAny_pure ?_)
  refine wpAny_bind (L2.collect_set (A := A.in1) (es := es) (ep := ep) (t := t) hh ⟨_, ho, rfl, rfl⟩ F.ok.fit (by omega) F.ris F.led fun s1 vs k1 hz g1 o1 pm => ?_)
  obtain ⟨ks, hS, hks⟩ := vals_tx F pm
  have hvl : vs.length = l.length := by rw [pm.length_eq, List.length_map, Array.length_toList, hsz]
  have hfit : vs.length ≤ sizeLine := by rw [hvl]; exact fits_of_scanBound hb
  refine wpAny_bind (wpAny_newList ?_ hfit)
  have hoL : (s1.heap.push (seqObj "list" vs.toArray 0)).get? s1.heap.objs.size = some (seqObj "list" vs.toArray 0) := Heap.get?_push_size _ rfl
  refine wpAny_bind (wpAny_holding (wpAny_call_entry slot_list_sort ⟨_, hoL, rfl⟩ entry_list_sort (list_sort_treeKAny strKind_oneLt hoL hS.keysOf (fun v₁ v₂ rest e => keyKind_strs (by rw [← e]; exact hS)) hfit fun st' hp hs => ⟨_, rfl, ?_⟩) (args_list_sort _)))
  obtain ⟨ys, a1, a2, a3⟩ := sorted_out_str hS hp hs
  obtain ⟨c, hc⟩ := sortedHeap_at (vs := vs) (out := (arrOf st').map (·.2)) hoL
  refine wpAny_pure ⟨_, rfl, hQ _ s1.heap.objs.size _ c ys (fun b u e => ?_) g1 o1 hz hc a1 (a2.trans hks) a3⟩
  have q := k1 b u e
  have hlt := Heap.lt_size q
  show (sortedHeap (s1.heap.push (seqObj "list" vs.toArray 0)) s1.heap.objs.size vs _).get? b = some u
  rw [sortedHeap_old (Nat.ne_of_lt hlt) (by rw [size_push']; exact Nat.lt_succ_of_lt hlt)]
  exact Heap.get?_push_of_some _ q
end
end Ip

namespace Ip
open PySem L2 PySem.Spec
/-! ## built-in calls -/
def biNm : BI → String
  | .abs => "abs" | .len => "len" | .mx => "max" | .mn => "min" | .int => "int" | .str => "str" | .list => "list" | .dict => "dict" | .sum => "sum" | .sorted => "sorted"
  | .sset => "" | .lset => ""
def biVal : BI → Value
  | .abs => .builtin "abs" | .len => .builtin "len" | .mx => .builtin "max" | .mn => .builtin "min" | .int => .type "int" | .str => .type "str" | .list => .type "list" | .dict => .type "dict" | .sum => .builtin "sum" | .sorted => .builtin "sorted"
  | _ => .builtin ""
/-- plain calls -/
def biPl : BI → Bool
  | .abs | .len | .mx | .mn | .int | .list | .sum | .sorted | .dict | .str => true
  | _ => false
def biCalm : BI → Bool
  | .mx | .mn | .sum | .list | .sorted => true
  | _ => false
theorem RpA.intsOf {K : PySem.W.Frag} {G : Hp} {m : List Addr} : ∀ {ds : List Dt} {xs : List V} {ns : List Int}, RpA K G m xs ds → intsOf ds = some ns → xs = ns.map V.int
  | [], _, _, h, e => by cases h; cases e; rfl
  | d :: ds, _, ns, h, e => by
    cases h with
    | cons q r =>
      cases q with
      | int i =>
        unfold Ip.intsOf at e
        obtain ⟨ms, e1, rfl⟩ := Option.map_eq_some_iff.mp e
        rw [RpA.intsOf r e1]
        rfl
      | _ => cases e
theorem srtI_eq {ns ns' : List Int} (hp : ns'.Perm ns) (hs : ns'.Pairwise (· ≤ ·)) : ns' = srtI ns := by
  unfold srtI
  refine List.Perm.eq_of_pairwise (le := fun x y : Int => x ≤ y) (fun x y _ _ h1 h2 => Int.le_antisymm h1 h2) hs ?_ (hp.trans (List.mergeSort_perm ns _).symm)
  have h := List.pairwise_mergeSort (le := fun a b : Int => decide (a ≤ b)) (fun a b c h1 h2 => by simp only [decide_eq_true_eq] at *; omega) (fun a b => by simp only [Bool.or_eq_true, decide_eq_true_eq]; omega) ns
  exact h.imp fun h => by simpa using h
def KeyD (K : PySem.W.Frag) (G : Hp) (m : List Addr) (v : Value) (d : Dt) : Prop := ∃ x, RelV x v ∧ Rp K G m x d
theorem each_keyD {K : PySem.W.Frag} {G : Hp} {m : List Addr} : ∀ {ds : List Dt} {xs : List V} {its : List Value}, RpA K G m xs ds → Vals xs its → PySem.W.EachIs (KeyD K G m) its ds
  | [], _, _, h, r => by
    cases h
    cases r
    exact .nil
  | d :: ds, _, _, h, r => by
    cases h with
    | cons h1 h2 =>
      cases r with
      | cons r1 r2 => exact .cons ⟨_, r1, h1⟩ (each_keyD h2 r2)
theorem each_outD {K : PySem.W.Frag} {G : Hp} {m : List Addr} : ∀ {out : List Value} {ds : List Dt}, PySem.W.EachIs (KeyD K G m) out ds → ∃ xs, RpA K G m xs ds ∧ Vals xs out
  | _, _, .nil => ⟨[], .nil, .nil⟩
  | _, _, .cons h r => by
    obtain ⟨xs, h1, h2⟩ := each_outD r
    obtain ⟨x, hx, hr⟩ := h
    exact ⟨x :: xs, .cons hr h1, .cons hx h2⟩
def rSortD (K : PySem.W.Frag) (u : Nat) : List V → Hp → VK → Prop := fun vs H Q => ∃ (a : Addr) (xs : List V) (ds : List Dt) (G : Hp) (m : List Addr), vs = [V.ref a] ∧ SqL K H a xs ∧ RpA K G m xs ds ∧ Same G H ∧ (∀ d ∈ ds, d.flat = true) ∧ PySem.W.AllAlike (ds.map Dt.py) ∧ PySem.W.Sortable (ds.map Dt.py) ∧
  (∀ d ∈ ds, u + 2 + d.py.depth < cLine) ∧ ∀ (p : Addr) (xs' : List V), RpA K G m xs' (ds.mergeSort (PySem.W.dataLe false Dt.py)) → H p = none → Q (.ref p) (upd H p (.lst xs'))
theorem er_of {X : Cx} {pins : List (Addr × Obj)} {s : Shared} {σ : L2.St} {H G : Hp} {m : List Addr} (I : Inv X pins σ H s) (sm : Same G H) : ∀ {its : List Value} {ds : List Dt}, (∀ d ∈ ds, d.flat = true) → PySem.W.EachIs (KeyD X.K G m) its ds → PySem.W.EachIs (fun v d => ∃ as, Reads s.heap v (Dt.py d) as) its ds
  | _, _, _, .nil => .nil
  | _, _, hd, .cons h r => by
    obtain ⟨x, hx, ht⟩ := h
    exact .cons (Dp.reads I _ _ _ (Rp.dp sm _ _ (hd _ (.head _)) ht) hx) (er_of I sm (fun e he => hd e (.tail _ he)) r)
theorem cr_sortedD {X : Cx} : CallR X (.builtin "sorted") (rSortD X.K X.A.units) := by
  intro pins s σ H vs us Q I r h
  obtain ⟨a, xs, ds, G, m, rfl, hs, ra, sm, hd, hal, hk, hu, q⟩ := h
  obtain ⟨its, rv, hl, hz⟩ := I.list hs
  rw [Vals.ref1 r]
  have hE := each_keyD ra rv
  have hln := ra.length
  refine PySem.W.sorted_data (enc := Dt.py) hl.isList hE (er_of I sm hd hE) hal hk (by have := rv.length; omega) hu fun out hlo ho => ?_
  obtain ⟨xs', rpo, rvo⟩ := each_outD ho
  obtain ⟨ep, he'⟩ := PyProof.Rows.sortedAll_at s.heap its out.toArray
  have hlen : xs'.length ≤ sizeLine := by
    rw [rvo.length, hlo]
    have := rv.length
    omega
  exact ⟨.ref _, upd H (s.heap.objs.size + 1) (.lst xs'), I.laid (t' := s.toks) (fun _ _ => PyProof.Rows.sortedAll_old) (Nat.le_succ _) ⟨hlen, out, ep, rvo, he'⟩, rfl, q _ _ rpo (I.hok.fresh (Nat.le_succ _))⟩
/-! ### sorted, a dict with tuple keys -/
theorem keyWalk {P : Program} {w : World} {A : Around} {I a : Addr} {o : Obj} {es : Array DictEntry} {ep : Nat} (hh : A.handled = none) (hne : a ≠ I) (hdat : o.data = .dict es ep) :
    Walks P w A I [I, a] [I] es.size (fun i v => ∃ en, es[i]? = some en ∧ v = en.key) (fun i h => h.IsKeyIter I a i es.size ep ∧ h.get? a = some o) where
  sub := fun b hb => by simp at hb; simp [hb]
  frame := fun _ _ _ st hk => ⟨st.1.at fun o e => hk I (by simp) o e, hk a (by simp) _ st.2⟩
  item := fun i s Q E hi st hQ => by
    have hen : es[i]? = some es[i] := Array.getElem?_eq_getElem hi
    refine next_key_item st.1 st.2 hdat rfl hen fun h' hit' sb => ?_
    exact hQ _ h' s.toks ⟨_, hen, rfl⟩ ⟨hit', (sb.2 a hne).trans st.2⟩ fun b o hb e => (sb.2 b (fun h => hb (by simp [h]))).trans e
  done := fun s Q E st hQ => next_key_end hh st.1 st.2 hdat rfl (Nat.le_refl _) fun h' he => hQ h' s.toks fun b o hb e => he b o (fun h => hb (by simp [h])) e
  self := fun _ _ _ _ st hQ => wpAny_pyIter_keyiter st.1 hQ
theorem keySrc {P : Program} {w : World} {a : Addr} {o : Obj} {es : Array DictEntry} {ep : Nat} (hs : (a == sysModules) = false) (hx : o.ExactDict) (hdat : o.data = .dict es ep) :
    PySem.W.KdlSrc P w "dict" a a es.size (fun i v => ∃ en, es[i]? = some en ∧ v = en.key) (fun h => h.get? a = some o) where
  type := fun s e => ⟨o, e, hx.1⟩
  there := fun h e => ⟨Heap.lt_size e, Heap.lt_size e⟩
  keep := fun h h' e k => k a (.inl rfl) o e
  notList := by decide
  notTuple := by decide
  hint := fun A E s Q e hq => PySem.W.kdl_hint_dict ⟨o, e, hx.1⟩ hq
  iter := fun A s hh e => ⟨_, _, (fun E Q hq => iter_keys hs e hx hdat hq), keyWalk hh (Nat.ne_of_lt (Heap.lt_size e)) hdat, ⟨⟨_, Heap.get?_push_size _ rfl, rfl, rfl⟩, Heap.get?_push_of_some _ e⟩⟩
/-- the address of a tuple key -/
def KeyT (H : Hp) (v : Value) (d : Dt) : Prop := ∃ (q : Addr) (k : List Key), v = .ref q ∧ d = ofKeyT k ∧ H q = some (.tup (k.map kV))
theorem py_key (K : PySem.W.Frag) (H : Hp) : ∀ k : List Key, DpAll K H (k.map kV) (Dt.pys (k.map ofKey))
  | [] => .nil
  | .inl i :: r => .cons (.int i) (py_key K H r)
  | .inr x :: r => .cons (.str x) (py_key K H r)
theorem keys_T {H : Hp} {knd : L2.Key → Prop} : ∀ {kvs : List (List Key × V)} {xs : List (List Key × Addr × Value)}, KT H kvs xs → PySem.W.EachIs (KeyT H) (xs.map fun x => Value.ref x.2.1) (kvs.map fun p => ofKeyT p.1)
  | _, _, Paired.nil => .nil
  | _, _, Paired.cons (a := p) (b := q) h t => .cons ⟨q.2.1, p.1, rfl, rfl, h.2.1⟩ (keys_T (knd := knd) t)
def rSortT (u : Nat) : List V → Hp → VK → Prop := fun vs H Q => ∃ (a : Addr) (kvs : List (List Key × V)), vs = [V.ref a] ∧ H a = some (.dT kvs) ∧ PySem.W.AllAlike ((kvs.map fun p => ofKeyT p.1).map Dt.py) ∧ PySem.W.Sortable ((kvs.map fun p => ofKeyT p.1).map Dt.py) ∧
  (∀ d ∈ kvs.map fun p => ofKeyT p.1, u + 2 + d.py.depth < cLine) ∧ ∀ (p : Addr) (out : List Value), PySem.W.EachIs (KeyT H) out ((kvs.map fun p => ofKeyT p.1).mergeSort (PySem.W.dataLe false Dt.py)) → H p = none → ∃ vs', Vals vs' out ∧ Q (.ref p) (upd H p (.lst vs'))
theorem cr_sortedT {X : Cx} (hc : X.calm = true) : CallR X (.builtin "sorted") (rSortT X.A.units) := by
  intro pins s σ H vs us Q I r h
  obtain ⟨a, kvs, rfl, ha, hal, hk, hu, q⟩ := h
  rw [Vals.ref1 r]
  obtain ⟨z, hs, xs, rel, o, es, ep, ho, hx, hdat, he, _, _⟩ := dt_of I.hok ha
  have hsz : es.size = kvs.length := by rw [size_of_entries he, Paired.length rel]
  refine Calls.call_function_entry PyProof.Rows.kind_sorted PyProof.Rows.plain_sorted PyProof.Rows.entry_sorted (PyProof.Rows.args_sorted1 _) ?_
  unfold Builtin.«sorted»
  refine wpAny_bind (m := checkCount "sorted" 1 1 _) (wpAny_pure ?_)
  refine wpAny_bind (PySem.W.kdu_collect (A := X.A.in1) (keySrc hs hx hdat) (I.ok.hd hc) ho (by rw [hsz]; exact z) fun h' tk acc hkp hacc => ?_)
  have hav : acc.toList = xs.map fun x => Value.ref x.2.1 := by
    apply List.ext_getElem?
    intro j
    rw [Array.getElem?_toList, List.getElem?_map]
    cases e : acc[j]? with
    | some v =>
      obtain ⟨en, e1, e2⟩ := hacc.2 j v e
      have e3 := entry_at he j
      rw [e1] at e3
      cases e4 : xs[j]? with
      | none => rw [e4] at e3; cases e3
      | some x =>
        rw [e4] at e3
        have := Option.some.inj e3
        rw [e2, this]
        rfl
    | none =>
      have h1 : acc.size ≤ j := Array.getElem?_eq_none_iff.mp e
      rw [hacc.1, size_of_entries he] at h1
      rw [List.getElem?_eq_none h1]
      rfl
  have hE : PySem.W.EachIs (KeyT H) acc.toList (kvs.map fun p => ofKeyT p.1) := by
    rw [hav]
    exact keys_T (knd := fun _ => True) rel
  have I1 : Inv X pins σ H { s with heap := h', toks := tk } := I.kept hkp
  have er : PySem.W.EachIs (fun v d => ∃ as, Reads h' v (Dt.py d) as) acc.toList (kvs.map fun p => ofKeyT p.1) := hE.mono fun v d ⟨q, k, e1, e2, e3⟩ => by
    rw [e1, e2]
    exact Dp.reads I1 _ _ _ (.tup (.inl (.inl e3)) (py_key X.K H k)) rfl
  have hal2 : acc.toList.length = kvs.length := by rw [Array.length_toList, hacc.1, hsz]
  have hfit : acc.toList.length ≤ sizeLine := by rw [hal2]; exact z
  refine wpAny_bind (wpAny_newList ?_ hfit)
  have hoL : (h'.push (PyProof.Rows.seqObj "list" acc.toList.toArray 0)).get? h'.objs.size = some (PyProof.Rows.seqObj "list" acc.toList.toArray 0) := Heap.get?_push_size _ rfl
  show wpAny _ _ _ _ _ { s with heap := h'.push (PyProof.Rows.seqObj "list" acc.toList.toArray 0), toks := tk }
  have er' : PySem.W.EachIs (fun v d => ∃ as, Reads (PySem.W.sortingHeap (h'.push (PyProof.Rows.seqObj "list" acc.toList.toArray 0)) h'.objs.size acc.toList) v (Dt.py d) as) acc.toList (kvs.map fun p => ofKeyT p.1) :=
    er.mono fun v d ⟨as, r⟩ => ⟨as, PyProof.Rows.Reads.keeps (fun b u e => PySem.W.sortingHeap_old (Nat.ne_of_lt (Heap.lt_size e)) (Heap.get?_push_of_some _ e)) r⟩
  refine wpAny_bind (wpAny_holding (wpAny_call_entry PyProof.Rows.slot_list_sort ⟨_, hoL, rfl⟩ PyProof.Rows.entry_list_sort
    (PySem.W.list_sort_vals (s := { s with heap := h'.push (PyProof.Rows.seqObj "list" acc.toList.toArray 0), toks := tk }) (κ := PySem.W.dataKind (PySem.W.sortingHeap (h'.push (PyProof.Rows.seqObj "list" acc.toList.toArray 0)) h'.objs.size acc.toList) ((kvs.map fun p => ofKeyT p.1).map Dt.py)) hoL
      (PySem.W.SortsAt.data (s := { s with heap := PySem.W.sortingHeap (h'.push (PyProof.Rows.seqObj "list" acc.toList.toArray 0)) h'.objs.size acc.toList, toks := tk }) (PySem.W.each_map (R := fun v d => ∃ as, Reads (PySem.W.sortingHeap (h'.push (PyProof.Rows.seqObj "list" acc.toList.toArray 0)) h'.objs.size acc.toList) v d as) Dt.py er') hal hk (PySem.W.bound_map hu)) hfit ⟨_, rfl, ?_⟩)
    (PyProof.Rows.args_list_sort _)))
  have hout := PySem.W.sortVals_data false hE er' hal
  have hol := PySem.W.sortVals_length (κ := PySem.W.dataKind (PySem.W.sortingHeap (h'.push (PyProof.Rows.seqObj "list" acc.toList.toArray 0)) h'.objs.size acc.toList) ((kvs.map fun p => ofKeyT p.1).map Dt.py)) (ks := acc.toList) (vs := acc.toList) false rfl
  generalize PySem.W.sortVals _ false acc.toList acc.toList = out at hout hol ⊢
  obtain ⟨e', he'⟩ := PyProof.Rows.sortedHeap_at (vs := acc.toList) (out := out.toArray) hoL
  obtain ⟨vs', hv, hq⟩ := q h'.objs.size out hout (I1.hok.fresh (Nat.le_refl _))
  have hlen : vs'.length ≤ sizeLine := by rw [hv.length, hol]; exact hfit
  refine wpAny_pure ⟨_, rfl, .ref h'.objs.size, upd H h'.objs.size (.lst vs'), I1.laid (t' := tk) (fun b u e => ?_) (Nat.le_refl _)
    (show ObjOk X.prog X.w _ _ _ (.lst vs') from ⟨hlen, out, e', hv, he'⟩), rfl, hq⟩
  have hb : b < h'.objs.size := Heap.lt_size e
  rw [PyProof.Rows.sortedHeap_old (Nat.ne_of_lt hb) (by rw [PyProof.Rows.size_push']; exact Nat.lt_succ_of_lt hb)]
  exact Heap.get?_push_of_some _ e
theorem Ret.step {K : PySem.W.Frag} {tb : Tb} {W : WX} {α β : Type} {rel : Wd → β → α → Prop} {σ : L2.St} {w w1 : Wd} {Q : β → Hp → Prop} {r : R α} (st : Stp K tb w w1) (h : Ret K tb W rel σ w Q r) : Ret K tb W rel σ w1 Q r := by
  cases r with
  | no => exact h
  | ok d s => exact fun v w2 e st2 rv => h v w2 e (st.trans st2) rv
  | er z s => exact fun c dx w2 e st2 q => h c dx w2 e (st.trans st2) q
/-- what the keys stand for may be learnt -/
theorem learn_keys {K : PySem.W.Frag} {tb : Tb} {w : Wd} (S : Sim K tb w) : ∀ {out : List Value} {ds : List Dt}, PySem.W.EachIs (KeyT w.H) out ds → ∃ (w' : Wd) (vs : List V), w'.H = w.H ∧ w'.s = w.s ∧ w'.m = w.m ∧ Stp K tb w w' ∧ RpA K w'.G w'.m vs ds ∧ Vals vs out
  | _, _, .nil => ⟨w, [], rfl, rfl, rfl, .refl S, .nil, .nil⟩
  | _, _, .cons h t => by
    obtain ⟨w1, vs, h1, h2, h3, st, r, rv⟩ := learn_keys S t
    obtain ⟨q, k, rfl, rfl, hq⟩ := h
    obtain ⟨w2, g1, g2, g3, st2, hg⟩ := Stp.learn st.sim (by rw [h1]; exact hq)
    exact ⟨w2, .ref q :: vs, g1.trans h1, g2.trans h2, g3.trans h3, st.trans st2, .cons (rp_keyT hg) (r.up st2.g st2.pre), .cons rfl rv⟩
/-! ### sorted keys -/
theorem ltCps_lt : ∀ a b : List Nat, PySem.Spec.ltCps a b = decide (a < b)
  | [], [] => by simp [PySem.Spec.ltCps]
  | [], _ :: _ => by simp [PySem.Spec.ltCps]
  | _ :: _, [] => by simp [PySem.Spec.ltCps]
  | a :: r, b :: t => by
    unfold PySem.Spec.ltCps
    rw [ltCps_lt r t, Bool.eq_iff_iff]
    simp [List.cons_lt_cons_iff]
theorem leS_trans (a b c : Str) (h1 : leS a b = true) (h2 : leS b c = true) : leS a c = true := by
  unfold leS at *
  simp only [decide_eq_true_eq] at *
  exact List.le_trans h1 h2
theorem leS_total (a b : Str) : (leS a b || leS b a) = true := by
  unfold leS
  simp only [Bool.or_eq_true, decide_eq_true_eq]
  exact List.le_total _ _
theorem leS_anti {a b : Str} (h1 : leS a b = true) (h2 : leS b a = true) : a = b := by
  unfold leS at *
  simp only [decide_eq_true_eq] at *
  exact Str.ext' (Array.toList_inj.mp (List.le_antisymm h1 h2))
theorem leD_str (a b : Str) : PySem.W.dataLe false Dt.py (.str a) (.str b) = leS a b := congrFun (congrFun (PySem.W.dataLe_str fun z : Str => z) a) b
theorem leD_int (a b : Int) : PySem.W.dataLe false Dt.py (.int a) (.int b) = decide (a ≤ b) := congrFun (congrFun (PySem.W.dataLe_int fun z : Int => z) a) b
theorem srtS_map (ks : List Str) : (ks.map Dt.str).mergeSort (PySem.W.dataLe false Dt.py) = (ks.mergeSort leS).map Dt.str := (List.map_mergeSort fun a _ b _ => (leD_str a b).symm).symm
theorem srtI_map (ks : List Int) : (ks.map Dt.int).mergeSort (PySem.W.dataLe false Dt.py) = (srtI ks).map Dt.int := (List.map_mergeSort fun a _ b _ => (leD_int a b).symm).symm
theorem srtS_ok (ks : List Str) : (ks.mergeSort leS).Pairwise (fun a b => leS a b = true) := List.pairwise_mergeSort leS_trans leS_total ks
theorem srtS_eq {ks ys : List Str} (hp : ys.Perm ks) (hs : ys.Pairwise (fun a b => leS a b = true)) : ys = ks.mergeSort leS := List.Perm.eq_of_pairwise (fun _ _ _ _ h1 h2 => leS_anti h1 h2) hs (srtS_ok ks) (hp.trans (List.mergeSort_perm ks leS).symm)
theorem rising_pair : ∀ (r : List Str) (p : Str), PyProof.Rows.risingS p r = true → (p :: r).Pairwise (fun a b => leS a b = true)
  | [], p, _ => .cons (fun _ h => by cases h) .nil
  | x :: r, p, h => by
    unfold PyProof.Rows.risingS at h
    rw [Bool.and_eq_true, ltCps_lt] at h
    have ih := rising_pair r x h.2
    have hpx : leS p x = true := by
      unfold leS
      have := h.1
      simp only [Bool.not_eq_true', decide_eq_false_iff_not, decide_eq_true_eq] at *
      exact List.not_lt.mp this
    refine .cons (fun y hy => ?_) ih
    rcases List.mem_cons.mp hy with rfl | hy
    · exact hpx
    · exact leS_trans _ _ _ hpx (List.rel_of_pairwise_cons ih hy)
theorem sorted_pair : ∀ {ys : List Str}, PyProof.Rows.sortedS ys = true → ys.Pairwise (fun a b => leS a b = true)
  | [], _ => .nil
  | x :: r, h => rising_pair r x h
theorem strs_rp {K : PySem.W.Frag} {G : Hp} {m : List Addr} : ∀ ks : List Str, RpA K G m (ks.map V.str) (ks.map Dt.str)
  | [] => .nil
  | k :: ks => .cons (.str k) (strs_rp ks)
theorem RpA.strsOf {K : PySem.W.Frag} {G : Hp} {m : List Addr} : ∀ {ds : List Dt} {xs : List V} {ns : List Str}, RpA K G m xs ds → strsOf ds = some ns → xs = ns.map V.str
  | [], _, _, h, e => by cases h; cases e; rfl
  | d :: ds, _, ns, h, e => by
    cases h with
    | cons q r =>
      cases q with
      | str i =>
        unfold Ip.strsOf at e
        obtain ⟨ms, e1, rfl⟩ := Option.map_eq_some_iff.mp e
        rw [RpA.strsOf r e1]
        rfl
      | _ => cases e
theorem keys_str {ds : List (Key × Dt)} : (∀ p ∈ ds, ∃ x : Str, p.1 = .inr x) → ∃ ks : List Str, ds.map (·.1) = ks.map Sum.inr ∧ ds.map (fun p => ofKey p.1) = ks.map Dt.str := fun h => by
  induction ds with
  | nil => exact ⟨[], rfl, rfl⟩
  | cons p ds ih =>
    obtain ⟨ks, e1, e2⟩ := ih fun q hq => h q (.tail _ hq)
    obtain ⟨x, ex⟩ := h p (.head _)
    exact ⟨x :: ks, by rw [List.map_cons, e1, ex]; rfl, by rw [List.map_cons, e2, ex]; rfl⟩
theorem keys_int {ds : List (Key × Dt)} : (∀ p ∈ ds, ∃ x : Int, p.1 = .inl x) → ∃ ks : List Int, ds.map (·.1) = ks.map Sum.inl ∧ ds.map (fun p => ofKey p.1) = ks.map Dt.int := fun h => by
  induction ds with
  | nil => exact ⟨[], rfl, rfl⟩
  | cons p ds ih =>
    obtain ⟨ks, e1, e2⟩ := ih fun q hq => h q (.tail _ hq)
    obtain ⟨x, ex⟩ := h p (.head _)
    exact ⟨x :: ks, by rw [List.map_cons, e1, ex]; rfl, by rw [List.map_cons, e2, ex]; rfl⟩
theorem RpK.keyV {K : PySem.W.Frag} {G : Hp} {m : List Addr} : ∀ {vs : List (Key × V)} {ds : List (Key × Dt)}, RpK K G m vs ds → RpA K G m (vs.map fun kv => kV kv.1) (ds.map fun p => ofKey p.1)
  | _, _, .nil => .nil
  | _, _, .cons r t => .cons (rp_key _) (RpK.keyV t)
theorem max_fold : ∀ (r : List Int) (a : Int), r.foldl max a ∈ a :: r ∧ a ≤ r.foldl max a ∧ ∀ x ∈ r, x ≤ r.foldl max a
  | [], a => ⟨List.mem_cons_self, Int.le_refl _, fun x h => by cases h⟩
  | b :: r, a => by
    obtain ⟨h1, h2, h3⟩ := max_fold r (max a b)
    rw [List.foldl_cons]
    refine ⟨?_, by omega, fun x h => ?_⟩
    · rcases List.mem_cons.mp h1 with e | e
      · rw [e]
        rcases Int.le_total a b with g | g
        · rw [Int.max_eq_right g]
          exact List.mem_cons_of_mem _ List.mem_cons_self
        · rw [Int.max_eq_left g]
          exact List.mem_cons_self
      · exact List.mem_cons_of_mem _ (List.mem_cons_of_mem _ e)
    · rcases List.mem_cons.mp h with e | e
      · subst e
        omega
      · exact h3 x e
section
variable {X : Cx} {tb : Tb} {W : WX} {l : Loc} {s : Sto} {e a b c o : Expr} {es : List Expr} {pos p : Pos}
theorem ok_bi (b : BI) (lv : Bool) (hb : biPl b = true) (hc : biCalm b = true → X.calm = true) (hu : X.A.units + 65 < cLine) {w : Wd} {σ : L2.St} {xs : List V} {as : List Dt} {Q : VK} (S : Sim X.K tb w) (r : RpA X.K w.G w.m xs as) (hr : Ret X.K tb W (RV X.K) σ w Q (biS b lv as w.s)) : semC X (biVal b) xs w.H Q := by
  unfold biS at hr
  split at hr
  · cases r with
    | cons r1 r2 =>
      cases r2
      cases r1
      rename_i i
      refine semC.of call_abs ⟨i, rfl, hr _ w rfl (.refl S) ?_⟩
      have e : (if i < 0 then -i else i) = (i.natAbs : Int) := by split <;> omega
      rw [e]
      exact .int _
  · cases r with
    | cons r1 r2 =>
      cases r2
      split at hr
      · rename_i e
        obtain ⟨q, vs, rfl, q1, rr⟩ := view_lst S r1 e
        refine semC.of call_len_seq ⟨q, vs, rfl, .inl q1, hr _ w rfl (.refl S) ?_⟩
        rw [rr.length]
        exact .int _
      · rename_i e
        obtain ⟨q, vs, rfl, q1, rr⟩ := view_tup S r1 e
        refine semC.of call_len_seq ⟨q, vs, rfl, .inr q1, hr _ w rfl (.refl S) ?_⟩
        rw [rr.length]
        exact .int _
      · rename_i e
        obtain ⟨q, vs, rfl, q1, rr⟩ := view_dic S r1 e
        intro pins s σ us I ru
        cases ru with
        | cons u1 u2 =>
          cases u2
          cases u1
          exact d_len I q1 fun t s' I' => ⟨.int vs.length, w.H, I', ⟨t, rfl⟩, hr _ w rfl (.refl S) (by rw [rr.length]; exact .int _)⟩
      · rename_i e
        obtain rfl := view_str S r1 e
        split at hr
        · rename_i hz
          exact semC.of call_len_str ⟨_, rfl, hz, hr _ w rfl (.refl S) (.int _)⟩
        · exact hr.elim
      · exact hr.elim
  · cases r with
    | cons r1 r2 => cases r2 with
      | cons r3 r4 =>
        cases r4
        cases r1
        cases r3
        rename_i i j
        refine semC.of (call_max2 (hc rfl)) ⟨i, j, rfl, hr _ w rfl (.refl S) ?_⟩
        have e : (if j > i then j else i) = max i j := by split <;> omega
        rw [e]
        exact .int _
  · cases r with
    | cons r1 r2 => cases r2 with
      | cons r3 r4 =>
        cases r4
        cases r1
        cases r3
        rename_i i j
        refine semC.of (call_min2 (hc rfl)) ⟨i, j, rfl, hr _ w rfl (.refl S) ?_⟩
        have e : (if j < i then j else i) = min i j := by split <;> omega
        rw [e]
        exact .int _
  · cases r with
    | cons r1 r2 =>
      cases r2
      cases r1
      exact semC.of call_int1 (.inl ⟨_, rfl, hr _ w rfl (.refl S) (.int _)⟩)
  · cases r with
    | cons r1 r2 =>
      cases r2
      cases r1
      exact semC.of call_int1 (.inr ⟨_, rfl, hr _ w rfl (.refl S) (.int _)⟩)
  · cases r with
    | cons r1 r2 =>
      cases r2
      split at hr
      · rename_i e
        obtain ⟨q, vs, rfl, q1, rr⟩ := view_lst S r1 e
        exact semC.of call_list_of ⟨q, vs, rfl, .inl q1, Ret.mkL S rr hr⟩
      · rename_i e
        obtain ⟨q, vs, rfl, q1, rr⟩ := view_tup S r1 e
        exact semC.of call_list_of ⟨q, vs, rfl, .inr q1, Ret.mkL S rr hr⟩
      · rename_i e
        obtain ⟨q, vs, rfl, q1, rr⟩ := view_dic S r1 e
        exact semC.of (call_listD (hc rfl)) ⟨q, vs, rfl, q1, Ret.mkL S rr.keyV hr⟩
      · exact hr.elim
  · cases r with
    | cons r1 r2 =>
      cases r2
      split at hr
      · rename_i e
        obtain ⟨q, vs, rfl, q1, rr⟩ := view_dic S r1 e
        exact semC.of call_dictD ⟨q, vs, rfl, q1, ret_new (o := .dK _) S ⟨vs, rfl, rr⟩ hr⟩
      · exact hr.elim
  · cases r with
    | cons r1 r2 =>
      cases r2
      split at hr
      · rename_i e
        obtain ⟨q, vs, rfl, q1, rr⟩ := view_lst S r1 e
        split at hr
        · rename_i i ns en
          obtain rfl := rr.intsOf en
          exact semC.of (cr_max (hc rfl)) ⟨q, i :: ns, rfl, q1, Nat.zero_lt_succ _, fun m h1 h2 => by
            obtain ⟨g1, g2, g3⟩ := max_fold ns i
            have e2 : m = ns.foldl max i := Int.le_antisymm ((List.mem_cons.mp h1).elim (fun e => e ▸ g2) (g3 m)) (h2 _ g1)
            subst e2
            exact hr _ w rfl (.refl S) (.int _)⟩
        · exact hr.elim
      · exact hr.elim
  · cases r with
    | cons r1 r2 =>
      cases r2
      split at hr
      · rename_i e
        obtain ⟨q, vs, rfl, q1, rr⟩ := view_lst S r1 e
        split at hr
        · rename_i ns en
          obtain rfl := rr.intsOf en
          exact semC.of (cr_sum (hc rfl)) ⟨q, ns, rfl, q1, hr _ w rfl (.refl S) (.int _)⟩
        · exact hr.elim
      · exact hr.elim
  · cases r with
    | cons r1 r2 =>
      cases r2
      split at hr
      · rename_i e
        obtain ⟨q, vs, rfl, q1, rr⟩ := view_lst S r1 e
        split at hr
        · rename_i ns en
          obtain rfl := rr.intsOf en
          refine semC.of cr_sortedI ⟨q, ns, rfl, q1, fun ns' p hp hs hf => ?_⟩
          obtain rfl := srtI_eq hp hs
          exact Ret.mkL S (RpA.of_ints _) hr p hf
        · split at hr
          · rename_i hso
            refine semC.of cr_sortedD ⟨q, vs, _, w.G, w.m, rfl, q1, rr, S.sub, hso.1, hso.2.1, hso.2.2.1, fun d hd => ?_, fun p xs' rx hf => Ret.mkL S rx hr p hf⟩
            have := hso.2.2.2 d hd
            omega
          · exact hr.elim
      · rename_i e
        obtain ⟨q, vs, rfl, q1, rr⟩ := view_dic S r1 e
        have hk := rr.keys
        split at hr
        · rename_i hz
          rcases hz.2 with h | h
          · obtain ⟨ks, e1, e2⟩ := keys_str h
            have hkl : ks.length < 64 := by
              have := congrArg List.length e1
              rw [List.length_map, List.length_map] at this
              omega
            refine semC.of (call_sortedD (hc rfl)) ⟨q, vs, ks, rfl, q1, hk.trans e1, hkl, fun ys p hp hs hf => ?_⟩
            rw [e2, srtS_map, ← srtS_eq hp (sorted_pair hs)] at hr
            exact Ret.mkL S (strs_rp ys) hr p hf
          · obtain ⟨ks, e1, e2⟩ := keys_int h
            have hkl : ks.length < 64 := by
              have := congrArg List.length e1
              rw [List.length_map, List.length_map] at this
              omega
            refine semC.of (call_sortedDI (hc rfl)) ⟨q, vs, ks, rfl, q1, hk.trans e1, hkl, fun ys p hp hs hf => ?_⟩
            rw [e2, srtI_map, ← srtI_eq hp hs] at hr
            exact Ret.mkL S (RpA.of_ints ys) hr p hf
        · exact hr.elim
      · rename_i e
        split at hr
        · rename_i l el
          split at hr
          · rename_i hso
            have r1' := view_rp S r1 (by rw [e]; nofun) (by rw [e]; nofun)
            rw [e] at r1'
            cases r1' with
            | obj q =>
              obtain ⟨_, u, hu, vs, rfl, rr⟩ := S.ob _ _ _ el q
              have hk : vs.map (fun p => ofKeyT p.1) = l.map fun p => ofKeyT p.1 := by
                have := congrArg (List.map ofKeyT) rr.keys
                rwa [List.map_map, List.map_map] at this
              refine semC.of (cr_sortedT (hc rfl)) ⟨_, vs, rfl, hu, by rw [hk]; exact hso.2.1, by rw [hk]; exact hso.2.2.1, fun d hd => ?_, fun p out ho hf => ?_⟩
              · rw [hk] at hd
                have := hso.2.2.2 d hd
                omega
              · rw [hk] at ho
                obtain ⟨w', vs', h1, h2, h3, st, ra, rv⟩ := learn_keys S ho
                refine ⟨vs', rv, ?_⟩
                rw [← h1] at hf ⊢
                rw [← h2] at hr
                exact Ret.mkL st.sim ra (Ret.step st hr) p hf
          · exact hr.elim
        · exact hr.elim
      · exact hr.elim
  · cases r with
    | cons r1 r2 =>
      cases r2
      cases r1
      split at hr
      · rename_i hz
        exact semC.of call_str_int ⟨_, rfl, hz, hr _ w rfl (.refl S) (.str _)⟩
      · exact hr.elim
  · cases r with
    | cons r1 r2 =>
      cases r2
      cases r1
      split at hr
      · rename_i n en
        split at hr
        · rename_i hz
          exact semC.of call_int_str ⟨_, n, rfl, en, hz, hr _ w rfl (.refl S) (.int _)⟩
        · exact hr.elim
      · exact hr.elim
  all_goals first | exact hr.elim | cases hb
/-- a built-in name's call -/
theorem ex_bi (b : BI) (lv : Bool) {x : Str} {r : R (List Dt)} (hb : biPl b = true) (hc : biCalm b = true → X.calm = true) (hu : X.A.units + 65 < cLine) (hx : x = Str.ofString (biNm b)) (hm : X.mg x = none) (hg : Glo X x) (ha : AX X tb W (e :: es) l s r)
    (he : starEach (e :: es) X.env = (false, eval e X.env) :: starEach es X.env) (hpl : (backTo pos (starEach es X.env)).any (·.1) = false) : EX X tb W (.Call (.Name x p) (e :: es) [] pos) l s (r.bind fun as s => biS b lv as s) := by
  have go : GO X.K tb W (RV X.K) (tCB (semC X (biVal b)) (semA X (e :: es))) l s (r.bind fun as s => biS b lv as s) := fun w0 w σ Q F hs hr => ha.go.bind F hs hr fun xs w1 ds e1 st1 rx hr => ok_bi b lv hb hc hu st1.sim rx hr
  subst hx
  cases b with
  | abs => exact ex_of (pe_callB (cr_sem _) hg.gl hm (by decide +kernel) (pa_sem (e :: es)) hg.nn hg.d1 he hpl) go
  | len => exact ex_of (pe_callB (cr_sem _) hg.gl hm (by decide +kernel) (pa_sem (e :: es)) hg.nn hg.d1 he hpl) go
  | mx => exact ex_of (pe_callB (cr_sem _) hg.gl hm (by decide +kernel) (pa_sem (e :: es)) hg.nn hg.d1 he hpl) go
  | mn => exact ex_of (pe_callB (cr_sem _) hg.gl hm (by decide +kernel) (pa_sem (e :: es)) hg.nn hg.d1 he hpl) go
  | int => exact ex_of (pe_callTy (cr_sem _) hg.gl hm (by decide +kernel) (pa_sem (e :: es)) hg.nn hg.d1 he hpl) go
  | list => exact ex_of (pe_callTy (cr_sem _) hg.gl hm (by decide +kernel) (pa_sem (e :: es)) hg.nn hg.d1 he hpl) go
  | sum => exact ex_of (pe_callB (cr_sem _) hg.gl hm (by decide +kernel) (pa_sem (e :: es)) hg.nn hg.d1 he hpl) go
  | sorted => exact ex_of (pe_callB (cr_sem _) hg.gl hm (by decide +kernel) (pa_sem (e :: es)) hg.nn hg.d1 he hpl) go
  | dict => exact ex_of (pe_callTy (cr_sem _) hg.gl hm (by decide +kernel) (pa_sem (e :: es)) hg.nn hg.d1 he hpl) go
  | str => exact ex_of (pe_callTy (cr_sem _) hg.gl hm (by decide +kernel) (pa_sem (e :: es)) hg.nn hg.d1 he hpl) go
  | _ => cases hb
/-! ## sorted(set(texts)), len(set(texts)) -/
theorem mem_nubS {x : Str} : ∀ l : List Str, x ∈ nubS l ↔ x ∈ l
  | [] => Iff.rfl
  | y :: r => by
    unfold nubS
    split
    · rename_i h
      rw [mem_nubS r, List.mem_cons]
      exact ⟨.inr, fun z => z.elim (fun e => e ▸ h) id⟩
    · rw [List.mem_cons, List.mem_cons, mem_nubS r]
theorem nd_nubS : ∀ l : List Str, (nubS l).Nodup
  | [] => List.nodup_nil
  | y :: r => by
    unfold nubS
    split
    · exact nd_nubS r
    · rename_i h
      exact List.nodup_cons.mpr ⟨fun z => h ((mem_nubS r).mp z), nd_nubS r⟩
theorem nub_perm {P : Program} {w : World} {D : PySem.Froz.SD} {xs l : List Str} (F : TxR P w D l) (g : GotS xs xs.length l) : l.Perm (nubS xs) :=
  (List.perm_ext_iff_of_nodup F.nd (nd_nubS xs)).mpr fun x => by rw [g.mem, List.take_length, mem_nubS]
def tSst (K : PySem.W.Frag) (ta : TE) : TE := fun σ H Q => ta σ H fun x H1 => ∃ (l : Addr) (xs : List Str), x = V.ref l ∧ SqL K H1 l (xs.map V.str) ∧ xs.length < 4000 ∧
  ∀ (ys : List Str) (p : Addr), ys.Perm (nubS xs) → PyProof.Rows.sortedS ys = true → H1 p = none → Q (.ref p) (upd H1 p (.lst (ys.map V.str)))
def tSln (K : PySem.W.Frag) (ta : TE) : TE := fun σ H Q => ta σ H fun x H1 => ∃ (l : Addr) (xs : List Str), x = V.ref l ∧ SqL K H1 l (xs.map V.str) ∧ xs.length < 4000 ∧ Q (.int ((nubS xs).length : Nat)) H1
theorem pe_sst {a : Expr} {ta : TE} {p p2 q pos : Pos} (hc : X.calm = true) (hg : Gl X "sorted") (hm : X.mg "sorted" = none) (hg2 : Gl X "set") (hm2 : X.mg "set" = none) (ha : PE X a ta)
    (na : ∀ es, starEach (a :: es) X.env = (false, eval a X.env) :: starEach es X.env) : PE X (.Call (.Name "sorted" p) [.Call (.Name "set" p2) [a] [] q] [] pos) (tSst X.K ta) := by
  refine ⟨fun pins s σ H Q I h => ?_⟩
  refine PyProof.Rows.Call_ (ld_blt I hg hm PyProof.Rows.boot_sorted ?_)
  refine PyProof.Rows.callWith_builtin1 (PyProof.Rows.args_cons ?_ rfl) rfl rfl
  refine PyProof.Rows.Call_ (ld_blt I hg2 hm2 PyProof.Rows.boot_set ?_)
  refine PyProof.Rows.callWith_type1 (PyProof.Rows.args_cons (thn (ha.run pins s σ H _ I h) fun v s1 ⟨x, H1, I1, r1, q1⟩ => PyProof.Rows.args_nil ?_) (na [])) (na []) rfl
  obtain ⟨l, xs, rfl, hq, h1, q1⟩ := q1
  cases r1
  obtain ⟨its, r, pl, hz⟩ := I1.list hq
  refine call_set_tx (P := X.prog) (w := X.w) xs (I1.ok.hd hc) pl.isList (by simpa using r.strs) (by unfold scanBound; omega) fun h' tk D l' hS hF hG hk => ?_
  refine PyProof.Rows.args_nil ?_
  have I2 : Inv X pins σ H1 { s1 with heap := h', toks := tk } := I1.kept hk
  have hl4 : l'.length < scanBound := by
    have := hG.len
    unfold scanBound
    omega
  refine sorted_tx (P := X.prog) (w := X.w) (s := { s1 with heap := h', toks := tk }) hS hF (I2.ok.hd hc) hl4 fun s' p out c ys k g o hp hgt hi hpm hsrt => ?_
  have hn : H1 p = none := I2.hok.fresh hp
  have hlen : (ys.map V.str).length ≤ sizeLine := by rw [List.length_map, hpm.length_eq]; exact fits_of_scanBound hl4
  have J : Inv X pins σ (upd H1 p (.lst (ys.map V.str))) { ({ s1 with heap := h', toks := tk } : Shared) with heap := s'.heap, gens := s'.gens, drawn := s'.drawn, toks := s'.toks } :=
    I2.call (ch := []) (Un.laid k hp hn) (I2.hok.laid k hp ⟨hlen, out.toList, c, vals_of_strs hi, hgt⟩) (by rw [g]; exact I2.bare) (fun _ z => nomatch z)
  have e : s' = { ({ s1 with heap := h', toks := tk } : Shared) with heap := s'.heap, gens := s'.gens, drawn := s'.drawn, toks := s'.toks } := by
    cases s'
    cases s1
    cases o
    rfl
  rw [e]
  exact ⟨.ref p, _, J, rfl, q1 ys p (hpm.trans (nub_perm hF hG)) hsrt hn⟩
theorem pe_sln {a : Expr} {ta : TE} {p p2 q pos : Pos} (hc : X.calm = true) (hg : Gl X "len") (hm : X.mg "len" = none) (hg2 : Gl X "set") (hm2 : X.mg "set" = none) (ha : PE X a ta)
    (na : ∀ es, starEach (a :: es) X.env = (false, eval a X.env) :: starEach es X.env) : PE X (.Call (.Name "len" p) [.Call (.Name "set" p2) [a] [] q] [] pos) (tSln X.K ta) := by
  refine ⟨fun pins s σ H Q I h => ?_⟩
  refine PyProof.Rows.Call_ (ld_blt I hg hm PySem.boot_len ?_)
  refine PyProof.Rows.callWith_builtin1 (PyProof.Rows.args_cons ?_ rfl) rfl rfl
  refine PyProof.Rows.Call_ (ld_blt I hg2 hm2 PyProof.Rows.boot_set ?_)
  refine PyProof.Rows.callWith_type1 (PyProof.Rows.args_cons (thn (ha.run pins s σ H _ I h) fun v s1 ⟨x, H1, I1, r1, q1⟩ => PyProof.Rows.args_nil ?_) (na [])) (na []) rfl
  obtain ⟨l, xs, rfl, hq, h1, q1⟩ := q1
  cases r1
  obtain ⟨its, r, pl, hz⟩ := I1.list hq
  refine call_set_tx (P := X.prog) (w := X.w) xs (I1.ok.hd hc) pl.isList (by simpa using r.strs) (by unfold scanBound; omega) fun h' tk D l' hS hF hG hk => ?_
  refine PyProof.Rows.args_nil ?_
  have I2 : Inv X pins σ H1 { s1 with heap := h', toks := tk } := I1.kept hk
  have hsz : D.1.size = l'.length := hF.ok.sz
  have hnl := (nub_perm hF hG).length_eq
  have := hG.len
  refine PySem.call_len_set (s := { s1 with heap := h', toks := tk }) hS ⟨rfl, rfl, rfl⟩ rfl hF.ok.fit (by omega) ?_
  exact ⟨.int ((nubS xs).length : Nat), H1, I2.tok _, ⟨_, by rw [hsz, hnl]⟩, q1⟩
theorem ex_sst {lv : Bool} {p1 p2 p3 : Pos} {r : R Dt} (hc : X.calm = true) (hm : X.mg "sorted" = none) (hm2 : X.mg "set" = none) (hg : Glo X "sorted") (hg2 : Glo X "set") (ha : EX X tb W e l s r) (he : ∀ es, starEach (e :: es) X.env = (false, eval e X.env) :: starEach es X.env) :
    EX X tb W (.Call (.Name "sorted" p) [.Call (.Name "set" p1) [e] [] p2] [] p3) l s (r.bind fun d s => sstS lv d s) :=
  ex_of (pe_sst hc hg.gl hm hg2.gl hm2 (pe_sem e) he) fun w0 w σ Q F hs hr => ha.go.bind F hs hr fun x w1 d e1 st1 rx hr => by
    unfold sstS at hr
    split at hr
    · rename_i e2
      obtain ⟨q, vs, rfl, q1, rr⟩ := view_lst st1.sim rx e2
      split at hr
      · rename_i xs en
        obtain rfl := rr.strsOf en
        split at hr
        · rename_i hz
          refine ⟨q, xs, rfl, q1, hz, fun ys p hp hs hf => ?_⟩
          rw [← srtS_eq hp (sorted_pair hs)] at hr
          exact Ret.mkL st1.sim (strs_rp ys) hr p hf
        · exact hr.elim
      · exact hr.elim
    · exact hr.elim
theorem ex_sln {p1 p2 p3 : Pos} {r : R Dt} (hc : X.calm = true) (hm : X.mg "len" = none) (hm2 : X.mg "set" = none) (hg : Glo X "len") (hg2 : Glo X "set") (ha : EX X tb W e l s r) (he : ∀ es, starEach (e :: es) X.env = (false, eval e X.env) :: starEach es X.env) :
    EX X tb W (.Call (.Name "len" p) [.Call (.Name "set" p1) [e] [] p2] [] p3) l s (r.bind fun d s => slnS d s) :=
  ex_of (pe_sln hc hg.gl hm hg2.gl hm2 (pe_sem e) he) fun w0 w σ Q F hs hr => ha.go.bind F hs hr fun x w1 d e1 st1 rx hr => by
    unfold slnS at hr
    split at hr
    · rename_i e2
      obtain ⟨q, vs, rfl, q1, rr⟩ := view_lst st1.sim rx e2
      split at hr
      · rename_i xs en
        obtain rfl := rr.strsOf en
        split at hr
        · rename_i hz
          exact ⟨q, xs, rfl, q1, hz, hr _ w1 rfl (.refl st1.sim) (.int _)⟩
        · exact hr.elim
      · exact hr.elim
    · exact hr.elim
/-! ## isinstance -/
def tyStr : Ty → String
  | .non => "NoneType" | .bool => "bool" | .int => "int" | .str => "str" | .tup => "tuple" | .lst => "list" | .dic => "dict"
theorem tyX_sq {K : PySem.W.Frag} {H : Hp} {a : Addr} {vs : List V} (q : SqL K H a vs) : TyX K H (.ref a) (.type "list") := by
  rcases q with (z | ⟨o, z⟩) | ⟨o, its, n, z, c, _⟩
  · exact .base (.lst z)
  · exact .base (.frz z)
  · exact .kList z c
theorem tyX_tq {K : PySem.W.Frag} {H : Hp} {a : Addr} {vs : List V} (q : SqT K H a vs) : TyX K H (.ref a) (.type "tuple") := by
  rcases q with (z | ⟨o, z⟩) | ⟨o, its, n, z, c, _⟩
  · exact .base (.tup z)
  · exact .fTuple z
  · exact .kTuple z c
theorem tyX_of {K : PySem.W.Frag} {w : Wd} {x : V} {d : Dt} {t : Ty} (S : Sim K tb w) (r : Rp K w.G w.m x d) (h : tyOf (view w.s d) = some t) : TyX K w.H x (.type (tyStr t)) := by
  cases e : view w.s d with
  | non => rw [e] at h; cases h; obtain rfl := view_non S r e; exact .base .non
  | bl b => rw [e] at h; cases h; obtain rfl := view_bl S r e; exact .base (.bl b)
  | int b => rw [e] at h; cases h; obtain rfl := view_int S r e; exact .base (.int b)
  | str b => rw [e] at h; cases h; obtain rfl := view_str S r e; exact .base (.str b)
  | tup b => rw [e] at h; cases h; obtain ⟨a, vs, rfl, q, _⟩ := view_tup S r e; exact tyX_tq q
  | lst b => rw [e] at h; cases h; obtain ⟨a, vs, rfl, q, _⟩ := view_lst S r e; exact tyX_sq q
  | dic b => rw [e] at h; cases h
  | obj b => rw [e] at h; cases h
theorem kit_all (t n : Ty) (ht : t ≠ .dic) : kitB (tyStr t) (tyStr n) = some (subTy t n) := by
  cases t <;> cases n <;> first | exact absurd rfl ht | decide +kernel
theorem bt_ty (n : Ty) (h : n ≠ .non) : bootBuiltins (Str.ofString (tyStr n)) = some (.type (tyStr n)) := by
  cases n <;> first | exact absurd rfl h | decide +kernel
theorem tyOf_dic {d : Dt} {t : Ty} (h : tyOf d = some t) : t ≠ .dic := by cases d <;> cases h <;> decide
theorem ex_isT {n : Ty} {x : Str} {p1 : Pos} {r : R Dt} (hn : n ≠ .non) (hx : x = Str.ofString (tyStr n)) (hm : X.mg "isinstance" = none) (hmx : X.mg x = none) (hg : Glo X "isinstance") (hg2 : Glo X x) (ha : EX X tb W e l s r) (he : ∀ es, starEach (e :: es) X.env = (false, eval e X.env) :: starEach es X.env) :
    EX X tb W (.Call (.Name "isinstance" p) [e, .Name x p1] [] pos) l s (r.bind fun d s => isTS n d s) := by
  subst hx
  refine ex_of (pe_callB call_isi hg.gl hm (by decide +kernel) (pa_cons (pe_sem e) (pa_cons (pe_bltn hg2.gl hmx (bt_ty n hn) (v := .ty (tyStr n)) rfl hg2.nn hg2.d1) pa_nil rfl) (he _)) hg.nn hg.d1 (he _) rfl) fun w0 w σ Q F hs hr => ha.go.bind F hs hr fun x w1 d e1 st1 rx hr => ?_
  unfold isTS at hr
  cases e2 : tyOf (view w1.s d) with
  | none => rw [e2] at hr; exact hr.elim
  | some t =>
    rw [e2, withO_some] at hr
    exact ⟨_, _, _, _, _, rfl, .ty _, tyX_of st1.sim rx e2, kit_ty (kit_all t n (tyOf_dic e2)), hr _ w1 rfl (.refl st1.sim) (.bl _)⟩
/-! ## methods -/
def mtNm : MI → String
  | .append => "append" | .insert => "insert" | .reverse => "reverse" | .pop0 => "pop" | .pop1 => "pop" | .clear => "clear" | .index => "index" | .get1 => "get" | .get2 => "get" | .setd => "setdefault" | .join => "join" | .split => "split" | .part => "partition" | .upper => "upper"
def mtT : MI → String
  | .get1 | .get2 | .setd | .pop1 => "dict"
  | .join | .split | .part | .upper => "str"
  | _ => "list"
def mtId : MI → String
  | .append => "list.append" | .insert => "list.insert" | .reverse => "list.reverse" | .clear => "list.clear" | .index => "list.index"
  | .get2 => "dict.get" | .pop1 => "dict.pop" | .join => "str.join" | .split => "str.split" | .part => "str.partition" | .upper => "str.upper" | _ => ""
/-- methods with arguments, without -/
def mt1 : MI → Bool
  | .append | .insert | .index | .get2 | .pop1 | .join | .split | .part => true
  | _ => false
def mt0 : MI → Bool
  | .reverse | .clear | .upper => true
  | _ => false
def mtOk (m : MI) : Bool := mt1 m || mt0 m
theorem rcv_ty {m : MI} {w : Wd} {x : V} {d : Dt} (hm : mtOk m = true) (S : Sim X.K tb w) (r : Rp X.K w.G w.m x d) (h : rcv m d w.s = true) : tyV X.K (mtT m) x w.H := by
  have lst : (∃ ds, view w.s d = .lst ds) → tyV X.K "list" x w.H := fun ⟨ds, e⟩ => by
    obtain ⟨a, vs, rfl, q, _⟩ := view_lst S r e
    exact .inl ⟨rfl, vs, q⟩
  have str : (∃ z, view w.s d = .str z) → tyV X.K "str" x w.H := fun ⟨ds, e⟩ => by
    obtain rfl := view_str S r e
    exact rfl
  have dic : rcv .get1 d w.s = true → tyV X.K "dict" x w.H := fun h => by
    unfold rcv at h
    dsimp only at h
    cases r with
    | dic q r => exact .inr (.inr (.inl ⟨rfl, .inl ⟨_, S.sub _ _ q⟩⟩))
    | obj q =>
      dsimp only at h
      split at h
      · rename_i e
        obtain ⟨_, u, hu, vs, rfl, r⟩ := S.ob _ _ _ e q
        exact .inr (.inr (.inl ⟨rfl, .inl ⟨_, hu⟩⟩))
      · rename_i e
        obtain ⟨_, u, hu, vs, rfl, r⟩ := S.ob _ _ _ e q
        exact .inr (.inr (.inl ⟨rfl, .inr ⟨_, hu⟩⟩))
      · rename_i e
        have z := S.ob _ _ _ e q
        cases z with
        | dic q r => exact .inr (.inr (.inl ⟨rfl, .inl ⟨_, S.sub _ _ q⟩⟩))
      · cases h
    | _ => cases h
  cases m with
  | append => exact lst (by unfold rcv at h; dsimp only at h; split at h; exact ⟨_, by assumption⟩; cases h)
  | insert => exact lst (by unfold rcv at h; dsimp only at h; split at h; exact ⟨_, by assumption⟩; cases h)
  | reverse => exact lst (by unfold rcv at h; dsimp only at h; split at h; exact ⟨_, by assumption⟩; cases h)
  | clear => exact lst (by unfold rcv at h; dsimp only at h; split at h; exact ⟨_, by assumption⟩; cases h)
  | index => exact lst (by unfold rcv at h; dsimp only at h; split at h; exact ⟨_, by assumption⟩; cases h)
  | join => exact str (by unfold rcv at h; dsimp only at h; split at h; exact ⟨_, by assumption⟩; cases h)
  | split => exact str (by unfold rcv at h; dsimp only at h; split at h; exact ⟨_, by assumption⟩; cases h)
  | part => exact str (by unfold rcv at h; dsimp only at h; split at h; exact ⟨_, by assumption⟩; cases h)
  | upper => exact str (by unfold rcv at h; dsimp only at h; split at h; exact ⟨_, by assumption⟩; cases h)
  | get2 => exact dic h
  | pop1 => exact dic h
  | _ => cases hm
theorem live_lst {w : Wd} {x : V} {n : Nat} {ds : List Dt} (S : Sim X.K tb w) (r : Rp X.K w.G w.m x (.obj n)) (e : w.s[n]? = some (.lst ds)) : ∃ a vs, x = .ref a ∧ w.m[n]? = some a ∧ w.H a = some (.lst vs) ∧ RpA X.K w.G w.m vs ds := by
  cases r with
  | obj q =>
    obtain ⟨_, u, hu, vs, rfl, r⟩ := S.ob n _ _ e q
    exact ⟨_, vs, rfl, q, hu, r⟩
theorem live_dK {w : Wd} {x : V} {n : Nat} {ds : List (Key × Dt)} (S : Sim X.K tb w) (r : Rp X.K w.G w.m x (.obj n)) (e : w.s[n]? = some (.dK ds)) : ∃ a vs, x = .ref a ∧ w.m[n]? = some a ∧ w.H a = some (.dK vs) ∧ RpK X.K w.G w.m vs ds := by
  cases r with
  | obj q =>
    obtain ⟨_, u, hu, vs, rfl, r⟩ := S.ob n _ _ e q
    exact ⟨_, vs, rfl, q, hu, r⟩
theorem RpK.del {K : PySem.W.Frag} {G : Hp} {m : List Addr} (k : Key) : ∀ {vs : List (Key × V)} {ds : List (Key × Dt)}, RpK K G m vs ds → RpK K G m (dropK vs k) (delK ds k)
  | _, _, .nil => .nil
  | _, _, .cons (k := j) r t => by
    have ih := RpK.del k t
    unfold dropK delK at *
    by_cases e : j = k
    · rw [List.filter_cons_of_neg (by simpa using e), List.filter_cons_of_neg (by simpa using e)]
      exact ih
    · rw [List.filter_cons_of_pos (by simpa using e), List.filter_cons_of_pos (by simpa using e)]
      exact .cons r ih
theorem live_dT {w : Wd} {x : V} {n : Nat} {ds : List (List Key × Dt)} (S : Sim X.K tb w) (r : Rp X.K w.G w.m x (.obj n)) (e : w.s[n]? = some (.dT ds)) : ∃ a vs, x = .ref a ∧ w.m[n]? = some a ∧ w.H a = some (.dT vs) ∧ RpT X.K w.G w.m vs ds := by
  cases r with
  | obj q =>
    obtain ⟨_, u, hu, vs, rfl, r⟩ := S.ob n _ _ e q
    exact ⟨_, vs, rfl, q, hu, r⟩
theorem RpT.del {K : PySem.W.Frag} {G : Hp} {m : List Addr} (k : List Key) : ∀ {vs : List (List Key × V)} {ds : List (List Key × Dt)}, RpT K G m vs ds → RpT K G m (dropK vs k) (delK ds k)
  | _, _, .nil => .nil
  | _, _, .cons (k := j) r t => by
    have ih := RpT.del k t
    unfold dropK delK at *
    by_cases e : j = k
    · rw [List.filter_cons_of_neg (by simpa using e), List.filter_cons_of_neg (by simpa using e)]
      exact ih
    · rw [List.filter_cons_of_pos (by simpa using e), List.filter_cons_of_pos (by simpa using e)]
      exact .cons r ih
/-- d.pop(k), tuple keys, there -/
theorem d_popT {pins : List (Addr × Obj)} {s : Shared} {σ : L2.St} {H : Hp} {A : Around} {E : Value → Shared → Prop} {a b : Addr} {kvs : List (List Key × V)} {k : List Key} {v : V} {Q : Value → Shared → Prop} (hu : A.units + 1 < cLine) (I : Inv X pins σ H s) (e : H a = some (.dT kvs)) (hb : H b = some (.tup (k.map kV))) (l : valV kvs k = some v)
    (h : ∀ w' s', Inv X pins σ (upd H a (.dT (dropK kvs k))) s' → RelV v w' → Q w' s') : wpAny (model X.prog X.w) A (call (.builtin "dict.pop") [.ref a, .ref b]) Q E s := by
  obtain ⟨z, hd, xs', rel, dd⟩ := dt_of I.hok e
  have hz : xs'.length ≤ sizeLine := by rw [← Paired.length rel]; exact z
  obtain ⟨p, hp, rv⟩ : ∃ p, atKey xs' k = some p ∧ RelV v p.2 := by
    have r := rel.val k
    rw [l] at r
    cases ea : atKey xs' k with
    | none => rw [ea] at r; exact (show False from r).elim
    | some p => rw [ea] at r; exact ⟨p, rfl, r⟩
  refine PySem.call_pop_heap (knd := tupleKind (mixKind X.prog X.w)) (.inl rfl) (PySem.F.args_dict_pop_2 _ _) (tupleKind_room_in1 hu) (key_of I.hok hb) hd dd hp (fun h' dd' hs => ?_) hz
  obtain ⟨o, es, ep, hq, h2, h3, h4, _, h5⟩ := dd'
  exact h p.2 _ (d_write I (by rw [e]; exact True.intro) hs ⟨o, hq⟩ ⟨Nat.le_trans (dropK_le kvs k) z, hd, _, (L2.DX.KT_drop k rel).keeps (fun c ys ec => (by rw [upd_ne (ne_of ec e (fun z => nomatch z))]; exact ec)), o, es, ep, hq, h2, h3, h4, h5⟩) rv
theorem ok_mt (m : MI) (hm : mtOk m = true) (hu : X.A.units + 65 < cLine) {w : Wd} {σ : L2.St} {x : V} {d : Dt} {xs : List V} {as : List Dt} {Q : VK} (S : Sim X.K tb w) (rx : Rp X.K w.G w.m x d) (r : RpA X.K w.G w.m xs as) (hr : Ret X.K tb W (RV X.K) σ w Q (mtS m d as w.s)) : semM X (mtId m) x xs w.H Q := by
  unfold mtS at hr
  split at hr
  · split at hr
    · rename_i ds e
      split at hr
      · rename_i hz
        obtain ⟨a, vs, rfl, q, hu, rr⟩ := live_lst S rx e
        cases r with
        | cons r1 r2 =>
          cases r2
          exact semM.of mt_append ⟨a, vs, _, rfl, rfl, hu, by rw [rr.length]; exact hz, hr .non ⟨w.G, upd w.H a (.lst (vs ++ [_])), w.m, _⟩ rfl (Stp.put S e q rfl ⟨_, rfl, rr.append (.cons r1 .nil)⟩) .non⟩
      · exact hr.elim
    · exact hr.elim
  · split at hr
    · rename_i ds e
      split at hr
      · rename_i hz
        obtain ⟨a, vs, rfl, q, hu, rr⟩ := live_lst S rx e
        cases r with
        | cons r1 r2 =>
          cases r2 with
          | cons r3 r4 =>
            cases r4
            have hN : ds.length < 2 ^ 62 := by
              have := hz.1
              rw [sizeLine_eq] at this
              omega
            cases r1
            exact semM.of mt_insert ⟨a, vs, _, _, rfl, rfl, hu, by rw [rr.length]; exact hz.1, hz.2.1, by have := hz.2.2; omega, hr .non ⟨w.G, upd w.H a (.lst (vs.take _ ++ [_] ++ vs.drop _)), w.m, _⟩ rfl (Stp.put S e q rfl ⟨_, rfl, ((rr.take _).append (.cons r3 .nil)).append (rr.drop _)⟩) .non⟩
      · exact hr.elim
    · exact hr.elim
  · split at hr
    · rename_i ds e
      obtain ⟨a, vs, rfl, q, hu, rr⟩ := live_lst S rx e
      cases r
      exact semM.of mt_reverse ⟨a, vs, rfl, rfl, hu, hr .non ⟨w.G, upd w.H a (.lst vs.reverse), w.m, _⟩ rfl (Stp.put S e q rfl ⟨_, rfl, rr.rev⟩) .non⟩
    · exact hr.elim
  · split at hr
    · rename_i ds e
      obtain ⟨a, vs, rfl, q, hu, rr⟩ := live_lst S rx e
      cases r
      exact semM.of mt_clear ⟨a, vs, rfl, rfl, hu, hr .non ⟨w.G, upd w.H a (.lst []), w.m, _⟩ rfl (Stp.put S e q rfl ⟨_, rfl, .nil⟩) .non⟩
    · exact hr.elim
  · split at hr
    · rename_i o eo
      cases r with
      | cons r1 r2 => cases r2 with
        | cons r3 r4 =>
          cases r4
          obtain ⟨a, ov, rfl, g, ro⟩ := dGet_ok S rx r1 eo
          intro pins s σ v us I rv ru
          obtain rfl : v = Value.ref a := rv
          cases ru with
          | cons u1 u2 => cases u2 with
            | cons u3 u4 =>
              cases u4
              refine d_get2 (by omega) I g u1 u3 fun w' s' I' rw' => ⟨_, w.H, I', rw', hr _ w rfl (.refl S) ?_⟩
              cases o with
              | none => rw [ro.non]; exact r3
              | some d =>
                obtain ⟨z, rfl, rz⟩ := ro.get
                exact rz
    · exact hr.elim
  · split at hr
    · rename_i ds e
      cases r with
      | cons r1 r2 =>
        cases r2
        obtain ⟨a, vs, rfl, q, hu, rr⟩ := live_dK S rx e
        split at hr
        · rename_i kk ek
          split at hr
          · rename_i dv ev
            have lk := rr.look kk
            rw [ev] at lk
            obtain ⟨z, ez, rz⟩ := lk.get
            have stp := Stp.put (o' := .dK (delK ds kk)) S e q rfl ⟨_, rfl, rr.del kk⟩
            have hk := keyOf_rp r1 ek
            intro pins s σ v us I rv ru
            obtain rfl : v = Value.ref a := rv
            cases ru with
            | cons u1 u2 =>
              cases u2
              rw [hk] at u1
              exact d_pop I hu u1 ez (.inl rfl) fun w' s' I' rw' => ⟨z, _, I', rw', hr z ⟨w.G, upd w.H a (.dK (dropK vs kk)), w.m, _⟩ rfl stp rz⟩
          · exact hr.elim
        · exact hr.elim
    · rename_i ds e
      cases r with
      | cons r1 r2 =>
        cases r2
        obtain ⟨a, vs, rfl, q, hu', rr⟩ := live_dT S rx e
        split at hr
        · rename_i kk ek
          split at hr
          · rename_i dv ev
            have lk := rr.look kk
            rw [ev] at lk
            obtain ⟨z, ez, rz⟩ := lk.get
            have stp := Stp.put (o' := .dT (delK ds kk)) S e q rfl ⟨_, rfl, rr.del kk⟩
            obtain ⟨b, rfl, hb, _⟩ := tkeyOf_rp S r1 ek
            intro pins s σ v us I rv ru
            obtain rfl : v = Value.ref a := rv
            cases ru with
            | cons u1 u2 =>
              cases u2
              cases u1
              exact d_popT (by omega) I hu' hb ez fun w' s' I' rw' => ⟨z, _, I', rw', hr z ⟨w.G, upd w.H a (.dT (dropK vs kk)), w.m, _⟩ rfl stp rz⟩
          · exact hr.elim
        · exact hr.elim
    · exact hr.elim
  · split at hr
    · rename_i ds e
      split at hr
      · rename_i c
        split at hr
        · rename_i j ej
          cases r with
          | cons r1 r2 =>
            cases r2
            obtain ⟨d1, h1⟩ := okEq_dp S rx (by rw [e]; exact c.1)
            obtain ⟨d2, h2⟩ := okEq_dp S r1 c.2
            rw [e] at d1 h1
            obtain ⟨a, vs, rfl, _, _⟩ := view_lst S rx e
            obtain ⟨hj, hp, hn⟩ := List.findIdx?_eq_some_iff_getElem.mp ej
            refine semM.of (mt_indexD hu) ⟨a, _, _, _, j, _, rfl, rfl, d1, d2, h1, h2, List.getElem?_eq_getElem hj, hp, fun i z' hi ez => ?_, hr _ w rfl (.refl S) (.int _)⟩
            obtain ⟨hi2, rfl⟩ := List.getElem?_eq_some_iff.mp ez
            have := hn i hi
            simpa using this
        · exact hr.elim
      · exact hr.elim
    · exact hr.elim
  · split at hr
    · rename_i ds e
      split at hr
      · rename_i ys ey
        split at hr
        · rename_i hz
          cases r with
          | cons r1 r2 =>
            cases r2
            obtain ⟨a, vs, rfl, q1, rr⟩ := view_lst S r1 e
            rw [rr.strsOf ey] at q1
            cases rx
            exact semM.of mt_join ⟨_, a, ys, rfl, rfl, .inl q1, hz, hr _ w rfl (.refl S) (.str _)⟩
        · exact hr.elim
      · exact hr.elim
    · exact hr.elim
  · split at hr
    · rename_i hz
      cases r with
      | cons r1 r2 =>
        cases r2
        cases rx
        cases r1
        exact semM.of mt_split ⟨_, _, rfl, rfl, hz.1, hz.2, Ret.laid S (strs_rp _) hr⟩
    · exact hr.elim
  · split at hr
    · rename_i hz
      cases r with
      | cons r1 r2 =>
        cases r2
        cases rx
        cases r1
        exact semM.of mt_partition ⟨_, _, rfl, rfl, hz.1, hz.2, Ret.laidT S (.cons (.str _) (.cons (.str _) (.cons (.str _) .nil))) hr⟩
    · exact hr.elim
  · split at hr
    · rename_i hz
      cases r
      cases rx
      exact semM.of mt_upper ⟨_, rfl, rfl, hz, hr _ w rfl (.refl S) (.str _)⟩
    · exact hr.elim
  · exact hr.elim
theorem any_backTo (ts : List (Bool × Sem Value)) : (backTo pos ts).any (·.1) = ts.any (·.1) := by
  unfold backTo
  rw [List.any_map]
  rfl
theorem go_bm {m : MI} {r : R Dt} {rs : Sto → R (List Dt)} (hm : mtOk m = true) (hu : X.A.units + 65 < cLine) (ho : EX X tb W o l s r) (ha : ∀ s, AX X tb W es l s (rs s)) :
    GO X.K tb W (RV X.K) (tBM X.K (mtT m) (semM X (mtId m)) (semE X o) (semA X es)) l s (r.bind fun x s => if rcv m x s = true then (rs s).bind fun as s => mtS m x as s else .no) := fun w0 w σ Q F hs hr => ho.go.bind F hs hr fun x w1 d e1 st1 rx hr => by
  by_cases hc : rcv m d w1.s = true
  · rw [if_pos hc] at hr
    exact ⟨rcv_ty hm st1.sim rx hc, (ha _).go.bind (F.step st1) rfl hr fun xs w2 ds e2 st2 ra hr => ok_mt m hm hu st2.sim (rx.up st2.g st2.pre) ra hr⟩
  · rw [if_neg hc] at hr
    exact hr.elim
theorem ex_mtL {m : MI} {x : Str} {p2 p3 : Pos} {r : R Dt} {rs : Sto → R (List Dt)} (hm : mt1 m = true) (hu : X.A.units + 65 < cLine) (hx : x = Str.ofString (mtNm m)) (ho : EX X tb W o l s r) (ha : ∀ s, AX X tb W (e :: es) l s (rs s))
    (hbase : attributeBase o x X.env (eval o X.env) = eval o X.env) (hfew : ((backTo p3 (starEach (e :: es) X.env)).all (fun x => !x.1) && (backToKw p3 (keywordEach [] X.env)).all (fun x => x.1.isSome)
      && decide ((e :: es).length + ([] : List Keyword).length + (if ([] : List Keyword).isEmpty then 0 else 1) < 30)) = true)
    (hline : (p2.endLine == p3.line) = true) (h1 : starEach (e :: es) X.env = (false, eval e X.env) :: starEach es X.env) (h2 : (backTo p3 (starEach es X.env)).any (·.1) = false) :
    EX X tb W (.Call (.Attribute o x p2) (e :: es) [] p3) l s (r.bind fun x s => if rcv m x s = true then (rs s).bind fun as s => mtS m x as s else .no) := by
  subst hx
  have go := go_bm (m := m) (by unfold mtOk; rw [hm]; rfl) hu ho ha
  cases m with
  | append => exact ex_of (pe_bm PySem.F.plainAttrs_list PySem.F.slot_list_append PySem.F.type_list_append (mr_sem _) (pe_sem o) (pa_sem (e :: es)) hbase hfew hline h1 h2) go
  | insert => exact ex_of (pe_bm PySem.F.plainAttrs_list PySem.F.slot_list_insert PySem.F.type_list_insert (mr_sem _) (pe_sem o) (pa_sem (e :: es)) hbase hfew hline h1 h2) go
  | index => exact ex_of (pe_bm PySem.F.plainAttrs_list PySem.F.slot_list_index PySem.F.type_list_index (mr_sem _) (pe_sem o) (pa_sem (e :: es)) hbase hfew hline h1 h2) go
  | get2 => exact ex_of (pe_bm PySem.F.plainAttrs_dict PySem.F.slot_dict_get PySem.F.type_dict_get (mr_sem _) (pe_sem o) (pa_sem (e :: es)) hbase hfew hline h1 h2) go
  | pop1 => exact ex_of (pe_bm PySem.F.plainAttrs_dict PySem.F.slot_dict_pop PySem.F.type_dict_pop (mr_sem _) (pe_sem o) (pa_sem (e :: es)) hbase hfew hline h1 h2) go
  | join => exact ex_of (pe_bm PySem.F.plainAttrs_str PySem.F.slot_str_join PySem.F.type_str_join (mr_sem _) (pe_sem o) (pa_sem (e :: es)) hbase hfew hline h1 h2) go
  | split => exact ex_of (pe_bm PySem.F.plainAttrs_str PySem.F.slot_str_split PySem.F.type_str_split (mr_sem _) (pe_sem o) (pa_sem (e :: es)) hbase hfew hline h1 h2) go
  | part => exact ex_of (pe_bm PySem.F.plainAttrs_str PySem.F.slot_str_partition PySem.F.type_str_partition (mr_sem _) (pe_sem o) (pa_sem (e :: es)) hbase hfew hline h1 h2) go
  | _ => cases hm
theorem ex_mtR {m : MI} {x : Str} {p2 p3 : Pos} {r : R Dt} (hm : mt0 m = true) (hu : X.A.units + 65 < cLine) (hx : x = Str.ofString (mtNm m)) (ho : EX X tb W o l s r)
    (hbase : attributeBase o x X.env (eval o X.env) = eval o X.env) (hline : (p2.endLine == p3.line) = true) :
    EX X tb W (.Call (.Attribute o x p2) [] [] p3) l s (r.bind fun x s => if rcv m x s = true then (R.ok [] s).bind fun as s => mtS m x as s else .no) := by
  subst hx
  have hk : mtOk m = true := by unfold mtOk; rw [hm, Bool.or_true]
  have go : GO X.K tb W (RV X.K) (tBM0 X.K (mtT m) (semM X (mtId m)) (semE X o)) l s (r.bind fun x s => if rcv m x s = true then (R.ok [] s).bind fun as s => mtS m x as s else .no) := fun w0 w σ Q F hs hr => ho.go.bind F hs hr fun x w1 d e1 st1 rx hr => by
    by_cases hc : rcv m d w1.s = true
    · rw [if_pos hc, R.bind_ok] at hr
      exact ⟨rcv_ty hk st1.sim rx hc, ok_mt m hk hu st1.sim rx .nil hr⟩
    · rw [if_neg hc] at hr
      exact hr.elim
  cases m with
  | reverse => exact ex_of (pe_bm0 PySem.F.plainAttrs_list PySem.F.slot_list_reverse PySem.F.type_list_reverse (mr_sem _) (pe_sem o) hbase hline) go
  | clear => exact ex_of (pe_bm0 PySem.F.plainAttrs_list PySem.F.slot_list_clear PySem.F.type_list_clear (mr_sem _) (pe_sem o) hbase hline) go
  | upper => exact ex_of (pe_bm0 PySem.F.plainAttrs_str PySem.F.slot_str_upper PySem.F.type_str_upper (mr_sem _) (pe_sem o) hbase hline) go
  | _ => cases hm
end
end Ip

namespace Ip
open PySem L2 PySem.Spec
open PyProof.Rows (envOfC)
section
variable {K : PySem.W.Frag} {tb : List Str} {w w0 w1 w' : Wd}
/-! ## frozen data does not look at the live objects -/
mutual
theorem rp_fr {G : Hp} {m m' : List Addr} : ∀ (d : Dt) (x : V), d.fr = true → Rp K G m x d → Rp K G m' x d
  | .non, _, _, h => by cases h; exact .non
  | .bl b, _, _, h => by cases h; exact .bl b
  | .int i, _, _, h => by cases h; exact .int i
  | .str z, _, _, h => by cases h; exact .str z
  | .obj n, _, f, h => by cases f
  | .tup l, _, f, h => by
    cases h with
    | tup q r z => exact .tup q (rpA_fr l _ f r) z
  | .lst l, _, f, h => by
    cases h with
    | lst q r => exact .lst q (rpA_fr l _ f r)
  | .dic l, _, f, h => by
    cases h with
    | dic q r => exact .dic q (rpK_fr l _ f r)
theorem rpA_fr {G : Hp} {m m' : List Addr} : ∀ (ds : List Dt) (xs : List V), Dt.frs ds = true → RpA K G m xs ds → RpA K G m' xs ds
  | [], _, _, h => by cases h; exact .nil
  | d :: ds, _, f, h => by
    have f' : (d.fr && Dt.frs ds) = true := f
    rw [Bool.and_eq_true] at f'
    cases h with
    | cons q r => exact .cons (rp_fr d _ f'.1 q) (rpA_fr ds _ f'.2 r)
theorem rpK_fr {G : Hp} {m m' : List Addr} : ∀ (ds : List (Key × Dt)) (xs : List (Key × V)), Dt.frk ds = true → RpK K G m xs ds → RpK K G m' xs ds
  | [], _, _, h => by cases h; exact .nil
  | (k, d) :: ds, _, f, h => by
    have f' : (d.fr && Dt.frk ds) = true := f
    rw [Bool.and_eq_true] at f'
    cases h with
    | cons q r => exact .cons (rp_fr d _ f'.1 q) (rpK_fr ds _ f'.2 r)
end
theorem norm_rp (S : Sim K tb w) {x : V} {d : Dt} (r : Rp K w.G w.m x d) : Rp K w.G w.m x (norm w.s d) := by
  cases r with
  | obj q =>
    rename_i a n
    unfold norm
    dsimp only
    have ob := S.ob n
    generalize w.s[n]? = o at ob
    cases o with
    | none => exact .obj q
    | some o => cases o with
      | fz dd => exact ob _ a rfl q
      | _ => exact .obj q
  | non => exact .non
  | bl b => exact .bl b
  | int b => exact .int b
  | str b => exact .str b
  | tup q r z => exact .tup q r z
  | lst q r => exact .lst q r
  | dic q r => exact .dic q r
theorem norms_rp (S : Sim K tb w) : ∀ {xs : List V} {ds : List Dt}, RpA K w.G w.m xs ds → RpA K w.G w.m xs (ds.map (norm w.s))
  | _, _, .nil => .nil
  | _, _, .cons r t => .cons (norm_rp S r) (norms_rp S t)
/-! ## all live lists and dicts frozen -/
noncomputable def frzG (w : Wd) : Hp := fun b => match w.G b with
  | some o => some o
  | none => open Classical in if b ∈ w.m then (match w.H b with
    | some (.lst vs) => some (.lst vs)
    | some (.dK vs) => some (.dK vs)
    | _ => none) else none
theorem frz_old {b : Addr} {o : HO} (h : w.G b = some o) : frzG w b = some o := by
  unfold frzG
  rw [h]
theorem frz_inv {b : Addr} {o : HO} (h : frzG w b = some o) (n : w.G b = none) : b ∈ w.m ∧ w.H b = some o ∧ ∀ ps, o ≠ .tbl ps := by
  unfold frzG at h
  rw [n] at h
  dsimp only at h
  split at h
  · rename_i hm
    split at h
    · rename_i vs e
      cases h
      exact ⟨hm, e, by nofun⟩
    · rename_i vs e
      cases h
      exact ⟨hm, e, by nofun⟩
    · cases h
  · cases h
theorem frz_lst {b : Addr} {vs : List V} (n : w.G b = none) (hm : b ∈ w.m) (h : w.H b = some (.lst vs)) : frzG w b = some (.lst vs) := by
  unfold frzG
  rw [n, h]
  dsimp only
  rw [if_pos hm]
theorem frz_dK {b : Addr} {vs : List (Key × V)} (n : w.G b = none) (hm : b ∈ w.m) (h : w.H b = some (.dK vs)) : frzG w b = some (.dK vs) := by
  unfold frzG
  rw [n, h]
  dsimp only
  rw [if_pos hm]
theorem frz_same : Same w.G (frzG w) := fun b o e => frz_old e
theorem frz_sub (S : Sim K tb w) : Same (frzG w) w.H := fun b o e => by
  cases q : w.G b with
  | some u =>
    rw [frz_old q] at e
    cases e
    exact S.sub b o q
  | none => exact (frz_inv e q).2.1
theorem frz_nt (S : Sim K tb w) : NoT (frzG w) := fun b ps e => by
  cases q : w.G b with
  | some u =>
    rw [frz_old q] at e
    cases e
    exact S.nt b ps q
  | none => exact (frz_inv e q).2.2 ps rfl
theorem mapM_rpA {f : Dt → Option Dt} {G G2 : Hp} {m m2 : List Addr} (hf : ∀ d e x, f d = some e → Rp K G m x d → Rp K G2 m2 x e) : ∀ {l l' : List Dt} {xs : List V}, l.mapM f = some l' → RpA K G m xs l → RpA K G2 m2 xs l'
  | [], l', xs, h, r => by
    cases r
    simp at h
    subst h
    exact .nil
  | d :: l, l', xs, h, r => by
    cases r with
    | cons r1 r2 =>
      rw [List.mapM_cons] at h
      cases e1 : f d with
      | none => rw [e1] at h; cases h
      | some d' =>
        cases e2 : l.mapM f with
        | none => rw [e1, e2] at h; cases h
        | some t =>
          rw [e1, e2] at h
          cases h
          exact .cons (hf _ _ _ e1 r1) (mapM_rpA hf e2 r2)
theorem mapM_rpK {f : Dt → Option Dt} {G G2 : Hp} {m m2 : List Addr} (hf : ∀ d e x, f d = some e → Rp K G m x d → Rp K G2 m2 x e) : ∀ {l l' : List (Key × Dt)} {xs : List (Key × V)}, (l.mapM fun p => (f p.2).map fun z => (p.1, z)) = some l' → RpK K G m xs l → RpK K G2 m2 xs l'
  | [], l', xs, h, r => by
    cases r
    simp at h
    subst h
    exact .nil
  | (k, d) :: l, l', xs, h, r => by
    cases r with
    | cons r1 r2 =>
      rw [List.mapM_cons] at h
      cases e1 : f d with
      | none => dsimp only at h; rw [e1] at h; cases h
      | some d' =>
        cases e2 : (l.mapM fun p => (f p.2).map fun z => (p.1, z)) with
        | none => dsimp only at h; rw [e1, e2] at h; cases h
        | some t =>
          dsimp only at h
          rw [e1, e2] at h
          cases h
          exact .cons (hf _ _ _ e1 r1) (mapM_rpK hf e2 r2)
theorem mapM_rpF {f : Dt → Option Dt} {G G2 : Hp} {m m2 : List Addr} (hf : ∀ d e x, f d = some e → Rp K G m x d → Rp K G2 m2 x e) : ∀ {l l' : List (Nat × Dt)} {xs : List (Str × V)}, (l.mapM fun p => (f p.2).map fun z => (p.1, z)) = some l' → RpF K tb G m xs l → RpF K tb G2 m2 xs l' ∧ (l = [] ↔ l' = [])
  | [], l', xs, h, r => by
    cases r
    simp at h
    subst h
    exact ⟨.nil, by simp⟩
  | (k, d) :: l, l', xs, h, r => by
    cases r with
    | cons r0 r1 r2 =>
      rw [List.mapM_cons] at h
      cases e1 : f d with
      | none => dsimp only at h; rw [e1] at h; cases h
      | some d' =>
        cases e2 : (l.mapM fun p => (f p.2).map fun z => (p.1, z)) with
        | none => dsimp only at h; rw [e1, e2] at h; cases h
        | some t =>
          dsimp only at h
          rw [e1, e2] at h
          cases h
          exact ⟨.cons r0 (hf _ _ _ e1 r1) (mapM_rpF hf e2 r2).1, by simp⟩
theorem rslv_rp (S : Sim K tb w) {m2 : List Addr} : ∀ (n : Nat) (d e : Dt) (x : V), rslv w.s n d = some e → Rp K w.G w.m x d → Rp K (frzG w) m2 x e
  | 0, d, e, x, h, r => by
    unfold rslv at h
    split at h
    · rename_i c
      cases h
      exact Rp.up (m := m2) (rp_fr d x c r) frz_same (Pre.refl _)
    · cases h
  | n + 1, d, e, x, h, r => by
    unfold rslv at h
    split at h
    · rename_i c
      cases h
      exact Rp.up (m := m2) (rp_fr d x c r) frz_same (Pre.refl _)
    · cases r with
      | obj q =>
        dsimp only at h
        have hm := get_mem q
        split at h
        · rename_i l ei
          obtain ⟨t, et, rfl⟩ := Option.map_eq_some_iff.mp h
          obtain ⟨gp, u, hu, vs, rfl, rr⟩ := S.ob _ _ _ ei q
          exact .lst (.inl (.inl (frz_lst gp hm hu))) (mapM_rpA (fun d e x => rslv_rp S n d e x) et rr)
        · rename_i l ei
          obtain ⟨t, et, rfl⟩ := Option.map_eq_some_iff.mp h
          obtain ⟨gp, u, hu, vs, rfl, rr⟩ := S.ob _ _ _ ei q
          exact .dic (frz_dK gp hm hu) (mapM_rpK (fun d e x => rslv_rp S n d e x) et rr)
        · rename_i ei
          split at h
          · rename_i c
            cases h
            have rr := S.ob _ _ _ ei q
            exact Rp.up (m := m2) (rp_fr _ _ c rr) frz_same (Pre.refl _)
          · cases h
        · cases h
      | tup q r z =>
        dsimp only at h
        obtain ⟨t, et, rfl⟩ := Option.map_eq_some_iff.mp h
        exact .tup (same_tseq frz_same q) (mapM_rpA (fun d e x => rslv_rp S n d e x) et r) fun y hy => frz_same _ _ (z y hy)
      | _ => cases h
/-- into a call that sees no live object -/
theorem Sim.bare (S : Sim K tb w) : Sim K tb ⟨w.G, w.H, [], []⟩ := ⟨S.sub, S.nt, S.tk, rfl, .nil, fun a h => (by cases h), fun n o a e => (by cases n <;> cases e)⟩
/-- .. and out of it -/
theorem Stp.unbare (S : Sim K tb w) (st : Stp K tb ⟨w.G, w.H, [], []⟩ w') : Stp K tb w ⟨frzG w', w'.H, w.m, w.s⟩ where
  sim := by
    refine ⟨frz_sub st.sim, frz_nt st.sim, st.sim.tk, S.len, S.nd, fun a h => ?_, fun n o a e1 e2 => ?_⟩
    · obtain ⟨o, e, n⟩ := S.th a h
      exact ⟨o, st.fr a o e n (by simp), n⟩
    · refine (S.ob n o a e1 e2).up (st.g.trans frz_same) (Pre.refl _) (fun q ⟨u, hu, nu⟩ => ?_) fun u e nu => st.fr a u e nu (by simp)
      show frzG w' a = none
      cases z : frzG w' a with
      | none => rfl
      | some x =>
        exfalso
        cases y : w'.G a with
        | some v =>
          rcases st.nw a v y q with h | h | ⟨vs, h⟩
          · exact Nil.not h hu nu.1
          · cases h
          · exact nu.2 vs (Option.some.inj (hu.symm.trans h))
        | none =>
          have hm := (frz_inv z y).1
          exact Nil.not (st.fs a hm (by simp)) hu nu.1
  g := st.g.trans frz_same
  m := ⟨[], by simp⟩
  fr := fun b o e n _ => st.fr b o e n (by simp)
  tb := st.tb
  fs := fun a h n => absurd h n
  nw := fun b o e n => by
    have e : frzG w' b = some o := e
    cases y : w'.G b with
    | some v =>
      rcases st.nw b v y n with h | h | h
      · exact .inl h
      · cases h
      · exact .inr (.inr h)
    | none => exact .inl (st.fs b (frz_inv e y).1 (by simp))
  fz := fun b od x e => st.fz b od x e
end
/-! ## promises -/
def RetC (K : PySem.W.Frag) (tb : List Str) (w : Wd) (Q : VK) (E : XK) : R Dt → Prop
  | .no => False
  | .ok d s' => ∀ v w', w'.s = s' → Stp K tb w w' → Rp K w'.G w'.m v d → Q v w'.H
  | .er e s' => ∀ c dx w', w'.s = s' → Stp K tb w w' → ErOk K tb w' e c dx → E c dx w'.H
def spI (K : PySem.W.Frag) (tb : List Str) (C : Cl) (f n : Nat) : Sp := fun vs H Q E => ∃ w ds, w.H = H ∧ Sim K tb w ∧ RpA K w.G w.m vs ds ∧ ds.length = n ∧ RetC K tb w Q E (C f ds w.s)
structure Fn (P : Program) (w : World) (K : PySem.W.Frag) (mg : Str → Option Value) (base : Heap) (tb : List Str) (C : Cl) (x : Str) (f n k : Nat) : Prop where
  ok : ∃ fa fd ps, mg x = some (.ref fa) ∧ PySem.W.keepIn K (.ref fa) = true ∧ Binds K fd ps [] ∧ FnOk P w K mg base (L2.CX P w) k fa fd ps (spI K tb C f n)
section
variable {X : Cx} {tb : Tb} {W : WX} {l : Loc} {s : Sto} {e a b c o : Expr} {es : List Expr} {pos p : Pos} {x : Str} {f n k : Nat} {C : Cl}
theorem retC_of {w : Wd} {σ : L2.St} {Q : VK} {r : R Dt} (h : Ret X.K tb W (RV X.K) σ w Q r) : RetC X.K tb w Q (WE W σ) r := by
  cases r with
  | no => exact h
  | ok d s => exact h
  | er e s => exact h
theorem ex_cali {r : R (List Dt)} (F : Fn X.prog X.w X.K X.mg X.base tb C x f n k) (hn : ∀ ds s, C f ds s ≠ .no → ds.length = n) (tk : Takes X W) (hr : Room k X.A) (hg : Glo X x) (ha : AX X tb W (e :: es) l s r)
    (he : starEach (e :: es) X.env = (false, eval e X.env) :: starEach es X.env) (hpl : (backTo pos (starEach es X.env)).any (·.1) = false) : EX X tb W (.Call (.Name x p) (e :: es) [] pos) l s (r.bind fun as s => C f as s) := by
  obtain ⟨fa, fd, ps, hm, kp, hb, G⟩ := F.ok
  exact ex_of (pe_callS G hr hg.gl hm kp hb (fun σ => passAt tk σ) (pa_sem (e :: es)) hg.d1 he hpl) fun w0 w σ Q F hs hr => ha.go.bind F hs hr fun xs w1 ds e1 st1 rx hr => ⟨w1, ds, rfl, st1.sim, rx, hn ds w1.s (fun z => by rw [z] at hr; exact hr), retC_of hr⟩
theorem ret_callP {w : Wd} {σ : L2.St} {Q : VK} {xs : List V} {ds : List Dt} (S : Sim X.K tb w) (r : RpA X.K w.G w.m xs ds) (hr : Ret X.K tb W (RV X.K) σ w Q (callP C f ds w.s)) : RpA X.K w.G [] xs (ds.map (norm w.s)) ∧ RetC X.K tb ⟨w.G, w.H, [], []⟩ Q (WE W σ) (C f (ds.map (norm w.s)) []) := by
  unfold callP at hr
  split at hr
  · rename_i c
    refine ⟨rpA_fr _ _ c (norms_rp S r), ?_⟩
    cases e : C f (ds.map (norm w.s)) [] with
    | no => rw [e] at hr; exact hr.elim
    | ok d s1 =>
      rw [e] at hr
      dsimp only at hr
      cases e2 : rslv s1 4 d with
      | none => rw [e2] at hr; exact hr.elim
      | some z =>
        rw [e2] at hr
        intro v w' e3 st rv
        subst e3
        exact hr v ⟨frzG w', w'.H, w.m, w.s⟩ rfl (Stp.unbare S st) (rslv_rp st.sim 4 d z v e2 rv)
    | er z s1 =>
      rw [e] at hr
      dsimp only at hr
      cases e2 : rslvP s1 z.pay with
      | none => rw [e2] at hr; exact hr.elim
      | some pp =>
        rw [e2] at hr
        intro cc dx w' e3 st rv
        subst e3
        refine hr cc dx ⟨frzG w', w'.H, w.m, w.s⟩ rfl (Stp.unbare S st) ⟨rv.1, ?_⟩
        have h2 := rv.2
        unfold rslvP at e2
        cases ep : z.pay with
        | nil =>
          rw [ep] at h2 e2
          simp at e2
          subst e2
          exact h2
        | cons q t =>
          rw [ep] at h2 e2
          obtain ⟨d, fs, h3, h4, h5⟩ := h2
          obtain ⟨h6, h7⟩ := mapM_rpF (G2 := frzG w') (m2 := w.m) (fun d e x => rslv_rp st.sim 4 d e x) e2 h5
          cases pp with
          | nil => have := h7.mpr rfl; cases this
          | cons y ys => exact ⟨d, fs, h3, frz_old h4, h6⟩
  · exact hr.elim
theorem ex_call {r : R (List Dt)} (F : Fn X.prog X.w X.K X.mg X.base tb C x f n k) (hn : ∀ ds s, C f ds s ≠ .no → ds.length = n) (tk : Takes X W) (hr : Room k X.A) (hg : Glo X x) (ha : AX X tb W (e :: es) l s r)
    (he : starEach (e :: es) X.env = (false, eval e X.env) :: starEach es X.env) (hpl : (backTo pos (starEach es X.env)).any (·.1) = false) : EX X tb W (.Call (.Name x p) (e :: es) [] pos) l s (r.bind fun as s => callP C f as s) := by
  obtain ⟨fa, fd, ps, hm, kp, hb, G⟩ := F.ok
  refine ex_of (pe_callS G hr hg.gl hm kp hb (fun σ => passAt tk σ) (pa_sem (e :: es)) hg.d1 he hpl) fun w0 w σ Q F hs hr => ha.go.bind F hs hr fun xs w1 ds e1 st1 rx hr => ?_
  obtain ⟨h1, h2⟩ := ret_callP st1.sim rx hr
  exact ⟨⟨w1.G, w1.H, [], []⟩, _, rfl, st1.sim.bare, h1, hn _ [] (fun z => by rw [z] at h2; exact h2), h2⟩
/-! ## the exception that a suite holds -/
structure Caught (K : PySem.W.Frag) (tb : List Str) (z : Er) (oe : Obj) (d : Option Addr) : Prop where
  nm : ∃ x, tb[z.cls]? = some x ∧ Zc (.ref (He.ga K x)) d oe
  fl : ∃ vs, oe.data = .fields vs
  np : z.pay = [] → d = none
  pd : z.pay ≠ [] → d ≠ none
end
end Ip

namespace Ip
open PySem L2 PySem.Spec
open PyProof.Rows (envOfC)
/-! ## statements -/
def RetS (K : PySem.W.Frag) (tb : Tb) (W : WX) (w0 w : Wd) (D : Ends) : O → Prop
  | .no => False
  | .nx l s' => ∀ σ' w', w'.s = s' → Fit K tb w0 w' σ' l → Stp K tb w w' → D.nx σ' w'.H
  | .rt d s' => ∀ v w', w'.s = s' → Stp K tb w0 w' → Stp K tb w w' → Rp K w'.G w'.m v d → D.rt v w'.H
  | .er e l s' => ∀ c dx σ' w', w'.s = s' → Fit K tb w0 w' σ' l → Stp K tb w w' → ErOk K tb w' e c dx → W c dx σ' w'.H
def GOS (K : PySem.W.Frag) (tb : Tb) (W : WX) (t : TS) (l : Loc) (s : Sto) (o : O) : Prop :=
  ∀ w0 w σ D, Fit K tb w0 w σ l → w.s = s → RetS K tb W w0 w D o → t D σ w.H
section
variable {K : PySem.W.Frag} {tb : Tb} {W : WX} {w w0 w1 : Wd} {σ : L2.St} {l : Loc} {s : Sto} {D : Ends}
theorem RetS.up (st : Stp K tb w w1) : ∀ {o : O}, RetS K tb W w0 w D o → RetS K tb W w0 w1 D o
  | .no, h => h
  | .nx l s', h => fun σ' w' e F t => h σ' w' e F (st.trans t)
  | .rt d s', h => fun v w' e s0 t r => h v w' e s0 (st.trans t) r
  | .er e l s', h => fun c dx σ' w' e1 F t q => h c dx σ' w' e1 F (st.trans t) q
/-- an expression ahead -/
theorem GO.out {α β : Type} {rel : Wd → β → α → Prop} {t : L2.St → Hp → (β → Hp → Prop) → Prop} {r : R α} {k : α → Sto → O} (h : GO K tb W rel t l s r) (F : Fit K tb w0 w σ l) (hs : w.s = s) (hr : RetS K tb W w0 w D (r.out l k)) {Q1 : β → Hp → Prop}
    (hq : ∀ v w1 d, r = .ok d w1.s → Stp K tb w w1 → rel w1 v d → RetS K tb W w0 w1 D (k d w1.s) → Q1 v w1.H) : t σ w.H Q1 := by
  refine h w0 w σ Q1 F hs ?_
  cases r with
  | no => exact hr
  | ok d s1 =>
    intro v w' e st rv
    subst e
    exact hq v w' d rfl st rv (RetS.up st hr)
  | er e s1 => exact fun c dx w' e1 st k => hr c dx σ w' e1 (F.step st) st k
end
section
variable (X : Cx)
def sem1 (st : Stmt) : TS := fun D σ H => ∀ pins s, Inv X pins σ H s → wpAny (model X.prog X.w) X.A (exec st X.env) (SP X pins D) X.xe s
end
section
variable {X : Cx} {tb : Tb} {W : WX} {l : Loc} {s : Sto} {e a b c o : Expr} {es : List Expr} {pos p : Pos} {st : Stmt} {rest sa sb : List Stmt}
theorem ps_sem (st : Stmt) : PS X st (sem1 X st) := ⟨fun pins s σ H D I h => h pins s I⟩
/-- a statement -/
structure S1 (X : Cx) (tb : Tb) (W : WX) (st : Stmt) (l : Loc) (s : Sto) (o : O) : Prop where
  go : GOS X.K tb W (sem1 X st) l s o
/-- a block -/
structure SX (X : Cx) (tb : Tb) (W : WX) (st : List Stmt) (l : Loc) (s : Sto) (o : O) : Prop where
  go : GOS X.K tb W (semS X st) l s o
theorem s1_of {t : TS} {o : O} (h : PS X st t) (q : GOS X.K tb W t l s o) : S1 X tb W st l s o := ⟨fun w0 w σ D F hs hr pins s' I => h.run pins s' σ w.H D I (q w0 w σ D F hs hr)⟩
theorem sx_of {t : TS} {o : O} (h : PSs X rest t) (q : GOS X.K tb W t l s o) : SX X tb W rest l s o := ⟨fun w0 w σ D F hs hr pins s' I => h.run pins s' σ w.H D I (q w0 w σ D F hs hr)⟩
theorem s1_no : S1 X tb W st l s .no := ⟨fun w0 w σ D F hs hr => hr.elim⟩
theorem sx_nil : SX X tb W [] l s (.nx l s) := sx_of pss_nil fun w0 w σ D F hs hr => hr σ w hs F (.refl F.sim)
theorem sx_cons {o : O} {k : Loc → Sto → O} (h : S1 X tb W st l s o) (h2 : ∀ l s, SX X tb W rest l s (k l s)) : SX X tb W (st :: rest) l s (o.then k) :=
  sx_of (pss_cons (ps_sem st) (pss_sem rest)) fun w0 w σ D F hs hr => by
    refine h.go w0 w σ { D with nx := semS X rest D } F hs ?_
    cases o with
    | no => exact hr
    | nx l s' => exact fun σ' w' e F' st => (h2 l s').go w0 w' σ' D F' e (RetS.up st hr)
    | rt d s' => exact hr
    | er e l s' => exact hr
theorem s1_pass : S1 X tb W (.Pass pos) l s (.nx l s) := s1_of ps_pass fun w0 w σ D F hs hr => hr σ w hs F (.refl F.sim)
theorem s1_ret {r : R Dt} (h : EX X tb W e l s r) : S1 X tb W (.Return (some e) pos) l s (r.out l fun d s => .rt d s) := s1_of (ps_ret (pe_sem e)) fun w0 w σ D F hs hr => h.go.out F hs hr fun v w1 d e1 st rv hr => hr v w1 rfl (F.st.trans st) (.refl st.sim) rv
theorem s1_retN : S1 X tb W (.Return none pos) l s (.rt .non s) := s1_of ps_retN fun w0 w σ D F hs hr => hr .non w hs F.st (.refl F.sim) .non
theorem s1_ex {r : R Dt} (h : EX X tb W e l s r) (hs : swapsWith e none pos.line X.env = pure false) : S1 X tb W (.Expr e pos) l s (r.out l fun _ s => .nx l s) := s1_of (ps_expr (pe_sem e) hs) fun w0 w σ D F hs hr => h.go.out F hs hr fun v w1 d e1 st rv hr => hr σ w1 rfl (F.step st) (.refl st.sim)
theorem s1_set {i : Nat} {x : Str} {p2 : Pos} {r : R Dt} (ha : At X x i) (ok : tb.ok i) (h : EX X tb W e l s r) (hs : swapsWith e (some (.Name x p2)) pos.line X.env = pure false) : S1 X tb W (.Assign [.Name x p2] e pos) l s (r.out l fun d s => .nx (l.set i (some d)) s) :=
  s1_of (ps_set ha.nd ha.ix ha.lo (pe_sem e) hs ha.fn) fun w0 w σ D F hs hr => h.go.out F hs hr fun v w1 d e1 st rv hr => hr _ w1 rfl ((F.step st).set rv ok) (.refl st.sim)
theorem s1_unp {is : List Nat} {tg : Expr} {r : R Dt} (hg : PG X tg (gOf X.K (.tp is))) (ok : ∀ i ∈ is, tb.ok i) (h : EX X tb W e l s r) (hs : swapsWithSole [tg] e pos.line X.env = pure false) (hw : swappedStores [tg] e X.env = pure none) (h1 : (assignEach [tg] X.env).map (·.2) = [assign tg X.env]) :
    S1 X tb W (.Assign [tg] e pos) l s (r.out l fun d s => withO (setTg (.tp is) d l) .no fun l => .nx l s) :=
  s1_of (ps_asg (pe_sem e) hg hs hw h1) fun w0 w σ D F hs hr => h.go.out F hs hr fun v w1 d e1 st rv hr => by
    cases e : setTg (.tp is) d l with
    | none => rw [e] at hr; exact hr.elim
    | some l' =>
      rw [e, withO_some] at hr
      exact tg_ok (.tp is) ok w0 w1 σ l l' v d _ (F.step st) rv e fun σ' F' => hr σ' w1 rfl F' (.refl st.sim)
theorem s1_par {i j : Nat} {x y : Str} {px py pt : Pos} {kt k2 pt2} {ra : R Dt} {rb : Sto → R Dt} (hc : X.calm = true) (hx : At X x i) (hy : At X y j) (hij : i ≠ j) (oki : tb.ok i) (okj : tb.ok j) (hl1 : X.env.scope.names.lookup x = some .local) (hl2 : X.env.scope.names.lookup y = some .local)
    (ha : EX X tb W a l s ra) (hb : ∀ s, EX X tb W b l s (rb s)) (h1 : ∀ es, starEach (a :: es) X.env = (false, eval a X.env) :: starEach es X.env) (h2 : ∀ es, starEach (b :: es) X.env = (false, eval b X.env) :: starEach es X.env)
    (hw : swappedStores [.Tuple [.Name x px, .Name y py] kt pt] (.Tuple [a, b] k2 pt2) X.env = pure (some [x, y])) :
    S1 X tb W (.Assign [.Tuple [.Name x px, .Name y py] kt pt] (.Tuple [a, b] k2 pt2) pos) l s (ra.out l fun d s => (rb s).out l fun z s => .nx ((l.set i (some d)).set j (some z)) s) :=
  s1_of (ps_par hc hx.nd hx.ix hy.ix hij hl1 hl2 (pa_sem [a, b]) hw rfl) fun w0 w σ D F hs hr => by
    have hr' : RetS X.K tb W w0 w D ((ra.bind fun x s => ((rb s).bind fun y s => (R.ok [] s).bind fun xs s => .ok (y :: xs) s).bind fun xs s => .ok (x :: xs) s).out l fun ds s => .nx ((l.set i (some (ds.headD .non))).set j (some (ds.tail.headD .non))) s) := by
      revert hr
      cases ra with
      | no => exact id
      | er z s => exact id
      | ok d s =>
        rw [R.out_ok, R.bind_ok]
        cases rb s with
        | no => exact id
        | er z s => exact id
        | ok d s => exact id
    refine GO.out (ax_cons ha (fun s => ax_cons (hb s) (fun _ => ax_nil) (h2 _)) (h1 [b])).go F hs hr' fun vs w1 ds e1 st rv hr => ?_
    obtain ⟨d1, d2, rfl⟩ := two_eq e1
    cases rv with
    | cons r1 r2 => cases r2 with
      | cons r3 r4 =>
        cases r4
        exact ⟨_, _, rfl, hr _ w1 rfl (((F.step st).set r1 oki).set r3 okj) (.refl st.sim)⟩
theorem RpK.mapP {K : PySem.W.Frag} {G : Hp} {m : List Addr} (k : Key) {v : V} {d : Dt} (rv : Rp K G m v d) : ∀ {vs : List (Key × V)} {ds : List (Key × Dt)}, RpK K G m vs ds → RpK K G m (vs.map fun kv => if kv.1 = k then (kv.1, v) else kv) (ds.map fun p => if p.1 = k then (p.1, d) else p)
  | _, _, .nil => .nil
  | _, _, .cons (k := j) r1 t => by
    have ih := RpK.mapP k rv t
    rw [List.map_cons, List.map_cons]
    by_cases e : j = k
    · rw [if_pos e, if_pos e]
      exact .cons rv ih
    · rw [if_neg e, if_neg e]
      exact .cons r1 ih
theorem RpK.snoc {K : PySem.W.Frag} {G : Hp} {m : List Addr} (k : Key) {v : V} {d : Dt} (rv : Rp K G m v d) : ∀ {vs : List (Key × V)} {ds : List (Key × Dt)}, RpK K G m vs ds → RpK K G m (vs ++ [(k, v)]) (ds ++ [(k, d)])
  | _, _, .nil => .cons rv .nil
  | _, _, .cons r1 t => .cons r1 (RpK.snoc k rv t)
theorem RpK.put {K : PySem.W.Frag} {G : Hp} {m : List Addr} {vs : List (Key × V)} {ds : List (Key × Dt)} (r : RpK K G m vs ds) (k : Key) {v : V} {d : Dt} (rv : Rp K G m v d) : RpK K G m (putK vs k v) (setK ds k d) := by
  unfold putK setK
  rw [valV_any, (r.look k).some_eq]
  split
  · exact r.mapP k rv
  · exact r.snoc k rv
theorem RpT.mapP {K : PySem.W.Frag} {G : Hp} {m : List Addr} (k : List Key) {v : V} {d : Dt} (rv : Rp K G m v d) : ∀ {vs : List (List Key × V)} {ds : List (List Key × Dt)}, RpT K G m vs ds → RpT K G m (vs.map fun kv => if kv.1 = k then (kv.1, v) else kv) (ds.map fun p => if p.1 = k then (p.1, d) else p)
  | _, _, .nil => .nil
  | _, _, .cons (k := j) r1 t => by
    have ih := RpT.mapP k rv t
    rw [List.map_cons, List.map_cons]
    by_cases e : j = k
    · rw [if_pos e, if_pos e]
      exact .cons rv ih
    · rw [if_neg e, if_neg e]
      exact .cons r1 ih
theorem RpT.snoc {K : PySem.W.Frag} {G : Hp} {m : List Addr} (k : List Key) {v : V} {d : Dt} (rv : Rp K G m v d) : ∀ {vs : List (List Key × V)} {ds : List (List Key × Dt)}, RpT K G m vs ds → RpT K G m (vs ++ [(k, v)]) (ds ++ [(k, d)])
  | _, _, .nil => .cons rv .nil
  | _, _, .cons r1 t => .cons r1 (RpT.snoc k rv t)
theorem RpT.put {K : PySem.W.Frag} {G : Hp} {m : List Addr} {vs : List (List Key × V)} {ds : List (List Key × Dt)} (r : RpT K G m vs ds) (k : List Key) {v : V} {d : Dt} (rv : Rp K G m v d) : RpT K G m (putK vs k v) (setK ds k d) := by
  unfold putK setK
  rw [valV_any, (r.look k).some_eq]
  split
  · exact r.mapP k rv
  · exact r.snoc k rv
theorem RpT.length {K : PySem.W.Frag} {G : Hp} {m : List Addr} : ∀ {xs : List (List Key × V)} {ds : List (List Key × Dt)}, RpT K G m xs ds → xs.length = ds.length
  | _, _, .nil => rfl
  | _, _, .cons _ t => congrArg (· + 1) (RpT.length t)
theorem live_dK8 {K : PySem.W.Frag} {w : Wd} {x : V} {n : Nat} {ds : List (Key × Dt)} {tl : List Str} (S : Sim K tl w) (r : Rp K w.G w.m x (.obj n)) (e : w.s[n]? = some (.dK ds)) : ∃ a vs, x = .ref a ∧ w.m[n]? = some a ∧ w.H a = some (.dK vs) ∧ RpK K w.G w.m vs ds := by
  cases r with
  | obj q =>
    obtain ⟨_, u, hu, vs, rfl, r⟩ := S.ob n _ _ e q
    exact ⟨_, vs, rfl, q, hu, r⟩
theorem live_dT8 {K : PySem.W.Frag} {w : Wd} {x : V} {n : Nat} {ds : List (List Key × Dt)} {tl : List Str} (S : Sim K tl w) (r : Rp K w.G w.m x (.obj n)) (e : w.s[n]? = some (.dT ds)) : ∃ a vs, x = .ref a ∧ w.m[n]? = some a ∧ w.H a = some (.dT vs) ∧ RpT K w.G w.m vs ds := by
  cases r with
  | obj q =>
    obtain ⟨_, u, hu, vs, rfl, r⟩ := S.ob n _ _ e q
    exact ⟨_, vs, rfl, q, hu, r⟩
/-- d[i] = e -/
theorem s1_sixD {o i : Expr} {p2 : Pos} {re : R Dt} {ro ri : Sto → R Dt} (hu : X.A.units + 65 < cLine) (he : EX X tb W e l s re) (ho : ∀ s, EX X tb W o l s (ro s)) (hi : ∀ s, EX X tb W i l s (ri s))
    (hs : swapsWith e (some (.Subscript o i p2)) pos.line X.env = pure false) (hD : ∀ v s1 x s2 k s3, re = .ok v s1 → ro s1 = .ok x s2 → ri s2 = .ok k s3 → ∃ n, x = .obj n ∧ ((∃ l, s3[n]? = some (.dK l)) ∨ ∃ l, s3[n]? = some (.dT l))) :
    S1 X tb W (.Assign [.Subscript o i p2] e pos) l s (re.out l fun v s => (ro s).out l fun x s => (ri s).out l fun y s => withO (sixS x y v s) .no fun s => .nx l s) :=
  s1_of (ps_dput (by omega) (pe_sem o) (pe_sem i) (pe_sem e) hs) fun w0 w σ D F hs hr => GO.out he.go F hs hr fun v w1 d e1 st1 rv hr => GO.out (ho _).go (F.step st1) rfl hr fun x w2 d2 e2 st2 rx hr => GO.out (hi _).go ((F.step st1).step st2) rfl hr fun y w3 d3 e3 st3 ry hr => by
    have F3 := ((F.step st1).step st2).step st3
    have rx := rx.up st3.g st3.pre
    have rv := (rv.up st2.g st2.pre).up st3.g st3.pre
    obtain ⟨n, rfl, hd⟩ := hD _ _ _ _ _ _ e1 e2 e3
    rcases hd with ⟨ds, el⟩ | ⟨ds, el⟩
    · obtain ⟨a, vs, rfl, q, hu, rr⟩ := live_dK8 st3.sim rx el
      have hq : sixS (.obj n) d3 d w3.s = match keyOf d3 with
        | some k => if ds.length < sizeLine then some (w3.s.set n (.dK (setK ds k d))) else none
        | none => none := by
        unfold sixS
        dsimp only
        rw [el] <;> rfl
      rw [hq] at hr
      split at hr
      · rename_i k ek
        split at hr
        · rename_i hz
          have stp := Stp.put (o' := .dK (setK ds k d)) st3.sim el q rfl ⟨_, rfl, rr.put k rv⟩
          exact ⟨a, upd w3.H a (.dK (putK vs k v)), rfl, .inl ⟨vs, k, hu, keyOf_rp ry ek, by rw [RpK.length rr]; exact hz, rfl⟩, hr σ _ rfl (F3.step stp) stp⟩
        · exact hr.elim
      · exact hr.elim
    · obtain ⟨a, vs, rfl, q, hu, rr⟩ := live_dT8 st3.sim rx el
      have hq : sixS (.obj n) d3 d w3.s = match tkeyOf d3 with
        | some k => if ds.length < sizeLine then some (w3.s.set n (.dT (setK ds k d))) else none
        | none => none := by
        unfold sixS
        dsimp only
        rw [el] <;> rfl
      rw [hq] at hr
      split at hr
      · rename_i k ek
        split at hr
        · rename_i hz
          obtain ⟨b, rfl, hb, _⟩ := tkeyOf_rp st3.sim ry ek
          have stp := Stp.put (o' := .dT (setK ds k d)) st3.sim el q rfl ⟨_, rfl, rr.put k rv⟩
          exact ⟨a, upd w3.H a (.dT (putK vs k v)), rfl, .inr ⟨vs, k, b, hu, rfl, hb, by rw [RpT.length rr]; exact hz, rfl⟩, hr σ _ rfl (F3.step stp) stp⟩
        · exact hr.elim
      · exact hr.elim
/-- o[i] = e -/
theorem s1_sixL {o i : Expr} {p2 : Pos} {re : R Dt} {ro ri : Sto → R Dt} (hD : ¬ ∃ v s1 x s2 k s3, re = .ok v s1 ∧ ro s1 = .ok x s2 ∧ ri s2 = .ok k s3 ∧ ∃ n, x = .obj n ∧ ((∃ l, s3[n]? = some (.dK l)) ∨ ∃ l, s3[n]? = some (.dT l))) (he : EX X tb W e l s re) (ho : ∀ s, EX X tb W o l s (ro s)) (hi : ∀ s, EX X tb W i l s (ri s)) (hg : ∀ {to ti : TE}, PE X o to → PE X i ti → PG X (.Subscript o i p2) (gSub to ti rSetL))
    (hs : swapsWithSole [.Subscript o i p2] e pos.line X.env = pure false) (hw : swappedStores [.Subscript o i p2] e X.env = pure none) (h1 : (assignEach [.Subscript o i p2] X.env).map (·.2) = [assign (.Subscript o i p2) X.env]) :
    S1 X tb W (.Assign [.Subscript o i p2] e pos) l s (re.out l fun v s => (ro s).out l fun x s => (ri s).out l fun y s => withO (sixS x y v s) .no fun s => .nx l s) :=
  s1_of (ps_asg (pe_sem e) (hg (pe_sem o) (pe_sem i)) hs hw h1) fun w0 w σ D F hs hr => GO.out he.go F hs hr fun v w1 d e1 st1 rv hr => GO.out (ho _).go (F.step st1) rfl hr fun x w2 d2 e2 st2 rx hr => GO.out (hi _).go ((F.step st1).step st2) rfl hr fun y w3 d3 e3 st3 ry hr => by
    have F3 := ((F.step st1).step st2).step st3
    have rx := rx.up st3.g st3.pre
    have rv := (rv.up st2.g st2.pre).up st3.g st3.pre
    cases e : sixS d2 d3 d w3.s with
    | none => rw [e] at hr; exact hr.elim
    | some s4 =>
      rw [e, withO_some] at hr
      unfold sixS at e
      split at e
      · split at e
        · rename_i el
          split at e
          · split at e
            · rename_i ej
              cases e
              obtain ⟨a, vs, rfl, q, hu, rr⟩ := live_lst st3.sim rx el
              cases ry
              have stp := fun j => Stp.put (o' := .lst _) st3.sim el q rfl ⟨_, rfl, rr.set rv j⟩
              exact ⟨a, vs, _, _, rfl, rfl, hu, by rw [rr.length]; exact ej, hr σ _ rfl (F3.step (stp _)) (stp _)⟩
            · cases e
          · cases e
        · rename_i el
          exact absurd ⟨_, _, _, _, _, _, e1, e2, e3, _, rfl, .inl ⟨_, el⟩⟩ hD
        · rename_i el
          exact absurd ⟨_, _, _, _, _, _, e1, e2, e3, _, rfl, .inr ⟨_, el⟩⟩ hD
        · cases e
      · cases e
theorem s1_six {o i : Expr} {p2 : Pos} {re : R Dt} {ro ri : Sto → R Dt} (hu : X.A.units + 65 < cLine) (he : EX X tb W e l s re) (ho : ∀ s, EX X tb W o l s (ro s)) (hi : ∀ s, EX X tb W i l s (ri s)) (hg : ∀ {to ti : TE}, PE X o to → PE X i ti → PG X (.Subscript o i p2) (gSub to ti rSetL))
    (hs : swapsWithSole [.Subscript o i p2] e pos.line X.env = pure false) (hw : swappedStores [.Subscript o i p2] e X.env = pure none) (h1 : (assignEach [.Subscript o i p2] X.env).map (·.2) = [assign (.Subscript o i p2) X.env]) :
    S1 X tb W (.Assign [.Subscript o i p2] e pos) l s (re.out l fun v s => (ro s).out l fun x s => (ri s).out l fun y s => withO (sixS x y v s) .no fun s => .nx l s) := by
  by_cases hD : ∃ v s1 x s2 k s3, re = .ok v s1 ∧ ro s1 = .ok x s2 ∧ ri s2 = .ok k s3 ∧ ∃ n, x = .obj n ∧ ((∃ l, s3[n]? = some (.dK l)) ∨ ∃ l, s3[n]? = some (.dT l))
  · obtain ⟨v, s1, x, s2, k, s3, h1, h2, h3, h4⟩ := hD
    refine s1_sixD hu he ho hi hs fun v' s1' x' s2' k' s3' g1 g2 g3 => ?_
    have e1 := h1.symm.trans g1
    cases e1
    have e2 := h2.symm.trans g2
    cases e2
    have e3 := h3.symm.trans g3
    cases e3
    exact h4
  · exact s1_sixL hD he ho hi hg hs hw h1
theorem ret_brnS {w0 w : Wd} {D : Ends} {r : R Dt} {f g : Sto → O} : RetS X.K tb W w0 w D (r.out l fun d s => brn d .no (f s) (g s)) → RetS X.K tb W w0 w D ((asB r).out l fun k s => cond k (f s) (g s)) := by
  cases r with
  | no => exact id
  | er e s => exact id
  | ok d s => cases d with
    | bl k => cases k <;> exact id
    | _ => exact id
theorem s1_ite {r : R Dt} {oa ob : Sto → O} (hc : TX X tb W c l s (asB r)) (h1 : ∀ s, SX X tb W sa l s (oa s)) (h2 : ∀ s, SX X tb W sb l s (ob s)) : S1 X tb W (.If c sa sb pos) l s (r.out l fun k s => brn k .no (oa s) (ob s)) :=
  s1_of (ps_if (pt_sem c) (pss_sem sa) (pss_sem sb)) fun w0 w σ D F hs hr => by
    have hr := ret_brnS hr
    refine GO.out hc.go F hs hr fun k w1 d e1 st1 rx hr => ?_
    cases (show k = d from rx)
    cases k with
    | false => exact iteF ((h2 _).go w0 w1 σ D (F.step st1) rfl hr)
    | true => exact iteT ((h1 _).go w0 w1 σ D (F.step st1) rfl hr)
/-- for -/
theorem for_go {J : L2.It} {w0 w1 : Wd} {σ : L2.St} {D : Ends} {body : List Stmt} {tg : Tg} {ds : List Dt} {c : Sto → Prop} {ob : Loc → Sto → O} {loop : List Dt → Loc → Sto → O} (ok : ∀ i ∈ tg.ids, tb.ok i) (wk : Wk X.K tb w1 J ds c) (hc : c w1.s) (F1 : Fit X.K tb w0 w1 σ l) (hb : ∀ l s, SX X tb W body l s (ob l s))
    (h0 : ∀ l s, loop [] l s = .nx l s) (h1 : ∀ d ds l s, loop (d :: ds) l s = (withO (setTg tg d l) .no fun l => ob l s).then fun l s => open Classical in if c s then loop ds l s else .no) (hr : RetS X.K tb W w0 w1 D (loop ds l w1.s)) :
    ∃ Wv : Nat → Nat → L2.St → Hp → Prop, (∃ m, Wv 0 m σ w1.H) ∧ ∀ i m σ H, Wv i m σ H → (J.stop i H ∧ D.nx σ H) ∨ (J.go i H ∧ ∃ Nx : L2.St → Hp → Prop, (∀ σ' H', Nx σ' H' → ∃ m', m' < m ∧ Wv (i + 1) m' σ' H') ∧ ∀ x H', J.yld i H x H' → gOf X.K tg x σ H' fun σ2 H2 => semS X body ⟨Nx, D.rt, D.nx, Nx⟩ σ2 H2) := by
  let Iv : Nat → L2.St → Hp → Prop := fun i σ' H' => i ≤ ds.length ∧ ∃ w' l', w'.H = H' ∧ Fit X.K tb w0 w' σ' l' ∧ Stp X.K tb w1 w' ∧ c w'.s ∧ RetS X.K tb W w0 w1 D (loop (ds.drop i) l' w'.s)
  refine ⟨fun i m σ' H' => m = ds.length - i ∧ Iv i σ' H', ⟨_, rfl, Nat.zero_le _, w1, l, rfl, F1, .refl F1.sim, hc, hr⟩, ?_⟩
  rintro i m σ' H' ⟨rfl, hle, w', l', rfl, F', st, hcs, hr⟩
  have wk' := wk i w' st.g st.pre st.fz F'.sim hcs
  by_cases hlt : i < ds.length
  · have hd := List.getElem?_eq_getElem hlt
    obtain ⟨go, y⟩ := wk'.1 ds[i] hd
    refine .inr ⟨go, fun σ2 H2 => Iv (i + 1) σ2 H2, fun σ2 H2 z => ⟨ds.length - (i + 1), by omega, rfl, z⟩, fun x H2 hy => ?_⟩
    obtain ⟨w2, rfl, s2, st2, rx⟩ := y x H2 hy
    have edrop : ds.drop i = ds[i] :: ds.drop (i + 1) := List.drop_eq_getElem_cons hlt
    rw [edrop, h1] at hr
    cases e1 : setTg tg ds[i] l' with
    | none => rw [e1] at hr; exact hr.elim
    | some l1 =>
    rw [e1, withO_some] at hr
    refine tg_ok tg ok w0 w2 σ' l' l1 x ds[i] _ (F'.step st2) rx e1 fun σ3 F3 => ?_
    rw [← s2] at hr
    refine (hb l1 w2.s).go w0 w2 σ3 _ F3 rfl ?_
    have st12 := st.trans st2
    cases eo : ob l1 w2.s with
    | no => rw [eo] at hr; exact hr.elim
    | nx l2 s3 =>
      rw [eo, O.then_nx] at hr
      intro σ4 w4 e4 F4 st4
      subst e4
      split at hr
      · rename_i hc4
        exact ⟨hlt, w4, l2, rfl, F4, st12.trans st4, hc4, hr⟩
      · exact hr.elim
    | rt d s3 => rw [eo] at hr; exact RetS.up st12 hr
    | er e l2 s3 => rw [eo] at hr; exact RetS.up st12 hr
  · have e : i = ds.length := by omega
    subst e
    rw [List.drop_length, h0] at hr
    exact .inl ⟨wk'.2 (Nat.le_refl _), hr σ' w' rfl F' st⟩
theorem s1_for {tgE it : Expr} {body : List Stmt} {tg : Tg} {ri : R It} {ob : Loc → Sto → O} (ok : ∀ i ∈ tg.ids, tb.ok i) (hp : PassesOwn (model X.prog X.w) X.A X.env X.xe) (hc : X.calm = true) (hi : IX X tb W tgE it l s ri) (hg : PG X tgE (gOf X.K tg)) (hb : ∀ l s, SX X tb W body l s (ob l s)) (hfs : ∀ x, foldedSetIterable it X.env x = pure x) :
    S1 X tb W (.For tgE it body [] pos) l s (ri.out l fun i s => match i with
    | .pl ds => forL (fun d l s => withO (setTg tg d l) .no fun l => ob l s) ds l s
    | .lv n oo ds => forV n oo (fun d l s => withO (setTg tg d l) .no fun l => ob l s) ds l s) :=
  s1_of (ps_for hp hc (pi_sem tgE it) hg (pss_sem body) hfs) fun w0 w σ D F hs hr => GO.out hi.go F hs hr fun J w1 it e1 st1 wk hr => by
    cases it with
    | pl ds => exact for_go (c := fun _ => True) (loop := forL fun d l s => withO (setTg tg d l) .no fun l => ob l s) ok wk.2 wk.1 (F.step st1) hb (fun _ _ => rfl) (fun d ds l s => by
        show (withO (setTg tg d l) .no fun l => ob l s).then _ = _
        congr 1
        funext l s
        exact (if_pos trivial).symm) hr
    | lv n oo ds => exact for_go (c := fun s => s[n]? = some oo) (loop := forV n oo fun d l s => withO (setTg tg d l) .no fun l => ob l s) ok wk.2 wk.1 (F.step st1) hb (fun _ _ => rfl) (fun d ds' l s => by
        show (withO (setTg tg d l) .no fun l => ob l s).then _ = _
        congr 1
        funext l s
        by_cases h : s[n]? = some oo
        · rw [if_pos h, if_pos h]
        · rw [if_neg h, if_neg h]) hr
/-- while -/
theorem whN_mono {c : Loc → Sto → R Bool} {b : Loc → Sto → O} : ∀ {n k : Nat} {l : Loc} {s : Sto} {o : O}, whN c b n l s = some o → n ≤ k → whN c b k l s = some o
  | 0, k, l, s, o, h, _ => by cases h
  | n + 1, 0, l, s, o, h, hk => absurd hk (by omega)
  | n + 1, k + 1, l, s, o, h, hk => by
    unfold whN at h ⊢
    split at h
    · rename_i e1
      split at h
      · rename_i e2
        exact whN_mono h (by omega)
      · exact h
    · exact h
    · exact h
    · exact h
theorem whS_eq {c : Loc → Sto → R Bool} {b : Loc → Sto → O} {n : Nat} {l : Loc} {s : Sto} {o : O} (h : whN c b n l s = some o) : whS c b l s = o := by
  unfold whS
  have H : ∃ n o, whN c b n l s = some o := ⟨n, o, h⟩
  rw [dif_pos H]
  have h2 := Classical.choose_spec (Classical.choose_spec H)
  have h3 := whN_mono h (Nat.le_max_left n (Classical.choose H))
  have h4 := whN_mono h2 (Nat.le_max_right n (Classical.choose H))
  exact Option.some.inj (h4.symm.trans h3)
theorem s1_whl {body : List Stmt} {rc : Loc → Sto → R Dt} {ob : Loc → Sto → O} (hp : PassesOwn (model X.prog X.w) X.A X.env X.xe) (hc : ∀ l s, TX X tb W c l s (asB (rc l s))) (hb : ∀ l s, SX X tb W body l s (ob l s)) :
    S1 X tb W (.While c body [] pos) l s (whS (fun l s => asB (rc l s)) (fun l s => ob l s) l s) :=
  s1_of (ps_while hp (pt_sem c) (pss_sem body)) fun w0 w σ D F hs hr => by
    subst hs
    have H : ∃ n o, whN (fun l s => asB (rc l s)) (fun l s => ob l s) n l w.s = some o := by
      apply Classical.byContradiction
      intro q
      unfold whS at hr
      rw [dif_neg q] at hr
      exact hr
    obtain ⟨n, o, hn⟩ := H
    rw [whS_eq hn] at hr
    refine ⟨fun m σ' H' => ∃ w' l', w'.H = H' ∧ Fit X.K tb w0 w' σ' l' ∧ Stp X.K tb w w' ∧ whN (fun l s => asB (rc l s)) (fun l s => ob l s) m l' w'.s = some o, ⟨n, w, l, rfl, F, .refl F.sim, hn⟩, ?_⟩
    rintro m σ' H' ⟨w', l', rfl, F', st, hm⟩
    cases m with
    | zero => cases hm
    | succ m =>
      unfold whN at hm
      refine (hc l' w'.s).go w0 w' σ' _ F' rfl ?_
      cases ec : asB (rc l' w'.s) with
      | no =>
        rw [ec] at hm
        cases hm
        exact hr
      | er z s1 =>
        rw [ec] at hm
        cases hm
        exact fun cc dx w2 e2 st2 k => hr cc dx σ' w2 e2 (F'.step st2) (st.trans st2) k
      | ok k s1 =>
        rw [ec] at hm
        intro b w2 e2 st2 rb
        subst e2
        cases (show b = k from rb)
        cases k with
        | false =>
          rw [if_neg Bool.false_ne_true]
          cases hm
          exact hr σ' w2 rfl (F'.step st2) (st.trans st2)
        | true =>
          rw [if_pos rfl]
          dsimp only at hm
          refine ⟨fun σ3 H3 => ∃ w3 l3, w3.H = H3 ∧ Fit X.K tb w0 w3 σ3 l3 ∧ Stp X.K tb w w3 ∧ whN (fun l s => asB (rc l s)) (fun l s => ob l s) m l3 w3.s = some o, fun σ3 H3 z => ⟨m, Nat.lt_succ_self _, z⟩, ?_⟩
          refine (hb l' w2.s).go w0 w2 σ' _ (F'.step st2) rfl ?_
          cases eo : ob l' w2.s with
          | no => rw [eo] at hm; cases hm; exact hr
          | nx l3 s3 =>
            rw [eo] at hm
            intro σ3 w3 e3 F3 st3
            subst e3
            exact ⟨w3, l3, rfl, F3, (st.trans st2).trans st3, hm⟩
          | rt d s3 => rw [eo] at hm; cases hm; exact RetS.up (st.trans st2) hr
          | er z l3 s3 => rw [eo] at hm; cases hm; exact RetS.up (st.trans st2) hr
end
end Ip

namespace Ip
open PySem L2 PySem.Spec
open PyProof.Rows (envOfC)
structure ExcT (K : PySem.W.Frag) (mg : Str → Option Value) (x : Str) : Prop where
  g : mg x = some (.ref (He.ga K x))
  e : PySem.W.excIn K (He.ga K x) He.veBase "ValueError.__new__" = true
  k : PySem.W.keepIn K (.ref (He.ga K x)) = true
  s : PySem.W.subIn K (.ref (He.ga K x)) (.type "BaseException") = some true
  t : PySem.W.typeIn K (.ref (He.ga K x)) = some (.type "type")
theorem excT_ok {K : PySem.W.Frag} {h : Heap} {mg : Str → Option Value} (X : K.In h) (G : h.Ns mainGlobals mg) {x : Str} (c1 : (He.Fa.glo x).ok K = true) (c2 : (He.Fa.exc x).ok K = true) : ExcT K mg x := by
  obtain ⟨a, b, c, d⟩ := He.exc_ok c2
  exact ⟨He.glo_ok X G c1, a, b, c, d⟩
section
variable {X : Cx} {tb : Tb} {W : WX} {l : Loc} {s : Sto} {e a b c o : Expr} {es : List Expr} {pos p : Pos} {st : Stmt} {rest sa sb : List Stmt}
theorem s1_rai {z : Str} {k : Nat} {m : Str} {jj : Nat} {p1 p2 p3 : Pos} (T : ExcT X.K X.mg z) (tk : Takes X W) (hc : X.calm = true) (hg : Glo X z) (hz : tb.l[k]? = some z) :
    S1 X tb W (.Raise (some (.Call (.Name z p1) [.Constant (.str m) jj p2] [] p3)) none pos) l s (.er ⟨k, []⟩ l s) :=
  s1_of (ps_raise hc tk (pmk_own PySem.F.excBase_ValueError T.e T.g T.k (raises_own T.s T.t) hg.gl hg.d1)) fun w0 w σ D F hs hr => hr _ _ σ w hs F (.refl F.sim) ⟨⟨z, hz, rfl⟩, rfl⟩
/-- where a def's body stands, its tries too -/
structure Stk (X : Cx) : Prop where
  stk : X.stack = X.env :: X.outer
  frm : X.env.frame = some X.env.locals
theorem fit_hx {K : PySem.W.Frag} {w0 w : Wd} {σ : L2.St} {tb' : Tb} (h1 : tb'.l = tb.l) (h2 : tb.hx = none ∧ tb.px = none) (F : Fit K tb' w0 w σ l) : Fit K tb w0 w σ l := ⟨h1 ▸ F.st, F.len, F.sl, fun v a e => (by rw [h2.1] at e; cases e), fun d p e => (by rw [h2.2] at e; cases e)⟩
/-- what a suite knows of the caught exception's values -/
def pxOf (z : Er) (d : Option Addr) : Option (Addr × List (Nat × Dt)) := d.map fun dd => (dd, z.pay)
theorem px_of {K : PySem.W.Frag} {tl : List Str} {w : Wd} {z : Er} {cc : Value} {dx : Option Addr} (k : ErOk K tl w z cc dx) : ∀ d p, pxOf z dx = some (d, p) → ∃ fs, w.G d = some (.xd fs) ∧ RpF K tl w.G w.m fs p := fun d p e => by
  have h2 := k.2
  cases ep : z.pay with
  | nil => rw [ep] at h2; have h2 : dx = none := h2; rw [h2] at e; cases e
  | cons q t =>
    rw [ep] at h2
    obtain ⟨d2, fs, h3, h4, h5⟩ := h2
    subst h3
    cases e
    exact ⟨fs, h4, by rw [ep]; exact h5⟩
/-- the end of a suite -/
def suO (v : Option Nat) : O → O
  | .nx l s => .nx (match v with
    | some i => l.set i none
    | none => l) s
  | .rt d s => .rt d s
  | _ => .no
def triO (kn sub : Nat → Bool) (su : Er → Loc → Sto → O) : O → O
  | .er z l s => cond (kn z.cls) (cond (sub z.cls) (su z l s) (.er z l s)) .no
  | o => o
theorem erOk_caught {K : PySem.W.Frag} {w : Wd} {z : Er} {cc : Value} {dx : Option Addr} {oe : Obj} (k : ErOk K tb.l w z cc dx) (hz : Zc cc dx oe) (hf : ∃ vs, oe.data = .fields vs) : Caught K tb.l z oe dx := by
  obtain ⟨⟨x, h1, rfl⟩, h2⟩ := k
  refine ⟨⟨x, h1, hz⟩, hf, fun e => ?_, fun e q => ?_⟩
  · rw [e] at h2
    exact h2
  · cases hp : z.pay with
    | nil => exact e hp
    | cons u t =>
      rw [hp] at h2
      obtain ⟨d, fs, h3, _⟩ := h2
      rw [h3] at q
      cases q
/-- try: body except y: suite -/
theorem s1_try {body suite : List Stmt} {b0 : Stmt} {np pos' : Pos} {y : Str} {kn sub : Nat → Bool} {ob : O} {os : Er → Loc → Sto → O} (S : Stk X) (hx0 : tb.hx = none) (px0 : tb.px = none) (tk : Takes X W) (hm : X.mg y = some (.ref (He.ga X.K y))) (hg : Glo X y)
    (hex : ∀ c z, tb.l[c]? = some z → kn c = true → PySem.W.exmOne X.K (.ref (He.ga X.K z)) (.ref (He.ga X.K y)) = some (sub c))
    (hb : ∀ (W' : WX) (pn : List (Addr × Obj)) (xe : Value → Shared → Prop), Takes (X.tr pn xe) W' → PassesOwn (model X.prog X.w) X.A X.env xe → SX (X.tr pn xe) tb W' body l s ob)
    (hsu : ∀ (z : Er) (a : Addr) (oe : Obj) (d : Option Addr) (pn : List (Addr × Obj)), Caught X.K tb.l z oe d → ∀ l s, SX (X.suite a ((a, oe) :: pn)) tb W0 (b0 :: suite) l s (os z l s)) :
    S1 X tb W (.Try body [.ExceptHandler (some (.Name y np)) none (b0 :: suite) pos'] [] [] pos) l s (triO kn sub (fun z l s => suO none (os z l s)) ob) :=
  s1_of (ps_try_only (c := .ref (He.ga X.K y)) (tb := fun W' D σ H => ∀ (pn : List (Addr × Obj)) (xe : Value → Shared → Prop), Takes (X.tr pn xe) W' → PassesOwn (model X.prog X.w) X.A X.env xe → semS (X.tr pn xe) body D σ H)
      (ts := fun a cls d D σ H => ∀ (oe : Obj) (pn : List (Addr × Obj)), Zc cls d oe → (∃ vs, oe.data = .fields vs) → semS (X.suite a ((a, oe) :: pn)) (b0 :: suite) D σ H) S.stk S.frm ⟨hg.gl, hg.d1, .inl hm⟩ tk
      (fun W' pn xe t hp => ⟨fun pins s σ H D I h => h pn xe t hp pins s I⟩) (fun a oe cls d pn hz hf2 => ⟨fun pins s σ H D I h => h oe pn hz hf2 pins s I⟩)) fun w0 w σ D F hs hr pn xe t hpo => by
    refine (hb _ pn xe t hpo).go w0 w σ D F hs ?_
    cases ob with
    | no => exact hr
    | nx l' s' => exact hr
    | rt d s' => exact hr
    | er z l' s' =>
      have hr : RetS X.K tb W w0 w D (cond (kn z.cls) (cond (sub z.cls) (suO none (os z l' s')) (.er z l' s')) .no) := hr
      cases ek : kn z.cls with
      | false => rw [ek] at hr; exact hr.elim
      | true =>
      rw [ek] at hr
      have hr : RetS X.K tb W w0 w D (cond (sub z.cls) (suO none (os z l' s')) (.er z l' s')) := hr
      intro cc dx σ' w' e' F' st' k
      obtain ⟨⟨zn, hzn, ezn⟩, k2⟩ := id k
      refine ⟨sub z.cls, by rw [ezn]; exact hex z.cls zn hzn ek, fun e2 a na oe pn' hz hf2 => ?_, fun e2 => ?_⟩
      · rw [e2] at hr
        have hr : RetS X.K tb W w0 w D (suO none (os z l' s')) := hr
        refine (hsu z a oe dx pn' (erOk_caught k hz hf2) l' s').go w0 w' σ' D F' e' ?_
        cases eo : os z l' s' with
        | no => rw [eo] at hr; exact hr
        | nx l2 s2 => rw [eo] at hr; exact RetS.up st' hr
        | rt d s2 => rw [eo] at hr; exact RetS.up (o := .rt d s2) st' hr
        | er z2 l2 s2 => rw [eo] at hr; exact hr.elim
      · rw [e2] at hr
        exact hr cc dx σ' w' e' F' st' k
/-- try: body except y as n: suite -/
theorem s1_tryA {body suite : List Stmt} {b0 : Stmt} {np pos' : Pos} {y nn : Str} {v : Nat} {kn sub : Nat → Bool} {ob : O} {os : Er → Loc → Sto → O} (S : Stk X) (hx0 : tb.hx = none) (px0 : tb.px = none) (tk : Takes X W) (hm : X.mg y = some (.ref (He.ga X.K y))) (hg : Glo X y) (hn : At X nn v) (hln : X.env.scope.names.lookup nn = some .local)
    (hex : ∀ c z, tb.l[c]? = some z → kn c = true → PySem.W.exmOne X.K (.ref (He.ga X.K z)) (.ref (He.ga X.K y)) = some (sub c))
    (hb : ∀ (W' : WX) (pn : List (Addr × Obj)) (xe : Value → Shared → Prop), Takes (X.tr pn xe) W' → PassesOwn (model X.prog X.w) X.A X.env xe → SX (X.tr pn xe) tb W' body l s ob)
    (hsu : ∀ (z : Er) (a : Addr) (oe : Obj) (d : Option Addr) (pn : List (Addr × Obj)), Caught X.K tb.l z oe d → ∀ l s, SX (X.suite a ((a, oe) :: pn)) ⟨tb.l, some (v, a), pxOf z d⟩ W0 (b0 :: suite) l s (os z l s)) :
    S1 X tb W (.Try body [.ExceptHandler (some (.Name y np)) (some nn) (b0 :: suite) pos'] [] [] pos) l s (triO kn sub (fun z l s => cond (decide (v < l.length)) (suO (some v) (os z (l.set v none) s)) .no) ob) :=
  s1_of (ps_try_as (i := v) (c := .ref (He.ga X.K y)) (tb := fun W' D σ H => ∀ (pn : List (Addr × Obj)) (xe : Value → Shared → Prop), Takes (X.tr pn xe) W' → PassesOwn (model X.prog X.w) X.A X.env xe → semS (X.tr pn xe) body D σ H)
      (ts := fun a cls d D σ H => ∀ (oe : Obj) (pn : List (Addr × Obj)), Zc cls d oe → (∃ vs, oe.data = .fields vs) → semS (X.suite a ((a, oe) :: pn)) (b0 :: suite) D σ H) S.stk S.frm hn.nd hn.ix hln ⟨hg.gl, hg.d1, .inl hm⟩ tk
      (fun W' pn xe t hp => ⟨fun pins s σ H D I h => h pn xe t hp pins s I⟩) (fun a oe cls d pn hz hf2 => ⟨fun pins s σ H D I h => h oe pn hz hf2 pins s I⟩)) fun w0 w σ D F hs hr pn xe t hpo => by
    refine (hb _ pn xe t hpo).go w0 w σ D F hs ?_
    cases ob with
    | no => exact hr
    | nx l' s' => exact hr
    | rt d s' => exact hr
    | er z l' s' =>
      have hr : RetS X.K tb W w0 w D (cond (kn z.cls) (cond (sub z.cls) (cond (decide (v < l'.length)) (suO (some v) (os z (l'.set v none) s')) .no) (.er z l' s')) .no) := hr
      cases ek : kn z.cls with
      | false => rw [ek] at hr; exact hr.elim
      | true =>
      rw [ek] at hr
      have hr : RetS X.K tb W w0 w D (cond (sub z.cls) (cond (decide (v < l'.length)) (suO (some v) (os z (l'.set v none) s')) .no) (.er z l' s')) := hr
      intro cc dx σ' w' e' F' st' k
      obtain ⟨⟨zn, hzn, ezn⟩, k2⟩ := id k
      refine ⟨sub z.cls, by rw [ezn]; exact hex z.cls zn hzn ek, fun e2 a na oe pn' hz hf2 => ?_, fun e2 => ?_⟩
      · rw [e2] at hr
        have hr : RetS X.K tb W w0 w D (cond (decide (v < l'.length)) (suO (some v) (os z (l'.set v none) s')) .no) := hr
        by_cases hv : v < l'.length
        · rw [decide_eq_true hv] at hr
          have hr : RetS X.K tb W w0 w D (suO (some v) (os z (l'.set v none) s')) := hr
          have okv : tb.ok v := fun u b e => by rw [hx0] at e; cases e
          have F2 : Fit X.K ⟨tb.l, some (v, a), pxOf z dx⟩ w0 w' (σ'.set v (some (.ref a))) (l'.set v none) := by
            have G := F'.forget (i := v) (x := some (.ref a)) okv
            refine ⟨G.st, G.len, G.sl, fun u b e => ?_, px_of k⟩
            cases e
            rw [List.getElem?_set, if_pos rfl, if_pos (by rw [F'.len]; exact hv)]
          refine (hsu z a oe dx pn' (erOk_caught k hz hf2) (l'.set v none) s').go w0 w' _ _ F2 e' ?_
          cases eo : os z (l'.set v none) s' with
          | no => rw [eo] at hr; exact hr
          | nx l2 s2 =>
            rw [eo] at hr
            intro σ3 w3 e3 F3 st3
            exact hr _ w3 e3 ((fit_hx (tb := tb) (tb' := ⟨tb.l, some (v, a), pxOf z dx⟩) rfl ⟨hx0, px0⟩ F3).forget okv) (st'.trans st3)
          | rt d s2 => rw [eo] at hr; exact fun v2 w2 e3 s0 st3 rv => hr v2 w2 e3 s0 (st'.trans st3) rv
          | er z2 l2 s2 => rw [eo] at hr; exact hr.elim
        · rw [decide_eq_false hv] at hr
          exact hr.elim
      · rw [e2] at hr
        exact hr cc dx σ' w' e' F' st' k
end
/-! ## exceptions with values -/
def notDB (x : Str) : Bool := !(x == ("__debug__" : Str)) && !(x == ("__classdict__" : Str))
/-- an own __init__ of an exception class that stores its arguments -/
def spX (K : PySem.W.Frag) (C : Addr) (fs : List Str) : Sp := fun vs H Q _ => ∃ a ws, vs = .ref a :: ws ∧ ws.length = fs.length ∧ H a = some (exo a C none) ∧ OexC K C ∧ (∀ f ∈ fs, PySem.W.findIn K (.ref C) f = some none) ∧
  ∀ dx, H dx = none → dx ≠ a → Q .non (upd (upd H dx (exd dx (fs.zip ws).reverse)) a (exo a C (some dx)))
section
variable {P : Program} {w : World} {K : PySem.W.Frag} {mg : Str → Option Value} {base : Heap} {qual : Str} {params : Arguments} {body : List Stmt} {scope : Scope} {fI C : Addr} {fd : FuncData}
theorem fnX1 {x f : Str} (F : FunD K "__init__" qual params body scope [] [] fI fd) (S : FnScope ["self", x] ["self", x] scope) (h0 : scope.names.lookup ("self" : Str) = some NameKind.local) (h1 : scope.names.lookup x = some NameKind.local) (hx : notDB x = true)
    (hb : ∃ p1 p2 p3 p4, body = [.Assign [.Attribute (.Name "self" p1) f p2] (.Name x p3) p4]) : FnOk P w K mg base (L2.CX P w) 1 fI fd ["self", x] (spX K C [f]) := by
  obtain ⟨p1, p2, p3, p4, rfl⟩ := hb
  unfold notDB at hx
  simp only [Bool.and_eq_true, Bool.not_eq_true'] at hx
  refine F.ok S (fun vs H Q E h => ?_) fun cdv A outer s H vs Q E hr h => ?_
  · obtain ⟨a, ws, rfl, hl, _⟩ := h
    rw [List.length_cons, hl]
    rfl
  · obtain ⟨a, ws, rfl, hl, ha, T, hno, q⟩ := h
    match ws, hl with
    | [y], _ =>
      refine ⟨_, pss_one (ps_ost (pe_var (i := 0) rfl (.inl h0) (by decide) (by decide)) (pe_var (i := 1) rfl (.inl h1) hx.1 hx.2)), ?_⟩
      exact ⟨y, rfl, .ref a, rfl, a, C, rfl, T, hno f (by simp), .inl ⟨ha, fun dx hd ne => q dx hd ne⟩⟩
theorem fnX2 {x y f g : Str} (F : FunD K "__init__" qual params body scope [] [] fI fd) (S : FnScope ["self", x, y] ["self", x, y] scope) (h0 : scope.names.lookup ("self" : Str) = some NameKind.local) (h1 : scope.names.lookup x = some NameKind.local) (h2 : scope.names.lookup y = some NameKind.local) (hx : notDB x = true) (hy : notDB y = true)
    (hb : ∃ p1 p2 p3 p4 p5 p6 p7 p8, body = [.Assign [.Attribute (.Name "self" p1) f p2] (.Name x p3) p4, .Assign [.Attribute (.Name "self" p5) g p6] (.Name y p7) p8]) : FnOk P w K mg base (L2.CX P w) 1 fI fd ["self", x, y] (spX K C [f, g]) := by
  obtain ⟨p1, p2, p3, p4, p5, p6, p7, p8, rfl⟩ := hb
  unfold notDB at hx hy
  simp only [Bool.and_eq_true, Bool.not_eq_true'] at hx hy
  refine F.ok S (fun vs H Q E h => ?_) fun cdv A outer s H vs Q E hr h => ?_
  · obtain ⟨a, ws, rfl, hl, _⟩ := h
    rw [List.length_cons, hl]
    rfl
  · obtain ⟨a, ws, rfl, hl, ha, T, hno, q⟩ := h
    match ws, hl with
    | [u, v], _ =>
      refine ⟨_, pss_cons (ps_ost (pe_var (i := 0) rfl (.inl h0) (by decide) (by decide)) (pe_var (i := 1) rfl (.inl h1) hx.1 hx.2)) (pss_one (ps_ost (pe_var (i := 0) rfl (.inl h0) (by decide) (by decide)) (pe_var (i := 2) rfl (.inl h2) hy.1 hy.2))), ?_⟩
      refine ⟨u, rfl, .ref a, rfl, a, C, rfl, T, hno f (by simp), .inl ⟨ha, fun dx hd ne => ?_⟩⟩
      refine ⟨v, rfl, .ref a, rfl, a, C, rfl, T, hno g (by simp), .inr ⟨dx, [(f, u)], upd_same, by rw [upd_ne ne, upd_same], by show 1 ≤ 900; decide, ?_⟩⟩
      have e := q dx hd ne
      have eh : upd (upd (upd H dx (exd dx [(f, u)])) a (exo a C (some dx))) dx (exd dx [(g, v), (f, u)]) = upd (upd H dx (exd dx ([f, g].zip [u, v]).reverse)) a (exo a C (some dx)) := by
        funext b
        by_cases hbd : b = dx
        · subst hbd
          rw [upd_same, upd_ne ne, upd_same]
          rfl
        · rw [upd_ne hbd]
          by_cases hba : b = a
          · rw [hba, upd_same, upd_same]
          · rw [upd_ne hba, upd_ne hba, upd_ne hbd, upd_ne hbd]
      show Q .non (upd (upd (upd H dx (exd dx [(f, u)])) a (exo a C (some dx))) dx (exd dx [(g, v), (f, u)]))
      rw [eh]
      exact e
end
structure XinT (Pg : Pg) (P : Program) (w : World) (K : PySem.W.Frag) (mg : Str → Option Value) (base : Heap) (tb : List Str) (z : Str) (x : Nat) (fs : List Nat) : Prop where
  tx : tb[x]? = some z
  ex : Pg.exf.lookup x = some fs
  g : mg z = some (.ref (He.ga K z))
  T : OexC K (He.ga K z)
  fn : ∃ fI fd ps fns, PySem.W.findIn K (.ref (He.ga K z)) "__init__" = some (some (.ref fI)) ∧ PySem.W.typeIn K (.ref fI) = some (.type "function") ∧ Binds K fd ps [] ∧ FnOk P w K mg base (L2.CX P w) 1 fI fd ps (spX K (He.ga K z) fns) ∧ fns.length = fs.length ∧ (∀ (i f : Nat), fs[i]? = some f → tb[f]? = fns[i]?) ∧
    ∀ f ∈ fns, PySem.W.findIn K (.ref (He.ga K z)) f = some none
theorem rpF_lookup {K : PySem.W.Frag} {tl : List Str} {G : Hp} {m : List Addr} (nd : tl.Nodup) {f : Nat} : ∀ {xs : List (Str × V)} {ds : List (Nat × Dt)} {d : Dt}, RpF K tl G m xs ds → ds.lookup f = some d → ∃ z v, tl[f]? = some z ∧ xs.lookup z = some v ∧ Rp K G m v d
  | _, _, _, .nil, e => by cases e
  | _, _, d, .cons (k := k) (z := z) (x := x) (xs := xs) (d := d0) e0 r t, e => by
    by_cases q : f = k
    · subst q
      rw [List.lookup_cons, beq_self_eq_true] at e
      cases e
      exact ⟨z, x, e0, by rw [List.lookup_cons, beq_self_eq_true], r⟩
    · rw [List.lookup_cons, beq_false_of_ne q] at e
      obtain ⟨z2, v, h1, h2, h3⟩ := rpF_lookup nd t e
      refine ⟨z2, v, h1, ?_, h3⟩
      have ne : z2 ≠ z := fun h => by
        subst h
        obtain ⟨i1, j1⟩ := List.getElem?_eq_some_iff.mp h1
        obtain ⟨i2, j2⟩ := List.getElem?_eq_some_iff.mp e0
        exact q ((List.getElem_inj nd).mp (j1.trans j2.symm))
      rw [List.lookup_cons, beq_false_of_ne ne]
      exact h2
theorem rpF_append {K : PySem.W.Frag} {tl : List Str} {G : Hp} {m : List Addr} : ∀ {xs ys : List (Str × V)} {ds es : List (Nat × Dt)}, RpF K tl G m xs ds → RpF K tl G m ys es → RpF K tl G m (xs ++ ys) (ds ++ es)
  | _, _, _, _, .nil, s => s
  | _, _, _, _, .cons e r t, s => .cons e r (rpF_append t s)
theorem rpF_zip {K : PySem.W.Frag} {tl : List Str} {G : Hp} {m : List Addr} : ∀ {fns : List Str} {fs : List Nat} {ws : List V} {ds : List Dt}, (∀ (i f : Nat), fs[i]? = some f → tl[f]? = fns[i]?) → fns.length = fs.length → RpA K G m ws ds → RpF K tl G m (fns.zip ws).reverse (fs.zip ds).reverse
  | [], [], _, _, _, _, _ => .nil
  | [], _ :: _, _, _, _, h, _ => by cases h
  | _ :: _, [], _, _, _, h, _ => by cases h
  | f :: fns, k :: fs, _, _, h, hl, .nil => .nil
  | f :: fns, k :: fs, _, _, h, hl, .cons r t => by
    rw [List.zip_cons_cons, List.zip_cons_cons, List.reverse_cons, List.reverse_cons]
    exact rpF_append (rpF_zip (fun i g e => h (i + 1) g (by simpa using e)) (by simpa using hl) t) (.cons (h 0 k rfl) r .nil)
section
variable {X : Cx} {tb : Tb} {W : WX} {l : Loc} {s : Sto} {e : Expr} {es : List Expr} {pos : Pos}
theorem s1_raiX {Pg : Pg} {z : Str} {x : Nat} {fs : List Nat} {p1 p3 : Pos} {r : R (List Dt)} (T : XinT Pg X.prog X.w X.K X.mg X.base tb.l z x fs) (tk : Takes X W) (hc : X.calm = true) (hg : Glo X z) (hr : Room 2 X.A) (ha : AX X tb W (e :: es) l s r)
    (he : starEach (e :: es) X.env = (false, eval e X.env) :: starEach es X.env) (hpl : (backTo p3 (starEach es X.env)).any (·.1) = false) :
    S1 X tb W (.Raise (some (.Call (.Name z p1) (e :: es) [] p3)) none pos) l s (r.out l fun ds s => match Pg.exf.lookup x with
      | none => cond ds.isEmpty (.er ⟨x, []⟩ l s) .no
      | some fs => cond (decide (fs.length = ds.length) && (decide (0 < ds.length) && decide (ds.length ≤ 10))) (.er ⟨x, (fs.zip ds).reverse⟩ l s) .no) := by
  obtain ⟨fI, fd, ps, fns, iC, tI, hb, F, hfl, hfn, hno⟩ := T.fn
  refine s1_of (ps_raise hc tk (pmk_oex (k := 1) (dvs := []) T.T iC tI F hr hb .nil (fun pins σ H s e s' I z => by
    obtain ⟨_, _, _, _, _, _, _, _, _, _, _, _, y⟩ := z
    exact y.elim) hg.gl T.g (pa_sem (e :: es)) hg.d1 he hpl)) fun w0 w σ D F hs hr => GO.out ha.go F hs hr fun vs w1 ds e1 st rv hr => ?_
  rw [T.ex] at hr
  dsimp only at hr
  cases hcd : (decide (fs.length = ds.length) && (decide (0 < ds.length) && decide (ds.length ≤ 10))) with
  | false => rw [hcd] at hr; exact hr.elim
  | true =>
    rw [hcd] at hr
    simp only [Bool.and_eq_true, decide_eq_true_eq] at hcd
    have hr : RetS X.K tb W w0 w1 D (.er ⟨x, (fs.zip ds).reverse⟩ l w1.s) := hr
    have hvl := rv.length
    refine ⟨by omega, fun a hna => ⟨a, vs, by rw [List.append_nil], by omega, upd_same, T.T, hno, fun dx hd ne => ⟨rfl, dx, (fns.zip vs).reverse, upd_same, by rw [upd_ne ne, upd_same], by rwa [upd_ne ne] at hd, ?_⟩⟩⟩
    have hd1 : w1.H dx = none := by rwa [upd_ne ne] at hd
    have eh : upd (del (upd (upd (upd w1.H a (exo a (He.ga X.K z) none)) dx (exd dx (fns.zip vs).reverse)) a (exo a (He.ga X.K z) (some dx))) a) dx (.xd (fns.zip vs).reverse) = upd w1.H dx (.xd (fns.zip vs).reverse) := by
      funext b
      by_cases hbd : b = dx
      · rw [hbd, upd_same, upd_same]
      · rw [upd_ne hbd, upd_ne hbd]
        by_cases hba : b = a
        · rw [hba, del_same, hna]
        · rw [del_ne hba, upd_ne hba, upd_ne hbd, upd_ne hba]
    rw [eh]
    have st1 := Stp.lay st.sim (.xd (fns.zip vs).reverse) hd1
    refine hr (.ref (He.ga X.K z)) (some dx) σ ⟨_, _, w1.m, w1.s⟩ rfl ((F.step st).step st1) st1 ⟨⟨z, T.tx, rfl⟩, ?_⟩
    have rz := rpF_zip hfn hfl (rv.up st1.g st1.pre)
    show match (fs.zip ds).reverse with
      | [] => some dx = none
      | p => ∃ d fs', some dx = some d ∧ upd w1.G dx (.xd (fns.zip vs).reverse) d = some (.xd fs') ∧ RpF X.K tb.l (upd w1.G dx (.xd (fns.zip vs).reverse)) w1.m fs' p
    have ne0 : (fs.zip ds).reverse ≠ [] := fun z => by
      have h := congrArg List.length z
      rw [List.length_reverse, List.length_zip, List.length_nil] at h
      omega
    cases hq : (fs.zip ds).reverse with
    | nil => exact absurd hq ne0
    | cons q t =>
      rw [hq] at rz
      exact ⟨dx, _, rfl, upd_same, rz⟩
end
end Ip

namespace Ip
open PySem L2 PySem.Spec PyProof.Rows
/-! ## sorted(.., key=lambda one: one[0] * (common // one[1])) -/
section
variable {prog : Program} {w : World} {A : Around} {s : Shared}
/-- the lambda's body -/
def KeyBody (body : Expr) : Prop := ∃ p1 p2 p3 p4 p5 p6 p7 p8 p9 j1 j2, body = .BinOp (.Subscript (.Name "one" p1) (.Constant (.int 0) j1 p2) p3) .Mult (.BinOp (.Name "common" p4) .FloorDiv (.Subscript (.Name "one" p5) (.Constant (.int 1) j2 p6) p7) p8) p9
structure KeyScope (scope : Scope) : Prop where
  kind : scope.kind = .function
  co : scope.isCoroutine = false
  gen : scope.isGenerator = false
  one : scope.names.lookup ("one" : Str) = some NameKind.local
  com : scope.names.lookup ("common" : Str) = some NameKind.free
  cell : ∀ x ∈ scope.names, x.2 ≠ .cell
theorem item_eval {E : Value → Shared → Prop} {env : Env} {m : Str → Option Value} {t : Addr} {items : Array Value} {k : Int} {j : Nat} {x : Value} {p1 p2 p3 : Pos} {j1 : Nat} {Q : Value → Shared → Prop} (hk : env.scope.kind = .function) (h1 : env.scope.names.lookup ("one" : Str) = some NameKind.local)
    (hn : s.heap.Ns env.locals m) (hm : m "one" = some (.ref t)) (ht : IsTup s.heap t items) (hlo : -(2 ^ 63) ≤ k) (hhi : k < 2 ^ 63) (hj : seqIndex? k items.size = some j) (hx : items[j]? = some x) (h : Q x { s with toks := s.toks + 1 }) :
    wpAny (model prog w) A (eval (.Subscript (.Name "one" p1) (.Constant (.int k) j1 p2) p3) env) Q E s := by
  refine Subscript_ (wpAny_Name (wpAny_loadName_local hk h1 hn hm ?_) (by decide))
  refine wpAny_Constant_int ?_
  exact tail_any (s := { s with toks := s.toks + 1 }) (ops := [.ref t]) (T := "tuple") ht.typeIs slot_tuple_getitem.lookup (getItem_tuple ht hlo hhi hj hx h) (by with_unfolding_all rfl)
theorem key_turn {q : Str} {params : Arguments} {body : Expr} {scope : Scope} {clos : List (Str × Addr)} {pm ctv : Value} {c' f t cc : Addr} {a b D : Int} {ta tb tD : Tok} (hroom : A.depth < recursionLimit)
    (ho : s.heap.get? f = some (PySem.W.kla_obj "<lambda>" q params body scope clos pm c' ctv)) (hcr : s.heap.CodeRec (.ref c') q) (hbind : ∀ v, bindArgs (PySem.W.kla_fn "<lambda>" q params body scope clos pm (.ref c') ctv) ⟨[v], []⟩ = pure [(("one" : Str), v)])
    (hb : KeyBody body) (S : KeyScope scope) (hcl : clos.lookup ("common" : Str) = some cc) (hcell : s.heap.IsCell cc (some (.int D tD))) (ht : IsTup s.heap t #[.int a ta, .int b tb]) (h0 : b ≠ 0) (hl : b.natAbs.log2 < 9000) (hm : IntMulOk a (D.fdiv b)) (lim : s.heap.NoLimit) :
    wpAny (model prog w) A (call (.ref f) [.ref t]) (PySem.W.KeyPure (.int (a * D.fdiv b)) s) (fun _ _ => False) s := by
  obtain ⟨p1, p2, p3, p4, p5, p6, p7, p8, p9, j1, j2, rfl⟩ := hb
  refine wpAny_call (PySem.W.kla_callFunE hroom ho rfl S.co S.gen rfl hcr ?_)
  rw [hbind]
  refine wpAny_pure (wpAny_newFunctionEnv S.cell (fun y hy => ?_) (fun h₁ hns hsb => ⟨lim.fresh _ hsb, ?_⟩) S.kind)
  · simp only [List.mem_cons, List.mem_nil_iff, or_false] at hy
    rw [hy]
    exact S.one
  have kp : ∀ b o, s.heap.get? b = some o → h₁.get? b = some o := fun b o e => hsb.extBut b o (Nat.ne_of_lt (Heap.lt_size e)) (Heap.get?_push_of_some _ e)
  refine PySem.W.kla_codeExpr (wpAny_BinOp ?_)
  have tk1 : ∀ {tk}, IsTup ({ s with heap := h₁, toks := tk } : Shared).heap t #[.int a ta, .int b tb] := fun {tk} => ht.keeps kp
  refine item_eval (m := fun y => ([(("one" : Str), .ref t)] : List (Str × Value)).reverse.lookup y) S.kind S.one hns (by rfl) (ht.keeps kp) (by decide) (by decide) (by rfl) (by rfl) ?_
  refine wpAny_BinOp ?_
  refine wpAny_Name (wpAny_loadName_free S.kind S.com hcl (hcell.keeps kp) ?_) (by decide)
  refine item_eval (m := fun y => ([(("one" : Str), .ref t)] : List (Str × Value)).reverse.lookup y) S.kind S.one hns (by rfl) (ht.keeps kp) (by decide) (by decide) (by rfl) (by rfl) ?_
  refine floordiv_int h0 ?_ (.inl (PyProof.noPylong_of_log2 hl))
  refine mul_int ?_ hm
  exact ⟨h₁, _, rfl, kp, .int _ _⟩
end
theorem dataLe_int {β : Type} (f : β → Int) (x y : β) : PySem.W.dataLe false (fun b => PyData.int (f b)) x y = decide (f x ≤ f y) := by
  show (!PyProof.Rows.lexLt PyProof.Rows.itemOrd (PySem.W.keyToks (PyData.int (f y))) (PySem.W.keyToks (PyData.int (f x)))) = _
  simp only [PySem.W.keyToks]
  by_cases h : f x ≤ f y
  · rw [decide_eq_true h]
    simp [PyProof.Rows.lexLt, PyProof.Rows.itemOrd, PyProof.Rows.itemLt]
    omega
  · rw [decide_eq_false h]
    simp [PyProof.Rows.lexLt, PyProof.Rows.itemOrd, PyProof.Rows.itemLt]
    omega
open Classical in
theorem tabs_all {H : Hp} {h : Heap} {P0 : Program} {w : World} (hok : HOk P0 w H h) : ∃ T : List (Addr × Str), (∀ b, LamX.TabS H b lamQ → (b, lamQ) ∈ T) ∧ (∀ p ∈ T, p.2 = lamQ) ∧ LamX.Tabs T H := by
  refine ⟨((List.range h.objs.size).filter fun b => decide (LamX.TabS H b lamQ)).map fun b => (b, lamQ), fun b hb => ?_, fun p hp => ?_, fun p hp => ?_⟩
  · refine List.mem_map.mpr ⟨b, List.mem_filter.mpr ⟨List.mem_range.mpr ?_, decide_eq_true hb⟩, rfl⟩
    obtain ⟨ps, e, _⟩ := hb
    exact Heap.lt_size (hok b _ e)
  · obtain ⟨b, _, rfl⟩ := List.mem_map.mp hp
    rfl
  · obtain ⟨b, hb, rfl⟩ := List.mem_map.mp hp
    exact of_decide_eq_true (List.mem_filter.mp hb).2
section
variable {X : Cx} {tb : Tb} {W : WX} {l : Loc} {s : Sto} {e : Expr} {pos p p1 : Pos} {k n : Nat}
def refV : Value → V
  | .ref t => .ref t
  | _ => .non
def pairD (a : Int × Int) : Dt := .tup [.int a.1, .int a.2]
def KeyR (K : PySem.W.Frag) (G : Hp) (m : List Addr) (v : Value) (a : Int × Int) : Prop := ∃ t, v = .ref t ∧ Rp K G m (.ref t) (pairD a)
theorem each_keyR {K : PySem.W.Frag} {G : Hp} {m : List Addr} : ∀ {as : List (Int × Int)} {xs : List V} {its : List Value}, RpA K G m xs (as.map pairD) → Vals xs its → PySem.W.EachIs (KeyR K G m) its as
  | [], _, _, h, r => by
    cases h
    cases r
    exact .nil
  | a :: as, _, _, h, r => by
    cases h with
    | cons h1 h2 =>
      cases r with
      | cons r1 r2 =>
        refine .cons ?_ (each_keyR h2 r2)
        cases h1 with
        | tup q z z2 => exact ⟨_, r1, .tup q z z2⟩
theorem each_out {K : PySem.W.Frag} {G : Hp} {m : List Addr} : ∀ {out : List Value} {as : List (Int × Int)}, PySem.W.EachIs (KeyR K G m) out as → RpA K G m (out.map refV) (as.map pairD) ∧ Vals (out.map refV) out
  | _, _, .nil => ⟨.nil, .nil⟩
  | _, _, .cons h r => by
    obtain ⟨h1, h2⟩ := each_out r
    obtain ⟨t, rfl, ht⟩ := h
    exact ⟨.cons ht h1, .cons rfl h2⟩
theorem rp_tup {pins : List (Addr × Obj)} {s : Shared} {σ : L2.St} {H G : Hp} {m : List Addr} (I : Inv X pins σ H s) (nt : NoT G) (sT : ∀ b o, G b = some o → H b = some o) {t : Addr} {a : Int × Int} (h : Rp X.K G m (.ref t) (pairD a)) : ∃ ta tb, IsTup s.heap t #[.int a.1 ta, .int a.2 tb] := by
  cases h with
  | tup q r z =>
    obtain ⟨its, rv, ht, _⟩ := I.tuple (same_tseq sT q)
    cases r with
    | cons r1 r2 =>
      cases r2 with
      | cons r3 r4 =>
        cases r4
        cases r1
        cases r3
        cases rv with
        | cons v1 v2 =>
          cases v2 with
          | cons v3 v4 =>
            cases v4
            obtain ⟨ta, rfl⟩ := v1
            obtain ⟨tb, rfl⟩ := v3
            exact ⟨ta, tb, ht⟩
theorem boot_sorted1 : bootBuiltins "sorted" = some (.builtin "sorted") := by decide +kernel
theorem Stp.lam {K : PySem.W.Frag} {tl : List Str} {w : Wd} {H2 : Hp} (S : Sim K tl w) (k : ∀ b o, w.H b = some o → (∀ ps, o ≠ .tbl ps) → H2 b = some o) (t : ∀ P, LamX.TabS w.H P lamQ → LamX.TabS H2 P lamQ) : Stp K tl w ⟨w.G, H2, w.m, w.s⟩ :=
  ⟨⟨fun b o e => k b o (S.sub b o e) (fun ps z => S.nt b ps (by rw [e, z])), S.nt, S.tk.imp id (t _), S.len, S.nd, fun a h => by
    obtain ⟨o, e, n⟩ := S.th a h
    exact ⟨o, k a o e n, n⟩, fun n o a e1 e2 => (S.ob n o a e1 e2).up (Same.refl _) (Pre.refl _) (fun q _ => q) fun u e nu => k a u e nu⟩, Same.refl _, ⟨[], by simp⟩, fun b o e n _ => k b o e n, t, fun a h n => absurd h n, fun b o e n => (by rw [show w.G b = some o from e] at n; cases n), fun b od x e => k b _ e fun ps z => (by cases z)⟩
abbrev ordP : Str × Option Str := ("in_order", none)
structure CodeAt (X : Cx) : Prop where
  nin : PySem.W.nsIn X.K mainGlobals "in_order" ≠ some none
  TB : LamX.TabB X.base X.mg (He.codeOf X.K ordP) (He.tabOf X.K (He.codeOf X.K ordP))
  code : X.env.code = .ref (He.codeOf X.K ordP)
  qual : X.env.qual ++ "<lambda>" = lamQ
theorem qual_ok : ("in_order" ++ ".<locals>." : Str) ++ "<lambda>" = lamQ := by decide +kernel
theorem pairs_inj : ∀ {as bs : List (Int × Int)}, as.map pairD = bs.map pairD → as = bs
  | [], [], _ => rfl
  | [], _ :: _, h => by cases h
  | _ :: _, [], h => by cases h
  | (a, b) :: as, (c, d) :: bs, h => by
    simp only [List.map_cons, List.cons.injEq, pairD, Dt.tup.injEq, Dt.int.injEq] at h
    obtain ⟨⟨h1, h2, _⟩, h3⟩ := h
    rw [h1, h2, pairs_inj (as := as) (bs := bs) h3]
theorem srtKey_eq {c : Int} {as : List (Int × Int)} {s : Sto} (hl : as.length ≤ sizeLine) (hc : ∀ a ∈ as, a.2 ≠ 0 ∧ a.2.natAbs.log2 < 9000 ∧ IntMulOk a.1 (c.fdiv a.2)) :
    srtKey c (as.map pairD) s = .ok (.lst ((as.mergeSort fun x y => decide (x.1 * c.fdiv x.2 ≤ y.1 * c.fdiv y.2)).map pairD)) s := by
  unfold srtKey
  have H : ∃ bs : List (Int × Int), as.map pairD = bs.map (fun p => Dt.tup [.int p.1, .int p.2]) ∧ bs.length ≤ sizeLine ∧ ∀ a ∈ bs, a.2 ≠ 0 ∧ a.2.natAbs.log2 < 9000 ∧ IntMulOk a.1 (c.fdiv a.2) := ⟨as, rfl, hl, hc⟩
  rw [dif_pos H]
  have e : Classical.choose H = as := (pairs_inj (Classical.choose_spec H).1).symm
  rw [e]
  rfl
/-- sorted(e, key=lambda one: one[0] * (common // one[1])) -/
theorem ex_srtK {params : Arguments} {body : Expr} {scope : Scope} {r : R Dt} {lpos kpos : Pos} (CA : CodeAt X) (hm : X.mg "sorted" = none) (S : KeyScope scope) (hb : KeyBody body) (hdef : defaultsOf params X.env = ([], []))
    (hbind : ∀ q clos pm c' ctv v, bindArgs (PySem.W.kla_fn "<lambda>" q params body scope clos pm (.ref c') ctv) ⟨[v], []⟩ = pure [(("one" : Str), v)]) (hfree : ∀ y ∈ scope.names, y.2 = .free → y.1 = "common") (hmem : (("common" : Str), NameKind.free) ∈ scope.names)
    (hN : X.N[k]? = some ("common" : Str)) (hkc : X.env.scope.names.lookup ("common" : Str) = some NameKind.cell) (hrm : Room n X.A)
    (ha : EX X tb W e l s r) (hg : Glo X "sorted") (s1 : starEach [e] X.env = (false, eval e X.env) :: starEach [] X.env) :
    EX X tb W (.Call (.Name "sorted" p) [e] [⟨some "key", .Lambda params body scope lpos, kpos⟩] pos) l s (r.bind fun x s => match view s x, l[k]? with
    | .lst ds, some (some (.int c)) => srtKey c ds s
    | _, _ => .no) := by
  refine ⟨fun w0 w σ Q F hs hr0 pins s I => ?_⟩
  refine wpAny_Call_Name_kw (ld_blt I hg.gl hm boot_sorted1 ?_ hg.nn hg.d1)
  have s1b : backTo pos (starEach [e] X.env) = (false, eval e X.env) :: backTo pos (starEach [] X.env) := by rw [s1]; rfl
  have ga := (ax_cons ha (fun _ => ax_nil) s1).go
  have hr1 : Ret X.K tb W (RV X.K) σ w Q ((r.bind fun x s => (R.ok [] s).bind fun xs s => .ok (x :: xs) s).bind fun xs s => match view s (xs.headD .non), l[k]? with
    | .lst ds, some (some (.int c)) => srtKey c ds s
    | _, _ => .no) := ret_one (f := fun x s => match view s x, l[k]? with
    | .lst ds, some (some (.int c)) => srtKey c ds s
    | _, _ => .no) hr0
  refine PyProof.Rows.callWith_kw (thn (ga.bind F hs hr1 (Q1 := fun vs H1 => ∃ w1 d, w1.H = H1 ∧ Stp X.K tb.l w w1 ∧ RpA X.K w1.G w1.m vs [d] ∧ Ret X.K tb W (RV X.K) σ w1 Q (match view w1.s d, l[k]? with
    | .lst ds, some (some (.int c)) => srtKey c ds w1.s
    | _, _ => .no)) (fun vs w1 ds e1 st1 rx hr => by
      obtain ⟨d, rfl⟩ := one_eq e1
      exact ⟨w1, d, rfl, st1, rx, hr⟩) pos pins s I) fun us s1' ⟨vs, H1, I1, rv, w1, d, e1, st1, rp, hr⟩ => ?_) s1b (by rw [s1b]; rfl) (by rfl) (by rfl)
  subst e1
  have F1 := F.step st1
  have hx : ∃ ds c, view w1.s d = .lst ds ∧ l[k]? = some (some (.int c)) := by
    revert hr
    split
    · rename_i ds c e1 e2
      exact fun _ => ⟨ds, c, e1, e2⟩
    · exact fun h => h.elim
  obtain ⟨ds, D, evw, hD⟩ := hx
  rw [evw, hD] at hr
  have hr : Ret X.K tb W (RV X.K) σ w1 Q (srtKey D ds w1.s) := hr
  have hx : ∃ as : List (Int × Int), ds = as.map pairD ∧ as.length ≤ sizeLine ∧ ∀ a ∈ as, a.2 ≠ 0 ∧ a.2.natAbs.log2 < 9000 ∧ IntMulOk a.1 (D.fdiv a.2) := by
    by_cases q : ∃ as : List (Int × Int), ds = as.map (fun p => Dt.tup [.int p.1, .int p.2]) ∧ as.length ≤ sizeLine ∧ ∀ a ∈ as, a.2 ≠ 0 ∧ a.2.natAbs.log2 < 9000 ∧ IntMulOk a.1 (D.fdiv a.2)
    · exact q
    · unfold srtKey at hr
      rw [dif_neg q] at hr
      exact hr.elim
  obtain ⟨as, rfl, hlen, hc⟩ := hx
  rw [srtKey_eq hlen hc] at hr
  cases rp with
  | cons rp1 rp2 =>
  cases rp2
  obtain ⟨la, xs, rfl, hS, rA⟩ := view_lst st1.sim rp1 evw
  obtain rfl := Vals.ref1 rv
  obtain ⟨T, hall, hTq, hTabs⟩ := tabs_all I1.hok
  have hTP := st1.sim.tk.resolve_left CA.nin
  have hfr : ∀ y ∈ scope.names, y.2 = .free → ∃ c, X.env.cells.lookup y.1 = some c := fun y hy e => by
    rw [hfree y hy e]
    exact I1.ok.has _ (.inl hkc)
  show wpAny _ _ (evalAll ((do let v ← eval (.Lambda params body scope lpos) X.env; standAt pos; pure v) :: [])) _ _ _
  refine wpAny_evalAll_cons (wpAny_bind (LamX.lam_make2 (T := T) I1 CA.TB CA.code (by rw [CA.qual]; exact hall _ hTP) (fun p hp _ => by rw [CA.qual]; exact hTq p hp) hTabs hdef hfr fun f c' pm ctv H2 s2 I2 eN hT2 hf hfn hfs hco => wpAny_bind (wpAny_standAt (wpAny_pure (wpAny_evalAll_nil ?_)))))
  have kk : ∀ b o, w1.H b = some o → (∀ ps, o ≠ .tbl ps) → H2 b = some o := fun b o e n => eN b o e n
  have st2 := Stp.lam st1.sim kk fun P h => hT2 _ (hall P h)
  have hS2 : SqL X.K H2 la xs := by
    rcases hS with (z | ⟨o, z⟩) | z
    · exact .inl (.inl (kk _ _ z (by nofun)))
    · exact .inl (.inr ⟨o, kk _ _ z (by nofun)⟩)
    · exact .inr z
  obtain ⟨its, rI, pl, hz⟩ := I2.list hS2
  have hln : its.length = as.length := by
    have h1 := rI.length
    have h2 := rA.length
    rw [List.length_map] at h2
    omega
  have hE := each_keyR rA rI
  obtain ⟨cc, hcc⟩ := I2.ok.has "common" (.inl hkc)
  obtain ⟨v0, ev, rv0⟩ := F1.get hD
  cases rv0
  obtain ⟨m0, hns, hlook⟩ := I2.loc
  obtain ⟨u0, ru0, l0⟩ := hlook k "common" (.int D) hN ev (.inr (.inl hkc))
  obtain ⟨tD, rfl⟩ := ru0
  have hcell : s2.heap.IsCell cc (some (.int D tD)) := by
    rcases l0 with ⟨hk1, _⟩ | ⟨_, c1, e1, e2⟩
    · have hk1 : X.env.scope.names.lookup ("common" : Str) = some NameKind.local := hk1
      rw [hkc] at hk1
      cases hk1
    · rw [hcc] at e1
      cases e1
      exact e2
  refine PySem.W.sorted_key_data (f := .ref f) (kw := [(Str.ofString "key", .ref f)]) (b := false) (β := Int × Int) (R := KeyR X.K w1.G w1.m) (bs := as) (vs := its) (fun a => .int (a.1 * D.fdiv a.2)) pl.isList hE ?_ ?_ hlen ?_ (PyProof.Rows.ksk_s1 _ _) (fun _ => PyProof.Rows.ksk_l1 _ _) (fun x => PyProof.Rows.ksk_t1 f x) ?_ ?_
  · intro d hd d' hd'
    obtain ⟨a, _, rfl⟩ := List.mem_map.mp hd
    obtain ⟨a', _, rfl⟩ := List.mem_map.mp hd'
    simp only [PySem.W.alike]
  · refine .inr fun d hd => ?_
    obtain ⟨a, _, rfl⟩ := List.mem_map.mp hd
    exact ⟨by nofun, by nofun⟩
  · intro x _
    have hu := hrm.units
    show X.A.units + 2 + (PyData.int _).depth < cLine
    simp only [PyData.depth]
    omega
  · rintro v a ⟨t, rfl, ht⟩ hx h tk kp
    obtain ⟨h0, h9, hmul⟩ := hc a hx
    obtain ⟨ta, tb, it⟩ := rp_tup I2 st1.sim.nt st2.sim.sub ht
    exact key_turn (A := X.A.in1.in1) (s := { s2 with heap := h, toks := tk }) hrm.depth (kp _ _ hf) ((NdefX.codeO_at I2.hok hco).keeps kp) (hbind _ _ _ _ _) hb S (NdefX.clo_has hfr hmem hcc) (hcell.keeps kp) (it.keeps kp) h0 h9 hmul (I2.nolimit.keeps kp)
  · intro out c h' tk kp hnone hout hl hEo
    obtain ⟨rpo, rvo⟩ := each_out hEo
    have elt : (as.mergeSort (PySem.W.dataLe false fun a : Int × Int => PyData.int (a.1 * D.fdiv a.2))) = as.mergeSort fun x y => decide (x.1 * D.fdiv x.2 ≤ y.1 * D.fdiv y.2) := by
      congr 1
      funext x y
      exact dataLe_int _ x y
    rw [elt] at rpo
    have hfresh : H2 (s2.heap.objs.size + 1) = none := I2.hok.fresh (Nat.le_succ _)
    have hzo : (out.map refV).length ≤ sizeLine := by rw [List.length_map, hl]; exact hlen
    refine ⟨.ref (s2.heap.objs.size + 1), upd H2 (s2.heap.objs.size + 1) (.lst (out.map refV)), I2.laid (t' := tk) kp (Nat.le_succ _) ⟨hzo, out, c, rvo, hout⟩, rfl, ?_⟩
    exact Ret.laid st2.sim rpo (Ret.up st2 hr) _ hfresh
end
/-! ## classes of the program -/
theorem nd_eqS {l : List Str} (nd : l.Nodup) {n k : Nat} {a : Str} (h : l[n]? = some a) (h2 : l[k]? = some a) : n = k := by
  obtain ⟨h1, e1⟩ := List.getElem?_eq_some_iff.mp h
  obtain ⟨h3, e3⟩ := List.getElem?_eq_some_iff.mp h2
  exact (List.getElem_inj nd).mp (e1.trans e3.symm)
section
variable {K : PySem.W.Frag} {tl : List Str} {G : Hp} {m : List Addr}
theorem rpF_none (nd : tl.Nodup) {f : Nat} {z : Str} (hz : tl[f]? = some z) : ∀ {xs : List (Str × V)} {ds : List (Nat × Dt)}, RpF K tl G m xs ds → ds.lookup f = none → xs.lookup z = none
  | _, _, .nil, _ => rfl
  | _, _, .cons (k := k) (z := y) e r t, h => by
    rw [List.lookup_cons] at h ⊢
    by_cases hk : f = k
    · subst hk
      simp at h
    · have hy : z ≠ y := fun q => by
        subst q
        exact hk (nd_eqS nd hz e)
      rw [show (f == k) = false from beq_false_of_ne hk] at h
      rw [show (z == y) = false from beq_false_of_ne hy]
      exact rpF_none nd hz t h
theorem rpF_put (nd : tl.Nodup) {f : Nat} {z : Str} {v : V} {d : Dt} (hz : tl[f]? = some z) (r : Rp K G m v d) : ∀ {xs : List (Str × V)} {ds : List (Nat × Dt)}, RpF K tl G m xs ds → RpF K tl G m (putF z v xs) (putN f d ds)
  | _, _, .nil => .cons hz r .nil
  | _, _, .cons (k := k) (z := y) e q t => by
    by_cases hk : k = f
    · subst hk
      have : y = z := Option.some.inj (e.symm.trans hz)
      subst this
      show RpF K tl G m (if y = y then _ else _) (if k = k then _ else _)
      rw [if_pos rfl, if_pos rfl]
      exact .cons hz r t
    · have hy : ¬ y = z := fun q => by
        subst q
        exact hk (nd_eqS nd e hz)
      show RpF K tl G m (if y = z then _ else _) (if k = f then _ else _)
      rw [if_neg hk, if_neg hy]
      exact .cons e q (rpF_put nd hz r t)
theorem rpF_len : ∀ {xs : List (Str × V)} {ds : List (Nat × Dt)}, RpF K tl G m xs ds → xs.length = ds.length
  | _, _, .nil => rfl
  | _, _, .cons _ _ t => congrArg (· + 1) (rpF_len t)
end
structure FldT (K : PySem.W.Frag) (tl : List Str) (c f : Nat) : Prop where
  ok : ∃ z n, tl[c]? = some z ∧ tl[f]? = some n ∧ Cls K (He.ga K z) ∧ NoAttr K (He.ga K z) n
structure MthT (P : Program) (w : World) (K : PySem.W.Frag) (mg : Str → Option Value) (base : Heap) (tl : List Str) (C : Cl) (c m f k : Nat) : Prop where
  ok : ∃ z n fa fd ps nn, tl[c]? = some z ∧ tl[m]? = some n ∧ Cls K (He.ga K z) ∧ Meth K (He.ga K z) n fa ∧ Binds K fd ps [] ∧ FnOk P w K mg base (L2.CX P w) k fa fd ps (spI K tl C f nn) ∧ ∀ ds s, C f ds s ≠ .no → ds.length = nn
structure NewT (P : Program) (w : World) (K : PySem.W.Frag) (mg : Str → Option Value) (base : Heap) (tl : List Str) (C : Cl) (z : Str) (c : Nat) (b : Bool) (k : Nat) : Prop where
  at_ : tl[c]? = some z
  mg_ : mg z = some (.ref (He.ga K z))
  ok : ∃ (C' : Cl) (ini : Option Nat), ini.isSome = b ∧ (∀ as s, C (nwI c) as s ≠ .no → C (nwI c) as s = newF C' c ini as s) ∧ match ini with
    | some fi => ∃ fI fd ps nn k', Mk K (He.ga K z) fI ∧ Binds K fd ps [] ∧ FnOk P w K mg base (L2.CX P w) k' fI fd ps (spI K tl C' fi nn) ∧ (∀ ds s, C' fi ds s ≠ .no → ds.length = nn) ∧ k' + 1 ≤ k
    | none => PySem.W.makesIn K (He.ga K z) = true ∧ PySem.W.findIn K (.ref (He.ga K z)) "__init__" = some (some (.builtin "object.__init__")) ∧ PySem.W.keepIn K (.ref (He.ga K z)) = true ∧ PySem.W.mroIn K (He.ga K z) (.type "object") = some true
structure FnD (P : Program) (w : World) (K : PySem.W.Frag) (mg : Str → Option Value) (base : Heap) (tl : List Str) (C : Cl) (x : Str) (f : Nat) (ds : List Dt) (k : Nat) : Prop where
  ok : ∃ fa fd ps vs us nn, mg x = some (.ref fa) ∧ PySem.W.keepIn K (.ref fa) = true ∧ Vals vs us ∧ Binds K fd ps us ∧ (∀ G m, RpA K G m vs ds) ∧ FnOk P w K mg base (L2.CX P w) k fa fd ps (spI K tl C f nn) ∧ ∀ ds s, C f ds s ≠ .no → ds.length = nn
section
variable {X : Cx} {tb : Tb} {W : WX} {l : Loc} {s : Sto} {e a b o : Expr} {es : List Expr} {pos p : Pos} {k : Nat} {C : Cl}
/-! ### attributes -/
theorem ex_att {Pp : Pg} {f : Nat} {x : Str} {r : R Dt} (nd : tb.l.Nodup) (hx : tb.l[f]? = some x) (hf : ∀ c, Pp.hasF c f = true → FldT X.K tb.l c f) (ho : EX X tb W o l s r) (hb : attributeBase o x X.env (eval o X.env) = eval o X.env) :
    EX X tb W (.Attribute o x pos) l s (r.bind fun x s => attS Pp f x s) :=
  ex_of (pe_fld (pe_sem o) hb) fun w0 w σ Q F hs hr => ho.go.bind F hs hr fun x1 w1 d e1 st1 rx hr => by
    unfold attS at hr
    split at hr
    · cases rx with
      | obj q =>
      split at hr
      · rename_i n a c fs el
        split at hr
        · rename_i hh
          obtain ⟨z, n2, e2, e3, cl, na⟩ := (hf c hh).ok
          obtain ⟨gN, u, hu, z2, dx, vs, e4, e5, rf⟩ := st1.sim.ob _ _ _ el q
          have ez : z2 = z := Option.some.inj (e4.symm.trans e2)
          have en : n2 = x := Option.some.inj (e3.symm.trans hx)
          subst ez en e5
          cases hl : fs.lookup f with
          | none => rw [hl] at hr; exact hr.elim
          | some dv =>
            rw [hl] at hr
            obtain ⟨y, v, e6, e7, rv⟩ := rpF_lookup nd rf hl
            have ey : y = n2 := Option.some.inj (e6.symm.trans e3)
            subst ey
            exact ⟨_, _, _, _, v, rfl, hu, cl, na, e7, hr v w1 rfl (.refl st1.sim) rv⟩
        · exact hr.elim
      · exact hr.elim
    · exact hr.elim
theorem s1_sat {Pp : Pg} {f : Nat} {x : Str} {p2 : Pos} {re : R Dt} {ro : Sto → R Dt} (nd : tb.l.Nodup) (hx : tb.l[f]? = some x) (hf : ∀ c, Pp.hasF c f = true → FldT X.K tb.l c f) (he : EX X tb W e l s re) (ho : ∀ s, EX X tb W o l s (ro s))
    (hs : swapsWith e (some (.Attribute o x p2)) pos.line X.env = pure false) : S1 X tb W (.Assign [.Attribute o x p2] e pos) l s (re.out l fun v s => (ro s).out l fun x s => withO (satS Pp f x v s) .no fun s => .nx l s) :=
  s1_of (ps_fld (pe_sem o) (pe_sem e) hs) fun w0 w σ D F hs hr => he.go.out F hs hr fun y w1 dy e1 st1 ry hr => (ho _).go.out (F.step st1) rfl hr fun x1 w2 d e2 st2 rx hr => by
    unfold satS at hr
    split at hr
    · cases rx with
      | obj q =>
      split at hr
      · rename_i n a c fs el
        split at hr
        · rename_i hh
          obtain ⟨z, n2, e2, e3, cl, na⟩ := (hf c hh.1).ok
          obtain ⟨gN, u, hu, z2, dx, vs, e4, e5, rf⟩ := st2.sim.ob _ _ _ el q
          have ez : z2 = z := Option.some.inj (e4.symm.trans e2)
          have en : n2 = x := Option.some.inj (e3.symm.trans hx)
          subst ez en e5
          have stp := Stp.put (u := .ins (He.ga X.K z2) dx (putF n2 y vs)) (o' := .ins c (putN f dy fs)) st2.sim el q rfl ⟨z2, dx, _, e4, rfl, rpF_put nd e3 (ry.up st2.g st2.pre) rf⟩
          exact ⟨_, _, _, _, rfl, hu, cl, na, by rw [rpF_len rf]; exact hh.2, hr _ ⟨w2.G, _, w2.m, _⟩ rfl (((F.step st1).step st2).step stp) stp⟩
        · exact hr.elim
      · exact hr.elim
    · exact hr.elim
/-! ### method calls; the class is known by the object -/
theorem meth_eq {x : Str} {apos : Pos} (hbase : attributeBase o x X.env (eval o X.env) = eval o X.env)
    (hfew : ((backTo pos (starEach es X.env)).all (fun x => !x.1) && (backToKw pos (keywordEach [] X.env)).all (fun x => x.1.isSome) && decide (es.length + ([] : List Keyword).length + (if ([] : List Keyword).isEmpty then 0 else 1) < 30)) = true)
    (hline : (apos.endLine == pos.line) = true) : ∃ pl : Sem Bool, eval (.Call (.Attribute o x apos) es [] pos) X.env = (do
      let ov ← eval o X.env
      standAt apos.atName
      let (f, first) ← holding [ov] (getMethod ov x pl)
      callWith pos f first (backTo pos (starEach es X.env)) (backToKw pos (keywordEach [] X.env))) := by
  have hform : methodCallForm (es.length + ([] : List Keyword).length) (backTo pos (starEach es X.env)) (backToKw pos (keywordEach [] X.env)) = true := hfew
  have hpos : methodCallPos true o X.env apos pos = pure pos := by unfold methodCallPos; simp [hline]
  refine ⟨(do return (← importBound o X.env).getD true), ?_⟩
  rw [arm_eval_Call, hbase]
  unfold methodCall
  rw [hform, hpos]
  simp only [pure_bind]
  rfl
def tMethD (X : Cx) (m : Str) (E : L2.St → XK) (to : TE) (t : TA) : TE := fun σ H Q => to σ H fun x H1 => ∃ (C f : Addr) (fd : FuncData) (ps : List Str) (sp : Sp) (k : Nat) (a dx : Addr) (fs : List (Str × V)), x = .ref a ∧ H1 a = some (.ins C dx fs) ∧ fs.lookup m = none ∧ Cls X.K C ∧ Meth X.K C m f ∧
  FnOk X.prog X.w X.K X.mg X.base (L2.CX X.prog X.w) k f fd ps sp ∧ Room k X.A ∧ Binds X.K fd ps [] ∧ t σ H1 fun vs H2 => sp (x :: vs) H2 Q (E σ)
theorem pe_methD {m : Str} {apos : Pos} {to : TE} {t : TA} {E : L2.St → XK} {pl : Sem Bool} (he : PE X o to) (ha : PA X (e :: es) t) (hx : ∀ σ, PassesAt (L2.CX X.prog X.w) X σ (E σ))
    (h1 : starEach (e :: es) X.env = (false, eval e X.env) :: starEach es X.env) (h2 : (backTo pos (starEach es X.env)).any (·.1) = false)
    (ht : eval (.Call (.Attribute o m apos) (e :: es) [] pos) X.env = (do
      let ov ← eval o X.env
      standAt apos.atName
      let (f, first) ← holding [ov] (getMethod ov m pl)
      callWith pos f first (backTo pos (starEach (e :: es) X.env)) (backToKw pos (keywordEach [] X.env)))) :
    PE X (.Call (.Attribute o m apos) (e :: es) [] pos) (tMethD X m E to t) := by
  refine ⟨fun pins s σ H Q I h => ?_⟩
  refine PySem.W.methodCall_KW (pl := pl) (thn (he.run pins s σ H _ I h) fun u s1 ⟨x, H1, I1, rx, C, f, fd, ps, sp, k, a, dx, fs, ex, ea, hl, c, hm, F, hr, hb, q⟩ => ?_) ht
  subst ex
  obtain rfl : u = Value.ref a := rx
  refine getmeth_ok I1 ea c hm hl ?_
  refine PySem.W.callWith_K (first := [.ref a]) (h₀ := X.base) I1.ok.mod.kin hm.kp (thn (ha.run pos pins s1 σ H1 _ I1 q) fun us s2 ⟨vs, H2, I2, r, q2⟩ => ⟨I2.kIn, ?_⟩) h1 h2
  exact run_fnS (us := .ref a :: us) (vs := .ref a :: vs) F hr hb (hx σ) I2 (.cons rfl r) q2
theorem pe_methD0 {m : Str} {apos : Pos} {to : TE} {E : L2.St → XK} {pl : Sem Bool} (he : PE X o to) (hx : ∀ σ, PassesAt (L2.CX X.prog X.w) X σ (E σ))
    (ht : eval (.Call (.Attribute o m apos) [] [] pos) X.env = (do
      let ov ← eval o X.env
      standAt apos.atName
      let (f, first) ← holding [ov] (getMethod ov m pl)
      callWith pos f first (backTo pos (starEach [] X.env)) (backToKw pos (keywordEach [] X.env)))) :
    PE X (.Call (.Attribute o m apos) [] [] pos) (tMethD X m E to tNil) := by
  refine ⟨fun pins s σ H Q I h => ?_⟩
  refine PySem.W.methodCall_KW (pl := pl) (thn (he.run pins s σ H _ I h) fun u s1 ⟨x, H1, I1, rx, C, f, fd, ps, sp, k, a, dx, fs, ex, ea, hl, c, hm, F, hr, hb, q⟩ => ?_) ht
  subst ex
  obtain rfl : u = Value.ref a := rx
  refine getmeth_ok I1 ea c hm hl ?_
  exact PySem.W.callWith_K0 (first := [.ref a]) I1.kIn hm.kp (run_fnS (us := [.ref a]) (vs := [.ref a]) F hr hb (hx σ) I1 (.cons rfl .nil) q)
theorem go_ome {Pp : Pg} {m : Nat} {x : Str} {r : R Dt} {rs : Sto → R (List Dt)} {t : TA} (nd : tb.l.Nodup) (hm : tb.l[m]? = some x) (hr : Room k X.A) (mt : ∀ c cd f, Pp.cls.lookup c = some cd → cd.mts.lookup m = some f → MthT X.prog X.w X.K X.mg X.base tb.l C c m f k)
    (ho : EX X tb W o l s r) (ha : ∀ s, GO X.K tb W (RA X.K) t l s (rs s)) : GO X.K tb W (RV X.K) (tMethD X x (WE W) (semE X o) t) l s (r.bind fun x s => withO (mthS Pp m x s) .no fun f => (rs s).bind fun as s => C f (x :: as) s) := fun w0 w σ Q F hs hr2 => ho.go.bind F hs hr2 fun x1 w1 d e1 st1 rx hr2 => by
  cases em : mthS Pp m d w1.s with
  | none => rw [em] at hr2; exact hr2.elim
  | some f =>
  rw [em] at hr2
  unfold mthS at em
  split at em
  · cases rx with
    | obj q =>
    unfold mthO at em
    split at em
    · rename_i n a _ c fs el
      split at em
      · rename_i hh
        rw [Option.isNone_iff_eq_none] at hh
        obtain ⟨cd, ec, ef⟩ := Option.bind_eq_some_iff.mp em
        obtain ⟨z, n2, fa, fd, ps, nn, e2, e3, cl, me, bi, fo, hn⟩ := (mt c cd f ec ef).ok
        obtain ⟨gN, u, hu, z2, dx, vs, e4, e5, rf⟩ := st1.sim.ob _ _ _ el q
        have ez : z2 = z := Option.some.inj (e4.symm.trans e2)
        have en : n2 = x := Option.some.inj (e3.symm.trans hm)
        subst ez en e5
        refine ⟨_, fa, fd, ps, _, k, _, dx, vs, rfl, hu, rpF_none nd hm rf hh, cl, me, fo, hr, bi, ?_⟩
        exact (ha _).bind (F.step st1) rfl hr2 fun xs w2 ds e6 st2 ra hr3 => ⟨w2, _, rfl, st2.sim, .cons ((Rp.obj q).up st2.g st2.pre) ra, hn _ w2.s (fun z => by rw [z] at hr3; exact hr3), retC_of hr3⟩
      · cases em
    · cases em
  · cases em
theorem ex_ome {Pp : Pg} {m : Nat} {x : Str} {p2 : Pos} {r : R Dt} {rs : Sto → R (List Dt)} (nd : tb.l.Nodup) (hm : tb.l[m]? = some x) (hr : Room k X.A) (tk : Takes X W) (mt : ∀ c cd f, Pp.cls.lookup c = some cd → cd.mts.lookup m = some f → MthT X.prog X.w X.K X.mg X.base tb.l C c m f k)
    (ho : EX X tb W o l s r) (ha : ∀ s, AX X tb W (e :: es) l s (rs s)) (hbase : attributeBase o x X.env (eval o X.env) = eval o X.env)
    (hfew : ((backTo p (starEach (e :: es) X.env)).all (fun x => !x.1) && (backToKw p (keywordEach [] X.env)).all (fun x => x.1.isSome) && decide ((e :: es).length + ([] : List Keyword).length + (if ([] : List Keyword).isEmpty then 0 else 1) < 30)) = true)
    (hline : (p2.endLine == p.line) = true) (h1 : starEach (e :: es) X.env = (false, eval e X.env) :: starEach es X.env) (h2 : (backTo p (starEach es X.env)).any (·.1) = false) :
    EX X tb W (.Call (.Attribute o x p2) (e :: es) [] p) l s (r.bind fun x s => withO (mthS Pp m x s) .no fun f => (rs s).bind fun as s => C f (x :: as) s) := by
  obtain ⟨pl, ht⟩ := meth_eq hbase hfew hline
  exact ex_of (pe_methD (pe_sem o) (pa_sem (e :: es)) (fun σ => passAt tk σ) h1 h2 ht) (go_ome nd hm hr mt ho fun s => (ha s).go)
theorem ex_ome0 {Pp : Pg} {m : Nat} {x : Str} {p2 : Pos} {r : R Dt} (nd : tb.l.Nodup) (hm : tb.l[m]? = some x) (hr : Room k X.A) (tk : Takes X W) (mt : ∀ c cd f, Pp.cls.lookup c = some cd → cd.mts.lookup m = some f → MthT X.prog X.w X.K X.mg X.base tb.l C c m f k)
    (ho : EX X tb W o l s r) (hbase : attributeBase o x X.env (eval o X.env) = eval o X.env) (hline : (p2.endLine == p.line) = true) :
    EX X tb W (.Call (.Attribute o x p2) [] [] p) l s (r.bind fun x s => withO (mthS Pp m x s) .no fun f => (R.ok [] s).bind fun as s => C f (x :: as) s) := by
  obtain ⟨pl, ht⟩ := meth_eq (es := []) hbase rfl hline
  exact ex_of (pe_methD0 (pe_sem o) (fun σ => passAt tk σ) ht) (go_ome (rs := fun s => .ok [] s) nd hm hr mt ho fun s w0 w σ Q F hs hr => hr [] w hs (.refl F.sim) .nil)
/-! ### making -/
theorem run_makeS {f D : Addr} {fd : FuncData} {ps : List Str} {sp : Sp} {E : XK} {pins : List (Addr × Obj)} {σ : L2.St} {H : Hp} {s : Shared} {Q : VK} {us : List Value} {vs : List V} (M : Mk X.K D f) (F : FnOk X.prog X.w X.K X.mg X.base (L2.CX X.prog X.w) k f fd ps sp) (hr : Room (k + 1) X.A) (hb : Binds X.K fd ps [])
    (hx : PassesAt (L2.CX X.prog X.w) X σ E) (I : Inv X pins σ H s) (r : Vals vs us)
    (h : ∀ x dx, H x = none → H dx = none → dx ≠ x → sp (.ref x :: vs) (upd (upd H dx (.own x)) x (.ins D dx [])) (fun v H2 => v = .non ∧ Q (.ref x) H2) E) :
    wpAny (model X.prog X.w) X.A (call (.ref D) us) (EP X pins σ Q) X.xe s := by
  have hq := h (s.heap.objs.size + 1) s.heap.objs.size (I.hok.fresh (Nat.le_succ _)) (I.hok.fresh (Nat.le_refl _)) (Nat.ne_of_lt (Nat.lt_succ_self _))
  have I2 := Inv.made (C := D) I
  have r2 : Vals (V.ref (s.heap.objs.size + 1) :: vs) (Value.ref (s.heap.objs.size + 1) :: us) := .cons rfl r
  have hl : (Value.ref (s.heap.objs.size + 1) :: us).length = ps.length := by
    have e := r2.length
    rw [F.len _ _ _ _ hq] at e
    exact e.symm
  have hb2 := hb ⟨(s.heap.push PySem.W.emptyDict).push (PySem.W.instObj D s.heap.objs.size), s.gens, s.drawn, s.toks, s.os⟩ (Value.ref (s.heap.objs.size + 1) :: us) I2.kIn (by rw [List.append_nil]; exact hl)
  rw [List.append_nil] at hb2
  refine wpAny_call (make_map (f := f) I.kIn M.makes M.init (beq_iff_eq.mp M.fn) (codeAny_mono (F.run _ X.stack _ _ ⟨Value.ref (s.heap.objs.size + 1) :: us, []⟩ (Value.ref (s.heap.objs.size + 1) :: us) _ _ E (hr.make D us [])
    (I2.env0.make D us []) hb2 r2 hq) fun r s' hq' => ?_))
  cases r with
  | error e => exact hx pins _ _ e s' I2 hq'
  | ok fl =>
    cases fl with
    | ret u =>
      obtain ⟨v, H', I3, rv, ev, q3⟩ := I2.after hq'
      subst ev
      exact ⟨rv, ⟨V.ref (s.heap.objs.size + 1), H', I3, rfl, q3⟩⟩
    | next => exact False.elim hq'
    | brk => exact False.elim hq'
    | cont => exact False.elim hq'
theorem run_make0 {D : Addr} {pins : List (Addr × Obj)} {σ : L2.St} {H : Hp} {s : Shared} {Q : VK} (hm : PySem.W.makesIn X.K D = true) (hi : PySem.W.findIn X.K (.ref D) "__init__" = some (some (.builtin "object.__init__"))) (I : Inv X pins σ H s)
    (h : ∀ x dx, H x = none → H dx = none → dx ≠ x → Q (.ref x) (upd (upd H dx (.own x)) x (.ins D dx []))) :
    wpAny (model X.prog X.w) X.A (call (.ref D) []) (EP X pins σ Q) X.xe s := by
  have hq := h (s.heap.objs.size + 1) s.heap.objs.size (I.hok.fresh (Nat.le_succ _)) (I.hok.fresh (Nat.le_refl _)) (Nat.ne_of_lt (Nat.lt_succ_self _))
  have I2 := Inv.made (C := D) I
  have Y := PySem.W.makes_of (M := model X.prog X.w) I.kIn hm
  refine wpAny_call (make_map0 I.kIn hm hi (fun self => PySem.W.Looks.of_pure (PySem.W.oi_bind self)) ?_)
  have hx : ((s.heap.push PySem.W.emptyDict).push (PySem.W.instObj D s.heap.objs.size)).get? (s.heap.objs.size + 1) = some (PySem.W.instObj D s.heap.objs.size) := by heap_get
  have t1 : PySem.W.Looks (model X.prog X.w) ((s.heap.push PySem.W.emptyDict).push (PySem.W.instObj D s.heap.objs.size)) (typeOf (.ref (s.heap.objs.size + 1))) (.ref D) := (PySem.W.Looks.ld hx).andThen .now
  have t2 : PySem.W.Looks (model X.prog X.w) ((s.heap.push PySem.W.emptyDict).push (PySem.W.instObj D s.heap.objs.size)) (isInstance (.ref (s.heap.objs.size + 1)) (.type "object")) true := t1.andThen (Y.top.keeps fun b o e => Heap.get?_push_of_some _ (Heap.get?_push_of_some _ e))
  refine codeAny_call_builtin PySem.W.oi_plain PySem.W.entry_oi (@PySem.W.check_slot (model X.prog X.w) _ _ _ "object.__init__" "object" "__init__" (.ref (s.heap.objs.size + 1)) [] [] _ PySem.W.oi_kind PySem.W.oi_split t2 (PySem.W.oi_args (.ref (s.heap.objs.size + 1))) ?_)
  rw [PySem.W.oi_run]
  exact wpAny_pure (And.intro rfl ⟨V.ref (s.heap.objs.size + 1), _, I2, rfl, hq⟩)
def tMakeS (D : Addr) (sp : Sp) (E : L2.St → XK) (t : TA) : TE := fun σ H Q => t σ H fun vs H1 => ∀ x dx, H1 x = none → H1 dx = none → dx ≠ x → sp (.ref x :: vs) (upd (upd H1 dx (.own x)) x (.ins D dx [])) (fun v H2 => v = .non ∧ Q (.ref x) H2) (E σ)
theorem pe_makeS {f D : Addr} {fd : FuncData} {ps : List Str} {sp : Sp} {E : L2.St → XK} {x : Str} {t : TA} (M : Mk X.K D f) (F : FnOk X.prog X.w X.K X.mg X.base (L2.CX X.prog X.w) k f fd ps sp) (hr : Room (k + 1) X.A) (hg : Gl X x) (hm : X.mg x = some (.ref D)) (hb : Binds X.K fd ps []) (hx : ∀ σ, PassesAt (L2.CX X.prog X.w) X σ (E σ))
    (ha : PA X (e :: es) t) (hdb : (x == ("__debug__" : Str)) = false) (he : starEach (e :: es) X.env = (false, eval e X.env) :: starEach es X.env) (hpl : (backTo pos (starEach es X.env)).any (·.1) = false) :
    PE X (.Call (.Name x p) (e :: es) [] pos) (tMakeS D sp E t) := by
  refine ⟨fun pins s σ H Q I h => ?_⟩
  refine wpAny_Call_Name_kw (ld_glob I hg hm ?_ hdb)
  refine PySem.W.callWith_K (h₀ := X.base) I.ok.mod.kin M.kp (thn (ha.run pos pins s σ H _ I h) fun us s1 ⟨vs, H1, I1, r, q⟩ => ⟨I1.kIn, ?_⟩) he hpl
  exact run_makeS M F hr hb (hx σ) I1 r q
theorem pe_makeS0 {f D : Addr} {fd : FuncData} {ps : List Str} {sp : Sp} {E : L2.St → XK} {x : Str} (M : Mk X.K D f) (F : FnOk X.prog X.w X.K X.mg X.base (L2.CX X.prog X.w) k f fd ps sp) (hr : Room (k + 1) X.A) (hg : Gl X x) (hm : X.mg x = some (.ref D)) (hb : Binds X.K fd ps []) (hx : ∀ σ, PassesAt (L2.CX X.prog X.w) X σ (E σ))
    (hdb : (x == ("__debug__" : Str)) = false) : PE X (.Call (.Name x p) [] [] pos) (tMakeS D sp E tNil) := by
  refine ⟨fun pins s σ H Q I h => ?_⟩
  refine wpAny_Call_Name_kw (ld_glob I hg hm ?_ hdb)
  exact PySem.W.callWith_K0 I.kIn M.kp (run_makeS (us := []) M F hr hb (hx σ) I .nil h)
theorem pe_make00 {D : Addr} {x : Str} (h1 : PySem.W.makesIn X.K D = true) (h2 : PySem.W.findIn X.K (.ref D) "__init__" = some (some (.builtin "object.__init__"))) (kp : PySem.W.keepIn X.K (.ref D) = true) (hg : Gl X x) (hm : X.mg x = some (.ref D))
    (hdb : (x == ("__debug__" : Str)) = false) : PE X (.Call (.Name x p) [] [] pos) (fun σ H Q => ∀ x dx, H x = none → H dx = none → dx ≠ x → Q (.ref x) (upd (upd H dx (.own x)) x (.ins D dx []))) := by
  refine ⟨fun pins s σ H Q I h => ?_⟩
  refine wpAny_Call_Name_kw (ld_glob I hg hm ?_ hdb)
  exact PySem.W.callWith_K0 I.kIn kp (run_make0 h1 h2 I h)
/-- the world with a new instance -/
theorem Stp.ins {K : PySem.W.Frag} {tl : List Str} {w : Wd} (S : Sim K tl w) {x dx : Addr} {c : Nat} {z : Str} (hz : tl[c]? = some z) (hx : w.H x = none) (hd : w.H dx = none) (ne : dx ≠ x) :
    Stp K tl w ⟨upd w.G dx (.own x), upd (upd w.H dx (.own x)) x (.ins (He.ga K z) dx []), w.m ++ [x], w.s ++ [.ins c []]⟩ := by
  have s1 := Stp.lay S (.own x) hd
  have hx1 : upd w.H dx (.own x) x = none := by rw [upd_ne (Ne.symm ne)]; exact hx
  exact s1.trans (Stp.new s1.sim (u := .ins (He.ga K z) dx []) (o := .ins c []) hx1 ⟨z, dx, [], hz, rfl, .nil⟩)
theorem go_new {Pp : Pg} {c : Nat} {z : Str} {C' : Cl} {fi nn : Nat} {rs : R (List Dt)} {t : TA} (hz : tb.l[c]? = some z) (hC : ∀ as s, C (nwI c) as s ≠ .no → C (nwI c) as s = newF C' c (some fi) as s) (hn : ∀ ds s, C' fi ds s ≠ .no → ds.length = nn)
    (ha : GO X.K tb W (RA X.K) t l s rs) : GO X.K tb W (RV X.K) (tMakeS (He.ga X.K z) (spI X.K tb.l C' fi nn) (WE W) t) l s (rs.bind fun as s => C (nwI c) as s) := fun w0 w σ Q F hs hr => ha.bind F hs hr fun xs w1 ds e1 st1 ra hr x dx hx hd ne => by
  rw [hC _ _ (fun q => by rw [q] at hr; exact hr)] at hr
  have st := Stp.ins st1.sim hz hx hd ne
  have hr2 : Ret X.K tb W (RV X.K) σ w1 Q ((C' fi (.obj w1.s.length :: ds) (w1.s ++ [.ins c []])).bind fun d s1 => if d.isNon = true then .ok (.obj w1.s.length) s1 else .no) := hr
  have rx : Rp X.K (upd w1.G dx (.own x)) (w1.m ++ [x]) (.ref x) (.obj w1.s.length) := .obj (by rw [← st1.sim.len, List.getElem?_concat_length])
  refine ⟨_, .obj w1.s.length :: ds, rfl, st.sim, .cons rx (ra.up st.g st.pre), hn _ (w1.s ++ [.ins c []]) (fun q => by rw [q] at hr2; exact hr2), ?_⟩
  cases e : C' fi (.obj w1.s.length :: ds) (w1.s ++ [.ins c []]) with
  | no => rw [e] at hr2; exact hr2
  | er y s' =>
    rw [e] at hr2
    exact fun cc dd w' e2 st2 k => hr2 cc dd w' e2 (st.trans st2) k
  | ok d s' =>
    rw [e] at hr2
    intro v w' e2 st2 rv
    rw [R.bind_ok] at hr2
    split at hr2
    · rename_i hd2
      have hv : v = .non := by
        cases d <;> first | (cases rv; rfl) | cases hd2
      exact ⟨hv, hr2 (.ref x) w' e2 (st.trans st2) (rx.up st2.g st2.pre)⟩
    · exact hr2.elim
theorem ex_new {c : Nat} {z : Str} {r : R (List Dt)} (T : NewT X.prog X.w X.K X.mg X.base tb.l C z c true k) (tk : Takes X W) (hr : Room k X.A) (hg : Glo X z) (ha : AX X tb W (e :: es) l s r)
    (he : starEach (e :: es) X.env = (false, eval e X.env) :: starEach es X.env) (hpl : (backTo pos (starEach es X.env)).any (·.1) = false) : EX X tb W (.Call (.Name z p) (e :: es) [] pos) l s (r.bind fun as s => C (nwI c) as s) := by
  obtain ⟨C', ini, hi, hC, q⟩ := T.ok
  cases ini with
  | some fi =>
    obtain ⟨fI, fd, ps, nn, k', M, hb, F, hn, hk⟩ := q
    exact ex_of (pe_makeS M F (hr.mono hk) hg.gl T.mg_ hb (fun σ => passAt tk σ) (pa_sem (e :: es)) hg.d1 he hpl) (go_new (Pp := ⟨[], [], [], []⟩) T.at_ hC hn ha.go)
  | none => cases hi
theorem ex_new0 {c : Nat} {z : Str} {bi : Bool} (T : NewT X.prog X.w X.K X.mg X.base tb.l C z c bi k) (tk : Takes X W) (hr : Room k X.A) (hg : Glo X z) : EX X tb W (.Call (.Name z p) [] [] pos) l s ((R.ok [] s).bind fun as s => C (nwI c) as s) := by
  obtain ⟨C', ini, hi, hC, q⟩ := T.ok
  cases ini with
  | some fi =>
    obtain ⟨fI, fd, ps, nn, k', M, hb, F, hn, hk⟩ := q
    exact ex_of (pe_makeS0 M F (hr.mono hk) hg.gl T.mg_ hb (fun σ => passAt tk σ) hg.d1) (go_new (Pp := ⟨[], [], [], []⟩) T.at_ hC hn fun w0 w σ Q F hs hr => hr [] w hs (.refl F.sim) .nil)
  | none =>
    obtain ⟨h1, h2, kp, _⟩ := q
    refine ex_of (pe_make00 h1 h2 kp hg.gl T.mg_ hg.d1) fun w0 w σ Q F hs hr2 x dx hx hd ne => ?_
    subst hs
    rw [R.bind_ok] at hr2
    rw [hC _ _ (fun q => by rw [q] at hr2; exact hr2)] at hr2
    have st := Stp.ins F.sim T.at_ hx hd ne
    exact hr2 (.ref x) _ rfl st (.obj (by show (w.m ++ [x])[w.s.length]? = some x; rw [← F.sim.len, List.getElem?_concat_length]))
/-! ### a call that leaves defaults out -/
theorem ex_cald {x : Str} {f : Nat} {dv : List Dt} {r : R (List Dt)} (F : FnD X.prog X.w X.K X.mg X.base tb.l C x f dv k) (tk : Takes X W) (hr : Room k X.A) (hg : Glo X x) (ha : AX X tb W (e :: es) l s r)
    (he : starEach (e :: es) X.env = (false, eval e X.env) :: starEach es X.env) (hpl : (backTo pos (starEach es X.env)).any (·.1) = false) : EX X tb W (.Call (.Name x p) (e :: es) [] pos) l s (r.bind fun as s => callP C f (as ++ dv) s) := by
  obtain ⟨fa, fd, ps, vs, us, nn, hm, kp, hv, hb, hd, G, hn⟩ := F.ok
  refine ex_of (pe_callSD G hr hg.gl hm kp hb hv (fun σ => passAt tk σ) (pa_sem (e :: es)) hg.d1 he hpl) fun w0 w σ Q F hs hr => ha.go.bind F hs hr fun xs w1 ds e1 st1 rx hr => ?_
  obtain ⟨h1, h2⟩ := ret_callP st1.sim (rx.append (hd _ _)) hr
  exact ⟨⟨w1.G, w1.H, [], []⟩, _, rfl, st1.sim.bare, h1, hn _ [] (fun z => by rw [z] at h2; exact h2), h2⟩
end
/-! ## locks -/
section
variable {K : PySem.W.Frag} {tb : List Str} {w w1 w2 : Wd}
theorem lkOk_eq {o : Option Ob} {ob : Ob} (h : lkOk o = some ob) : o = some ob ∧ ((∃ l, ob = .dK l) ∨ ∃ l, ob = .dT l) := by
  unfold lkOk at h
  split at h
  · cases h; exact ⟨rfl, .inl ⟨_, rfl⟩⟩
  · cases h; exact ⟨rfl, .inr ⟨_, rfl⟩⟩
  · cases h
theorem lk_mut {G : Hp} {m : List Addr} {u : HO} {ob : Ob} (h : (∃ l, ob = .dK l) ∨ ∃ l, ob = .dT l) (r : ObV K tb G m u ob) : Mut (some u) := by
  rcases h with ⟨l, rfl⟩ | ⟨l, rfl⟩
  · obtain ⟨vs, rfl, _⟩ := r
    trivial
  · obtain ⟨vs, rfl, _⟩ := r
    trivial
theorem Stp.lock (S : Sim K tb w) {n : Nat} {a : Addr} {ob : Ob} {u : HO} {od : Obj} (hs : w.s[n]? = some ob) (hm : w.m[n]? = some a) (gp : w.G a = none) (hu : w.H a = some u) (r0 : ObV K tb w.G w.m u ob) : Stp K tb w ⟨w.G, upd w.H a (.frz od u), w.m, w.s.set n (.lk ob)⟩ := by
  have tabs : ∀ P, LamX.TabS w.H P lamQ → LamX.TabS (upd w.H a (.frz od u)) P lamQ := fun P h => tab_mut hu (ObV.nt r0).1 (ObV.nt r0).2 h
  refine ⟨⟨sub_mut S.sub gp, S.nt, S.tk.imp id (tabs _), by simp [S.len], S.nd, fun b h => ?_, fun k ob2 b e1 e2 => ?_⟩, Same.refl _, ⟨[], by simp⟩, fun b x e _ h => ?_, tabs, fun b h n => absurd h n, fun b x e n => (by rw [show w.G b = some x from e] at n; cases n), fun b od2 x e => ?_⟩
  · by_cases hb : b = a
    · rw [hb]; exact ⟨_, upd_same, fun ps z => by cases z⟩
    · obtain ⟨u', e, n⟩ := S.th b h
      exact ⟨u', by show upd w.H a _ b = _; rw [upd_ne hb]; exact e, n⟩
  · have e1' : (w.s.set n (.lk ob))[k]? = some ob2 := e1
    rw [List.getElem?_set] at e1'
    by_cases hk : n = k
    · subst hk
      rw [if_pos rfl] at e1'
      split at e1'
      · cases e1'
        have := hm.symm.trans e2
        cases this
        exact ⟨gp, od, u, upd_same, r0⟩
      · cases e1'
    · rw [if_neg hk] at e1'
      have nb : b ≠ a := fun z => hk (nd_eq S.nd hm (z ▸ e2))
      exact (S.ob k ob2 b e1' e2).up (Same.refl _) (Pre.refl _) (fun q _ => q) fun u' e _ => by
        show upd w.H a _ b = _
        rw [upd_ne nb]
        exact e
  · show upd w.H a _ b = _
    rw [upd_ne (fun z => h (by rw [z]; exact get_mem hm))]
    exact e
  · show upd w.H a _ b = _
    rw [upd_ne (fun z => by rw [z, hu] at e; exact ObV.nfz r0 _ _ (Option.some.inj e))]
    exact e
theorem Stp.unlock (st : Stp K tb w w2) {n : Nat} {a : Addr} {ob : Ob} {u u0 : HO} {od : Obj} (hma : w.m[n]? = some a) (h0 : w.H a = some u0) (n0 : ∀ od x, u0 ≠ .frz od x) (hs : w2.s[n]? = some (.lk ob)) (hu : w2.H a = some (.frz od u)) : Stp K tb w ⟨w2.G, upd w2.H a u, w2.m, w2.s.set n ob⟩ := by
  have S := st.sim
  have hm : w2.m[n]? = some a := st.pre _ _ hma
  obtain ⟨gp, od', u', hu', r0⟩ := S.ob n _ a hs hm
  have e3 := Option.some.inj (hu.symm.trans hu')
  cases e3
  have tabs : ∀ P, LamX.TabS w2.H P lamQ → LamX.TabS (upd w2.H a u) P lamQ := fun P h => tab_mut hu (fun ps z => by cases z) (fun c q z => by cases z) h
  refine ⟨⟨sub_mut S.sub gp, S.nt, S.tk.imp id (tabs _), by simp [S.len], S.nd, fun b h => ?_, fun k ob2 b e1 e2 => ?_⟩, st.g, st.m, fun b x e nx h => ?_, fun P h => tabs P (st.tb P h), st.fs, st.nw, fun b od2 x e => ?_⟩
  · by_cases hb : b = a
    · rw [hb]; exact ⟨_, upd_same, ObV.nt1 r0⟩
    · obtain ⟨u', e, n⟩ := S.th b h
      exact ⟨u', by show upd w2.H a _ b = _; rw [upd_ne hb]; exact e, n⟩
  · have e1' : (w2.s.set n ob)[k]? = some ob2 := e1
    rw [List.getElem?_set] at e1'
    by_cases hk : n = k
    · subst hk
      rw [if_pos rfl] at e1'
      split at e1'
      · cases e1'
        have := hm.symm.trans e2
        cases this
        exact ObR.of gp upd_same r0
      · cases e1'
    · rw [if_neg hk] at e1'
      have nb : b ≠ a := fun z => hk (nd_eq S.nd hm (z ▸ e2))
      exact (S.ob k ob2 b e1' e2).up (Same.refl _) (Pre.refl _) (fun q _ => q) fun u' e _ => by
        show upd w2.H a _ b = _
        rw [upd_ne nb]
        exact e
  · show upd w2.H a _ b = _
    rw [upd_ne (fun z => h (by rw [z]; exact get_mem hma))]
    exact st.fr b x e nx h
  · show upd w2.H a _ b = _
    rw [upd_ne (fun z => by rw [z, h0] at e; exact n0 _ _ (Option.some.inj e))]
    exact st.fz b od2 x e
end
section
variable {X : Cx} {tb : Tb} {W : WX} {l : Loc} {s : Sto} {e o : Expr} {pos : Pos}
theorem ex_lkd {P : Pg} {oe : E} {r : Sto → R Dt} (h : ∀ s, EX X tb W e l s (r s)) : EX X tb W e l s (withO (peekO P oe l s) .no fun n => withO (lkOk s[n]?) .no fun ob => unlkR n ob (r (s.set n (.lk ob)))) := ⟨fun w0 w σ Q F hs hr pins s' I => by
  cases e1 : peekO P oe l s with
  | none => rw [e1] at hr; exact hr.elim
  | some n =>
  rw [e1, withO_some] at hr
  cases e2 : lkOk s[n]? with
  | none => rw [e2] at hr; exact hr.elim
  | some ob =>
  rw [e2, withO_some] at hr
  subst hs
  obtain ⟨hn, hk⟩ := lkOk_eq e2
  obtain ⟨a, hm, hob⟩ := F.sim.get hn
  have lv : ob.live = true := by rcases hk with ⟨l, rfl⟩ | ⟨l, rfl⟩ <;> rfl
  obtain ⟨gp, u, hu, r0⟩ := hob.live lv
  have mu := lk_mut hk r0
  obtain ⟨od, I1⟩ := I.lock hu mu
  have st1 := Stp.lock (od := od) F.sim hn hm gp hu r0
  refine wpAny_mono ((h (w.s.set n (.lk ob))).go w0 ⟨w.G, upd w.H a (.frz od u), w.m, w.s.set n (.lk ob)⟩ σ (fun v H' => H' a = some (.frz od u) ∧ Q v (upd H' a u)) (F.step st1) rfl ?_ pins s' I1) (fun v s2 hq => ?_) fun _ _ x => x
  · generalize r (w.s.set n (.lk ob)) = rr at hr
    unfold unlkR at hr
    cases rr with
    | no => exact hr
    | er z s3 => exact hr.elim
    | ok d s3 =>
      dsimp only at hr
      split at hr
      · rename_i hlk
        intro v w2 e3 st2 rv
        subst e3
        have hf := st2.fz a od u upd_same
        refine ⟨hf, hr v ⟨w2.G, upd w2.H a u, w2.m, w2.s.set n ob⟩ rfl (Stp.unlock (st1.trans st2) hm hu (ObV.nfz r0) hlk hf) rv⟩
      · exact hr.elim
  · obtain ⟨x, H', I2, rx, e4, q⟩ := hq
    exact ⟨x, _, I2.unlock e4 (I.nofrz hu mu), rx, q⟩⟩
theorem s1_lkd {P : Pg} {oe : E} {st : Stmt} {ob' : Sto → O} (h : ∀ s, S1 X tb W st l s (ob' s)) : S1 X tb W st l s (withO (peekO P oe l s) .no fun n => withO (lkOk s[n]?) .no fun ob => unlkO n ob (ob' (s.set n (.lk ob)))) := ⟨fun w0 w σ D F hs hr pins s' I => by
  cases e1 : peekO P oe l s with
  | none => rw [e1] at hr; exact hr.elim
  | some n =>
  rw [e1, withO_some] at hr
  cases e2 : lkOk s[n]? with
  | none => rw [e2] at hr; exact hr.elim
  | some ob =>
  rw [e2, withO_some] at hr
  subst hs
  obtain ⟨hn, hk⟩ := lkOk_eq e2
  obtain ⟨a, hm, hob⟩ := F.sim.get hn
  have lv : ob.live = true := by rcases hk with ⟨l, rfl⟩ | ⟨l, rfl⟩ <;> rfl
  obtain ⟨gp, u, hu, r0⟩ := hob.live lv
  have mu := lk_mut hk r0
  refine (ps_lock (ps_sem st)).run pins s' σ w.H D I ⟨a, u, hu, mu, fun od => ?_⟩
  have st1 := Stp.lock (od := od) F.sim hn hm gp hu r0
  refine (h (w.s.set n (.lk ob))).go w0 ⟨w.G, upd w.H a (.frz od u), w.m, w.s.set n (.lk ob)⟩ σ _ (F.step st1) rfl ?_
  generalize ob' (w.s.set n (.lk ob)) = rr at hr
  unfold unlkO at hr
  cases rr with
  | no => exact hr
  | er z l3 s3 => exact hr.elim
  | nx l3 s3 =>
    dsimp only at hr
    split at hr
    · rename_i hlk
      intro σ2 w2 e3 F2 st2
      subst e3
      have hf := st2.fz a od u upd_same
      have stA := Stp.unlock (st1.trans st2) hm hu (ObV.nfz r0) hlk hf
      exact ⟨hf, hr σ2 ⟨w2.G, upd w2.H a u, w2.m, w2.s.set n ob⟩ rfl ⟨F.st.trans stA, F2.len, F2.sl, F2.hx, F2.px⟩ stA⟩
    · exact hr.elim
  | rt d s3 =>
    dsimp only at hr
    split at hr
    · rename_i hlk
      intro v w2 e3 st0 st2 rv
      subst e3
      have hf := st2.fz a od u upd_same
      have stA := Stp.unlock (st1.trans st2) hm hu (ObV.nfz r0) hlk hf
      exact ⟨hf, hr v ⟨w2.G, upd w2.H a u, w2.m, w2.s.set n ob⟩ rfl (F.st.trans stA) stA rv⟩
    · exact hr.elim⟩
end
/-! ## setdefault -/
section
variable {X : Cx} {tb : Tb} {W : WX} {l : Loc} {s : Sto} {e o f k : Expr} {pos : Pos}
theorem rcv_isD {w : Wd} {x : V} {d : Dt} (S : Sim X.K tb.l w) (r : Rp X.K w.G w.m x d) (h : rcv .setd d w.s = true) : ∃ a, x = .ref a ∧ IsD w.H a := by
  unfold rcv at h
  dsimp only at h
  cases r with
  | dic q r => exact ⟨_, rfl, .inl ⟨_, .inl (S.sub _ _ q)⟩⟩
  | obj q =>
    dsimp only at h
    split at h
    · rename_i e
      obtain ⟨_, u, hu, vs, rfl, r⟩ := S.ob _ _ _ e q
      exact ⟨_, rfl, .inl ⟨_, .inl hu⟩⟩
    · rename_i e
      obtain ⟨_, u, hu, vs, rfl, r⟩ := S.ob _ _ _ e q
      exact ⟨_, rfl, .inr ⟨_, .inl hu⟩⟩
    · rename_i e
      have z := S.ob _ _ _ e q
      cases z with
      | dic q r => exact ⟨_, rfl, .inl ⟨_, .inl (S.sub _ _ q)⟩⟩
    · cases h
  | _ => cases h
def tNewO (t : Bool) : TE := fun _ H Q => ∀ p, H p = none → Q (.ref p) (upd H p (if t = true then .dK [] else .lst []))
theorem ex_sdf {t : Bool} {apos cpos : Pos} {rd : R Dt} {rk : Sto → R Dt} (ho : EX X tb W o l s rd) (hk : ∀ s, EX X tb W k l s (rk s)) (hf : PE X f (tNewO t)) (m : M2 X o "setdefault" apos k f cpos) :
    EX X tb W (.Call (.Attribute o "setdefault" apos) [k, f] [] cpos) l s (rd.bind fun x s => if rcv .setd x s = true then (rk s).bind fun y s => setdS t x y s else .no) :=
  ex_of (pe_dsetd (pe_sem o) (pe_sem k) hf m) fun w0 w σ Q F hs hr => ho.go.bind F hs hr fun x w1 d e1 st1 rx hr => by
    by_cases hc : rcv .setd d w1.s = true
    · rw [if_pos hc] at hr
      obtain ⟨a, rfl, hd⟩ := rcv_isD st1.sim rx hc
      refine ⟨a, rfl, hd, (hk _).go.bind (F.step st1) rfl hr fun y w2 d2 e2 st2 ry hr => ?_⟩
      have rx := rx.up st2.g st2.pre
      intro p hp
      unfold setdS at hr
      split at hr
      · rename_i n _ _
        split at hr
        · rename_i ds el
          obtain ⟨a', vs, ea, hm, hu, rr⟩ := live_dK st2.sim rx el
          cases ea
          have ne : a ≠ p := st2.sim.ne hp (get_mem hm)
          have gp : w2.G p = none := none_back st2.sim.sub hp
          have np : p ∉ w2.m := fun h => st2.sim.ne hp h rfl
          split at hr
          · rename_i kk ek
            have lk := rr.look kk
            have hH : upd w2.H p (if t = true then HO.dK [] else .lst []) a = some (.dK vs) := by rw [upd_ne ne]; exact hu
            split at hr
            · rename_i hsz
              split at hr
              · rename_i v ev
                rw [ev] at lk
                obtain ⟨z, ez, rz⟩ := lk.get
                have sth := (Stp.refl st2.sim).hid (u := if t = true then HO.dK [] else .lst []) (Nil.of hp) gp np (.inl hp) (by cases t <;> exact fun ps z => by cases z)
                refine ⟨vs, kk, hH, keyOf_rp ry ek, by rw [RpK.length rr]; exact hsz, fun v hv => ?_, fun hv => by rw [ez] at hv; cases hv⟩
                rw [ez] at hv
                cases hv
                exact hr z ⟨w2.G, upd w2.H p (if t = true then HO.dK [] else HO.lst []), w2.m, w2.s⟩ rfl sth (rz.up (Same.refl _) (Pre.refl _))
              · rename_i ev
                rw [ev] at lk
                have hz := lk.non
                refine ⟨vs, kk, hH, keyOf_rp ry ek, by rw [RpK.length rr]; exact hsz, fun v hv => (by rw [hz] at hv; cases hv), fun _ => ?_⟩
                have stn := Stp.new st2.sim (p := p) (u := if t = true then HO.dK [] else .lst []) (o := if t = true then .dK [] else .lst []) hp (by cases t; exact ⟨[], rfl, .nil⟩; exact ⟨[], rfl, .nil⟩)
                have hn : n < w2.s.length := (List.getElem?_eq_some_iff.mp el).1
                have el2 : (w2.s ++ [if t = true then Ob.dK [] else Ob.lst []])[n]? = some (Ob.dK ds) := by rw [List.getElem?_append_left hn]; exact el
                have hm2 : (w2.m ++ [p])[n]? = some a := by rw [List.getElem?_append_left (by rw [st2.sim.len]; exact hn)]; exact hm
                have rp : Rp X.K w2.G (w2.m ++ [p]) (.ref p) (.obj w2.s.length) := .obj (by rw [← st2.sim.len, List.getElem?_concat_length])
                have stp := Stp.put (o' := .dK (setK ds kk (.obj w2.s.length))) stn.sim el2 hm2 rfl ⟨_, rfl, (rr.up (Same.refl _) (Pre.app _ _)).put kk rp⟩
                refine hr (.ref p) _ ?_ (stn.trans stp) rp
                show (w2.s ++ [if t = true then Ob.dK [] else .lst []]).set n (.dK (setK ds kk (.obj w2.s.length))) = _
                rw [List.set_append_left _ _ hn]
            · exact hr.elim
          · exact hr.elim
        · exact hr.elim
      · exact hr.elim
    · rw [if_neg hc] at hr
      exact hr.elim
end
end Ip

namespace Ip
open PySem L2 PySem.Spec
open PyProof.Rows (envOfC)
/-! ## what is known of the module -/
structure Gt where
  tb : List Str
  free : List Str
  ci : List (Str × Int)
  cs : List (Str × Str)
  fns : List (Str × Nat × Nat)
  exc : List (Str × Nat)
  hnd : List (Str × Nat)
  xin : List (Str × Nat × List Nat) := []
  xfl : List (Str × Nat) := []
  bex : List (Str × Nat) := []
  new : List (Str × Nat × Bool) := []
  fnm : List (Str × Nat) := []
  mnm : List (Str × Nat) := []
  fld : List (Nat × Nat) := []
  mth : List (Nat × Nat × Nat) := []
  dfl : List (Str × Nat × List Dt) := []
structure Sc where
  N : List Str
  sn : List (Str × NameKind)
  hv : Option (Str × Nat) := none
  su : Bool := false
  blk : Bool := false
  lam : Bool := false
section
variable (G : Gt)
/-! ## checks of names -/
def lcf (k : Option NameKind) : Bool := match k with
  | some .local => true
  | some .cell => true
  | some .free => true
  | _ => false
def lc2 (k : Option NameKind) : Bool := match k with
  | some .local => true
  | some .cell => true
  | _ => false
def hvOk (c : Sc) (i : Nat) : Bool := match c.hv with
  | some (_, v) => !decide (i = v)
  | none => true
def rdB (c : Sc) (x : Str) (i : Nat) : Bool := decide (c.N[i]? = some x) && (lcf (c.sn.lookup x) && notDB x)
def stB (c : Sc) (x : Str) (i : Nat) : Bool := decide (c.N[i]? = some x) && (lc2 (c.sn.lookup x) && (notDB x && hvOk c i))
def gB (c : Sc) (x : Str) : Bool := decide (c.sn.lookup x = some .globalImplicit) && (!(x == ("__debug__" : Str)) && !decide (x = "__name__"))
def bB (c : Sc) (x : Str) : Bool := gB c x && decide (x ∈ G.free)
def noStar : Expr → Bool
  | .Starred _ _ => false
  | _ => true
def noSet : Expr → Bool
  | .Set _ _ _ => false
  | _ => true
def noSl : Expr → Bool
  | .Slice _ _ _ _ => false
  | _ => true
def noComp : Expr → Bool
  | .ListComp _ _ _ _ => false
  | .SetComp _ _ _ _ => false
  | .DictComp _ _ _ _ _ => false
  | _ => true
def noSup : Expr → Bool
  | .Call (.Name _ _) [] [] _ => false
  | _ => true
/-- a test that is looked at as a value -/
def tst : E → Bool
  | .ite _ _ _ => false
  | .and a b => tst a && tst b
  | .or a b => tst a && tst b
  | .not a => tst a
  | .fz _ => false
  | .lkd _ _ => false
  | _ => true
def blkB (c : Sc) (sc : Scope) (vs : List Nat) : Bool :=
  decide (sc.kind = .function) && (sc.names.all (fun y => decide (sc.names.lookup y.1 = some y.2)) && (sc.names.all (fun y => match y.2 with
      | .free => decide (c.sn.lookup y.1 = some .cell) || decide (c.sn.lookup y.1 = some .free)
      | .local => vs.any (fun i => decide (c.N[i]? = some y.1)) || decide (y.1 ∉ c.N)
      | .cell => vs.any (fun i => decide (c.N[i]? = some y.1)) || decide (y.1 ∉ c.N)
      | _ => true) && vs.all (fun i => decide (i < c.N.length))))
def chkTg (c : Sc) : Tg → Expr → Bool
  | .nm i, .Name x _ => stB c x i
  | .tp is, .Tuple es _ _ => !c.su && go is es
  | _, _ => false
where go : List Nat → List Expr → Bool
  | [], [] => true
  | i :: is, .Name x _ :: es => stB c x i && go is es
  | _, _ => false
def isTup : Expr → Bool
  | .Tuple _ _ _ => true
  | _ => false
def noTup : Expr → Bool
  | .Tuple _ _ _ => false
  | .List _ _ => false
  | _ => true
def keyBodyB : Expr → Bool
  | .BinOp (.Subscript (.Name a _) (.Constant (.int i) _ _) _) .Mult (.BinOp (.Name b _) .FloorDiv (.Subscript (.Name d _) (.Constant (.int j) _ _) _) _) _ => decide (a = "one") && (decide (b = "common") && (decide (d = "one") && (decide (i = 0) && decide (j = 1))))
  | _ => false
def lamArgs : Arguments → Bool
  | ⟨[], [⟨a, none, _⟩], none, [], [], none, []⟩ => decide (a = "one")
  | _ => false
def isYes : E → Bool
  | .con (.bl true) => true
  | _ => false
def isNil : E → Bool
  | .nil => true
  | _ => false
def isOne : E → Bool
  | .cons _ .nil => true
  | _ => false
/-- constants that are defaults -/
def eqD : Dt → Dt → Bool
  | .non, .non => true
  | .int i, .int j => decide (i = j)
  | .bl i, .bl j => decide (i = j)
  | .str i, .str j => decide (i = j)
  | _, _ => false
def eqDs : List Dt → List Dt → Bool
  | [], [] => true
  | a :: as, b :: bs => eqD a b && eqDs as bs
  | _, _ => false
theorem eqD_eq {a b : Dt} (h : eqD a b = true) : a = b := by
  unfold eqD at h
  split at h <;> first | rfl | (rw [of_decide_eq_true h]) | cases h
theorem eqDs_eq : ∀ {a b : List Dt}, eqDs a b = true → a = b
  | [], [], _ => rfl
  | [], _ :: _, h => by cases h
  | _ :: _, [], h => by cases h
  | a :: as, b :: bs, h => by
    unfold eqDs at h
    rw [Bool.and_eq_true] at h
    rw [eqD_eq h.1, eqDs_eq h.2]
/-- names of classes -/
def chkXs (c : Sc) : List Nat → List Expr → Bool
  | [], [] => true
  | i :: is, .Name x _ :: es => gB c x && (decide ((x, i) ∈ G.hnd) && chkXs c is es)
  | _, _ => false
mutual
def chkE (c : Sc) : E → Expr → Bool
  | .var i, e => match e with
    | .Name x _ => rdB c x i
    | _ => false
  | .con d, e => match e with
    | .Constant v _ _ => match d, v with
      | .int i, .int j => decide (i = j)
      | .str a, .str b => decide (a = b)
      | .bl a, .bool b => decide (a = b)
      | .non, .none => true
      | _, _ => false
    | .Name x _ => gB c x && (match d with
      | .int i => decide ((x, i) ∈ G.ci)
      | .str i => decide ((x, i) ∈ G.cs)
      | _ => false)
    | _ => false
  | .tup a, e => match e with
    | .Tuple es _ _ => chkA c a es
    | _ => false
  | .lst _ a, e => match e with
    | .List es _ => chkA c a es
    | _ => false
  | .dic _, e => match e with
    | .Dict [] [] _ => true
    | _ => false
  | .neg a, e => match e with
    | .UnaryOp .USub x _ => chkE c a x
    | _ => false
  | .bin o a b, e => match e with
    | .BinOp x op y _ => decide (op = opOf o) && (chkE c a x && chkE c b y)
    | _ => false
  | .cmp o a b, e => match e with
    | .Compare x [op] [y] _ => decide (op = cmpOf o) && (noSet y && (chkE c a x && chkE c b y))
    | _ => false
  | .chn o p a b d, e => match e with
    | .Compare x [op, oq] [y, z] _ => decide (op = cmpOf o) && (decide (oq = cmpOf p) && (noSet z && (chkE c a x && (chkE c b y && chkE c d z))))
    | _ => false
  | .isN n a, e => match e with
    | .Compare x [op] [.Constant .none _ _] _ => decide (op = if n = true then .IsNot else .Is) && chkE c a x
    | _ => false
  | .isB n k a, e => match e with
    | .Compare x [op] [.Constant (.bool j) _ _] _ => decide (op = if n = true then .IsNot else .Is) && (decide (j = k) && chkE c a x)
    | _ => false
  | .and a b, e => match e with
    | .BoolOp .And [x, y] _ => tst a && (tst b && (chkE c a x && chkE c b y))
    | .BoolOp .And (x :: y :: z :: r) pos => tst a && (tst b && (chkE c a x && chkE c b (.BoolOp .And (y :: z :: r) pos)))
    | _ => false
  | .or a b, e => match e with
    | .BoolOp .Or [x, y] _ => tst a && (tst b && (chkE c a x && chkE c b y))
    | .BoolOp .Or (x :: y :: z :: r) pos => tst a && (tst b && (chkE c a x && chkE c b (.BoolOp .Or (y :: z :: r) pos)))
    | _ => false
  | .not a, e => match e with
    | .UnaryOp .Not x _ => tst a && chkE c a x
    | _ => false
  | .ite d a b, e => match e with
    | .IfExp z x y _ => tst d && (chkE c d z && (chkE c a x && chkE c b y))
    | _ => false
  | .ix a b, e => match e with
    | .Subscript x y _ => noSl y && (chkE c a x && chkE c b y)
    | _ => false
  | .sl a lo hi, e => match e with
    | .Subscript x (.Slice l h none _) _ => chkE c a x && (chkO c lo l && chkO c hi h)
    | _ => false
  | .rev a, e => match e with
    | .Subscript x (.Slice none none (some (.UnaryOp .USub (.Constant (.int 1) _ _) _)) _) _ => chkE c a x
    | _ => false
  | .rev0 a, e => match e with
    | .Subscript x (.Slice none (some (.Constant (.int 0) _ _)) (some (.UnaryOp .USub (.Constant (.int 1) _ _) _)) _) _ => chkE c a x
    | _ => false
  | .sst _ a, e => match e with
    | .Call (.Name x _) [.Call (.Name y _) [e] [] _] [] _ => bB G c x && (decide (x = "sorted") && (bB G c y && (decide (y = "set") && (!c.su && (noStar e && chkE c a e)))))
    | _ => false
  | .sln a, e => match e with
    | .Call (.Name x _) [.Call (.Name y _) [e] [] _] [] _ => bB G c x && (decide (x = "len") && (bB G c y && (decide (y = "set") && (!c.su && (noStar e && chkE c a e)))))
    | _ => false
  | .bi b _ a, e => match e with
    | .Call (.Name x _) (e :: es) [] _ => bB G c x && (decide (x = Str.ofString (biNm b)) && (biPl b && ((!biCalm b || !c.su) && (chkA c a (e :: es)))))
    | _ => false
  | .isT n a, e => match e with
    | .Call (.Name x _) [e, .Name y _] [] _ => bB G c x && (decide (x = "isinstance") && (bB G c y && (decide (y = Str.ofString (tyStr n)) && (!decide (n = .non) && (noStar e && chkE c a e)))))
    | _ => false
  | .mt m o a, e => match e with
    | .Call (.Attribute z x p2) (e :: es) [] p3 => mt1 m && (decide (x = Str.ofString (mtNm m)) && (noSup z && (decide (es.length < 20) && ((p2.endLine == p3.line) && (chkE c o z && chkA c a (e :: es))))))
    | .Call (.Attribute z x p2) [] [] p3 => mt0 m && (decide (x = Str.ofString (mtNm m)) && (noSup z && ((p2.endLine == p3.line) && (chkE c o z && chkA c a []))))
    | _ => false
  | .sdf t d k, e => match e with
    | .Call (.Attribute z x p2) [e, f] [] p3 => decide (x = "setdefault") && (noSup z && ((p2.endLine == p3.line) && (noStar e && (chkE c d z && (chkE c k e && (match f with
      | .List [] _ => !t
      | .Dict [] [] _ => t
      | _ => false))))))
    | _ => false
  | .lkd o a, e => chkE c a e
  | .call f a, e => match e with
    | .Call (.Name x _) (e :: es) [] _ => !c.su && (gB c x && (G.fns.any (fun q => decide (q.1 = x) && decide (q.2.1 = f)) && chkA c a (e :: es)))
    | _ => false
  | .cali f a, e => match e with
    | .Call (.Name x _) (e :: es) [] _ => !c.su && (gB c x && (G.fns.any (fun q => decide (q.1 = x) && decide (q.2.1 = f)) && chkA c a (e :: es)))
    | _ => false
  | .cald f ds a, e => match e with
    | .Call (.Name x _) (e :: es) [] _ => !c.su && (gB c x && (G.dfl.any (fun q => decide (q.1 = x) && (decide (q.2.1 = f) && eqDs q.2.2 ds)) && chkA c a (e :: es)))
    | _ => false
  | .new k a, e => match e with
    | .Call (.Name x _) es [] _ => !c.su && (gB c x && (match es with
      | [] => isNil a && G.new.any (fun q => decide (q.1 = x) && decide (q.2.1 = k))
      | _ :: _ => G.new.any (fun q => decide (q.1 = x) && (decide (q.2.1 = k) && q.2.2)) && chkA c a es))
    | _ => false
  | .ome _ m o a, e => match e with
    | .Call (.Attribute z x p2) es [] p3 => !c.su && (decide ((x, m) ∈ G.mnm) && (noSup z && ((p2.endLine == p3.line) && (chkE c o z && (match es with
      | [] => isNil a
      | _ :: _ => decide (es.length < 20) && chkA c a es)))))
    | _ => false
  | .att f o, e => match e with
    | .Attribute z x _ => decide ((x, f) ∈ G.fnm) && (noSup z && chkE c o z)
    | _ => false
  | .lc _ own elt tg it d, e => match e with
    | .ListComp x [⟨t, i, ifs, 0⟩] sc _ => !c.su && (blkB c sc own && (tg.ids.all (fun i => decide (i ∈ own)) && (noSet i && (chkI c it t i && (chkTg { c with sn := sc.names, blk := true } tg t && (chkE { c with sn := sc.names, blk := true } elt x && (match ifs with
      | [] => isYes d
      | [z] => tst d && chkE { c with sn := sc.names, blk := true } d z
      | _ => false)))))))
    | _ => false
  | .srtK a cm, e => match e with
    | .Call (.Name x _) [e] [⟨some kn, .Lambda ar body sc _, _⟩] _ => c.lam && (!c.su && (!c.blk && (bB G c x && (decide (x = "sorted") && (decide (kn = "key") && (noStar e && (chkE c a e && (decide (c.N[cm]? = some ("common" : Str)) && (decide (c.sn.lookup ("common" : Str) = some .cell) && (keyBodyB body && (lamArgs ar &&
      (decide (sc.kind = .function) && (decide (sc.isCoroutine = false) && (decide (sc.isGenerator = false) && (decide (sc.names.lookup ("one" : Str) = some .local) && (decide (sc.names.lookup ("common" : Str) = some .free) && (sc.names.all (fun y => !decide (y.2 = .cell)) && (sc.names.all (fun y => !decide (y.2 = .free) || decide (y.1 = "common")) && decide ((("common" : Str), NameKind.free) ∈ sc.names)))))))))))))))))))
    | _ => false
  | .isX cs, e => match e with
    | .Call (.Name x _) [.Name n _, .Name y _] [] _ => (match c.hv with
      | some (hn, _) => decide (n = hn)
      | none => false) && (bB G c x && (decide (x = "isinstance") && (gB c y && (match cs with
        | [k] => decide ((y, k) ∈ G.hnd) || decide ((y, k) ∈ G.bex)
        | _ => false))))
    | .Call (.Name x _) [.Name n _, .Tuple es _ _] [] _ => (match c.hv with
      | some (hn, _) => decide (n = hn)
      | none => false) && (bB G c x && (decide (x = "isinstance") && ((match es with
        | [] => false
        | _ => true) && (decide (cs.length ≤ 1000) && chkXs G c cs es))))
    | _ => false
  | .exf f, e => match e with
    | .Attribute (.Name n _) fl _ => (match c.hv with
      | some (hn, _) => decide (n = hn)
      | none => false) && decide ((fl, f) ∈ G.xfl)
    | _ => false
  | .fz a, e => chkE c a e
  | _, _ => false
def chkA (c : Sc) : E → List Expr → Bool
  | .nil, es => match es with
    | [] => true
    | _ => false
  | .cons a r, es => match es with
    | e :: es => noStar e && (chkE c a e && chkA c r es)
    | _ => false
  | _, _ => false
def chkO (c : Sc) : E → Option Expr → Bool
  | .nil, o => match o with
    | none => true
    | _ => false
  | .cons a b, o => match o with
    | some e => isNil b && chkE c a e
    | _ => false
  | _, _ => false
def chkI (c : Sc) : E → Expr → Expr → Bool
  | .rng1 b, _, e => match e with
    | .Call (.Name x _) [e] [] _ => bB G c x && (decide (x = "range") && (noStar e && chkE c b e))
    | _ => false
  | .rng a b, _, e => match e with
    | .Call (.Name x _) [d, e] [] _ => bB G c x && (decide (x = "range") && (noStar d && (noStar e && (chkE c a d && chkE c b e))))
    | _ => false
  | .rngd a b, _, e => match e with
    | .Call (.Name x _) [d, e, .UnaryOp .USub (.Constant (.int 1) _ _) _] [] _ => bB G c x && (decide (x = "range") && (noStar d && (noStar e && (chkE c a d && chkE c b e))))
    | _ => false
  | .zip a b, t, e => match e with
    | .Call (.Name x _) [d, e] [] _ => isTup t && (bB G c x && (decide (x = "zip") && (noStar d && (noStar e && (chkE c a d && chkE c b e)))))
    | _ => false
  | .enu a, t, e => match e with
    | .Call (.Name x _) [e] [] _ => isTup t && (bB G c x && (decide (x = "enumerate") && (noStar e && chkE c a e)))
    | _ => false
  | .cons a b, _, e => isNil b && chkE c a e
  | _, _, _ => false
end
end
end Ip

namespace Ip
open PySem L2 PySem.Spec
open PyProof.Rows (envOfC)
/-! ## where one stands -/
structure Ok (c : Sc) (X : Cx) (tb : Tb) (h : Option Er) : Prop where
  n : X.N = c.N
  nd : c.N.Nodup
  kind : X.env.scope.kind = .function
  look : ∀ x k, c.sn.lookup x = some k → ∃ k', X.env.scope.names.lookup x = some k' ∧ (k' = k ∨ (k = .free ∧ k' = .cell))
  fn : ∀ x, c.sn.lookup x = some .cell → X.fn x = true
  calm : c.su = false → X.calm = true ∧ h = none ∧ tb.hx = none ∧ tb.px = none
  hv : ∀ x v, c.hv = some (x, v) → ∃ z a oe d pn X0, h = some z ∧ tb.hx = some (v, a) ∧ X = Cx.suite X0 a ((a, oe) :: pn) ∧ Caught X.K tb.l z oe d ∧ At X0 x v ∧ tb.px = pxOf z d
  hx : ∀ v a, tb.hx = some (v, a) → ∃ x, c.hv = some (x, v)
  lam : c.lam = true → c.blk = false → c.su = false → CodeAt X
  exact : c.blk = false → X.env.scope.names = c.sn
structure Ge (G : Gt) (Pg : Pg) (C : Cl) (P : Program) (w : World) (K : PySem.W.Frag) (mg : Str → Option Value) (base : Heap) (k : Nat) : Prop where
  free : ∀ x, x ∈ G.free → mg x = none
  ci : ∀ x i, (x, i) ∈ G.ci → ∃ t, mg x = some (.int i t)
  cs : ∀ x i, (x, i) ∈ G.cs → ∃ t, mg x = some (.str i t)
  fns : ∀ x f n, (x, f, n) ∈ G.fns → Fn P w K mg base G.tb C x f n k ∧ ∀ ds s, C f ds s ≠ .no → ds.length = n
  exc : ∀ x e, (x, e) ∈ G.exc → ExcT K mg x ∧ G.tb[e]? = some x
  hnd : ∀ y i, (y, i) ∈ G.hnd → mg y = some (.ref (He.ga K y)) ∧ ∀ e z, G.tb[e]? = some z → Pg.isExc e = true → PySem.W.exmOne K (.ref (He.ga K z)) (.ref (He.ga K y)) = some (Pg.isSub e i)
  nodup : G.tb.Nodup
  xin : ∀ z x fs, (z, x, fs) ∈ G.xin → XinT Pg P w K mg base G.tb z x fs
  xfl : ∀ n f, (n, f) ∈ G.xfl → ∀ e z, G.tb[e]? = some z → Pg.isExc e = true → XfC K (He.ga K z) ∧ PySem.W.findIn K (.ref (He.ga K z)) n = some none
  xnm : ∀ n f, (n, f) ∈ G.xfl → G.tb[f]? = some n
  kit : ∀ y i, (y, i) ∈ G.hnd → ∀ e z, G.tb[e]? = some z → Pg.isExc e = true → PySem.W.kitOne K (.ref (He.ga K z)) (.ref (He.ga K y)) = some (Pg.isSub e i) ∧ ExcC K (He.ga K z)
  new : ∀ z c b, (z, c, b) ∈ G.new → NewT P w K mg base G.tb C z c b k
  fnm : ∀ x f, (x, f) ∈ G.fnm → G.tb[f]? = some x
  fld : ∀ c f, Pg.hasF c f = true → FldT K G.tb c f
  mnm : ∀ x m, (x, m) ∈ G.mnm → G.tb[m]? = some x
  mth : ∀ c cd m f, Pg.cls.lookup c = some cd → cd.mts.lookup m = some f → MthT P w K mg base G.tb C c m f k
  dfl : ∀ x f ds, (x, f, ds) ∈ G.dfl → FnD P w K mg base G.tb C x f ds k
  bex : ∀ y i, (y, i) ∈ G.bex → y = ("ValueError" : Str) ∧ mg y = none ∧ ∀ e z, G.tb[e]? = some z → Pg.isExc e = true → PySem.W.kitOne K (.ref (He.ga K z)) (.type "ValueError") = some (Pg.isSub e i) ∧ ExcC K (He.ga K z)
structure Hy (G : Gt) (Pg : Pg) (C : Cl) (k : Nat) (c : Sc) (X : Cx) (tb : Tb) (h : Option Er) (W : WX) : Prop where
  tl : tb.l = G.tb
  ok : Ok c X tb h
  ge : Ge G Pg C X.prog X.w X.K X.mg X.base k
  tk : Takes X W
  hr : c.su = false → Room k X.A
  un : X.A.units + 65 < cLine
  k2 : 2 ≤ k
section
variable {G : Gt} {P : Pg} {C : Cl} {k : Nat} {c : Sc} {X : Cx} {tb : Tb} {h : Option Er} {W : WX}
theorem Ok.rd (o : Ok c X tb h) {x : Str} {i : Nat} (b : rdB c x i = true) : Rd1 X x i := by
  unfold rdB notDB at b
  simp only [Bool.and_eq_true, decide_eq_true_eq, Bool.not_eq_true'] at b
  obtain ⟨b1, b2, b3, b4⟩ := b
  refine ⟨by rw [o.n]; exact b1, ?_, b3, b4⟩
  cases e : c.sn.lookup x with
  | none => rw [e] at b2; cases b2
  | some kk =>
    obtain ⟨k', e1, e2⟩ := o.look x kk e
    rw [e] at b2
    cases kk with
    | «local» => rcases e2 with rfl | ⟨z, _⟩
                 · exact .inl e1
                 · cases z
    | cell => rcases e2 with rfl | ⟨z, _⟩
              · exact .inr (.inl e1)
              · cases z
    | free => rcases e2 with rfl | ⟨_, rfl⟩
              · exact .inr (.inr e1)
              · exact .inr (.inl e1)
    | _ => cases b2
theorem Ok.st (o : Ok c X tb h) {x : Str} {i : Nat} (b : stB c x i = true) : At X x i ∧ tb.ok i := by
  unfold stB notDB at b
  simp only [Bool.and_eq_true, decide_eq_true_eq, Bool.not_eq_true'] at b
  obtain ⟨b1, b2, ⟨b3, b4⟩, b5⟩ := b
  have ix : X.N[i]? = some x := by rw [o.n]; exact b1
  refine ⟨?_, fun v a e => ?_⟩
  · cases e : c.sn.lookup x with
    | none => rw [e] at b2; cases b2
    | some kk =>
      obtain ⟨k', e1, e2⟩ := o.look x kk e
      rw [e] at b2
      cases kk with
      | «local» => rcases e2 with rfl | ⟨z, _⟩
                   · exact { ix := ix, vi := .inl e1, d1 := b3, d2 := b4, nd := by rw [o.n]; exact o.nd, lo := .inl e1, fn := .inr e1 }
                   · cases z
      | cell => rcases e2 with rfl | ⟨z, _⟩
                · exact { ix := ix, vi := .inr (.inl e1), d1 := b3, d2 := b4, nd := by rw [o.n]; exact o.nd, lo := .inr e1, fn := .inl (o.fn x e) }
                · cases z
      | _ => cases b2
  · obtain ⟨y, hy⟩ := o.hx v a e
    unfold hvOk at b5
    rw [hy] at b5
    simpa using b5
theorem Ok.glo (o : Ok c X tb h) {x : Str} (b : gB c x = true) : Glo X x := by
  unfold gB at b
  simp only [Bool.and_eq_true, decide_eq_true_eq, Bool.not_eq_true', decide_eq_false_iff_not] at b
  obtain ⟨b1, b2, b3⟩ := b
  obtain ⟨k', e1, e2⟩ := o.look x _ b1
  rcases e2 with rfl | ⟨z, _⟩
  · exact ⟨e1, b2, b3⟩
  · cases z
theorem star_of {e : Expr} (b : noStar e = true) (es : List Expr) (env : Env) : starEach (e :: es) env = (false, eval e env) :: starEach es env := by
  cases e <;> first | rfl | cases b
theorem behind_of {e : Expr} (b : noSet e = true) (op : CmpOp) : behindInMarks op e = false := by
  cases e <;> first | rfl | cases b
theorem plain_of {e : Expr} (b : noSl e = true) : PlainIx e := by
  cases e <;> first | exact fun _ _ => rfl | cases b
theorem fold_of {e : Expr} (b : noSet e = true) (env : Env) (x : Value) : foldedSetIterable e env x = pure x := by
  cases e <;> first | rfl | cases b
theorem sup_of {e : Expr} (b : noSup e = true) (f : Str) (env : Env) (t : Sem Value) : attributeBase e f env t = t := by
  unfold attributeBase
  split
  · cases b
  · rfl
theorem chkA_star (G : Gt) (c : Sc) : ∀ {a : E} {es : List Expr}, chkA G c a es = true → ∀ e ∈ es, noStar e = true := by
  intro a es
  induction es generalizing a with
  | nil => intro _ e h; cases h
  | cons e es ih =>
    intro h x hx
    cases a with
    | cons p q =>
      rw [chkA] at h
      simp only [Bool.and_eq_true] at h
      rcases List.mem_cons.mp hx with rfl | hx
      · exact h.1
      · exact ih h.2.2 x hx
    | _ => cases h
theorem plain_any {es : List Expr} (h : ∀ e ∈ es, noStar e = true) (env : Env) : (starEach es env).any (·.1) = false := by
  induction es with
  | nil => rfl
  | cons e es ih =>
    rw [star_of (h e List.mem_cons_self), List.any_cons, ih fun x hx => h x (List.mem_cons_of_mem _ hx)]
    rfl
theorem star_len {es : List Expr} (h : ∀ e ∈ es, noStar e = true) (env : Env) : (starEach es env).all (fun x => !x.1) = true := by
  induction es with
  | nil => rfl
  | cons e es ih =>
    rw [star_of (h e List.mem_cons_self), List.all_cons, ih fun x hx => h x (List.mem_cons_of_mem _ hx)]
    rfl
theorem back_all (ts : List (Bool × Sem Value)) (pos : Pos) : (backTo pos ts).all (fun x => !x.1) = ts.all fun x => !x.1 := by
  unfold backTo
  rw [List.all_map]
  rfl
/-! ## blocks -/
structure BArg where
  s : Shared
  H : Hp
  C : Addr
  cl : List (Str × Addr)
  fp : List Addr
abbrev Xb (X : Cx) (sc : Scope) (q : BArg) : Cx := X.blk q.s q.H sc (compEnvC sc q.cl q.C X.env) q.fp
theorem tk0 {B : Cx} : Takes B W0 := fun u s' ⟨_, _, _, _, _, _, _, _, _, _, _, _, _, _, _, _, w⟩ => w.elim
theorem relabel_look {sc : Scope} {env : Env} : ∀ {names : List (Str × NameKind)} {x : Str} {k : NameKind}, names.lookup x = some k →
    ∃ k', (names.map fun (n, k) => if (k == NameKind.free && env.scope.kind == .function && env.kindOf n == some .cell) then (n, NameKind.cell) else (n, k)).lookup x = some k' ∧ (k' = k ∨ (k = .free ∧ k' = .cell))
  | [], _, _, h => by simp at h
  | (n, k₀) :: r, x, k, h => by
    have ih := @relabel_look sc env r x k
    show ∃ k', List.lookup x ((if (k₀ == NameKind.free && env.scope.kind == .function && env.kindOf n == some .cell) = true then (n, NameKind.cell) else (n, k₀)) :: _) = some k' ∧ _
    cases hx : x == n with
    | true =>
      simp only [List.lookup_cons, hx] at h
      cases h
      by_cases hc : (k₀ == NameKind.free && env.scope.kind == .function && env.kindOf n == some .cell) = true
      · rw [if_pos hc]
        simp only [List.lookup_cons, hx]
        simp only [Bool.and_eq_true, beq_iff_eq] at hc
        exact ⟨_, rfl, .inr ⟨hc.1.1, rfl⟩⟩
      · rw [if_neg hc]
        simp only [List.lookup_cons, hx]
        exact ⟨_, rfl, .inl rfl⟩
    | false =>
      simp only [List.lookup_cons, hx] at h
      by_cases hc : (k₀ == NameKind.free && env.scope.kind == .function && env.kindOf n == some .cell) = true
      · rw [if_pos hc]; simp only [List.lookup_cons, hx]; exact ih h
      · rw [if_neg hc]; simp only [List.lookup_cons, hx]; exact ih h
/-- the check of a block -/
theorem blk_ok (o : Ok c X tb h) {sc : Scope} {vs : List Nat} (b : blkB c sc vs = true) : ∃ own : List (Str × Nat), BlkOk X.N X.env.scope sc own ∧ own.map (·.2) = vs := by
  unfold blkB at b
  simp only [Bool.and_eq_true, decide_eq_true_eq, List.all_eq_true] at b
  obtain ⟨b1, b2, b3, b4⟩ := b
  refine ⟨vs.map fun i => (c.N[i]?.getD default, i), ⟨b1, b2, fun p hp => ?_, fun y hy hf => ?_, fun y hy hf => ?_⟩, ?_⟩
  · obtain ⟨i, hi, rfl⟩ := List.mem_map.mp hp
    show X.N[i]? = some (c.N[i]?.getD default)
    rw [o.n, List.getElem?_eq_getElem (b4 i hi)]
    rfl
  · have q := b3 y hy
    rw [hf] at q
    simp only [Bool.or_eq_true, decide_eq_true_eq] at q
    rcases q with q | q
    · obtain ⟨k', z, e⟩ := o.look _ _ q
      rcases e with rfl | ⟨e, _⟩
      · exact .inl z
      · cases e
    · obtain ⟨k', z, e⟩ := o.look _ _ q
      rcases e with rfl | ⟨_, rfl⟩
      · exact .inr z
      · exact .inl z
  · have q := b3 y hy
    have q2 : (∃ i ∈ vs, c.N[i]? = some y.1) ∨ y.1 ∉ c.N := by
      rcases hf with hf | hf <;>
      · rw [hf] at q
        simpa using q
    rcases q2 with ⟨i, hi, e⟩ | q2
    · refine .inl (List.mem_map.mpr ⟨(y.1, i), List.mem_map.mpr ⟨i, hi, ?_⟩, rfl⟩)
      rw [e]
      rfl
    · exact .inr (by rw [o.n]; exact q2)
  · rw [List.map_map]
    exact List.map_id' _
theorem Ok.blk (o : Ok c X tb h) {sc : Scope} {vs : List Nat} (b : blkB c sc vs = true) (hs : c.su = false) (q : BArg) : Ok { c with sn := sc.names, blk := true } (Xb X sc q) tb h := by
  unfold blkB at b
  simp only [Bool.and_eq_true, decide_eq_true_eq] at b
  have hn : tb.hx = none := (o.calm hs).2.2.1
  refine ⟨o.n, o.nd, b.1, fun x k e => relabel_look (sc := sc) e, fun x e => ?_, fun z => o.calm z, fun x v e => ?_, fun v a e => ?_, fun _ z => (by cases z), fun z => (by cases z)⟩
  · show (sc.names.lookup x == some .cell) = true
    rw [show sc.names.lookup x = some .cell from e]
    rfl
  · obtain ⟨z, a, oe, d, pn, X0, _, e2, _⟩ := o.hv x v e
    rw [hn] at e2
    cases e2
  · rw [hn] at e
    cases e
theorem Hy.blk (y : Hy G P C k c X tb h W) {sc : Scope} {vs : List Nat} (b : blkB c sc vs = true) (hs : c.su = false) (q : BArg) : Hy G P C k { c with sn := sc.names, blk := true } (Xb X sc q) tb h W0 :=
  ⟨y.tl, y.ok.blk b hs q, y.ge, tk0, y.hr, y.un, y.k2⟩
theorem GO.all {α β ι : Type} {K : PySem.W.Frag} {W : WX} {l : Loc} {s : Sto} {rel : Wd → β → α → Prop} {t : ι → L2.St → Hp → (β → Hp → Prop) → Prop} {r : R α} (h : ∀ q, GO K tb W rel (t q) l s r) : GO K tb W rel (fun σ H Q => ∀ q, t q σ H Q) l s r :=
  fun w0 w σ Q F hs hr q => h q w0 w σ Q F hs hr
def semTs (X : Cx) (ifs : List Expr) : TT := fun σ H Q => ∀ pins s, Inv X pins σ H s →
    wpAny (model X.prog X.w) X.A (forIn ifs true fun c r => if r = true then do let ok ← isTrue c X.env (eval c X.env); pure (ForInStep.yield ok) else pure (ForInStep.yield r)) (TP X pins σ Q) X.xe s
/-! ## targets -/
theorem pgs_of (o : Ok c X tb h) : ∀ {is : List Nat} {es : List Expr}, chkTg.go c is es = true → PGs X es (gNames is) ∧ ∀ i ∈ is, tb.ok i
  | [], [], _ => ⟨pgs_nil, fun i h => by cases h⟩
  | i :: is, .Name x _ :: es, b => by
    unfold chkTg.go at b
    rw [Bool.and_eq_true] at b
    obtain ⟨h1, h2⟩ := pgs_of o b.2
    obtain ⟨a, ok⟩ := o.st b.1
    refine ⟨pgs_cons (pg_name a.nd a.ix a.lo a.fn) h1, fun j hj => ?_⟩
    rcases List.mem_cons.mp hj with rfl | hj
    · exact ok
    · exact h2 j hj
theorem gNames_len : ∀ {is : List Nat} {es : List Expr}, chkTg.go c is es = true → es.length = is.length
  | [], [], _ => rfl
  | i :: is, .Name x _ :: es, b => by
    unfold chkTg.go at b
    rw [Bool.and_eq_true] at b
    rw [List.length_cons, List.length_cons, gNames_len b.2]
theorem assign_len (env : Env) : ∀ {is : List Nat} {es : List Expr}, chkTg.go c is es = true → (assignEach es env).length = is.length ∧ (assignEach es env).findIdx? (·.1) = none
  | [], [], _ => ⟨rfl, rfl⟩
  | i :: is, .Name x p :: es, b => by
    unfold chkTg.go at b
    rw [Bool.and_eq_true] at b
    obtain ⟨h1, h2⟩ := assign_len env b.2
    have e : assignEach (.Name x p :: es) env = (false, assign (.Name x p) env) :: assignEach es env := rfl
    rw [e, List.length_cons, List.length_cons, h1, List.findIdx?_cons, h2]
    exact ⟨rfl, rfl⟩
theorem pg_of (o : Ok c X tb h) {tg : Tg} {t : Expr} (b : chkTg c tg t = true) : PG X t (gOf X.K tg) ∧ ∀ i ∈ tg.ids, tb.ok i := by
  unfold chkTg at b
  split at b
  · obtain ⟨a, ok⟩ := o.st b
    exact ⟨pg_name a.nd a.ix a.lo a.fn, fun i hi => by rw [show i = _ from List.mem_singleton.mp hi]; exact ok⟩
  · rw [Bool.and_eq_true, Bool.not_eq_true'] at b
    rename_i is es _ _
    obtain ⟨h1, h2⟩ := pgs_of o b.2
    refine ⟨?_, h2⟩
    obtain ⟨e1, e2⟩ := assign_len X.env b.2
    exact pg_tup (n := is.length) (o.calm b.1).1 h1 e1 e2
  · cases b
/-! ## expressions -/
structure Snd (G : Gt) (P : Pg) (C : Cl) (k : Nat) (E : E) : Prop where
  e : ∀ c x, chkE G c E x = true → ∀ X tb h W, Hy G P C k c X tb h W → ∀ l s, EX X tb W x l s (evE P C h E l s)
  t : ∀ c x, chkE G c E x = true → tst E = true → ∀ X tb h W, Hy G P C k c X tb h W → ∀ l s, TX X tb W x l s (asB (evE P C h E l s))
  a : ∀ c xs, chkA G c E xs = true → ∀ X tb h W, Hy G P C k c X tb h W → ∀ l s, AX X tb W xs l s (evA P C h E l s)
  o : ∀ c x, chkO G c E x = true → ∀ X tb h W, Hy G P C k c X tb h W → ∀ l s, PX X tb W x l s (evO P C h E l s)
  i : ∀ c t x, chkI G c E t x = true → ∀ X tb h W, Hy G P C k c X tb h W → ∀ l s, IX X tb W t x l s (evI P C h E l s)
end
end Ip

namespace Ip
open PySem L2 PySem.Spec
section
variable {G : Gt} {P : Pg} {C : Cl} {k : Nat}
/-- the trivial parts -/
theorem noA {E : E} (h : ∀ c xs, chkA G c E xs = false) : ∀ c xs, chkA G c E xs = true → ∀ X tb h W, Hy G P C k c X tb h W → ∀ l s, AX X tb W xs l s (evA P C h E l s) := fun c xs b => by rw [h] at b; cases b
theorem noO {E : E} (h : ∀ c xs, chkO G c E xs = false) : ∀ c x, chkO G c E x = true → ∀ X tb h W, Hy G P C k c X tb h W → ∀ l s, PX X tb W x l s (evO P C h E l s) := fun c xs b => by rw [h] at b; cases b
theorem noI {E : E} (h : ∀ c t xs, chkI G c E t xs = false) : ∀ c t x, chkI G c E t x = true → ∀ X tb h W, Hy G P C k c X tb h W → ∀ l s, IX X tb W t x l s (evI P C h E l s) := fun c t xs b => by rw [h] at b; cases b
/-- of plain forms the test is by value -/
def plainT : Expr → Bool
  | .UnaryOp .Not _ _ => false
  | .BoolOp _ _ _ => false
  | .IfExp _ _ _ _ => false
  | .Compare _ _ _ _ => false
  | _ => true
theorem plainT_of {e : Expr} (b : plainT e = true) (env : Env) (whole : Sem Value) : isTrue e env whole = (do let v ← whole; standAt e.pos; holding [v] (truthy v)) := by
  cases e with
  | UnaryOp op a p => cases op <;> first | rfl | cases b
  | _ => first | rfl | cases b
theorem snd_mk {E : E} (he : ∀ c x, chkE G c E x = true → ∀ X tb h W, Hy G P C k c X tb h W → ∀ l s, EX X tb W x l s (evE P C h E l s)) (hp : ∀ c x, chkE G c E x = true → plainT x = true)
    (ha : ∀ c xs, chkA G c E xs = false) (ho : ∀ c xs, chkO G c E xs = false) (hi : ∀ c t xs, chkI G c E t xs = false) : Snd G P C k E :=
  ⟨he, fun c x b _ X tb h W y l s => tx_val (he c x b X tb h W y l s) (plainT_of (hp c x b) _), noA ha, noO ho, noI hi⟩
theorem snd_var (i : Nat) : Snd G P C k (.var i) := by
  refine snd_mk (fun c x b X tb h W y l s => ?_) (fun c x b => ?_) (fun c xs => rfl) (fun c xs => rfl) (fun c t xs => rfl)
  · simp only [chkE] at b
    split at b
    · exact ex_var (y.ok.rd b)
    · cases b
  · simp only [chkE] at b
    split at b
    · rfl
    · cases b
theorem snd_con (d : Dt) : Snd G P C k (.con d) := by
  refine snd_mk (fun c x b X tb h W y l s => ?_) (fun c x b => ?_) (fun c xs => rfl) (fun c xs => rfl) (fun c t xs => rfl)
  · simp only [chkE] at b
    split at b
    · split at b
      · cases of_decide_eq_true b
        exact ex_c pe_int fun _ _ => .int _
      · cases of_decide_eq_true b
        exact ex_c pe_str fun _ _ => .str _
      · cases of_decide_eq_true b
        exact ex_c pe_bl fun _ _ => .bl _
      · exact ex_c pe_non fun _ _ => .non
      · cases b
    · rw [Bool.and_eq_true] at b
      have g := y.ok.glo b.1
      have b2 := b.2
      split at b2
      · obtain ⟨t, e⟩ := y.ge.ci _ _ (of_decide_eq_true b2)
        exact ex_c (pe_glob g.gl e (v := .int _) ⟨t, rfl⟩ g.d1) fun _ _ => .int _
      · obtain ⟨t, e⟩ := y.ge.cs _ _ (of_decide_eq_true b2)
        exact ex_c (pe_glob g.gl e (v := .str _) ⟨t, rfl⟩ g.d1) fun _ _ => .str _
      · cases b2
    · cases b
  · simp only [chkE] at b
    split at b
    · rfl
    · rfl
    · cases b
theorem snd_nil : Snd G P C k .nil := by
  refine ⟨fun c x b => ?_, fun c x b => ?_, fun c xs b X tb h W y l s => ?_, fun c x b X tb h W y l s => ?_, fun c t x b => ?_⟩
  · cases b
  · cases b
  · simp only [chkA] at b
    split at b
    · exact ax_nil
    · cases b
  · simp only [chkO] at b
    split at b
    · exact px_no
    · cases b
  · cases b
theorem isNil_eq {e : E} (h : isNil e = true) : e = .nil := by cases e <;> first | rfl | cases h
theorem snd_cons {a r : E} (ha : Snd G P C k a) (hr : Snd G P C k r) : Snd G P C k (.cons a r) := by
  refine ⟨fun c x b => ?_, fun c x b => ?_, fun c xs b X tb h W y l s => ?_, fun c x b X tb h W y l s => ?_, fun c t x b X tb h W y l s => ?_⟩
  · cases b
  · cases b
  · simp only [chkA] at b
    split at b
    · simp only [Bool.and_eq_true] at b
      exact ax_cons (ha.e c _ b.2.1 X tb h W y l s) (fun s => hr.a c _ b.2.2 X tb h W y l s) (star_of b.1 _ _)
    · cases b
  · simp only [chkO] at b
    split at b
    · simp only [Bool.and_eq_true] at b
      exact px_some (ha.e c _ b.2 X tb h W y l s)
    · cases b
  · simp only [chkI, Bool.and_eq_true] at b
    exact ix_e (ha.e c _ b.2 X tb h W y l s)
theorem snd_tup {a : E} (ha : Snd G P C k a) : Snd G P C k (.tup a) := by
  refine snd_mk (fun c x b X tb h W y l s => ?_) (fun c x b => ?_) (fun c xs => rfl) (fun c xs => rfl) (fun c t xs => rfl)
  · simp only [chkE] at b
    split at b
    · exact ex_tup (ha.a c _ b X tb h W y l s)
    · cases b
  · simp only [chkE] at b
    split at b
    · rfl
    · cases b
theorem snd_lst {lv : Bool} {a : E} (ha : Snd G P C k a) : Snd G P C k (.lst lv a) := by
  refine snd_mk (fun c x b X tb h W y l s => ?_) (fun c x b => ?_) (fun c xs => rfl) (fun c xs => rfl) (fun c t xs => rfl)
  · simp only [chkE] at b
    split at b
    · exact ex_lst (ha.a c _ b X tb h W y l s)
    · cases b
  · simp only [chkE] at b
    split at b
    · rfl
    · cases b
theorem snd_dic {t : Bool} : Snd G P C k (.dic t) := by
  refine snd_mk (fun c x b X tb h W y l s => ?_) (fun c x b => ?_) (fun c xs => rfl) (fun c xs => rfl) (fun c t xs => rfl)
  · simp only [chkE] at b
    split at b
    · exact ex_dic
    · cases b
  · simp only [chkE] at b
    split at b
    · rfl
    · cases b
theorem snd_neg {a : E} (ha : Snd G P C k a) : Snd G P C k (.neg a) := by
  refine snd_mk (fun c x b X tb h W y l s => ?_) (fun c x b => ?_) (fun c xs => rfl) (fun c xs => rfl) (fun c t xs => rfl)
  · simp only [chkE] at b
    split at b
    · exact ex_neg (ha.e c _ b X tb h W y l s)
    · cases b
  · simp only [chkE] at b
    split at b
    · rfl
    · cases b
theorem snd_bin {o : BO} {a d : E} (ha : Snd G P C k a) (hd : Snd G P C k d) : Snd G P C k (.bin o a d) := by
  refine snd_mk (fun c x b X tb h W y l s => ?_) (fun c x b => ?_) (fun c xs => rfl) (fun c xs => rfl) (fun c t xs => rfl)
  · simp only [chkE] at b
    split at b
    · simp only [Bool.and_eq_true, decide_eq_true_eq] at b
      obtain ⟨rfl, b1, b2⟩ := b
      exact ex_bin (ha.e c _ b1 X tb h W y l s) fun s => hd.e c _ b2 X tb h W y l s
    · cases b
  · simp only [chkE] at b
    split at b
    · rfl
    · cases b
theorem snd_cmp {o : CO} {a d : E} (ha : Snd G P C k a) (hd : Snd G P C k d) : Snd G P C k (.cmp o a d) := by
  refine ⟨fun c x b X tb h W y l s => ?_, fun c x b _ X tb h W y l s => ?_, noA fun c xs => rfl, noO fun c xs => rfl, noI fun c t xs => rfl⟩
  all_goals
    simp only [chkE] at b
    split at b
    · simp only [Bool.and_eq_true, decide_eq_true_eq] at b
      obtain ⟨rfl, b0, b1, b2⟩ := b
      first
      | exact ex_cmp y.un (behind_of b0 _) (ha.e c _ b1 X tb h W y l s) fun s => hd.e c _ b2 X tb h W y l s
      | exact tx_cmp y.un (behind_of b0 _) (ha.e c _ b1 X tb h W y l s) fun s => hd.e c _ b2 X tb h W y l s
    · cases b
theorem last_of {e f : Expr} (b : noSet f = true) (op op' : CmpOp) : lastMarks [op, op'] [e, f] = false := by
  show lastMarks [op'] [f] = false
  exact behind_of b op'
theorem snd_chn {o p : CO} {a d f : E} (ha : Snd G P C k a) (hd : Snd G P C k d) (hf : Snd G P C k f) : Snd G P C k (.chn o p a d f) := by
  refine ⟨fun c x b X tb h W y l s => ?_, fun c x b _ X tb h W y l s => ?_, noA fun c xs => rfl, noO fun c xs => rfl, noI fun c t xs => rfl⟩
  all_goals
    simp only [chkE] at b
    split at b
    · simp only [Bool.and_eq_true, decide_eq_true_eq] at b
      obtain ⟨rfl, rfl, b0, b1, b2, b3⟩ := b
      first
      | exact ex_chn y.un (last_of b0 _ _) (ha.e c _ b1 X tb h W y l s) (fun s => hd.e c _ b2 X tb h W y l s) fun s => hf.e c _ b3 X tb h W y l s
      | exact tx_chn y.un (last_of b0 _ _) (ha.e c _ b1 X tb h W y l s) (fun s => hd.e c _ b2 X tb h W y l s) fun s => hf.e c _ b3 X tb h W y l s
    · cases b
theorem snd_isN {n : Bool} {a : E} (ha : Snd G P C k a) : Snd G P C k (.isN n a) := by
  refine ⟨fun c x b X tb h W y l s => ?_, fun c x b _ X tb h W y l s => ?_, noA fun c xs => rfl, noO fun c xs => rfl, noI fun c t xs => rfl⟩
  all_goals
    simp only [chkE] at b
    split at b
    · simp only [Bool.and_eq_true, decide_eq_true_eq] at b
      obtain ⟨rfl, b1⟩ := b
      first
      | exact ex_isN (ha.e c _ b1 X tb h W y l s)
      | exact tx_isN (ha.e c _ b1 X tb h W y l s)
    · cases b
theorem ex_isB {X : Cx} {tb : Tb} {W : WX} {a : Expr} {pos : Pos} {l : Loc} {s : Sto} {n k : Bool} {r : R Dt} {p1 j1} (h : EX X tb W a l s r) : EX X tb W (.Compare a [if n = true then .IsNot else .Is] [.Constant (.bool k) j1 p1] pos) l s (r.bind fun d s => brn d .no (.ok (.bl (n != (k == true))) s) (.ok (.bl (n != (k == false))) s)) := by
  cases n with
  | true =>
    exact ex_of (pe_cmpR op_isnot_bl (pe_sem a) pe_bl (nomark _)) fun w0 w σ Q F hs hr => h.go.bind F hs hr fun x w1 d e1 st1 rx hr => by
      cases rx with
      | bl q =>
        refine ⟨q, k, rfl, rfl, ?_⟩
        rw [brn_bl] at hr
        cases q <;> cases k <;> exact hr _ w1 rfl (.refl st1.sim) (.bl _)
      | _ => exact hr.elim
  | false =>
    exact ex_of (pe_cmpR op_is_bl (pe_sem a) pe_bl (nomark _)) fun w0 w σ Q F hs hr => h.go.bind F hs hr fun x w1 d e1 st1 rx hr => by
      cases rx with
      | bl q =>
        refine ⟨q, k, rfl, rfl, ?_⟩
        rw [brn_bl] at hr
        cases q <;> cases k <;> exact hr _ w1 rfl (.refl st1.sim) (.bl _)
      | _ => exact hr.elim
theorem tx_isB {X : Cx} {tb : Tb} {W : WX} {a : Expr} {pos : Pos} {l : Loc} {s : Sto} {n k : Bool} {r : R Dt} {p1 j1} (h : EX X tb W a l s r) : TX X tb W (.Compare a [if n = true then .IsNot else .Is] [.Constant (.bool k) j1 p1] pos) l s (asB (r.bind fun d s => brn d .no (.ok (.bl (n != (k == true))) s) (.ok (.bl (n != (k == false))) s))) := by
  cases n with
  | true =>
    exact tx_of (pt_cmpR op_isnot_bl (pe_sem a) pe_bl (nomark _)) fun w0 w σ Q F hs hr => h.go.bind F hs (ret_asB hr) fun x w1 d e1 st1 rx hr => by
      cases rx with
      | bl q =>
        refine ⟨q, k, rfl, rfl, ?_⟩
        rw [brn_bl] at hr
        cases q <;> cases k <;> exact hr _ w1 rfl (.refl st1.sim) (.bl _)
      | _ => exact hr.elim
  | false =>
    exact tx_of (pt_cmpR op_is_bl (pe_sem a) pe_bl (nomark _)) fun w0 w σ Q F hs hr => h.go.bind F hs (ret_asB hr) fun x w1 d e1 st1 rx hr => by
      cases rx with
      | bl q =>
        refine ⟨q, k, rfl, rfl, ?_⟩
        rw [brn_bl] at hr
        cases q <;> cases k <;> exact hr _ w1 rfl (.refl st1.sim) (.bl _)
      | _ => exact hr.elim
theorem snd_isB {n q : Bool} {a : E} (ha : Snd G P C k a) : Snd G P C k (.isB n q a) := by
  refine ⟨fun c x b X tb h W y l s => ?_, fun c x b _ X tb h W y l s => ?_, noA fun c xs => rfl, noO fun c xs => rfl, noI fun c t xs => rfl⟩
  all_goals
    simp only [chkE] at b
    split at b
    · simp only [Bool.and_eq_true, decide_eq_true_eq] at b
      obtain ⟨rfl, rfl, b1⟩ := b
      first
      | exact ex_isB (ha.e c _ b1 X tb h W y l s)
      | exact tx_isB (ha.e c _ b1 X tb h W y l s)
    · cases b
theorem tw_bool {X : Cx} {tb : Tb} {W : WX} {op : BoolOp} {es : List Expr} {pos : Pos} {l : Loc} {s : Sto} {r : R Bool} (h : TX X tb W (.BoolOp op es pos) l s r) : TW X tb W (.BoolOp op es pos) l s r := ⟨fun w0 w σ Q F hs hr wh pins s' I => h.go w0 w σ Q F hs hr pins s' I⟩
theorem snd_and {a d : E} (ha : Snd G P C k a) (hd : Snd G P C k d) : Snd G P C k (.and a d) := by
  refine ⟨fun c x b X tb h W y l s => ?_, fun c x b _ X tb h W y l s => ?_, noA fun c xs => rfl, noO fun c xs => rfl, noI fun c t xs => rfl⟩
  · simp only [chkE] at b
    split at b
    · simp only [Bool.and_eq_true] at b
      exact ex_and (ha.e c _ b.2.2.1 X tb h W y l s) fun s => ex_one (hd.e c _ b.2.2.2 X tb h W y l s)
    · simp only [Bool.and_eq_true] at b
      exact ex_and (ha.e c _ b.2.2.1 X tb h W y l s) fun s => hd.e c _ b.2.2.2 X tb h W y l s
    · cases b
  · simp only [chkE] at b
    split at b
    · simp only [Bool.and_eq_true] at b
      exact tx_tw (tw_and (ha.t c _ b.2.2.1 b.1 X tb h W y l s) fun s => tw_one1 (hd.t c _ b.2.2.2 b.2.1 X tb h W y l s))
    · simp only [Bool.and_eq_true] at b
      exact tx_tw (tw_and (ha.t c _ b.2.2.1 b.1 X tb h W y l s) fun s => tw_bool (hd.t c _ b.2.2.2 b.2.1 X tb h W y l s))
    · cases b
theorem snd_or {a d : E} (ha : Snd G P C k a) (hd : Snd G P C k d) : Snd G P C k (.or a d) := by
  refine ⟨fun c x b X tb h W y l s => ?_, fun c x b _ X tb h W y l s => ?_, noA fun c xs => rfl, noO fun c xs => rfl, noI fun c t xs => rfl⟩
  · simp only [chkE] at b
    split at b
    · simp only [Bool.and_eq_true] at b
      exact ex_or (ha.e c _ b.2.2.1 X tb h W y l s) fun s => ex_one (hd.e c _ b.2.2.2 X tb h W y l s)
    · simp only [Bool.and_eq_true] at b
      exact ex_or (ha.e c _ b.2.2.1 X tb h W y l s) fun s => hd.e c _ b.2.2.2 X tb h W y l s
    · cases b
  · simp only [chkE] at b
    split at b
    · simp only [Bool.and_eq_true] at b
      exact tx_tw (tw_or (ha.t c _ b.2.2.1 b.1 X tb h W y l s) fun s => tw_one2 (hd.t c _ b.2.2.2 b.2.1 X tb h W y l s))
    · simp only [Bool.and_eq_true] at b
      exact tx_tw (tw_or (ha.t c _ b.2.2.1 b.1 X tb h W y l s) fun s => tw_bool (hd.t c _ b.2.2.2 b.2.1 X tb h W y l s))
    · cases b
theorem snd_not {a : E} (ha : Snd G P C k a) : Snd G P C k (.not a) := by
  refine ⟨fun c x b X tb h W y l s => ?_, fun c x b _ X tb h W y l s => ?_, noA fun c xs => rfl, noO fun c xs => rfl, noI fun c t xs => rfl⟩
  all_goals
    simp only [chkE] at b
    split at b
    · simp only [Bool.and_eq_true] at b
      first
      | exact ex_not (ha.e c _ b.2 X tb h W y l s)
      | exact tx_not (ha.t c _ b.2 b.1 X tb h W y l s)
    · cases b
theorem snd_ite {d a e : E} (hd : Snd G P C k d) (ha : Snd G P C k a) (he : Snd G P C k e) : Snd G P C k (.ite d a e) := by
  refine ⟨fun c x b X tb h W y l s => ?_, fun c x b z => (by cases z), noA fun c xs => rfl, noO fun c xs => rfl, noI fun c t xs => rfl⟩
  simp only [chkE] at b
  split at b
  · simp only [Bool.and_eq_true] at b
    exact ex_ite (hd.t c _ b.2.1 b.1 X tb h W y l s) (fun s => ha.e c _ b.2.2.1 X tb h W y l s) fun s => he.e c _ b.2.2.2 X tb h W y l s
  · cases b
theorem snd_ix {a d : E} (ha : Snd G P C k a) (hd : Snd G P C k d) : Snd G P C k (.ix a d) := by
  refine snd_mk (fun c x b X tb h W y l s => ?_) (fun c x b => ?_) (fun c xs => rfl) (fun c xs => rfl) (fun c t xs => rfl)
  · simp only [chkE] at b
    split at b
    · simp only [Bool.and_eq_true] at b
      exact ex_ix y.un (ha.e c _ b.2.1 X tb h W y l s) (fun s => hd.e c _ b.2.2 X tb h W y l s) (plain_of b.1)
    · cases b
  · simp only [chkE] at b
    split at b
    · rfl
    · cases b
theorem snd_sl {a d e : E} (ha : Snd G P C k a) (hd : Snd G P C k d) (he : Snd G P C k e) : Snd G P C k (.sl a d e) := by
  refine snd_mk (fun c x b X tb h W y l s => ?_) (fun c x b => ?_) (fun c xs => rfl) (fun c xs => rfl) (fun c t xs => rfl)
  · simp only [chkE] at b
    split at b
    · simp only [Bool.and_eq_true] at b
      exact ex_sl (ha.e c _ b.1 X tb h W y l s) (fun s => hd.o c _ b.2.1 X tb h W y l s) fun s => he.o c _ b.2.2 X tb h W y l s
    · cases b
  · simp only [chkE] at b
    split at b
    · rfl
    · cases b
theorem snd_rev {a : E} (ha : Snd G P C k a) : Snd G P C k (.rev a) := by
  refine snd_mk (fun c x b X tb h W y l s => ?_) (fun c x b => ?_) (fun c xs => rfl) (fun c xs => rfl) (fun c t xs => rfl)
  · simp only [chkE] at b
    split at b
    · exact ex_rev (ha.e c _ b X tb h W y l s)
    · cases b
  · simp only [chkE] at b
    split at b
    · rfl
    · cases b
theorem snd_rev0 {a : E} (ha : Snd G P C k a) : Snd G P C k (.rev0 a) := by
  refine snd_mk (fun c x b X tb h W y l s => ?_) (fun c x b => ?_) (fun c xs => rfl) (fun c xs => rfl) (fun c t xs => rfl)
  · simp only [chkE] at b
    split at b
    · exact ex_rev0 (ha.e c _ b X tb h W y l s)
    · cases b
  · simp only [chkE] at b
    split at b
    · rfl
    · cases b
theorem bB_of {c : Sc} {X : Cx} {tb : Tb} {h : Option Er} {W : WX} {x : Str} (y : Hy G P C k c X tb h W) (b : bB G c x = true) : Glo X x ∧ X.mg x = none := by
  unfold bB at b
  rw [Bool.and_eq_true] at b
  exact ⟨y.ok.glo b.1, y.ge.free _ (of_decide_eq_true b.2)⟩
theorem snd_bi {m : BI} {lv : Bool} {a : E} (ha : Snd G P C k a) : Snd G P C k (.bi m lv a) := by
  refine snd_mk (fun c x b X tb h W y l s => ?_) (fun c x b => ?_) (fun c xs => rfl) (fun c xs => rfl) (fun c t xs => rfl)
  · simp only [chkE] at b
    split at b
    · simp only [Bool.and_eq_true, decide_eq_true_eq, Bool.or_eq_true, Bool.not_eq_true'] at b
      obtain ⟨b1, b2, b3, b4, b5⟩ := b
      obtain ⟨g, hm⟩ := bB_of y b1
      have st := chkA_star G c b5
      refine ex_bi m lv b3 (fun hc => ?_) y.un b2 hm g (ha.a c _ b5 X tb h W y l s) (star_of (st _ List.mem_cons_self) _ _) (by rw [any_backTo]; exact plain_any (fun e he => st e (List.mem_cons_of_mem _ he)) _)
      rcases b4 with z | z
      · rw [hc] at z; cases z
      · exact (y.ok.calm z).1
    · cases b
  · simp only [chkE] at b
    split at b
    · rfl
    · cases b
theorem snd_sst {lv : Bool} {a : E} (ha : Snd G P C k a) : Snd G P C k (.sst lv a) := by
  refine snd_mk (fun c x b X tb h W y l s => ?_) (fun c x b => ?_) (fun c xs => rfl) (fun c xs => rfl) (fun c t xs => rfl)
  · simp only [chkE] at b
    split at b
    · simp only [Bool.and_eq_true, decide_eq_true_eq, Bool.not_eq_true'] at b
      obtain ⟨b1, rfl, b3, rfl, b5, b6, b7⟩ := b
      obtain ⟨g, hm⟩ := bB_of y b1
      obtain ⟨g2, hm2⟩ := bB_of y b3
      exact ex_sst (y.ok.calm b5).1 hm hm2 g g2 (ha.e c _ b7 X tb h W y l s) (star_of b6 · _)
    · cases b
  · simp only [chkE] at b
    split at b
    · rfl
    · cases b
theorem snd_sln {a : E} (ha : Snd G P C k a) : Snd G P C k (.sln a) := by
  refine snd_mk (fun c x b X tb h W y l s => ?_) (fun c x b => ?_) (fun c xs => rfl) (fun c xs => rfl) (fun c t xs => rfl)
  · simp only [chkE] at b
    split at b
    · simp only [Bool.and_eq_true, decide_eq_true_eq, Bool.not_eq_true'] at b
      obtain ⟨b1, rfl, b3, rfl, b5, b6, b7⟩ := b
      obtain ⟨g, hm⟩ := bB_of y b1
      obtain ⟨g2, hm2⟩ := bB_of y b3
      exact ex_sln (y.ok.calm b5).1 hm hm2 g g2 (ha.e c _ b7 X tb h W y l s) (star_of b6 · _)
    · cases b
  · simp only [chkE] at b
    split at b
    · rfl
    · cases b
theorem snd_isT {n : Ty} {a : E} (ha : Snd G P C k a) : Snd G P C k (.isT n a) := by
  refine snd_mk (fun c x b X tb h W y l s => ?_) (fun c x b => ?_) (fun c xs => rfl) (fun c xs => rfl) (fun c t xs => rfl)
  · simp only [chkE] at b
    split at b
    · simp only [Bool.and_eq_true, decide_eq_true_eq, Bool.not_eq_true', decide_eq_false_iff_not] at b
      obtain ⟨b1, rfl, b3, b4, b5, b6, b7⟩ := b
      obtain ⟨g, hm⟩ := bB_of y b1
      obtain ⟨g2, hm2⟩ := bB_of y b3
      exact ex_isT b5 b4 hm hm2 g g2 (ha.e c _ b7 X tb h W y l s) (star_of b6 · _)
    · cases b
  · simp only [chkE] at b
    split at b
    · rfl
    · cases b
theorem snd_mt {m : MI} {o a : E} (ho : Snd G P C k o) (ha : Snd G P C k a) : Snd G P C k (.mt m o a) := by
  refine snd_mk (fun c x b X tb h W y l s => ?_) (fun c x b => ?_) (fun c xs => rfl) (fun c xs => rfl) (fun c t xs => rfl)
  · simp only [chkE] at b
    split at b
    · simp only [Bool.and_eq_true, decide_eq_true_eq] at b
      obtain ⟨b1, b2, b3, b4, b5, b6, b7⟩ := b
      have st := chkA_star G c b7
      refine ex_mtL b1 y.un b2 (ho.e c _ b6 X tb h W y l s) (fun s => ha.a c _ b7 X tb h W y l s) (sup_of b3 _ _ _) ?_ b5 (star_of (st _ List.mem_cons_self) _ _) (by rw [any_backTo]; exact plain_any (fun e he => st e (List.mem_cons_of_mem _ he)) _)
      rw [back_all, star_len st]
      simp only [Bool.true_and, Bool.and_eq_true, decide_eq_true_eq, List.length_cons, List.length_nil, List.isEmpty_nil, if_true]
      refine ⟨rfl, by omega⟩
    · simp only [Bool.and_eq_true, decide_eq_true_eq] at b
      obtain ⟨b1, b2, b3, b5, b6, b7⟩ := b
      have e : evA P C h a l = fun s => R.ok [] s := by
        cases a with
        | nil => rfl
        | cons p q => cases b7
        | _ => cases b7
      show EX X tb W _ l s ((evE P C h o l s).bind fun x s => if rcv m x s = true then (evA P C h a l s).bind fun as s => mtS m x as s else .no)
      rw [e]
      exact ex_mtR b1 y.un b2 (ho.e c _ b6 X tb h W y l s) (sup_of b3 _ _ _) b5
    · cases b
  · simp only [chkE] at b
    split at b
    · rfl
    · rfl
    · cases b
theorem fns_of {c : Sc} {X : Cx} {tb : Tb} {h : Option Er} {W : WX} {x : Str} {f : Nat} (y : Hy G P C k c X tb h W) (b : (G.fns.any fun q => decide (q.1 = x) && decide (q.2.1 = f)) = true) : ∃ n, Fn X.prog X.w X.K X.mg X.base tb.l C x f n k ∧ ∀ ds s, C f ds s ≠ .no → ds.length = n := by
  rw [List.any_eq_true] at b
  obtain ⟨⟨x', f', n⟩, hm, e⟩ := b
  simp only [Bool.and_eq_true, decide_eq_true_eq] at e
  obtain ⟨rfl, rfl⟩ := e
  rw [y.tl]
  exact ⟨n, y.ge.fns _ _ _ hm⟩
theorem snd_call {f : Nat} {a : E} (ha : Snd G P C k a) : Snd G P C k (.call f a) := by
  refine snd_mk (fun c x b X tb h W y l s => ?_) (fun c x b => ?_) (fun c xs => rfl) (fun c xs => rfl) (fun c t xs => rfl)
  · simp only [chkE] at b
    split at b
    · simp only [Bool.and_eq_true, Bool.not_eq_true'] at b
      obtain ⟨b1, b2, b3, b4⟩ := b
      have st := chkA_star G c b4
      obtain ⟨n, F, hn⟩ := fns_of y b3
      exact ex_call F hn y.tk (y.hr b1) (y.ok.glo b2) (ha.a c _ b4 X tb h W y l s) (star_of (st _ List.mem_cons_self) _ _) (by rw [any_backTo]; exact plain_any (fun e he => st e (List.mem_cons_of_mem _ he)) _)
    · cases b
  · simp only [chkE] at b
    split at b
    · rfl
    · cases b
theorem snd_cali {f : Nat} {a : E} (ha : Snd G P C k a) : Snd G P C k (.cali f a) := by
  refine snd_mk (fun c x b X tb h W y l s => ?_) (fun c x b => ?_) (fun c xs => rfl) (fun c xs => rfl) (fun c t xs => rfl)
  · simp only [chkE] at b
    split at b
    · simp only [Bool.and_eq_true, Bool.not_eq_true'] at b
      obtain ⟨b1, b2, b3, b4⟩ := b
      have st := chkA_star G c b4
      obtain ⟨n, F, hn⟩ := fns_of y b3
      exact ex_cali F hn y.tk (y.hr b1) (y.ok.glo b2) (ha.a c _ b4 X tb h W y l s) (star_of (st _ List.mem_cons_self) _ _) (by rw [any_backTo]; exact plain_any (fun e he => st e (List.mem_cons_of_mem _ he)) _)
    · cases b
  · simp only [chkE] at b
    split at b
    · rfl
    · cases b
theorem snd_cald {f : Nat} {ds : List Dt} {a : E} (ha : Snd G P C k a) : Snd G P C k (.cald f ds a) := by
  refine snd_mk (fun c x b X tb h W y l s => ?_) (fun c x b => ?_) (fun c xs => rfl) (fun c xs => rfl) (fun c t xs => rfl)
  · simp only [chkE] at b
    split at b
    · simp only [Bool.and_eq_true, Bool.not_eq_true'] at b
      obtain ⟨b1, b2, b3, b4⟩ := b
      have st := chkA_star G c b4
      rw [List.any_eq_true] at b3
      obtain ⟨⟨x', f', ds'⟩, hm, e⟩ := b3
      simp only [Bool.and_eq_true, decide_eq_true_eq] at e
      obtain ⟨rfl, rfl, e⟩ := e
      have e := eqDs_eq e
      subst e
      exact ex_cald (by rw [y.tl]; exact y.ge.dfl _ _ _ hm) y.tk (y.hr b1) (y.ok.glo b2) (ha.a c _ b4 X tb h W y l s) (star_of (st _ List.mem_cons_self) _ _) (by rw [any_backTo]; exact plain_any (fun e he => st e (List.mem_cons_of_mem _ he)) _)
    · cases b
  · simp only [chkE] at b
    split at b
    · rfl
    · cases b
theorem evA_nil {a : E} (h : isNil a = true) {l : Loc} {hh : Option Er} : evA P C hh a l = fun s => R.ok [] s := by
  rw [isNil_eq h]
  rfl
theorem snd_new {f : Nat} {a : E} (ha : Snd G P C k a) : Snd G P C k (.new f a) := by
  refine snd_mk (fun c x b X tb h W y l s => ?_) (fun c x b => ?_) (fun c xs => rfl) (fun c xs => rfl) (fun c t xs => rfl)
  · simp only [chkE] at b
    split at b
    · simp only [Bool.and_eq_true, Bool.not_eq_true'] at b
      obtain ⟨b1, b2, b3⟩ := b
      split at b3
      · rw [Bool.and_eq_true, List.any_eq_true] at b3
        obtain ⟨b3, ⟨x', f', bb⟩, hm, e⟩ := b3
        simp only [Bool.and_eq_true, decide_eq_true_eq] at e
        obtain ⟨rfl, rfl⟩ := e
        show EX X tb W _ l s ((evA P C h a l s).bind fun as s => C (nwI f') as s)
        rw [evA_nil b3]
        exact ex_new0 (by rw [y.tl]; exact y.ge.new _ _ _ hm) y.tk (y.hr b1) (y.ok.glo b2)
      · rw [Bool.and_eq_true, List.any_eq_true] at b3
        obtain ⟨⟨⟨x', f', bb⟩, hm, e⟩, b4⟩ := b3
        simp only [Bool.and_eq_true, decide_eq_true_eq] at e
        obtain ⟨rfl, rfl, rfl⟩ := e
        have st := chkA_star G c b4
        exact ex_new (by rw [y.tl]; exact y.ge.new _ _ _ hm) y.tk (y.hr b1) (y.ok.glo b2) (ha.a c _ b4 X tb h W y l s) (star_of (st _ List.mem_cons_self) _ _) (by rw [any_backTo]; exact plain_any (fun e he => st e (List.mem_cons_of_mem _ he)) _)
    · cases b
  · simp only [chkE] at b
    split at b
    · rfl
    · cases b
theorem snd_ome {d m : Nat} {o a : E} (ho : Snd G P C k o) (ha : Snd G P C k a) : Snd G P C k (.ome d m o a) := by
  refine snd_mk (fun c x b X tb h W y l s => ?_) (fun c x b => ?_) (fun c xs => rfl) (fun c xs => rfl) (fun c t xs => rfl)
  · simp only [chkE] at b
    split at b
    · simp only [Bool.and_eq_true, Bool.not_eq_true', decide_eq_true_eq] at b
      obtain ⟨b1, b2, b3, b4, b5, b6⟩ := b
      have nd : tb.l.Nodup := by rw [y.tl]; exact y.ge.nodup
      have hm := y.ge.mnm _ _ b2
      rw [← y.tl] at hm
      have mt := y.ge.mth
      rw [← y.tl] at mt
      split at b6
      · show EX X tb W _ l s ((evE P C h o l s).bind fun x s => withO (mthS P m x s) .no fun f => (evA P C h a l s).bind fun as s => C f (x :: as) s)
        rw [evA_nil b6]
        exact ex_ome0 nd hm (y.hr b1) y.tk (fun c cd f => mt c cd m f) (ho.e c _ b5 X tb h W y l s) (sup_of b3 _ _ _) b4
      · rw [Bool.and_eq_true, decide_eq_true_eq] at b6
        have st := chkA_star G c b6.2
        refine ex_ome nd hm (y.hr b1) y.tk (fun c cd f => mt c cd m f) (ho.e c _ b5 X tb h W y l s) (fun s => ha.a c _ b6.2 X tb h W y l s) (sup_of b3 _ _ _) ?_ b4 (star_of (st _ List.mem_cons_self) _ _) (by rw [any_backTo]; exact plain_any (fun e he => st e (List.mem_cons_of_mem _ he)) _)
        rw [back_all, star_len st]
        simp only [Bool.true_and, Bool.and_eq_true, decide_eq_true_eq, List.length_cons, List.length_nil, List.isEmpty_nil, if_true]
        have := b6.1
        rw [List.length_cons] at this
        refine ⟨rfl, by omega⟩
    · cases b
  · simp only [chkE] at b
    split at b
    · rfl
    · cases b
theorem snd_att {f : Nat} {o : E} (ho : Snd G P C k o) : Snd G P C k (.att f o) := by
  refine snd_mk (fun c x b X tb h W y l s => ?_) (fun c x b => ?_) (fun c xs => rfl) (fun c xs => rfl) (fun c t xs => rfl)
  · simp only [chkE] at b
    split at b
    · simp only [Bool.and_eq_true, decide_eq_true_eq] at b
      obtain ⟨b1, b2, b3⟩ := b
      have hf := y.ge.fld
      rw [← y.tl] at hf
      exact ex_att (by rw [y.tl]; exact y.ge.nodup) (by rw [y.tl]; exact y.ge.fnm _ _ b1) (fun c => hf c f) (ho.e c _ b3 X tb h W y l s) (sup_of b2 _ _ _)
    · cases b
  · simp only [chkE] at b
    split at b
    · rfl
    · cases b
end
end Ip

namespace Ip
open PySem L2 PySem.Spec
section
variable {G : Gt} {P : Pg} {C : Cl} {k : Nat}
theorem isYes_eq {d : E} (h : isYes d = true) : d = .con (.bl true) := by
  unfold isYes at h
  split at h
  · rfl
  · cases h
theorem blk_len {c : Sc} {sc : Scope} {vs : List Nat} (b : blkB c sc vs = true) : ∀ i ∈ vs, i < c.N.length := by
  unfold blkB at b
  simp only [Bool.and_eq_true, List.all_eq_true, decide_eq_true_eq] at b
  exact b.2.2.2
/-- a comprehension, ready for its two rules -/
structure LC (X : Cx) (tb : Tb) (W : WX) (elt tg it : Expr) (ifs : List Expr) (sc : Scope) (l : Loc) (s : Sto) (r : R Dt) : Prop where
  nd : X.N.Nodup
  calm : X.calm = true
  fo : ∀ x, foldedSetIterable it X.env x = pure x
  run : ∃ (own : List (Str × Nat)) (wi : TI) (g : TG) (tt : TT) (te : TE), PI X tg it wi ∧ BlkOk X.N X.env.scope sc own ∧
      (∀ (s : Shared) (H : Hp) (C : Addr) (cl : List (Str × Addr)) (fp : List Addr), PG (X.blk s H sc (compEnvC sc cl C X.env) fp) tg g) ∧
      (∀ (s : Shared) (H : Hp) (C : Addr) (cl : List (Str × Addr)) (fp : List Addr), PTs (X.blk s H sc (compEnvC sc cl C X.env) fp) ifs tt) ∧
      (∀ (s : Shared) (H : Hp) (C : Addr) (cl : List (Str × Addr)) (fp : List Addr), PE (X.blk s H sc (compEnvC sc cl C X.env) fp) elt te) ∧
      GO X.K tb W (RV X.K) (tLc wi g tt te (own.map (·.2))) l s r
theorem lc_snd {lv : Bool} {own : List Nat} {elt it d : E} {tg : Tg} (he : Snd G P C k elt) (hi : Snd G P C k it) (hd : Snd G P C k d) {c : Sc} {x : Expr} (b : chkE G c (.lc lv own elt tg it d) x = true) {X : Cx} {tb : Tb} {h : Option Er} {W : WX} (y : Hy G P C k c X tb h W) :
    c.su = false ∧ ∃ ex t i ifs sc p, x = .ListComp ex [⟨t, i, ifs, 0⟩] sc p ∧ ∀ l s, LC X tb W ex t i ifs sc l s (evE P C h (.lc lv own elt tg it d) l s) := by
  simp only [chkE] at b
  split at b
  · rename_i _ x t i ifs sc p
    simp only [Bool.and_eq_true, Bool.not_eq_true', List.all_eq_true, decide_eq_true_eq] at b
    obtain ⟨b1, b2, b3, b4, b5, b6, b7, b8⟩ := b
    refine ⟨b1, x, t, i, ifs, sc, p, rfl, fun l s => ?_⟩
    have hc := (y.ok.calm b1).1
    have hn : h = none := (y.ok.calm b1).2.1
    subst hn
    obtain ⟨ow, bo, hv⟩ := blk_ok y.ok b2
    have okT : ∀ j, tb.ok j := fun j v a e => by rw [(y.ok.calm b1).2.2.1] at e; cases e
    have hg : ∀ (s : Shared) (H : Hp) (D : Addr) (cl : List (Str × Addr)) (fp : List Addr), PG (X.blk s H sc (compEnvC sc cl D X.env) fp) t (gOf X.K tg) := fun s H D cl fp => (pg_of (y.blk b2 b1 ⟨s, H, D, cl, fp⟩).ok b6).1
    have hE : ∀ (l : Loc) (s : Sto), GO X.K tb W0 (RV X.K) (fun σ H Q => ∀ q : BArg, semE (Xb X sc q) x σ H Q) l s (evE P C none elt l s) := fun l s => GO.all fun q => (he.e _ x b7 _ tb none W0 (y.blk b2 b1 q) l s).go
    have hT : ∀ (l : Loc) (s : Sto), GO X.K tb W0 RB (fun σ H Q => ∀ q : BArg, semTs (Xb X sc q) ifs σ H Q) l s (asB (evE P C none d l s)) := fun l s => GO.all fun q => by
      revert b8
      split
      · intro b8
        rw [isYes_eq b8]
        exact fun w0 w σ Q F hs hr pins s' I => pts_nil.run pins s' σ w.H Q I (hr true w hs (.refl F.sim) rfl)
      · rename_i z
        intro b8
        rw [Bool.and_eq_true] at b8
        exact fun w0 w σ Q F hs hr pins s' I => (pts_one (pt_sem z)).run pins s' σ w.H Q I ((hd.t _ z b8.2 b8.1 _ tb none W0 (y.blk b2 b1 q) l s).go w0 w σ Q F hs hr)
      · intro z
        cases z
    subst hv
    exact ⟨by rw [y.ok.n]; exact y.ok.nd, hc, fold_of b4 _, ow, _, _, (fun σ H Q => ∀ q : BArg, semTs (Xb X sc q) ifs σ H Q), (fun σ H Q => ∀ q : BArg, semE (Xb X sc q) x σ H Q), pi_sem t i, bo, hg,
      (fun s H D cl fp => ⟨fun pins s' σ H' Q I h => h ⟨s, H, D, cl, fp⟩ pins s' I⟩), (fun s H D cl fp => ⟨fun pins s' σ H' Q I h => h ⟨s, H, D, cl, fp⟩ pins s' I⟩),
      (go_lc (hi.i c t i b5 X tb none W y l s).go b3 (fun j _ => okT j) hT hE)⟩
  · cases b
theorem snd_lc {lv : Bool} {own : List Nat} {elt it d : E} {tg : Tg} (he : Snd G P C k elt) (hi : Snd G P C k it) (hd : Snd G P C k d) : Snd G P C k (.lc lv own elt tg it d) := by
  refine snd_mk (fun c x b X tb h W y l s => ?_) (fun c x b => ?_) (fun c xs => rfl) (fun c xs => rfl) (fun c t xs => rfl)
  · obtain ⟨_, ex, t, i, ifs, sc, p, rfl, L⟩ := lc_snd he hi hd b y
    obtain ⟨nd, hc, fo, own, wi, g, tt, te, h1, h2, h3, h4, h5, h6⟩ := L l s
    exact ex_of (pe_lc hc nd h1 h2 h3 h4 h5 fo) h6
  · simp only [chkE] at b
    split at b
    · rfl
    · cases b
theorem keyBody_of {e : Expr} (b : keyBodyB e = true) : KeyBody e := by
  unfold keyBodyB at b
  split at b
  · simp only [Bool.and_eq_true, decide_eq_true_eq] at b
    obtain ⟨rfl, rfl, rfl, rfl, rfl⟩ := b
    exact ⟨_, _, _, _, _, _, _, _, _, _, _, rfl⟩
  · cases b
theorem snd_srtK {a : E} {cm : Nat} (ha : Snd G P C k a) : Snd G P C k (.srtK a cm) := by
  refine snd_mk (fun c x b X tb h W y l s => ?_) (fun c x b => ?_) (fun c xs => rfl) (fun c xs => rfl) (fun c t xs => rfl)
  · simp only [chkE] at b
    split at b
    · simp only [Bool.and_eq_true, decide_eq_true_eq, Bool.not_eq_true'] at b
      obtain ⟨b1, b2, b3, b4, rfl, rfl, b7, b8, b9, b10, b11, b12, b13, b14, b15, b16, b17, b18, b19, b20⟩ := b
      obtain ⟨g, hm⟩ := bB_of y b4
      unfold lamArgs at b12
      split at b12
      · rename_i a0 p0
        have e : a0 = ("one" : Str) := of_decide_eq_true b12
        subst e
        refine ex_srtK (y.ok.lam b1 b3 b2) hm ⟨b13, b14, b15, b16, b17, fun z hz => ?_⟩ (keyBody_of b11) rfl (fun _ _ _ _ _ _ => rfl) (fun z hz e => ?_) b20 (by rw [y.ok.n]; exact b9) (by rw [y.ok.exact b3]; exact b10) (y.hr b2) (ha.e c _ b8 X tb h W y l s) g (star_of b7 _ _)
        · have q := List.all_eq_true.mp b18 z hz
          simpa using q
        · have q := List.all_eq_true.mp b19 z hz
          rw [e] at q
          simpa using q
      · cases b12
    · cases b
  · simp only [chkE] at b
    split at b
    · rfl
    · cases b
theorem snd_rng1 {d : E} (hd : Snd G P C k d) : Snd G P C k (.rng1 d) := by
  refine ⟨fun c x b => (by cases b), fun c x b => (by cases b), noA fun c xs => rfl, noO fun c xs => rfl, fun c t x b X tb h W y l s => ?_⟩
  simp only [chkI] at b
  split at b
  · simp only [Bool.and_eq_true, decide_eq_true_eq] at b
    obtain ⟨b2, rfl, b4, b5⟩ := b
    obtain ⟨g, hm⟩ := bB_of y b2
    exact ix_rng1 (hd.e c _ b5 X tb h W y l s) hm g (star_of b4 · _)
  · cases b
theorem snd_rng {a d : E} (ha : Snd G P C k a) (hd : Snd G P C k d) : Snd G P C k (.rng a d) := by
  refine ⟨fun c x b => (by cases b), fun c x b => (by cases b), noA fun c xs => rfl, noO fun c xs => rfl, fun c t x b X tb h W y l s => ?_⟩
  simp only [chkI] at b
  split at b
  · simp only [Bool.and_eq_true, decide_eq_true_eq] at b
    obtain ⟨b2, rfl, b4, b5, b6, b7⟩ := b
    obtain ⟨g, hm⟩ := bB_of y b2
    exact ix_rng2 (ha.e c _ b6 X tb h W y l s) (fun s => hd.e c _ b7 X tb h W y l s) hm g (star_of b4 · _) (star_of b5 · _)
  · cases b
theorem snd_rngd {a d : E} (ha : Snd G P C k a) (hd : Snd G P C k d) : Snd G P C k (.rngd a d) := by
  refine ⟨fun c x b => (by cases b), fun c x b => (by cases b), noA fun c xs => rfl, noO fun c xs => rfl, fun c t x b X tb h W y l s => ?_⟩
  simp only [chkI] at b
  split at b
  · simp only [Bool.and_eq_true, decide_eq_true_eq] at b
    obtain ⟨b2, rfl, b4, b5, b6, b7⟩ := b
    obtain ⟨g, hm⟩ := bB_of y b2
    exact ix_rngd (ha.e c _ b6 X tb h W y l s) (fun s => hd.e c _ b7 X tb h W y l s) hm g (star_of b4 · _) (star_of b5 · _)
  · cases b
theorem isTup_eq {t : Expr} (b : isTup t = true) : ∃ es k p, t = .Tuple es k p := by
  cases t <;> first | exact ⟨_, _, _, rfl⟩ | cases b
theorem snd_zip {a d : E} (ha : Snd G P C k a) (hd : Snd G P C k d) : Snd G P C k (.zip a d) := by
  refine ⟨fun c x b => (by cases b), fun c x b => (by cases b), noA fun c xs => rfl, noO fun c xs => rfl, fun c t x b X tb h W y l s => ?_⟩
  simp only [chkI] at b
  split at b
  · simp only [Bool.and_eq_true, decide_eq_true_eq] at b
    obtain ⟨b1, b2, rfl, b4, b5, b6, b7⟩ := b
    obtain ⟨g, hm⟩ := bB_of y b2
    obtain ⟨es, kk, p, rfl⟩ := isTup_eq b1
    exact ix_zip (ha.e c _ b6 X tb h W y l s) (fun s => hd.e c _ b7 X tb h W y l s) hm g (star_of b4 · _) (star_of b5 · _)
  · cases b
theorem snd_enu {a : E} (ha : Snd G P C k a) : Snd G P C k (.enu a) := by
  refine ⟨fun c x b => (by cases b), fun c x b => (by cases b), noA fun c xs => rfl, noO fun c xs => rfl, fun c t x b X tb h W y l s => ?_⟩
  simp only [chkI] at b
  split at b
  · simp only [Bool.and_eq_true, decide_eq_true_eq] at b
    obtain ⟨b1, b2, rfl, b4, b6⟩ := b
    obtain ⟨g, hm⟩ := bB_of y b2
    obtain ⟨es, kk, p, rfl⟩ := isTup_eq b1
    exact ix_enu (ha.e c _ b6 X tb h W y l s) hm g (star_of b4 · _)
  · cases b
/-- what is known of the held exception's dict -/
def DOk (H : Hp) (d : Option Addr) : Prop := ∀ dd, d = some dd → ∃ fs, H dd = some (.xd fs)
theorem held_at {X : Cx} {a D : Addr} {oe : Obj} {d : Option Addr} {pn pins : List (Addr × Obj)} {σ : L2.St} {H : Hp} {s : Shared} (hz : Zc (.ref D) d oe) (hf : ∃ vs, oe.data = .fields vs) (hd : DOk H d) (I : Inv (X.suite a ((a, oe) :: pn)) pins σ H s) : ∃ od, PySem.W.InstAt s.heap a oe D od := by
  have hget := (I.pin (a, oe) (List.mem_append.mpr (.inl List.mem_cons_self))).1
  obtain ⟨vs, hv⟩ := hf
  cases d with
  | none =>
    refine ⟨none, ?_⟩
    obtain ⟨c1, c2, c3, c4⟩ := oe
    obtain ⟨z1, z2⟩ := hz
    dsimp only at z1 z2 hv
    subst z1 z2 hv
    exact ⟨hget, rfl, rfl, trivial⟩
  | some dd =>
    obtain ⟨fs, ef⟩ := hd dd rfl
    obtain ⟨mA, ns1, _⟩ := (show ObjOk X.prog X.w H s.heap dd (.xd fs) from I.hok dd _ ef)
    obtain ⟨od, q1, _⟩ := lookIn_ns ns1
    exact ⟨some od, hget, hz.1, by unfold PySem.W.notCls; rw [hv] <;> rfl, by rw [hz.2]; exact q1⟩
def rHeld (K : PySem.W.Frag) (D a : Addr) (d : Option Addr) : List V → Hp → VK → Prop := fun xs H Q => DOk H d ∧ ∃ (c : V) (cv : Value) (b : Bool), xs = [.ref a, c] ∧ (∀ u, RelV c u → u = cv) ∧ PySem.W.kitOne K (.ref D) cv = some b ∧ Q (.bl b) H
theorem held_one {X : Cx} {a D : Addr} {oe : Obj} {d : Option Addr} {pn : List (Addr × Obj)} (C : ExcC X.K D) (hz : Zc (.ref D) d oe) (hf : ∃ vs, oe.data = .fields vs) : CallR (X.suite a ((a, oe) :: pn)) (.builtin "isinstance") (rHeld X.K D a d) := fun pins s σ H xs us Q I r h => by
  obtain ⟨hd, c, cv, b, rfl, hcv, e, q⟩ := h
  obtain ⟨u1, u2, rfl, r1, r2⟩ := vals2 r
  cases r1
  have ec := hcv _ r2
  subst ec
  obtain ⟨od, J⟩ := held_at hz hf hd I
  refine PySem.W.kia_one (PySem.W.kitx_exc (od := od) (by obtain ⟨cd, hc, _⟩ := PySem.W.any_some C.hd; rw [hc]; rfl) C.hg C.hk C.hs C.ha C.hn C.ht C.hm) I.kIn J e (fun z => nomatch z) fun tk => ?_
  exact ⟨.bl b, H, I.kept (t' := tk) fun _ _ z => z, rfl, q⟩
def rHeldT (K : PySem.W.Frag) (D a : Addr) (d : Option Addr) : List V → Hp → VK → Prop := fun xs H Q => DOk H d ∧ ∃ (tp : Addr) (cs : List V) (us : List Value) (b : Bool), xs = [.ref a, .ref tp] ∧ H tp = some (.tup cs) ∧ (∀ ws, Vals cs ws → ws = us) ∧ PySem.W.kitAny K (.ref D) us = some b ∧ Q (.bl b) H
theorem held_tup {X : Cx} {a D : Addr} {oe : Obj} {d : Option Addr} {pn : List (Addr × Obj)} (C : ExcC X.K D) (hz : Zc (.ref D) d oe) (hf : ∃ vs, oe.data = .fields vs) : CallR (X.suite a ((a, oe) :: pn)) (.builtin "isinstance") (rHeldT X.K D a d) := fun pins s σ H xs us Q I r h => by
  obtain ⟨hd, tp, cs, ws, b, rfl, hT, hw, e, q⟩ := h
  obtain ⟨u1, u2, rfl, r1, r2⟩ := vals2 r
  cases r1
  cases r2
  obtain ⟨od, J⟩ := held_at hz hf hd I
  obtain ⟨_, its, rv, o, h1, h2, n, h3⟩ := (show ObjOk X.prog X.w H s.heap tp (.tup cs) from I.hok tp _ hT)
  have e3 := hw _ rv
  subst e3
  obtain ⟨oc, od', dt, sl⟩ := o
  dsimp only at h2 h3
  subst h2 h3
  refine PySem.W.kia_tup (PySem.W.kitx_exc (od := od) (by obtain ⟨cd, hc, _⟩ := PySem.W.any_some C.hd; rw [hc]; rfl) C.hg C.hk C.hs C.ha C.hn C.ht C.hm) I.kIn J h1 e (fun z => nomatch z) fun tk => ?_
  exact ⟨.bl b, H, I.kept (t' := tk) fun _ _ z => z, rfl, q⟩
theorem ex_hx {X0 : Cx} {tb : Tb} {W : WX} {a : Addr} {oe : Obj} {pn : List (Addr × Obj)} {l : Loc} {s : Sto} {v : Nat} {e : Expr} {r : R Dt} {t : TE} (hx : tb.hx = some (v, a)) (h : PE (Cx.suite X0 a ((a, oe) :: pn)) e t) (q : ∀ w0 w σ Q, Fit X0.K tb w0 w σ l → w.s = s → σ[v]? = some (some (.ref a)) → Ret X0.K tb W (RV X0.K) σ w Q r → t σ w.H Q) : EX (Cx.suite X0 a ((a, oe) :: pn)) tb W e l s r :=
  ex_of h fun w0 w σ Q F hs hr => q w0 w σ Q F hs (F.hx v a hx) hr
theorem fit_dok {K : PySem.W.Frag} {tb : Tb} {w0 w : Wd} {σ : L2.St} {l : Loc} {z : Er} {d : Option Addr} (F : Fit K tb w0 w σ l) (e : tb.px = pxOf z d) : DOk w.H d := fun dd h => by
  subst h
  obtain ⟨fs, h1, _⟩ := F.px dd z.pay e
  exact ⟨fs, F.sim.sub _ _ h1⟩
/-- names of classes in a tuple -/
theorem pa_cls {X0 : Cx} {a : Addr} {oe : Obj} {pn : List (Addr × Obj)} {tb : Tb} {h : Option Er} {W : WX} {c : Sc} {D : Addr} {zc : Nat} (y : Hy G P C k c (Cx.suite X0 a ((a, oe) :: pn)) tb h W) (hk : ∀ x i, (x, i) ∈ G.hnd → PySem.W.kitOne X0.K (.ref D) (.ref (He.ga X0.K x)) = some (P.isSub zc i)) :
    ∀ (es : List Expr) (cs : List Nat), chkXs G c cs es = true → ∃ (vs : List V) (us : List Value), PA (Cx.suite X0 a ((a, oe) :: pn)) es (fun σ H Q => Q vs H) ∧ (∀ ws, Vals vs ws → ws = us) ∧ vs.length = cs.length ∧ PySem.W.kitAny X0.K (.ref D) us = some (cs.any fun i => P.isSub zc i) := by
  intro es
  induction es with
  | nil =>
    intro cs b
    cases cs with
    | nil => exact ⟨[], [], ⟨fun pos pins s σ H Q I h => pa_nil.run pos pins s σ H Q I h⟩, fun ws r => (by cases r; rfl), rfl, rfl⟩
    | cons i cs => cases b
  | cons e es ih =>
    intro cs b
    cases cs with
    | nil => cases e <;> cases b
    | cons i cs =>
      cases e with
      | Name x p =>
        unfold chkXs at b
        simp only [Bool.and_eq_true, decide_eq_true_eq] at b
        obtain ⟨b1, b2, b3⟩ := b
        obtain ⟨vs, us, h1, h2, h3, h4⟩ := ih cs b3
        have g := y.ok.glo b1
        obtain ⟨m1, _⟩ := y.ge.hnd _ _ b2
        refine ⟨.ref (He.ga X0.K x) :: vs, .ref (He.ga X0.K x) :: us, ⟨fun pos pins s σ H Q I h => (pa_cons (pe_glob (v := .ref (He.ga X0.K x)) g.gl m1 rfl g.d1) h1 rfl).run pos pins s σ H Q I h⟩, fun ws r => ?_, congrArg (· + 1) h3, ?_⟩
        · cases r with
          | cons r1 r2 =>
            cases r1
            rw [h2 _ r2]
        · unfold PySem.W.kitAny
          rw [hk x i b2, List.any_cons]
          cases P.isSub zc i with
          | true => rfl
          | false => exact h4
      | _ => cases b
theorem bt_ve : bootBuiltins ("ValueError" : Str) = some (.type "ValueError") := by decide +kernel
theorem snd_isX {cs : List Nat} : Snd G P C k (.isX cs) := by
  refine snd_mk (fun c x b X tb h W y l s => ?_) (fun c x b => ?_) (fun c xs => rfl) (fun c xs => rfl) (fun c t xs => rfl)
  · simp only [chkE] at b
    split at b
    · simp only [Bool.and_eq_true, decide_eq_true_eq] at b
      obtain ⟨b1, b2, rfl, b4, b5⟩ := b
      obtain ⟨g, hm⟩ := bB_of y b2
      have g2 := y.ok.glo b4
      split at b1
      · rename_i hn v hv
        have b1 := of_decide_eq_true b1
        subst b1
        obtain ⟨z, a, oe, d, pn, X0, rfl, e2, rfl, cg, at0, epx⟩ := y.ok.hv _ _ hv
        split at b5
        · rename_i kk
          show EX _ tb W _ l s (cond (P.isExc z.cls) (.ok (.bl ([kk].any fun c => P.isSub z.cls c)) s) .no)
          cases hz : P.isExc z.cls with
          | false => exact ex_no
          | true =>
          obtain ⟨zn, hzn, zc⟩ := cg.nm
          rw [Bool.or_eq_true] at b5
          rcases b5 with b5 | b5
          case inr =>
            have b5 := of_decide_eq_true b5
            obtain ⟨ey, hy1, hy2⟩ := y.ge.bex _ _ b5
            subst ey
            obtain ⟨hk1, hk2⟩ := hy2 z.cls zn (by rw [← y.tl]; exact hzn) hz
            refine ex_hx e2 (pe_callB (X := Cx.suite X0 a ((a, oe) :: pn)) (held_one (d := d) hk2 zc cg.fl) g.gl hm (by decide +kernel) (pa_cons (pe_var (i := v) at0.ix at0.vi at0.d1 at0.d2) (pa_cons (pe_bltn g2.gl hy1 bt_ve (v := .ty "ValueError") rfl g2.nn g2.d1) pa_nil rfl) rfl) g.nn g.d1 rfl rfl) fun w0 w σ Q F hs hx hr => ?_
            refine ⟨_, hx, fit_dok F epx, _, _, P.isSub z.cls kk, rfl, fun u r => r, hk1, ?_⟩
            have e : [kk].any (fun c => P.isSub z.cls c) = P.isSub z.cls kk := by simp
            have hr : Ret X0.K tb W (RV X0.K) σ w Q (.ok (.bl ([kk].any fun c => P.isSub z.cls c)) s) := hr
            rw [e] at hr
            exact hr _ w hs (.refl F.sim) (.bl _)
          have b5 := of_decide_eq_true b5
          obtain ⟨hy1, hy2⟩ := y.ge.hnd _ _ b5
          obtain ⟨hk1, hk2⟩ := y.ge.kit _ _ b5 z.cls zn (by rw [← y.tl]; exact hzn) hz
          refine ex_hx e2 (pe_callB (X := Cx.suite X0 a ((a, oe) :: pn)) (held_one (d := d) hk2 zc cg.fl) g.gl hm (by decide +kernel) (pa_cons (pe_var (i := v) at0.ix at0.vi at0.d1 at0.d2) (pa_cons (pe_glob (v := .ref (He.ga X0.K _)) g2.gl hy1 rfl g2.d1) pa_nil rfl) rfl) g.nn g.d1 rfl rfl) fun w0 w σ Q F hs hx hr => ?_
          refine ⟨_, hx, fit_dok F epx, _, _, P.isSub z.cls kk, rfl, fun u r => r, hk1, ?_⟩
          have e : [kk].any (fun c => P.isSub z.cls c) = P.isSub z.cls kk := by simp
          have hr : Ret X0.K tb W (RV X0.K) σ w Q (.ok (.bl ([kk].any fun c => P.isSub z.cls c)) s) := hr
          rw [e] at hr
          exact hr _ w hs (.refl F.sim) (.bl _)
        · cases b5
      · cases b1
    · rename_i fx fp fn fp2 es fk fp5 fp6
      simp only [Bool.and_eq_true, decide_eq_true_eq] at b
      obtain ⟨b1, b2, rfl, b4, bl, b5⟩ := b
      obtain ⟨g, hm⟩ := bB_of y b2
      split at b1
      · rename_i hn v hv
        have b1 := of_decide_eq_true b1
        subst b1
        obtain ⟨z, a, oe, d, pn, X0, rfl, e2, rfl, cg, at0, epx⟩ := y.ok.hv _ _ hv
        show EX _ tb W _ l s (cond (P.isExc z.cls) (.ok (.bl (cs.any fun c => P.isSub z.cls c)) s) .no)
        cases hz : P.isExc z.cls with
        | false => exact ex_no
        | true =>
        obtain ⟨zn, hzn, zc⟩ := cg.nm
        have hxc : ∃ x i, (x, i) ∈ G.hnd := by
          cases es with
          | nil => cases b4
          | cons e0 es =>
            cases cs with
            | nil => cases e0 <;> cases b5
            | cons i cs =>
              cases e0 with
              | Name x p =>
                unfold chkXs at b5
                simp only [Bool.and_eq_true, decide_eq_true_eq] at b5
                exact ⟨x, i, b5.2.1⟩
              | _ => cases b5
        obtain ⟨xq, iq, hq⟩ := hxc
        have hk2 := (y.ge.kit _ _ hq z.cls zn (by rw [← y.tl]; exact hzn) hz).2
        obtain ⟨vs, us, h1, h2, h3, h4⟩ := pa_cls (D := He.ga X0.K zn) (zc := z.cls) y (fun x i hi => (y.ge.kit _ _ hi z.cls zn (by rw [← y.tl]; exact hzn) hz).1) es cs b5
        refine ex_hx e2 (pe_callB (X := Cx.suite X0 a ((a, oe) :: pn)) (held_tup (d := d) hk2 zc cg.fl) g.gl hm (by decide +kernel) (pa_cons (pe_var (i := v) at0.ix at0.vi at0.d1 at0.d2) (pa_cons (pe_tup h1) pa_nil rfl) rfl) g.nn g.d1 rfl rfl) fun w0 w σ Q F hs hx hr => ?_
        refine ⟨_, hx, by rw [h3, sizeLine_eq]; omega, fun tp htp => ?_⟩
        have st := Stp.lay F.sim (.tup vs) htp
        refine ⟨fun dd hd => ?_, tp, vs, us, _, rfl, upd_same, h2, h4, ?_⟩
        · obtain ⟨fs, ef⟩ := fit_dok F epx dd hd
          exact ⟨fs, by rw [upd_ne (ne_of_none ef htp)]; exact ef⟩
        · have hr : Ret X0.K tb W (RV X0.K) σ w Q (.ok (.bl (cs.any fun c => P.isSub z.cls c)) s) := hr
          exact hr _ ⟨_, _, w.m, w.s⟩ hs st (.bl _)
      · cases b1
    · cases b
  · simp only [chkE] at b
    split at b
    · rfl
    · rfl
    · cases b
/-- e.f of the held exception -/
theorem snd_exf {f : Nat} : Snd G P C k (.exf f) := by
  refine snd_mk (fun c x b X tb h W y l s => ?_) (fun c x b => ?_) (fun c xs => rfl) (fun c xs => rfl) (fun c t xs => rfl)
  · simp only [chkE] at b
    split at b
    · simp only [Bool.and_eq_true, decide_eq_true_eq] at b
      obtain ⟨b1, b2⟩ := b
      split at b1
      · rename_i hn v hv
        have b1 := of_decide_eq_true b1
        subst b1
        obtain ⟨z, a, oe, d, pn, X0, rfl, e2, rfl, cg, at0, epx⟩ := y.ok.hv _ _ hv
        show EX _ tb W _ l s (cond (P.isExc z.cls) (withO (z.pay.lookup f) .no fun d => .ok d s) .no)
        cases hz : P.isExc z.cls with
        | false => exact ex_no
        | true =>
        show EX _ tb W _ l s (withO (z.pay.lookup f) .no fun d => .ok d s)
        cases hl : z.pay.lookup f with
        | none => exact ex_no
        | some dv =>
        obtain ⟨zn, hzn, zc⟩ := cg.nm
        obtain ⟨T, hno⟩ := y.ge.xfl _ _ b2 z.cls zn (by rw [← y.tl]; exact hzn) hz
        refine ex_hx e2 (pe_xf (X := X0) T hno zc cg.fl (pe_var (i := v) at0.ix at0.vi at0.d1 at0.d2) rfl) fun w0 w σ Q F hs hx hr => ?_
        have hr : Ret X0.K tb W (RV X0.K) σ w Q (.ok dv s) := hr
        cases d with
        | none =>
          exfalso
          have e := epx
          cases hp : z.pay with
          | nil => rw [hp] at hl; cases hl
          | cons q t => exact cg.pd (by rw [hp]; exact List.cons_ne_nil _ _) rfl
        | some dd =>
          obtain ⟨fs, h1, h2⟩ := F.px dd z.pay epx
          obtain ⟨fn, vv, e3, e4, r4⟩ := rpF_lookup (by rw [y.tl]; exact y.ge.nodup) h2 hl
          have e5 : fn = _ := Option.some.inj (e3.symm.trans (by rw [y.tl]; exact y.ge.xnm _ _ b2))
          subst e5
          exact ⟨_, hx, rfl, rfl, dd, fs, vv, rfl, F.sim.sub _ _ h1, e4, hr vv w hs (.refl F.sim) r4⟩
      · cases b1
    · cases b
  · simp only [chkE] at b
    split at b
    · rfl
    · cases b
theorem snd_none {E : E} (h : ∀ c x, chkE G c E x = false) (h2 : ∀ c xs, chkA G c E xs = false) (h3 : ∀ c xs, chkO G c E xs = false) (h4 : ∀ c t xs, chkI G c E t xs = false) : Snd G P C k E :=
  ⟨fun c x b => (by rw [h] at b; cases b), fun c x b => (by rw [h] at b; cases b), noA h2, noO h3, noI h4⟩
theorem Stp.frz {K : PySem.W.Frag} {tl : List Str} {w : Wd} (S : Sim K tl w) {n : Nat} {a : Addr} {o : Ob} {u : HO} {d : Dt} (hs : w.s[n]? = some o) (hm : w.m[n]? = some a) (hl : o.live = true) (hu : w.H a = some u) (r : Rp K (upd w.G a u) w.m (.ref a) d) : Stp K tl w ⟨upd w.G a u, w.H, w.m, w.s.set n (.fz d)⟩ := by
  obtain ⟨gp, u0, hu0, r0⟩ := (S.ob n o a hs hm).live hl
  rw [hu] at hu0
  cases hu0
  have nu := ObV.nt1 r0
  have sm : Same w.G (upd w.G a u) := same_upd gp
  refine ⟨⟨fun b x e => ?_, nt_upd S.nt nu, S.tk, by simp [S.len], S.nd, S.th, fun k ob b e1 e2 => ?_⟩, sm, ⟨[], by simp⟩, fun b x e _ _ => e, fun _ h => h, fun b h n => absurd h n, fun b x e n => ?_, fun _ _ _ e => e⟩
  · have e : upd w.G a u b = some x := e
    by_cases hb : b = a
    · rw [hb, upd_same] at e
      rw [hb]
      exact hu.trans e
    · rw [upd_ne hb] at e
      exact S.sub b x e
  · have e1' : (w.s.set n (.fz d))[k]? = some ob := e1
    rw [List.getElem?_set] at e1'
    by_cases hk : n = k
    · subst hk
      rw [if_pos rfl] at e1'
      split at e1'
      · cases e1'
        have := hm.symm.trans e2
        cases this
        exact r
      · cases e1'
    · rw [if_neg hk] at e1'
      have nb : b ≠ a := fun z => hk (nd_eq S.nd hm (z ▸ e2))
      exact (S.ob k ob b e1' e2).up sm (Pre.refl _) (fun q _ => by show upd w.G a u b = none; rw [upd_ne nb]; exact q) fun u' e _ => e
  · by_cases hb : b = a
    · rw [hb]; exact .inr (.inl (get_mem hm))
    · have e : upd w.G a u b = some x := e
      rw [upd_ne hb] at e
      rw [e] at n
      cases n
theorem snd_fz {a : E} (ha : Snd G P C k a) : Snd G P C k (.fz a) := by
  refine ⟨fun c x b X tb h W y l s => ?_, fun c x b z => (by cases z), noA fun c xs => rfl, noO fun c xs => rfl, noI fun c t xs => rfl⟩
  simp only [chkE] at b
  refine ⟨fun w0 w σ Q F hs hr => (ha.e c x b X tb h W y l s).go.bind F hs hr fun v w1 d e1 st1 rv hr => ?_⟩
  unfold frzS at hr
  split at hr
  · cases rv with
    | obj q =>
      split at hr
      · rename_i ll el
        split at hr
        · rename_i fr
          obtain ⟨gp, u, hu, vs, rfl, rr⟩ := st1.sim.ob _ _ _ el q
          have r2 : Rp X.K (upd w1.G _ (.lst vs)) w1.m (.ref _) (.lst ll) := .lst (.inl (.inl upd_same)) (rr.up (same_upd gp) (Pre.refl _))
          have st := Stp.frz st1.sim el q rfl hu r2
          have z := hr _ _ rfl st r2
          exact z
        · exact hr.elim
      · rename_i ll el
        split at hr
        · rename_i fr
          obtain ⟨gp, u, hu, vs, rfl, rr⟩ := st1.sim.ob _ _ _ el q
          have r2 : Rp X.K (upd w1.G _ (.dK vs)) w1.m (.ref _) (.dic ll) := .dic upd_same (rr.up (same_upd gp) (Pre.refl _))
          have st := Stp.frz st1.sim el q rfl hu r2
          have z := hr _ _ rfl st r2
          exact z
        · exact hr.elim
      · rename_i ll el
        exact hr _ w1 rfl (.refl st1.sim) (st1.sim.ob _ _ _ el q)
      · exact hr.elim
  · exact hr v w1 rfl (.refl st1.sim) rv
theorem snd_lkd {o a : E} (ha : Snd G P C k a) : Snd G P C k (.lkd o a) := by
  refine ⟨fun c x b X tb h W y l s => ?_, fun c x b z => (by cases z), noA fun c xs => rfl, noO fun c xs => rfl, noI fun c t xs => rfl⟩
  simp only [chkE] at b
  exact ex_lkd fun s => ha.e c x b X tb h W y l s
theorem snd_sdf {t : Bool} {d a : E} (hd : Snd G P C k d) (ha : Snd G P C k a) : Snd G P C k (.sdf t d a) := by
  refine snd_mk (fun c x b X tb h W y l s => ?_) (fun c x b => ?_) (fun c xs => rfl) (fun c xs => rfl) (fun c t xs => rfl)
  · simp only [chkE] at b
    split at b
    · rename_i z x p2 e f p3
      simp only [Bool.and_eq_true, decide_eq_true_eq] at b
      obtain ⟨rfl, b2, b3, b4, b5, b6, b7⟩ := b
      have hf : PE X f (tNewO t) ∧ noStar f = true := by
        split at b7
        · cases t with
          | true => cases b7
          | false =>
            refine ⟨⟨fun pins s σ H Q I h => ?_⟩, rfl⟩
            refine (pe_lst pa_nil).run pins s σ H Q I ?_
            exact ⟨Nat.zero_le _, h⟩
        · cases t with
          | false => cases b7
          | true => exact ⟨⟨fun pins s σ H Q I h => pe_dnewK.run pins s σ H Q I h⟩, rfl⟩
        · cases b7
      have st : ∀ g ∈ [e, f], noStar g = true := fun g hg => by
        rcases List.mem_cons.mp hg with rfl | hg
        · exact b4
        · rw [List.mem_singleton.mp hg]; exact hf.2
      refine ex_sdf (hd.e c _ b5 X tb h W y l s) (fun s => ha.e c _ b6 X tb h W y l s) hf.1 ⟨sup_of b2 _ _ _, ?_, b3, ?_⟩
      · rw [back_all, star_len st]
        rfl
      · rw [star_of b4, star_of hf.2]
        rfl
    · cases b
  · simp only [chkE] at b
    split at b
    · rfl
    · cases b
/-- every expression that the check passes -/
theorem snd (E : E) : Snd G P C k E := by
  induction E with
  | var i => exact snd_var i
  | con d => exact snd_con d
  | nil => exact snd_nil
  | cons a r ha hr => exact snd_cons ha hr
  | tup a ha => exact snd_tup ha
  | lst lv a ha => exact snd_lst ha
  | dic t => exact snd_dic
  | neg a ha => exact snd_neg ha
  | bin o a b ha hb => exact snd_bin ha hb
  | cmp o a b ha hb => exact snd_cmp ha hb
  | chn o p a b c ha hb hc => exact snd_chn ha hb hc
  | isN n a ha => exact snd_isN ha
  | and a b ha hb => exact snd_and ha hb
  | or a b ha hb => exact snd_or ha hb
  | not a ha => exact snd_not ha
  | ite c a b hc ha hb => exact snd_ite hc ha hb
  | ix a b ha hb => exact snd_ix ha hb
  | sl a lo hi ha hl hh => exact snd_sl ha hl hh
  | rev a ha => exact snd_rev ha
  | bi b lv a ha => exact snd_bi ha
  | isT n a ha => exact snd_isT ha
  | mt m o a ho ha => exact snd_mt ho ha
  | call f a ha => exact snd_call ha
  | cali f a ha => exact snd_cali ha
  | lc lv own elt tg it c he hi hc => exact snd_lc he hi hc
  | srtK a cm ha => exact snd_srtK ha
  | rng1 b hb => exact snd_rng1 hb
  | rng a b ha hb => exact snd_rng ha hb
  | rngd a b ha hb => exact snd_rngd ha hb
  | zip a b ha hb => exact snd_zip ha hb
  | enu a ha => exact snd_enu ha
  | isX cs => exact snd_isX
  | isB n b a ha => exact snd_isB ha
  | rev0 a ha => exact snd_rev0 ha
  | sst lv a ha => exact snd_sst ha
  | sln a ha => exact snd_sln ha
  | new c a ha => exact snd_new ha
  | ome c m o a ho ha => exact snd_ome ho ha
  | att f o ho => exact snd_att ho
  | cald f ds a ha => exact snd_cald ha
  | exf f => exact snd_exf
  | fz a ha => exact snd_fz ha
  | sdf t d a hd ha => exact snd_sdf hd ha
  | lkd o a ho ha => exact snd_lkd ha
end
end Ip

namespace Ip
open PySem L2 PySem.Spec
/-! ## checks of statements -/
def swB (c : Sc) (x : Str) (p2 pos : Pos) (sc : Scope) : Bool := decide (c.sn.lookup x = some .local) && ((p2.line == pos.line) && !(sc.names.any fun (n, k) => n == x && (k == .local || k == .cell)))
section
variable (G : Gt)
def stOk (c : Sc) (x : Str) (i : Nat) : Bool := stB c x i
/-- the value stored in a name: a comprehension of its own, or another thing -/
def chkV (c : Sc) (e : E) (v : Expr) : Bool := match v with
  | .ListComp _ _ _ _ => chkE G c e v && (match e with
    | .lc _ _ _ _ _ _ => true
    | _ => false)
  | _ => noComp v && chkE G c e v
def isNilS : S → Bool
  | .skip => true
  | _ => false
def isHn : S → Bool
  | .hn => true
  | _ => false
mutual
def chkS (c : Sc) : S → Stmt → Bool
  | .skip, st => match st with
    | .Pass _ => true
    | _ => false
  | .set i e, st => match st with
    | .Assign [.Name x _] v _ => stB c x i && chkV G c e v
    | _ => false
  | .unp is e, st => match st with
    | .Assign [.Tuple es kk p] v _ => chkTg c (.tp is) (.Tuple es kk p) && (noTup v && (noComp v && chkE G c e v))
    | _ => false
  | .par i j a b, st => match st with
    | .Assign [.Tuple [.Name x px, .Name y py] _ _] (.Tuple [d, e] _ _) _ => !c.su && (stB c x i && (stB c y j && (!decide (i = j) && (decide (c.sn.lookup x = some .local) && (decide (c.sn.lookup y = some .local) && (!decide (x = y) && ((px.line == py.line) && (noStar d && (noStar e &&
      (!([d, e].all (foldedForSure 8)) && (!([d, e].all (constantsAlone 8)) && (chkE G c a d && chkE G c b e))))))))))))
    | _ => false
  | .six o i e, st => match st with
    | .Assign [.Subscript z w _] v _ => noSl w && (noComp v && (chkE G c e v && (chkE G c o z && chkE G c i w)))
    | _ => false
  | .sat f o e, st => match st with
    | .Assign [.Attribute z x _] v _ => decide ((x, f) ∈ G.fnm) && (noComp v && (chkE G c e v && chkE G c o z))
    | _ => false
  | .ex e, st => match st with
    | .Expr v _ => noComp v && chkE G c e v
    | _ => false
  | .ret e, st => match st with
    | .Return (some v) _ => chkE G c e v
    | _ => false
  | .retN, st => match st with
    | .Return none _ => true
    | _ => false
  | .ite d a b, st => match st with
    | .If v sa sb _ => tst d && (chkE G c d v && (chkB c a sa && chkB c b sb))
    | _ => false
  | .for_ tg it b, st => match st with
    | .For t i sb [] _ => !c.su && (noSet i && (chkI G c it t i && (chkTg c tg t && chkB c b sb)))
    | _ => false
  | .whl d b, st => match st with
    | .While v sb [] _ => !c.su && (tst d && (chkE G c d v && chkB c b sb))
    | _ => false
  | .rai x a, st => match st with
    | .Raise (some (.Call (.Name z p1) (e :: es) [] p3)) none p4 => !c.su && (gB c z && ((match e, es with
      | .Constant (.str _) _ _, [] => isNil a && decide ((z, x) ∈ G.exc)
      | _, _ => false) || (G.xin.any (fun q => decide (q.1 = z) && decide (q.2.1 = x)) && chkA G c a (e :: es))))
    | _ => false
  | .lkd o b, st => chkS c b st
  | .tri b h, st => match st with
    | .Try body [.ExceptHandler (some (.Name y _)) nn (b0 :: su) _] [] [] _ => !c.su && (gB c y && (chkB c b body && chkH c y nn (b0 :: su) h))
    | _ => false
  | _, _ => false
def chkB (c : Sc) : S → List Stmt → Bool
  | .skip, sts => match sts with
    | [] => true
    | _ => false
  | .seq a b, sts => match sts with
    | st :: r => chkS c a st && chkB c b r
    | _ => false
  | _, _ => false
/-- one handler -/
def chkH (c : Sc) (y : Str) (nn : Option Str) (su : List Stmt) : S → Bool
  | .hd x v b r => decide ((y, x) ∈ G.hnd) && (isHn r && (match nn, v with
    | none, none => chkB { c with su := true, hv := none } b su
    | some n, some i => stB c n i && (decide (c.sn.lookup n = some .local) && chkB { c with su := true, hv := some (n, i) } b su)
    | _, _ => false))
  | _ => false
end
end
/-! ## they are sound -/
section
variable {G : Gt} {P : Pg} {C C' : Cl} {k : Nat}
structure Hs (G : Gt) (P : Pg) (C : Cl) (k : Nat) (c : Sc) (X : Cx) (tb : Tb) (h : Option Er) (W : WX) : Prop where
  y : Hy G P C k c X tb h W
  nb : c.blk = false
  sp : c.su = false → Stk X ∧ PassesOwn (model X.prog X.w) X.A X.env X.xe
structure SndS (G : Gt) (P : Pg) (C C' : Cl) (k : Nat) (S : S) : Prop where
  s : ∀ c st, chkS G c S st = true → ∀ X tb h W, Hs G P C k c X tb h W → ∀ l s, S1 X tb W st l s (exS P C C' S h l s)
  b : ∀ c sts, chkB G c S sts = true → ∀ X tb h W, Hs G P C k c X tb h W → ∀ l s, SX X tb W sts l s (exS P C C' S h l s)
theorem noB {S : S} (h : ∀ c sts, chkB G c S sts = false) : ∀ c sts, chkB G c S sts = true → ∀ X tb h W, Hs G P C k c X tb h W → ∀ l s, SX X tb W sts l s (exS P C C' S h l s) := fun c xs b => by rw [h] at b; cases b
theorem noS {S : S} (h : ∀ c st, chkS G c S st = false) : ∀ c st, chkS G c S st = true → ∀ X tb h W, Hs G P C k c X tb h W → ∀ l s, S1 X tb W st l s (exS P C C' S h l s) := fun c xs b => by rw [h] at b; cases b
theorem swap_of {v : Expr} (b : noComp v = true) (t : Option Expr) (n : Nat) (env : Env) : swapsWith v t n env = pure false := by
  cases v <;> first | rfl | cases b
theorem sole_of {v tg : Expr} (b : noComp v = true) (n : Nat) (env : Env) : swapsWithSole [tg] v n env = pure false := swap_of b _ _ _
theorem swS_of {v tg : Expr} (b : noTup v = true) (env : Env) : swappedStores [tg] v env = pure none := by
  cases v <;> first | (cases tg <;> rfl) | cases b
theorem swSub_of {v o i : Expr} {p : Pos} (env : Env) : swappedStores [.Subscript o i p] v env = pure none := by
  cases v <;> rfl
theorem sw_eq {c : Sc} {X : Cx} {tb : Tb} {h : Option Er} {x : Str} {p2 pos : Pos} {elt : Expr} {gs : List Comprehension} {sc : Scope} {n : Nat} (o : Ok c X tb h) (nb : c.blk = false) : swapsWith (.ListComp elt gs sc pos) (some (.Name x p2)) n X.env = pure (swB c x p2 pos sc) := by
  have ky : X.env.kindOf x = c.sn.lookup x := by
    show X.env.scope.names.lookup x = _
    rw [o.exact nb]
  have hb : X.env.blockKind = .function := by unfold Env.blockKind; rw [o.kind]; rfl
  unfold swapsWith swB
  simp only [hb, ky, Expr.pos]
  congr 1
  cases c.sn.lookup x with
  | none => rfl
  | some kk => cases kk <;> first | rfl | (cases (p2.line == pos.line) <;> rfl)
theorem sndS_set {i : Nat} {e : E} : SndS G P C C' k (.set i e) := by
  refine ⟨fun c st b X tb h W y l s => ?_, noB fun c sts => rfl⟩
  simp only [chkS] at b
  split at b
  · rename_i x p2 v pos
    rw [Bool.and_eq_true] at b
    obtain ⟨b1, b2⟩ := b
    obtain ⟨a, ok⟩ := y.y.ok.st b1
    unfold chkV at b2
    split at b2
    · rw [Bool.and_eq_true] at b2
      obtain ⟨b2, b3⟩ := b2
      split at b3
      · rename_i lv own elt tg it d
        obtain ⟨hs, ex, t, j, ifs, sc, p, e1, L⟩ := lc_snd (snd elt) (snd it) (snd d) b2 y.y
        obtain ⟨nd, hc, fo, ow, wi, g, tt, te, h1, h2, h3, h4, h5, h6⟩ := L l s
        rw [e1]
        have go : ∀ {t : TE}, GO X.K tb W (RV X.K) t l s (evE P C h (.lc lv own elt tg it d) l s) → GOS X.K tb W (tAsg t (gName i)) l s ((evE P C h (.lc lv own elt tg it d) l s).out l fun d s => .nx (l.set i (some d)) s) := fun h6 w0 w σ D F hs hr => h6.out F hs hr fun v w1 d e1 st rv hr => hr _ w1 rfl ((F.step st).set rv ok) (.refl st.sim)
        have sw := sw_eq (x := x) (p2 := p2) (pos := p) (elt := ex) (gs := [⟨t, j, ifs, 0⟩]) (sc := sc) (n := pos.line) y.y.ok y.nb
        cases hsw : swB c x p2 p sc with
        | true =>
          rw [hsw] at sw
          have hl : X.env.scope.names.lookup x = some .local := by
            unfold swB at hsw
            simp only [Bool.and_eq_true, decide_eq_true_eq] at hsw
            rw [y.y.ok.exact y.nb]
            exact hsw.1
          exact s1_of (ps_setLc hc nd a.ix hl sw h1 h2 h3 h4 h5 fo) (go h6)
        | false =>
          rw [hsw] at sw
          exact s1_of (ps_set a.nd a.ix a.lo (pe_lc hc nd h1 h2 h3 h4 h5 fo) sw a.fn) (go h6)
      · cases b3
    · rw [Bool.and_eq_true] at b2
      exact s1_set a ok ((snd e).e c _ b2.2 X tb h W y.y l s) (swap_of b2.1 _ _ _)
  · cases b
theorem sndS_unp {is : List Nat} {e : E} : SndS G P C C' k (.unp is e) := by
  refine ⟨fun c st b X tb h W y l s => ?_, noB fun c sts => rfl⟩
  simp only [chkS] at b
  split at b
  · simp only [Bool.and_eq_true] at b
    obtain ⟨b1, b2, b3, b4⟩ := b
    obtain ⟨g, ok⟩ := pg_of y.y.ok b1
    exact s1_unp g ok ((snd e).e c _ b4 X tb h W y.y l s) (sole_of b3 _ _) (swS_of b2 _) rfl
  · cases b
theorem sndS_par {i j : Nat} {a d : E} : SndS G P C C' k (.par i j a d) := by
  refine ⟨fun c st b X tb h W y l s => ?_, noB fun c sts => rfl⟩
  simp only [chkS] at b
  split at b
  · rename_i nx px ny py k1 p1 da de k2 p2 p3
    simp only [Bool.and_eq_true, decide_eq_true_eq, Bool.not_eq_true', decide_eq_false_iff_not] at b
    obtain ⟨b1, b2, b3, b4, b5, b6, b7, b8, b9, b10, b11, b12, b13, b14⟩ := b
    obtain ⟨ax, okx⟩ := y.y.ok.st b2
    obtain ⟨ay, oky⟩ := y.y.ok.st b3
    have hx : X.env.scope.names.lookup nx = some .local := by rw [y.y.ok.exact y.nb]; exact b5
    have hy : X.env.scope.names.lookup ny = some .local := by rw [y.y.ok.exact y.nb]; exact b6
    refine s1_par (y.y.ok.calm b1).1 ax ay b4 okx oky hx hy ((snd a).e c _ b13 X tb h W y.y l s) (fun s => (snd d).e c _ b14 X tb h W y.y l s) (star_of b9 · _) (star_of b10 · _) ?_
    have hb : X.env.blockKind = .function := by unfold Env.blockKind; rw [y.y.ok.kind]; rfl
    have kx : X.env.kindOf nx = some .local := hx
    have ky : X.env.kindOf ny = some .local := hy
    have hl : (py.line == px.line) = true := by rw [beq_iff_eq] at b8 ⊢; exact b8.symm
    have hst : ([da, de].any fun | .Starred .. => true | _ => false) = false := by
      rw [List.any_cons, List.any_cons, List.any_nil]
      have e1 : ∀ z : Expr, noStar z = true → (match z with | .Starred .. => true | _ => false) = false := fun z hz => by cases z <;> first | rfl | cases hz
      rw [e1 _ b9, e1 _ b10]
      rfl
    unfold swappedStores
    have hd : (ny == nx) = false := by rw [beq_eq_false_iff_ne]; exact fun z => b7 z.symm
    simp [hb, kx, ky, hst, b11, b12, hl, Expr.pos, List.filterMap, List.eraseDups, List.eraseDupsBy, List.eraseDupsBy.loop, hd]
    intro z
    exfalso
    rcases z with z | z
    · cases da <;> first | (cases z; done) | (cases b9; done)
    · cases de <;> first | (cases z; done) | (cases b10; done)
  · cases b
theorem asg_of {o i : Expr} {p : Pos} {env : Env} (b : noSl i = true) (v : Value) : assign (.Subscript o i p) env v = (do
      let ov ← holding [v] (eval o env)
      let iv ← holding [v, ov] (eval i env)
      standAt p
      holding [v, ov, iv] (setItem ov iv v)
      release [v, ov, iv] []) := by
  cases i <;> first | rfl | cases b
theorem sndS_six {o i e : E} : SndS G P C C' k (.six o i e) := by
  refine ⟨fun c st b X tb h W y l s => ?_, noB fun c sts => rfl⟩
  simp only [chkS] at b
  split at b
  · simp only [Bool.and_eq_true] at b
    obtain ⟨b0, b1, b2, b3, b4⟩ := b
    exact s1_six y.y.un ((snd e).e c _ b2 X tb h W y.y l s) (fun s => (snd o).e c _ b3 X tb h W y.y l s) (fun s => (snd i).e c _ b4 X tb h W y.y l s) (fun ho hi => pg_sub ho hi set_list (asg_of b0)) (sole_of b1 _ _) (swSub_of _) rfl
  · cases b
theorem sndS_sat {f : Nat} {o e : E} : SndS G P C C' k (.sat f o e) := by
  refine ⟨fun c st b X tb h W y l s => ?_, noB fun c sts => rfl⟩
  simp only [chkS] at b
  split at b
  · simp only [Bool.and_eq_true, decide_eq_true_eq] at b
    obtain ⟨b0, b1, b2, b3⟩ := b
    have hf := y.y.ge.fld
    rw [← y.y.tl] at hf
    exact s1_sat (by rw [y.y.tl]; exact y.y.ge.nodup) (by rw [y.y.tl]; exact y.y.ge.fnm _ _ b0) (fun c => hf c f) ((snd e).e c _ b2 X tb h W y.y l s) (fun s => (snd o).e c _ b3 X tb h W y.y l s) (swap_of b1 _ _ _)
  · cases b
theorem sndS_ex {e : E} : SndS G P C C' k (.ex e) := by
  refine ⟨fun c st b X tb h W y l s => ?_, noB fun c sts => rfl⟩
  simp only [chkS] at b
  split at b
  · rw [Bool.and_eq_true] at b
    exact s1_ex ((snd e).e c _ b.2 X tb h W y.y l s) (swap_of b.1 _ _ _)
  · cases b
theorem sndS_ret {e : E} : SndS G P C C' k (.ret e) := by
  refine ⟨fun c st b X tb h W y l s => ?_, noB fun c sts => rfl⟩
  simp only [chkS] at b
  split at b
  · exact s1_ret ((snd e).e c _ b X tb h W y.y l s)
  · cases b
theorem sndS_retN : SndS G P C C' k .retN := by
  refine ⟨fun c st b X tb h W y l s => ?_, noB fun c sts => rfl⟩
  simp only [chkS] at b
  split at b
  · exact s1_retN
  · cases b
theorem sndS_skip : SndS G P C C' k .skip := by
  refine ⟨fun c st b X tb h W y l s => ?_, fun c st b X tb h W y l s => ?_⟩
  · simp only [chkS] at b
    split at b
    · exact s1_pass
    · cases b
  · simp only [chkB] at b
    split at b
    · exact sx_nil
    · cases b
theorem sndS_seq {a d : S} (ha : SndS G P C C' k a) (hd : SndS G P C C' k d) : SndS G P C C' k (.seq a d) := by
  refine ⟨noS fun c st => rfl, fun c st b X tb h W y l s => ?_⟩
  simp only [chkB] at b
  split at b
  · rw [Bool.and_eq_true] at b
    exact sx_cons (ha.s c _ b.1 X tb h W y l s) fun l s => hd.b c _ b.2 X tb h W y l s
  · cases b
theorem sndS_ite {d : E} {a e : S} (ha : SndS G P C C' k a) (he : SndS G P C C' k e) : SndS G P C C' k (.ite d a e) := by
  refine ⟨fun c st b X tb h W y l s => ?_, noB fun c sts => rfl⟩
  simp only [chkS] at b
  split at b
  · simp only [Bool.and_eq_true] at b
    exact s1_ite ((snd d).t c _ b.2.1 b.1 X tb h W y.y l s) (fun s => ha.b c _ b.2.2.1 X tb h W y l s) fun s => he.b c _ b.2.2.2 X tb h W y l s
  · cases b
theorem sndS_for {tg : Tg} {it : E} {a : S} (ha : SndS G P C C' k a) : SndS G P C C' k (.for_ tg it a) := by
  refine ⟨fun c st b X tb h W y l s => ?_, noB fun c sts => rfl⟩
  simp only [chkS] at b
  split at b
  · simp only [Bool.and_eq_true, Bool.not_eq_true'] at b
    obtain ⟨b1, b2, b3, b4, b5⟩ := b
    obtain ⟨g, ok⟩ := pg_of y.y.ok b4
    exact s1_for ok (y.sp b1).2 (y.y.ok.calm b1).1 ((snd it).i c _ _ b3 X tb h W y.y l s) g (fun l s => ha.b c _ b5 X tb h W y l s) (fold_of b2 _)
  · cases b
theorem sndS_whl {d : E} {a : S} (ha : SndS G P C C' k a) : SndS G P C C' k (.whl d a) := by
  refine ⟨fun c st b X tb h W y l s => ?_, noB fun c sts => rfl⟩
  simp only [chkS] at b
  split at b
  · simp only [Bool.and_eq_true, Bool.not_eq_true'] at b
    obtain ⟨b1, b2, b3, b4⟩ := b
    exact s1_whl (rc := fun l s => evE P C h d l s) (ob := fun l s => exS P C C' a h l s) (y.sp b1).2 (fun l s => (snd d).t c _ b3 b2 X tb h W y.y l s) (fun l s => ha.b c _ b4 X tb h W y l s)
  · cases b
theorem sndS_rai {x : Nat} {a : E} : SndS G P C C' k (.rai x a) := by
  refine ⟨fun c st b X tb h W y l s => ?_, noB fun c sts => rfl⟩
  simp only [chkS] at b
  split at b
  · rename_i z p1 e es p3 p4
    rw [Bool.and_eq_true, Bool.and_eq_true, Bool.or_eq_true, Bool.not_eq_true'] at b
    obtain ⟨b1, b2, b3⟩ := b
    have hn : h = none := (y.y.ok.calm b1).2.1
    subst hn
    rcases b3 with b3 | b3
    · split at b3
      · simp only [Bool.and_eq_true, decide_eq_true_eq] at b3
        cases isNil_eq b3.1
        obtain ⟨T, hz⟩ := y.y.ge.exc _ _ b3.2
        show S1 X tb W _ l s ((R.ok [] s).out l fun ds s => match P.exf.lookup x with
          | none => cond ds.isEmpty (.er ⟨x, []⟩ l s) .no
          | some fs => cond (decide (fs.length = ds.length) && (decide (0 < ds.length) && decide (ds.length ≤ 10))) (.er ⟨x, (fs.zip ds).reverse⟩ l s) .no)
        rw [R.out_ok]
        cases P.exf.lookup x with
        | none => exact s1_rai T y.y.tk (y.y.ok.calm b1).1 (y.y.ok.glo b2) (by rw [y.y.tl]; exact hz)
        | some fs =>
          have e : (decide (fs.length = ([] : List Dt).length) && (decide (0 < ([] : List Dt).length) && decide (([] : List Dt).length ≤ 10))) = false := by simp
          dsimp only
          rw [e]
          exact s1_no
      · cases b3
    · rw [Bool.and_eq_true, List.any_eq_true] at b3
      obtain ⟨⟨q, hq, hq2⟩, b4⟩ := b3
      rw [Bool.and_eq_true, decide_eq_true_eq, decide_eq_true_eq] at hq2
      obtain ⟨rfl, rfl⟩ := hq2
      have T := y.y.ge.xin q.1 q.2.1 q.2.2 hq
      have b4' := b4
      have hst := chkA_star G c b4
      refine s1_raiX (Pg := P) (by rw [y.y.tl]; exact T) y.y.tk (y.y.ok.calm b1).1 (y.y.ok.glo b2) ((y.y.hr b1).mono y.y.k2) ((snd a).a c _ b4 X tb none W y.y l s) (star_of (hst e List.mem_cons_self) _ _) ?_
      rw [any_backTo]
      exact plain_any (fun e he => hst e (List.mem_cons_of_mem _ he)) _
  · cases b
theorem Hs.tr {c : Sc} {X : Cx} {tb : Tb} {h : Option Er} {W W' : WX} (y : Hs G P C k c X tb h W) (hs : c.su = false) {pn : List (Addr × Obj)} {xe : Value → Shared → Prop} (tk : Takes (X.tr pn xe) W') (p : PassesOwn (model X.prog X.w) X.A X.env xe) : Hs G P C k c (X.tr pn xe) tb h W' := by
  have hn : tb.hx = none := (y.y.ok.calm hs).2.2.1
  refine ⟨⟨y.y.tl, ⟨y.y.ok.n, y.y.ok.nd, y.y.ok.kind, y.y.ok.look, y.y.ok.fn, y.y.ok.calm, fun x v e => ?_, y.y.ok.hx, fun z1 z2 z3 => ?_, y.y.ok.exact⟩, y.y.ge, tk, y.y.hr, y.y.un, y.y.k2⟩, y.nb, fun z => ⟨⟨(y.sp z).1.stk, (y.sp z).1.frm⟩, p⟩⟩
  · obtain ⟨z, a, oe, d, pn, X0, _, e2, _⟩ := y.y.ok.hv x v e
    rw [hn] at e2
    cases e2
  · have q := y.y.ok.lam z1 z2 z3
    exact ⟨q.nin, q.TB, q.code, q.qual⟩
theorem Hs.su0 {c : Sc} {X : Cx} {tb : Tb} {h : Option Er} {W : WX} (y : Hs G P C k c X tb h W) (hs : c.su = false) {a : Addr} {pn : List (Addr × Obj)} {z : Option Er} : Hs G P C k { c with su := true, hv := none } (X.suite a pn) tb z W0 :=
  ⟨⟨y.y.tl, ⟨y.y.ok.n, y.y.ok.nd, y.y.ok.kind, y.y.ok.look, y.y.ok.fn, fun z => (by cases z), fun x v e => (by cases e), fun v a e => (by rw [(y.y.ok.calm hs).2.2.1] at e; cases e), fun _ _ z => (by cases z), y.y.ok.exact⟩, y.y.ge, tk0, fun z => (by cases z), y.y.un, y.y.k2⟩, y.nb, fun z => (by cases z)⟩
theorem Hs.su1 {c : Sc} {X : Cx} {tb : Tb} {h : Option Er} {W : WX} (y : Hs G P C k c X tb h W) (hs : c.su = false) {a : Addr} {oe : Obj} {d : Option Addr} {pn : List (Addr × Obj)} {z : Er} {n : Str} {i : Nat} (at0 : At X n i) (cg : Caught X.K tb.l z oe d) : Hs G P C k { c with su := true, hv := some (n, i) } (X.suite a ((a, oe) :: pn)) ⟨tb.l, some (i, a), pxOf z d⟩ (some z) W0 :=
  ⟨⟨y.y.tl, ⟨y.y.ok.n, y.y.ok.nd, y.y.ok.kind, y.y.ok.look, y.y.ok.fn, fun z => (by cases z), fun x v e => (by cases e; exact ⟨z, a, oe, d, pn, X, rfl, rfl, rfl, cg, at0, rfl⟩), fun v b e => (by cases e; exact ⟨n, rfl⟩), fun _ _ z => (by cases z), y.y.ok.exact⟩, y.y.ge, tk0, fun z => (by cases z), y.y.un, y.y.k2⟩, y.nb, fun z => (by cases z)⟩
end
end Ip

namespace Ip
open PySem L2 PySem.Spec
open PyProof.Rows (envOfC)
section
variable {G : Gt} {P : Pg} {C C' : Cl} {k : Nat}
theorem isHn_eq {s : S} (h : isHn s = true) : s = .hn := by cases s <;> first | rfl | cases h
theorem cond_congr2 {α : Type} (b : Bool) {t t' f f' : α} (h1 : t = t') (h2 : f = f') : cond b t f = cond b t' f' := by rw [h1, h2]
/-- what a try's end is -/
theorem tri_eq0 (ob : O) (x : Nat) (sb : S) : (match ob with
    | .er z l s => exS P C C' (.hd x none sb .hn) (some z) l s
    | o => o) = triO P.isExc (fun e => P.isSub e x) (fun z l s => suO none (exS P C C' sb (some z) l s)) ob := by
  cases ob with
  | er z l s =>
    show cond (P.isExc z.cls) (cond (P.isSub z.cls x) (match exS P C C' sb (some z) l s with
        | .nx l s => O.nx l s
        | .rt d s => O.rt d s
        | _ => O.no) (O.er z l s)) O.no = _
    refine cond_congr2 _ (cond_congr2 _ ?_ rfl) rfl
    show _ = suO none (exS P C C' sb (some z) l s)
    cases exS P C C' sb (some z) l s <;> rfl
  | _ => rfl
theorem tri_eq1 (ob : O) (x i : Nat) (sb : S) : (match ob with
    | .er z l s => exS P C C' (.hd x (some i) sb .hn) (some z) l s
    | o => o) = triO P.isExc (fun e => P.isSub e x) (fun z l s => cond (decide (i < l.length)) (suO (some i) (exS P C C' sb (some z) (l.set i none) s)) .no) ob := by
  cases ob with
  | er z l s =>
    show cond (P.isExc z.cls) (cond (P.isSub z.cls x) (cond (decide (i < l.length)) (match exS P C C' sb (some z) (l.set i none) s with
        | .nx l s => O.nx (l.set i none) s
        | .rt d s => O.rt d s
        | _ => O.no) O.no) (O.er z l s)) O.no = _
    refine cond_congr2 _ (cond_congr2 _ (cond_congr2 _ ?_ rfl) rfl) rfl
    show _ = suO (some i) (exS P C C' sb (some z) (l.set i none) s)
    cases exS P C C' sb (some z) (l.set i none) s <;> rfl
  | _ => rfl
theorem sndS_tri {a hs : S} (ha : SndS G P C C' k a) (hh : ∀ x v b r, hs = .hd x v b r → SndS G P C C' k b) : SndS G P C C' k (.tri a hs) := by
  refine ⟨fun c st b X tb h W y l s => ?_, noB fun c sts => rfl⟩
  simp only [chkS] at b
  split at b
  · rename_i body yn p1 nn b0 su p2 p3
    simp only [Bool.and_eq_true, Bool.not_eq_true'] at b
    obtain ⟨b1, b2, b3, b4⟩ := b
    have hn : h = none := (y.y.ok.calm b1).2.1
    subst hn
    have hx0 : tb.hx = none := (y.y.ok.calm b1).2.2.1
    have px0 : tb.px = none := (y.y.ok.calm b1).2.2.2
    cases hs with
    | hd x v sb r =>
      have hsb := hh x v sb r rfl
      simp only [chkH, Bool.and_eq_true, decide_eq_true_eq] at b4
      obtain ⟨b4, b5, b6⟩ := b4
      obtain ⟨hm, hex⟩ := y.y.ge.hnd _ _ b4
      cases isHn_eq b5
      have hex' : ∀ e z, tb.l[e]? = some z → P.isExc e = true → PySem.W.exmOne X.K (.ref (He.ga X.K z)) (.ref (He.ga X.K yn)) = some (P.isSub e x) := fun e z h1 h2 => hex e z (by rw [← y.y.tl]; exact h1) h2
      have hb : ∀ (W' : WX) (pn : List (Addr × Obj)) (xe : Value → Shared → Prop), Takes (X.tr pn xe) W' → PassesOwn (model X.prog X.w) X.A X.env xe → SX (X.tr pn xe) tb W' body l s (exS P C C' a none l s) := fun W' pn xe tk p => ha.b c _ b3 _ tb none W' (y.tr b1 tk p) l s
      split at b6
      · have q := s1_try (kn := P.isExc) (sub := fun e => P.isSub e x) (os := fun z l s => exS P C C' sb (some z) l s) (np := p1) (pos' := p2) (pos := p3) (y.sp b1).1 hx0 px0 y.y.tk hm (y.y.ok.glo b2) hex' hb (fun z a oe d pn cg l s => hsb.b _ _ b6 _ tb (some z) W0 (y.su0 b1) l s)
        rw [← tri_eq0 (C := C) (C' := C') (exS P C C' a none l s) x sb] at q
        exact q
      · rename_i n i
        simp only [Bool.and_eq_true, decide_eq_true_eq] at b6
        obtain ⟨b7, b8, b9⟩ := b6
        obtain ⟨at0, _⟩ := y.y.ok.st b7
        have q := s1_tryA (kn := P.isExc) (sub := fun e => P.isSub e x) (os := fun z l s => exS P C C' sb (some z) l s) (np := p1) (pos' := p2) (pos := p3) (y.sp b1).1 hx0 px0 y.y.tk hm (y.y.ok.glo b2) at0 (by rw [y.y.ok.exact y.nb]; exact b8) hex' hb (fun z a oe d pn cg l s => hsb.b _ _ b9 _ _ (some z) W0 (y.su1 b1 at0 cg) l s)
        rw [← tri_eq1 (C := C) (C' := C') (exS P C C' a none l s) x i sb] at q
        exact q
      · cases b6
    | _ => cases b4
  · cases b
theorem sndS_none {S : S} (h1 : ∀ c st, chkS G c S st = false) (h2 : ∀ c sts, chkB G c S sts = false) : SndS G P C C' k S := ⟨noS h1, noB h2⟩
theorem sndS_lkd {o : E} {a : S} (ha : SndS G P C C' k a) : SndS G P C C' k (.lkd o a) := by
  refine ⟨fun c st b X tb h W y l s => ?_, noB fun c sts => rfl⟩
  simp only [chkS] at b
  exact s1_lkd fun s => ha.s c st b X tb h W y l s
theorem sndS (S : S) : SndS G P C C' k S ∧ ∀ x v b r, S = .hd x v b r → SndS G P C C' k b := by
  induction S with
  | skip => exact ⟨sndS_skip, fun _ _ _ _ e => by cases e⟩
  | seq a b ha hb => exact ⟨sndS_seq ha.1 hb.1, fun _ _ _ _ e => by cases e⟩
  | set i e => exact ⟨sndS_set, fun _ _ _ _ e => by cases e⟩
  | unp tg e => exact ⟨sndS_unp, fun _ _ _ _ e => by cases e⟩
  | par i j a b => exact ⟨sndS_par, fun _ _ _ _ e => by cases e⟩
  | six o i e => exact ⟨sndS_six, fun _ _ _ _ e => by cases e⟩
  | sat f o e => exact ⟨sndS_sat, fun _ _ _ _ e => by cases e⟩
  | ex e => exact ⟨sndS_ex, fun _ _ _ _ e => by cases e⟩
  | ret e => exact ⟨sndS_ret, fun _ _ _ _ e => by cases e⟩
  | retN => exact ⟨sndS_retN, fun _ _ _ _ e => by cases e⟩
  | ite c a b ha hb => exact ⟨sndS_ite ha.1 hb.1, fun _ _ _ _ e => by cases e⟩
  | for_ tg it b hb => exact ⟨sndS_for hb.1, fun _ _ _ _ e => by cases e⟩
  | whl c b hb => exact ⟨sndS_whl hb.1, fun _ _ _ _ e => by cases e⟩
  | rai x a => exact ⟨sndS_rai, fun _ _ _ _ e => by cases e⟩
  | tri b h hb hh => exact ⟨sndS_tri hb.1 hh.2, fun _ _ _ _ e => by cases e⟩
  | hd x v b r hb hr => exact ⟨sndS_none (fun _ _ => rfl) fun _ _ => rfl, fun _ _ _ _ e => by cases e; exact hb.1⟩
  | hn => exact ⟨sndS_none (fun _ _ => rfl) fun _ _ => rfl, fun _ _ _ _ e => by cases e⟩
  | lkd o b hb => exact ⟨sndS_lkd hb.1, fun _ _ _ _ e => by cases e⟩
end
/-! ## defs -/
/-- a def as it stands in the text, checked -/
structure DefC (G : Gt) (P : Pg) (x qual : Str) (params : Arguments) (body : List Stmt) (scope : Scope) (N ps : List Str) (f : Nat) (lam : Bool) : Prop where
  S : FnScope N ps scope
  fd : ∃ b, P.fns[f]? = some ⟨ps.length, N.length, [], b⟩ ∧ chkB G ⟨N, scope.names, none, false, false, lam⟩ b body = true
theorem start_fit {K : PySem.W.Frag} {tl : List Str} {w : Wd} {N : List Str} {vs : List V} {ds : List Dt} (S : Sim K tl w) (r : RpA K w.G w.m vs ds) : Fit K ⟨tl, none, none⟩ w w (L2.start N vs) (ds.map some ++ List.replicate (N.length - ds.length) none) := by
  refine ⟨.refl S, ?_, fun i d e => ?_, fun v a e => (by cases e), fun v a e => (by cases e)⟩
  · unfold L2.start
    simp [r.length]
  · unfold L2.start
    by_cases hi : i < ds.length
    · rw [List.getElem?_append_left (by simpa using hi), List.getElem?_map] at e
      cases q : ds[i]? with
      | none => rw [q] at e; cases e
      | some z =>
        rw [q] at e
        cases e
        obtain ⟨v, h1, h2⟩ := r.get q
        refine ⟨v, ?_, h2⟩
        rw [List.getElem?_append_left (by rw [List.length_map, r.length]; exact hi), List.getElem?_map, h1]
        rfl
    · rw [List.getElem?_append_right (by simpa using hi), List.getElem?_replicate] at e
      split at e <;> cases e
section
variable {G : Gt} {Pp : Pg} {C C' : Cl} {P : Program} {w : World} {K : PySem.W.Frag} {mg : Str → Option Value} {base : Heap} {k : Nat}
theorem ok_def {N ps : List Str} {qual : Str} {scope : Scope} {f : Addr} {cd : Value} {A : Around} {outer : List Env} {s : Shared} {H : Hp} {E : XK} {lam : Bool} (S : FnScope N ps scope) (hl : lam = true → CodeAt (cxOf (L2.CX P w) P w K mg base N qual scope f cd A outer s H E)) :
    Ok ⟨N, scope.names, none, false, false, lam⟩ (cxOf (L2.CX P w) P w K mg base N qual scope f cd A outer s H E) ⟨G.tb, none, none⟩ none :=
  ⟨rfl, S.nd, S.kind, fun x k e => ⟨k, e, .inl rfl⟩, fun _ _ => rfl, fun _ => ⟨rfl, rfl, rfl, rfl⟩, fun x v e => (by cases e), fun v a e => (by cases e), fun z _ _ => hl z, fun _ => rfl⟩
theorem goF_len {f : Nat} {np nz : Nat} {dv : List Dt} {b : Ip.S} (h : Pp.fns[f]? = some ⟨np, nz, dv, b⟩) {ds : List Dt} {s : Sto} (q : goF Pp C C' f ds s ≠ .no) : ds.length = np := by
  unfold goF at q
  rw [h] at q
  dsimp only at q
  split at q
  · assumption
  · exact absurd rfl q
/-- a def's body keeps its promise -/
theorem body_ok {N ps : List Str} {qual : Str} {scope : Scope} {f : Addr} {cd : Value} {A : Around} {outer : List Env} {s : Shared} {H : Hp} {E : XK} {lam : Bool} {params : Arguments} {body : List Stmt} {x : Str} {fi : Nat} (D : DefC G Pp x qual params body scope N ps fi lam)
    (h2 : 2 ≤ k) (ge : Ge G Pp C P w K mg base k) (hl : lam = true → CodeAt (cxOf (L2.CX P w) P w K mg base N qual scope f cd A outer s H E)) (hr : Room k (A.deeper (envOfC qual scope s.heap.objs.size f cd))) {vs : List V} {Q : VK} (h : spI K G.tb (goF Pp C C') fi ps.length vs H Q E) :
    ∃ t, PSs (cxOf (L2.CX P w) P w K mg base N qual scope f cd A outer s H E) body t ∧ t { nx := fun _ H' => Q .non H', rt := Q } (L2.start N vs) H := by
  refine ⟨_, pss_sem body, ?_⟩
  obtain ⟨w0, ds, rfl, S, r, hn, ret⟩ := h
  obtain ⟨b, hb, ck⟩ := D.fd
  have hy : Hs G Pp C k ⟨N, scope.names, none, false, false, lam⟩ (cxOf (L2.CX P w) P w K mg base N qual scope f cd A outer s w0.H E) ⟨G.tb, none, none⟩ none (fun cls d _ H => E cls d H) :=
    ⟨⟨rfl, ok_def D.S hl, ge, takes_of rfl rfl rfl rfl, fun _ => hr, by have := hr.un; show (A.deeper _).units + 65 < _; omega, h2⟩, rfl, fun _ => ⟨⟨rfl, rfl⟩, passes_of rfl⟩⟩
  have q := ((sndS (C' := C') b).1.b _ _ ck _ _ _ _ hy (ds.map some ++ List.replicate (N.length - ds.length) none) w0.s).go w0 w0 _ { nx := fun _ H' => Q .non H', rt := Q } (start_fit S r) rfl
  refine q ?_
  unfold goF at ret
  rw [hb] at ret
  dsimp only at ret
  rw [if_pos hn, ← hn] at ret
  cases eo : exS Pp C C' b none (ds.map some ++ List.replicate (N.length - ds.length) none) w0.s with
  | no => rw [eo] at ret; exact ret
  | nx l' s' => rw [eo] at ret; exact fun σ' w' e F st => ret .non w' e st .non
  | rt d s' => rw [eo] at ret; exact fun v w' e st _ rv => ret v w' e st rv
  | er z l' s' => rw [eo] at ret; exact fun c dx σ' w' e F st k => ret c dx w' e st k
/-- a def -/
theorem fn_def {N ps : List Str} {x qual : Str} {params : Arguments} {body : List Stmt} {scope : Scope} {f : Addr} {fd : FuncData} {fi : Nat} {dvs : List V} {kws : List (Str × V)} (F : FunD K x qual params body scope dvs kws f fd) (D : DefC G Pp x qual params body scope N ps fi false) (h2 : 2 ≤ k) (ge : Ge G Pp C P w K mg base k) :
    FnOk P w K mg base (L2.CX P w) (k + 1) f fd ps (spI K G.tb (goF Pp C C') fi ps.length) :=
  F.ok D.S (fun vs H Q E h => by obtain ⟨w0, ds, _, _, r, hl, _⟩ := h; rw [r.length, hl]) fun cdv A outer s H vs Q E hr h => body_ok D h2 ge (fun z => (by cases z)) hr h
/-- the def with the lambda -/
theorem fn_lam {N ps : List Str} {params : Arguments} {body : List Stmt} {scope : Scope} {f : Addr} {fd : FuncData} {fi : Nat} (F : FunD K "in_order" "in_order" params body scope [] [] f fd) (hf : f = He.fAd K ordP) (nin : PySem.W.nsIn K mainGlobals "in_order" ≠ some none) (TB : LamX.TabB base mg (He.codeOf K ordP) (He.tabOf K (He.codeOf K ordP)))
    (D : DefC G Pp "in_order" "in_order" params body scope N ps fi true) (h2 : 2 ≤ k) (ge : Ge G Pp C P w K mg base k) : FnOk P w K mg base (L2.CX P w) (k + 1) f fd ps (spI K G.tb (goF Pp C C') fi ps.length) := by
  obtain ⟨oc, od, dV, kV, doc, pm, an, cdv, ct, osl, rfl, lk, hcd, _, _⟩ := F.ex
  obtain ⟨c, rfl⟩ := He.codeIn_ref hcd
  have hc : He.codeOf K ordP = c := He.codeOf_eq (p := ordP) (by rw [← hf]; exact lk) rfl
  refine fn_of lk hcd D.S (fun vs H Q E h => by obtain ⟨w0, ds, _, _, r, hl, _⟩ := h; rw [r.length, hl]) fun A outer s H vs Q E hr h => ?_
  exact body_ok (cd := .ref c) D h2 ge (fun _ => ⟨nin, TB, (by show Value.ref c = Value.ref (He.codeOf K ordP); rw [hc]), qual_ok⟩) hr h
end
end Ip

namespace Ip
open PySem L2 PySem.Spec
open PyProof.Rows (envOfC)
/-! ## the program's facts -/
structure DefF (G : Gt) (Pp : Pg) (K : PySem.W.Frag) (mg : Str → Option Value) (base : Heap) (x : Str) (f n : Nat) : Prop where
  ok : ∃ fa fd ps N params body scope lam dvs, mg x = some (.ref fa) ∧ FunD K x x params body scope dvs [] fa fd ∧ Binds K fd ps [] ∧ ps.length = n ∧ DefC G Pp x x params body scope N ps f lam ∧
    (lam = true → dvs = [] ∧ x = "in_order" ∧ fa = He.fAd K ordP ∧ PySem.W.nsIn K mainGlobals "in_order" ≠ some none ∧ LamX.TabB base mg (He.codeOf K ordP) (He.tabOf K (He.codeOf K ordP)))
/-- a method, found at its class or above -/
structure MthF (G : Gt) (Pp : Pg) (K : PySem.W.Frag) (c m f : Nat) : Prop where
  ok : ∃ z n fa fd ps N qual params body scope, G.tb[c]? = some z ∧ G.tb[m]? = some n ∧ Cls K (He.ga K z) ∧ Meth K (He.ga K z) n fa ∧ FunD K n qual params body scope [] [] fa fd ∧ Binds K fd ps [] ∧ DefC G Pp n qual params body scope N ps f false
structure ClsF (G : Gt) (Pp : Pg) (K : PySem.W.Frag) (mg : Str → Option Value) (z : Str) (c : Nat) (b : Bool) : Prop where
  at_ : G.tb[c]? = some z
  mg_ : mg z = some (.ref (He.ga K z))
  fn : Pp.fns[nwI c]? = none
  ok : ∃ cd, Pp.cls.lookup c = some cd ∧ cd.ini.isSome = b ∧ match cd.ini with
    | some fi => ∃ fI fd ps N qual params body scope, Mk K (He.ga K z) fI ∧ FunD K "__init__" qual params body scope [] [] fI fd ∧ Binds K fd ps [] ∧ DefC G Pp "__init__" qual params body scope N ps fi false
    | none => PySem.W.makesIn K (He.ga K z) = true ∧ PySem.W.findIn K (.ref (He.ga K z)) "__init__" = some (some (.builtin "object.__init__")) ∧ PySem.W.keepIn K (.ref (He.ga K z)) = true ∧ PySem.W.mroIn K (He.ga K z) (.type "object") = some true
structure DflF (G : Gt) (Pp : Pg) (K : PySem.W.Frag) (mg : Str → Option Value) (x : Str) (f : Nat) (ds : List Dt) : Prop where
  ok : ∃ fa fd ps N params body scope dvs vs us, mg x = some (.ref fa) ∧ FunD K x x params body scope dvs [] fa fd ∧ Vals vs us ∧ Binds K fd ps us ∧ (∀ H m, RpA K H m vs ds) ∧ DefC G Pp x x params body scope N ps f false
structure Sf (G : Gt) (Pp : Pg) (K : PySem.W.Frag) (mg : Str → Option Value) (base : Heap) : Prop where
  free : ∀ x, x ∈ G.free → mg x = none
  ci : ∀ x i, (x, i) ∈ G.ci → ∃ t, mg x = some (.int i t)
  cs : ∀ x i, (x, i) ∈ G.cs → ∃ t, mg x = some (.str i t)
  fns : ∀ x f n, (x, f, n) ∈ G.fns → DefF G Pp K mg base x f n
  exc : ∀ x e, (x, e) ∈ G.exc → ExcT K mg x ∧ G.tb[e]? = some x
  hnd : ∀ y i, (y, i) ∈ G.hnd → mg y = some (.ref (He.ga K y)) ∧ ∀ e z, G.tb[e]? = some z → Pp.isExc e = true → PySem.W.exmOne K (.ref (He.ga K z)) (.ref (He.ga K y)) = some (Pp.isSub e i)
  nodup : G.tb.Nodup
  xin : ∀ (P : Program) (w : World) z x fs, (z, x, fs) ∈ G.xin → XinT Pp P w K mg base G.tb z x fs
  xfl : ∀ n f, (n, f) ∈ G.xfl → ∀ e z, G.tb[e]? = some z → Pp.isExc e = true → XfC K (He.ga K z) ∧ PySem.W.findIn K (.ref (He.ga K z)) n = some none
  xnm : ∀ n f, (n, f) ∈ G.xfl → G.tb[f]? = some n
  kit : ∀ y i, (y, i) ∈ G.hnd → ∀ e z, G.tb[e]? = some z → Pp.isExc e = true → PySem.W.kitOne K (.ref (He.ga K z)) (.ref (He.ga K y)) = some (Pp.isSub e i) ∧ ExcC K (He.ga K z)
  new : ∀ z c b, (z, c, b) ∈ G.new → ClsF G Pp K mg z c b
  fnm : ∀ x f, (x, f) ∈ G.fnm → G.tb[f]? = some x
  fld : ∀ c f, (c, f) ∈ G.fld → FldT K G.tb c f
  fldA : (Pp.cls.all fun q => q.2.fls.all fun f => decide ((q.1, f) ∈ G.fld)) = true
  mnm : ∀ x m, (x, m) ∈ G.mnm → G.tb[m]? = some x
  mth : ∀ c m f, (c, m, f) ∈ G.mth → MthF G Pp K c m f
  mthA : (Pp.cls.all fun q => q.2.mts.all fun r => decide ((q.1, r.1, r.2) ∈ G.mth)) = true
  dfl : ∀ x f ds, (x, f, ds) ∈ G.dfl → DflF G Pp K mg x f ds
  bex : ∀ y i, (y, i) ∈ G.bex → y = ("ValueError" : Str) ∧ mg y = none ∧ ∀ e z, G.tb[e]? = some z → Pp.isExc e = true → PySem.W.kitOne K (.ref (He.ga K z)) (.type "ValueError") = some (Pp.isSub e i) ∧ ExcC K (He.ga K z)
/-- all defs keep their promises at a level -/
structure FnsAt (G : Gt) (Pp : Pg) (C : Cl) (P : Program) (w : World) (K : PySem.W.Frag) (mg : Str → Option Value) (base : Heap) (k : Nat) : Prop where
  fns : ∀ x f n, (x, f, n) ∈ G.fns → Fn P w K mg base G.tb C x f n k ∧ ∀ ds s, C f ds s ≠ .no → ds.length = n
  mth : ∀ c m f, (c, m, f) ∈ G.mth → MthT P w K mg base G.tb C c m f k
  ini : ∀ z c b, (z, c, b) ∈ G.new → ∀ cd fi, Pp.cls.lookup c = some cd → cd.ini = some fi → ∃ fI fd ps nn, Mk K (He.ga K z) fI ∧ Binds K fd ps [] ∧ FnOk P w K mg base (L2.CX P w) k fI fd ps (spI K G.tb C fi nn) ∧ ∀ ds s, C fi ds s ≠ .no → ds.length = nn
  dfl : ∀ x f ds, (x, f, ds) ∈ G.dfl → FnD P w K mg base G.tb C x f ds k
theorem lk_mem {α : Type} {c : Nat} {a : α} : ∀ {l : List (Nat × α)}, l.lookup c = some a → (c, a) ∈ l
  | [], h => by cases h
  | (k, x) :: l, h => by
    rw [List.lookup_cons] at h
    split at h
    · rename_i e
      have e := eq_of_beq e
      cases h
      subst e
      exact .head _
    · exact .tail _ (lk_mem h)
section
variable {G : Gt} {Pp : Pg} {P : Program} {w : World} {K : PySem.W.Frag} {mg : Str → Option Value} {base : Heap}
theorem fn_triv {k fi nn : Nat} {f : Addr} {fd : FuncData} {ps : List Str} (h : ps.length = nn) : FnOk P w K mg base (L2.CX P w) k f fd ps (spI K G.tb (fun _ _ _ => .no) fi nn) :=
  ⟨fun vs H Q E q => by obtain ⟨w0, ds, _, _, r, hl, _⟩ := q; rw [r.length, hl, h], fun A outer s H args us vs Q E _ _ _ _ q => by obtain ⟨w0, ds, _, _, _, _, z⟩ := q; exact z.elim⟩
theorem fa_zero (S : Sf G Pp K mg base) (k : Nat) : FnsAt G Pp (fun _ _ _ => .no) P w K mg base k where
  fns := fun x f n h => by
    obtain ⟨fa, fd, ps, N, params, body, scope, lam, dvs, h1, F, hb, h2, D, hl⟩ := (S.fns x f n h).ok
    exact ⟨⟨fa, fd, ps, h1, F.kp, hb, fn_triv h2⟩, fun ds s q => absurd rfl q⟩
  mth := fun c m f h => by
    obtain ⟨z, n, fa, fd, ps, N, qual, params, body, scope, h1, h2, cl, me, F, hb, D⟩ := (S.mth c m f h).ok
    exact ⟨z, n, fa, fd, ps, ps.length, h1, h2, cl, me, hb, fn_triv rfl, fun ds s q => absurd rfl q⟩
  ini := fun z c b h cd fi h1 h2 => by
    obtain ⟨cd', e1, _, q⟩ := (S.new z c b h).ok
    rw [h1] at e1
    cases e1
    rw [h2] at q
    obtain ⟨fI, fd, ps, N, qual, params, body, scope, M, F, hb, D⟩ := q
    exact ⟨fI, fd, ps, ps.length, M, hb, fn_triv rfl, fun ds s q => absurd rfl q⟩
  dfl := fun x f ds h => by
    obtain ⟨fa, fd, ps, N, params, body, scope, dvs, vs, us, h1, F, hv, hb, hd, D⟩ := (S.dfl x f ds h).ok
    exact ⟨fa, fd, ps, vs, us, ps.length, h1, F.kp, hv, hb, hd, fn_triv rfl, fun ds s q => absurd rfl q⟩
theorem fa_step (S : Sf G Pp K mg base) {k : Nat} {C C' : Cl} (h2 : 2 ≤ k) (ge : Ge G Pp C P w K mg base k) : FnsAt G Pp (goF Pp C C') P w K mg base (k + 1) where
  fns := fun x f n h => by
    obtain ⟨fa, fd, ps, N, params, body, scope, lam, dvs, h1, F, hb, rfl, D, hl⟩ := (S.fns x f n h).ok
    refine ⟨?_, fun ds s q => by obtain ⟨b, hb, _⟩ := D.fd; exact goF_len hb q⟩
    cases lam with
    | false => exact ⟨fa, fd, ps, h1, F.kp, hb, fn_def F D h2 ge⟩
    | true =>
      obtain ⟨rfl, rfl, q2, h3, h4⟩ := hl rfl
      exact ⟨fa, fd, ps, h1, F.kp, hb, fn_lam F q2 h3 h4 D h2 ge⟩
  mth := fun c m f h => by
    obtain ⟨z, n, fa, fd, ps, N, qual, params, body, scope, h1, h3, cl, me, F, hb, D⟩ := (S.mth c m f h).ok
    exact ⟨z, n, fa, fd, ps, ps.length, h1, h3, cl, me, hb, fn_def F D h2 ge, fun ds s q => by obtain ⟨b, hb, _⟩ := D.fd; exact goF_len hb q⟩
  ini := fun z c b h cd fi h1 h3 => by
    obtain ⟨cd', e1, _, q⟩ := (S.new z c b h).ok
    rw [h1] at e1
    cases e1
    rw [h3] at q
    obtain ⟨fI, fd, ps, N, qual, params, body, scope, M, F, hb, D⟩ := q
    exact ⟨fI, fd, ps, ps.length, M, hb, fn_def F D h2 ge, fun ds s q => by obtain ⟨b, hb, _⟩ := D.fd; exact goF_len hb q⟩
  dfl := fun x f ds h => by
    obtain ⟨fa, fd, ps, N, params, body, scope, dvs, vs, us, h1, F, hv, hb, hd, D⟩ := (S.dfl x f ds h).ok
    exact ⟨fa, fd, ps, vs, us, ps.length, h1, F.kp, hv, hb, hd, fn_def F D h2 ge, fun ds s q => by obtain ⟨b, hb, _⟩ := D.fd; exact goF_len hb q⟩
theorem fld_of (S : Sf G Pp K mg base) (c f : Nat) (h : Pp.hasF c f = true) : FldT K G.tb c f := by
  unfold Pg.hasF at h
  split at h
  · rename_i cd e
    exact S.fld c f (of_decide_eq_true (List.all_eq_true.mp (List.all_eq_true.mp S.fldA _ (lk_mem e)) f (of_decide_eq_true h)))
  · cases h
theorem ge_of (S : Sf G Pp K mg base) {k : Nat} {C : Cl} (fa : FnsAt G Pp C P w K mg base k) (nw : ∀ z c b, (z, c, b) ∈ G.new → NewT P w K mg base G.tb C z c b k) : Ge G Pp C P w K mg base k :=
  ⟨S.free, S.ci, S.cs, fa.fns, S.exc, S.hnd, S.nodup, S.xin P w, S.xfl, S.xnm, S.kit, nw, S.fnm, fld_of S, S.mnm, fun c cd m f h1 h2 => fa.mth c m f (of_decide_eq_true (List.all_eq_true.mp (List.all_eq_true.mp S.mthA _ (lk_mem h1)) _ (lk_mem h2))), fa.dfl, S.bex⟩
theorem nw_step (S : Sf G Pp K mg base) {k : Nat} {C C' : Cl} (fa : FnsAt G Pp C P w K mg base k) : ∀ z c b, (z, c, b) ∈ G.new → NewT P w K mg base G.tb (goF Pp C C') z c b (k + 1) := fun z c b h => by
  have T := S.new z c b h
  obtain ⟨cd, e1, e2, q⟩ := T.ok
  refine ⟨T.at_, T.mg_, C, cd.ini, e2, fun as s _ => ?_, ?_⟩
  · unfold goF
    rw [T.fn]
    dsimp only
    have e3 : ¬ nwI c < 1000 := by unfold nwI; omega
    have e4 : nwI c - 1000 = c := by unfold nwI; omega
    rw [if_neg e3, e4, e1]
    rfl
  · cases ei : cd.ini with
    | none => rw [ei] at q; exact q
    | some fi =>
      obtain ⟨fI, fd, ps, nn, M, hb, F, hn⟩ := fa.ini z c b h cd fi e1 ei
      exact ⟨fI, fd, ps, nn, k, M, hb, F, hn, Nat.le_refl _⟩
theorem fa_all (S : Sf G Pp K mg base) : ∀ k, FnsAt G Pp (runF Pp k) P w K mg base (k + 2) ∧ Ge G Pp (runF Pp k) P w K mg base (k + 2)
  | 0 => ⟨fa_zero S 2, ge_of S (fa_zero S 2) fun z c b h => by
      have T := S.new z c b h
      obtain ⟨cd, e1, e2, q⟩ := T.ok
      refine ⟨T.at_, T.mg_, fun _ _ _ => .no, cd.ini, e2, fun as s q => absurd rfl q, ?_⟩
      cases ei : cd.ini with
      | none => rw [ei] at q; exact q
      | some fi =>
        obtain ⟨fI, fd, ps, nn, M, hb, F, hn⟩ := (fa_zero (P := P) (w := w) S 1).ini z c b h cd fi e1 ei
        exact ⟨fI, fd, ps, nn, 1, M, hb, F, hn, Nat.le_refl _⟩⟩
  | 1 => by
    have f := fa_step (C' := fun _ _ _ => .no) S (Nat.le_refl 2) (fa_all S 0).2
    exact ⟨f, ge_of S f (nw_step S (fa_all S 0).1)⟩
  | k + 2 => by
    have f := fa_step (C' := runF Pp k) S (by omega) (fa_all S (k + 1)).2
    exact ⟨f, ge_of S f (nw_step S (fa_all S (k + 1)).1)⟩
theorem ge_all (S : Sf G Pp K mg base) (k : Nat) : Ge G Pp (runF Pp k) P w K mg base (k + 2) := (fa_all S k).2
end
/-! ## the law's end -/
theorem cx_some {P : Program} {w : World} {outer : List Env} {H : Hp} {s : Shared} {e : Value} {s' : Shared} (h : L2.CX P w outer H s (fun _ _ _ => False) e s') : False := by
  obtain ⟨_, _, _, _, _, _, _, _, _, _, _, _, z⟩ := h
  exact z
theorem fn_calm {P : Program} {w : World} {K : PySem.W.Frag} {mg : Str → Option Value} {base : Heap} {k : Nat} {f : Addr} {fd : FuncData} {ps : List Str} {sp : Sp} (F : FnOk P w K mg base (L2.CX P w) k f fd ps sp) :
    FnOk P w K mg base CX0 k f fd ps (fun vs H Q _ => sp vs H Q fun _ _ _ => False) :=
  ⟨fun vs H Q E h => F.len _ _ _ _ h, fun A outer s H args us vs Q E hr he hb hv hs => codeAny_mono (F.run A outer s H args us vs Q _ hr he hb hv hs) fun r s' q => by
    cases r with
    | error e => exact (cx_some q).elim
    | ok fl => cases fl <;> exact q⟩
def noTabs (H : Hp) : Hp := fun b => match H b with
  | some (.tbl _) => none
  | x => x
theorem noTabs_same (H : Hp) : Same (noTabs H) H := fun b o e => by
  unfold noTabs at e
  split at e
  · cases e
  · exact e
theorem noTabs_nt (H : Hp) : NoT (noTabs H) := fun b ps e => by
  unfold noTabs at e
  split at e
  · cases e
  · rename_i n
    exact n ps e
theorem noTabs_at {H : Hp} {a : Addr} {o : HO} (e : H a = some o) (n : ∀ ps, o ≠ .tbl ps) : noTabs H a = some o := by
  unfold noTabs
  rw [e]
  cases o with
  | tbl ps => exact absurd rfl (n ps)
  | _ => rfl
theorem noTabs_sq {K : PySem.W.Frag} {H : Hp} {a : Addr} {xs : List V} (h : SqL K H a xs) : SqL K (noTabs H) a xs := by
  rcases h with (z | ⟨o, z⟩) | z
  · exact .inl (.inl (noTabs_at z (by nofun)))
  · exact .inl (.inr ⟨o, noTabs_at z (by nofun)⟩)
  · exact .inr z
theorem law_sp {K : PySem.W.Frag} {tl : List Str} {C : Cl} {f : Nat} {H : Hp} {a : Addr} {ns : List Int} {s' : Sto} (tk : TabK K H) (hS : SqL K H a (ns.map V.int)) (h : C f [.lst (ns.map Dt.int)] [] = .ok (.bl true) s') : spI K tl C f 1 [.ref a] H (fun v _ => v = .bl true) fun _ _ _ => False :=
  ⟨⟨noTabs H, H, [], []⟩, _, rfl, ⟨noTabs_same H, noTabs_nt H, tk, rfl, .nil, fun a h => (by cases h), fun n o a e => (by cases n <;> cases e)⟩, .cons (.lst (noTabs_sq hS) (RpA.of_ints ns)) .nil, rfl, by
    show RetC K tl _ _ _ (C f [.lst (ns.map Dt.int)] [])
    rw [h]
    exact fun v w' e st r => by cases r; rfl⟩
theorem tabK_none {K : PySem.W.Frag} {H : Hp} (c : (He.Fa.free "in_order").ok K = true) : TabK K H := .inl (He.eqO_ok c)
theorem tabK_new {K : PySem.W.Frag} {H : Hp} (e : H (He.tabOf K (He.codeOf K ordP)) = some (.tbl #[])) : TabK K H := .inr (LamX.TabS.nil e)
def excCB (K : PySem.W.Frag) (x : Str) : Bool :=
  decide (PySem.W.findIn K (.ref (He.ga K x)) "__getattribute__" = some (some (.builtin "BaseException.__getattribute__"))) && (decide (PySem.W.findIn K (.ref (He.ga K x)) "__getattr__" = some none) && (decide (PySem.W.subIn K (.ref (He.ga K x)) (.type "BaseException") = some true) &&
  (PySem.W.hasDictIn K (He.ga K x) && (decide (PySem.W.findIn K (.ref (He.ga K x)) "__class__" = some (some (.builtin "object.__class__"))) && (decide (PySem.W.specialIn K (.builtin "object.__class__") "__get__" = some (some (.builtin "getset_descriptor.__get__"))) &&
  (decide (PySem.W.takesIn K (.builtin "object.__class__") = some true) && decide (PySem.W.mroIn K (He.ga K x) (.type "object") = some true)))))))
theorem excC_ok {K : PySem.W.Frag} {x : Str} (h : excCB K x = true) : ExcC K (He.ga K x) := by
  obtain ⟨h1, h⟩ := He.ba h
  obtain ⟨h2, h⟩ := He.ba h
  obtain ⟨h3, h⟩ := He.ba h
  obtain ⟨h4, h⟩ := He.ba h
  obtain ⟨h5, h⟩ := He.ba h
  obtain ⟨h6, h⟩ := He.ba h
  obtain ⟨h7, h8⟩ := He.ba h
  exact ⟨of_decide_eq_true h1, of_decide_eq_true h2, of_decide_eq_true h3, h4, of_decide_eq_true h5, of_decide_eq_true h6, of_decide_eq_true h7, of_decide_eq_true h8⟩
/-- a class's body -/
def clsBody : Stmt → List Stmt
  | .ClassDef _ _ _ b _ _ _ _ _ _ _ => b
  | _ => []
def oexB (K : PySem.W.Frag) (C : Addr) : Bool := (match K.lookup C with
  | some ⟨.type "type", _, .cls ⟨_, _, .ref C' :: bm, _, _, true, _, _, _, _, false⟩, sl⟩ => decide (C' = C) && (HandSPX.refsVE bm && (match sl.toList with
    | [_, _, _, _, some (.builtin "ValueError.__new__"), _] => true
    | _ => false))
  | _ => false) && (decide (PySem.W.findIn K (.ref C) "__setattr__" = some (some (.builtin "object.__setattr__"))) && (decide (PySem.W.subIn K (.ref C) (.type "BaseException") = some true) && (decide (PySem.W.typeIn K (.ref C) = some (.type "type")) && PySem.W.keepIn K (.ref C))))
theorem oex_ok {K : PySem.W.Frag} {C : Addr} (h : oexB K C = true) : OexC K C := by
  unfold oexB at h
  obtain ⟨h1, h⟩ := He.ba h
  obtain ⟨h2, h⟩ := He.ba h
  obtain ⟨h3, h⟩ := He.ba h
  obtain ⟨h4, h5⟩ := He.ba h
  refine ⟨?_, of_decide_eq_true h2, of_decide_eq_true h3, of_decide_eq_true h4, h5⟩
  split at h1
  · rename_i dd nm bs C' bm ns q sn sub ab col sl e
    obtain ⟨h6, h7a⟩ := He.ba h1
    obtain ⟨h7b, h8⟩ := He.ba h7a
    have h6 := of_decide_eq_true h6
    subst h6
    split at h8
    · rename_i k0 k1 k2 k3 k5 e2
      have e3 : sl = #[k0, k1, k2, k3, some (.builtin "ValueError.__new__"), k5] := by
        rw [← Array.toArray_toList (xs := sl), e2]
      subst e3
      exact ⟨nm, q, ns, bs, bm, sn, sub, ab, col, dd, k0, k1, k2, k3, k5, e, h7b⟩
    · cases h8
  · cases h1
end Ip

namespace Ip
open PySem L2 PySem.Spec
/-! ## what the interpreter reckons: rules for laws -/
theorem whS_true {c : Loc → Sto → R Bool} {b : Loc → Sto → O} {l l' : Loc} {s s1 s' : Sto} (hc : c l s = .ok true s1) (hb : b l s1 = .nx l' s') : whS c b l s = whS c b l' s' := by
  have e : ∀ n, whN c b (n + 1) l s = whN c b n l' s' := fun n => by
    show (match c l s with
      | .ok true s => match b l s with
        | .nx l s => whN c b n l s
        | o => some o
      | .ok false s => some (.nx l s)
      | .er e s => some (.er e l s)
      | .no => some .no) = _
    rw [hc]
    dsimp only
    rw [hb]
  by_cases H : ∃ n o, whN c b n l' s' = some o
  · obtain ⟨n, o, h⟩ := H
    rw [whS_eq h, whS_eq ((e n).trans h)]
  · have H2 : ¬ ∃ n o, whN c b n l s = some o := fun ⟨n, o, h⟩ => by
      cases n with
      | zero => cases h
      | succ n => exact H ⟨n, o, (e n).symm.trans h⟩
    unfold whS
    rw [dif_neg H, dif_neg H2]
theorem whS_false {c : Loc → Sto → R Bool} {b : Loc → Sto → O} {l : Loc} {s s1 : Sto} (hc : c l s = .ok false s1) : whS c b l s = .nx l s1 := by
  refine whS_eq (n := 1) ?_
  show (match c l s with
      | .ok true s => match b l s with
        | .nx l s => whN c b 0 l s
        | o => some o
      | .ok false s => some (.nx l s)
      | .er e s => some (.er e l s)
      | .no => some .no) = _
  rw [hc]
theorem whS_rt {c : Loc → Sto → R Bool} {b : Loc → Sto → O} {l : Loc} {s s1 s' : Sto} {d : Dt} (hc : c l s = .ok true s1) (hb : b l s1 = .rt d s') : whS c b l s = .rt d s' := by
  refine whS_eq (n := 1) ?_
  show (match c l s with
      | .ok true s => match b l s with
        | .nx l s => whN c b 0 l s
        | o => some o
      | .ok false s => some (.nx l s)
      | .er e s => some (.er e l s)
      | .no => some .no) = _
  rw [hc]
  dsimp only
  rw [hb]
/-! ### the same, not by rfl (the kernel unfolds what is behind) -/
theorem nr {α : Type} {a b : α} (h : a = b) : a = b := by cases h; rfl
theorem bd_ok {α β : Type} (a : α) (s : Sto) (k : α → Sto → R β) : (R.ok a s).bind k = k a s := nr (R.bind_ok a s k)
theorem bd_er {α β : Type} (e : Er) (s : Sto) (k : α → Sto → R β) : (R.er e s).bind k = .er e s := nr (R.bind_er e s k)
theorem ot_ok {α : Type} (a : α) (s : Sto) (l : Loc) (k : α → Sto → O) : (R.ok a s).out l k = k a s := nr (R.out_ok a s l k)
theorem gl_some (d : Dt) (s : Sto) : getL (some (some d)) s = .ok d s := nr rfl
theorem wo_some {α β : Type} (a : α) (n : β) (k : α → β) : withO (some a) n k = k a := nr rfl
theorem ai_int {β : Type} (i : Int) (n : β) (k : Int → β) : asI (.int i) n k = k i := nr rfl
theorem br_bl {α : Type} (k : Bool) (n t f : α) : brn (.bl k) n t f = cond k t f := nr (brn_bl k n t f)
theorem cd_t {α : Type} (t f : α) : cond true t f = t := nr rfl
theorem cd_f {α : Type} (t f : α) : cond false t f = f := nr rfl
/-! ### loops -/
/-- a loop that ends, by an invariant over the part that is done -/
theorem forL_inv {f : Dt → Loc → Sto → O} {ds : List Dt} (I : Nat → Loc → Sto → Prop) (step : ∀ i (h : i < ds.length) l s, I i l s → ∃ l' s', f ds[i] l s = .nx l' s' ∧ I (i + 1) l' s') :
    ∀ {l : Loc} {s : Sto}, I 0 l s → ∃ l' s', forL f ds l s = .nx l' s' ∧ I ds.length l' s' := by
  have key : ∀ (j : Nat) (l : Loc) (s : Sto), j ≤ ds.length → I (ds.length - j) l s → ∃ l' s', forL f (ds.drop (ds.length - j)) l s = .nx l' s' ∧ I ds.length l' s' := fun j => by
    induction j with
    | zero =>
      intro l s _ h
      rw [Nat.sub_zero] at h ⊢
      rw [List.drop_length]
      exact ⟨l, s, rfl, h⟩
    | succ j ih =>
      intro l s hj h
      have hlt : ds.length - (j + 1) < ds.length := by omega
      obtain ⟨l1, s1, e1, h1⟩ := step _ hlt l s h
      rw [List.drop_eq_getElem_cons hlt]
      show ∃ l' s', (f _ l s).then (fun l s => forL f _ l s) = _ ∧ _
      rw [e1, O.then_nx]
      have e2 : ds.length - (j + 1) + 1 = ds.length - j := by omega
      rw [e2] at h1 ⊢
      exact ih l1 s1 (by omega) h1
  intro l s h
  have := key ds.length l s (Nat.le_refl _) (by rw [Nat.sub_self]; exact h)
  rwa [Nat.sub_self, List.drop_zero] at this
/-- a loop that may hand back: at each turn it goes on or hands back -/
theorem forL_or {f : Dt → Loc → Sto → O} {ds : List Dt} (I : Nat → Loc → Sto → Prop) (Z : Dt → Sto → Prop) (step : ∀ i (h : i < ds.length) l s, I i l s → (∃ l' s', f ds[i] l s = .nx l' s' ∧ I (i + 1) l' s') ∨ ∃ d s', f ds[i] l s = .rt d s' ∧ Z d s') :
    ∀ {l : Loc} {s : Sto}, I 0 l s → (∃ l' s', forL f ds l s = .nx l' s' ∧ I ds.length l' s') ∨ ∃ d s', forL f ds l s = .rt d s' ∧ Z d s' := by
  have key : ∀ (j : Nat) (l : Loc) (s : Sto), j ≤ ds.length → I (ds.length - j) l s → (∃ l' s', forL f (ds.drop (ds.length - j)) l s = .nx l' s' ∧ I ds.length l' s') ∨ ∃ d s', forL f (ds.drop (ds.length - j)) l s = .rt d s' ∧ Z d s' := fun j => by
    induction j with
    | zero =>
      intro l s _ h
      rw [Nat.sub_zero] at h ⊢
      rw [List.drop_length]
      exact .inl ⟨l, s, rfl, h⟩
    | succ j ih =>
      intro l s hj h
      have hlt : ds.length - (j + 1) < ds.length := by omega
      rw [List.drop_eq_getElem_cons hlt]
      show (∃ l' s', (f _ l s).then (fun l s => forL f _ l s) = _ ∧ _) ∨ ∃ d s', (f _ l s).then (fun l s => forL f _ l s) = _ ∧ _
      rcases step _ hlt l s h with ⟨l1, s1, e1, h1⟩ | ⟨d, s1, e1, h1⟩
      · rw [e1, O.then_nx]
        have e2 : ds.length - (j + 1) + 1 = ds.length - j := by omega
        rw [e2] at h1 ⊢
        exact ih l1 s1 (by omega) h1
      · rw [e1, O.then_rt]
        exact .inr ⟨d, s1, rfl, h1⟩
  intro l s h
  have := key ds.length l s (Nat.le_refl _) (by rw [Nat.sub_self]; exact h)
  rwa [Nat.sub_self, List.drop_zero] at this
theorem forL_nil (f : Dt → Loc → Sto → O) (l : Loc) (s : Sto) : forL f [] l s = .nx l s := rfl
theorem forL_cons (f : Dt → Loc → Sto → O) (d : Dt) (ds : List Dt) (l : Loc) (s : Sto) : forL f (d :: ds) l s = (f d l s).then fun l s => forL f ds l s := rfl
theorem forL_app (f : Dt → Loc → Sto → O) : ∀ (xs ys : List Dt) (l : Loc) (s : Sto), forL f (xs ++ ys) l s = (forL f xs l s).then fun l s => forL f ys l s
  | [], ys, l, s => rfl
  | x :: xs, ys, l, s => by
    show (f x l s).then _ = ((f x l s).then _).then _
    cases f x l s with
    | nx l1 s1 => exact forL_app f xs ys l1 s1
    | _ => rfl
/-- a comprehension without a condition -/
theorem compL_map {f : Dt → Sto → R (Option Dt)} {g : Dt → Dt} {s : Sto} : ∀ {ds acc : List Dt}, (∀ d ∈ ds, f d s = .ok (some (g d)) s) → acc.length + ds.length ≤ sizeLine → compL f ds acc s = .ok (acc ++ ds.map g) s
  | [], acc, _, _ => by
    show R.ok acc s = _
    rw [List.map_nil, List.append_nil]
  | d :: ds, acc, h, hl => by
    rw [List.length_cons] at hl
    show (f d s).bind _ = _
    rw [h d List.mem_cons_self, R.bind_ok]
    dsimp only
    rw [if_pos (by omega), compL_map (fun x hx => h x (List.mem_cons_of_mem _ hx)) (by rw [List.length_append, List.length_singleton]; omega), List.map_cons, List.append_assoc]
    rfl
/-- .. with one -/
theorem compL_filter {f : Dt → Sto → R (Option Dt)} {g : Dt → Option Dt} {s : Sto} : ∀ {ds acc : List Dt}, (∀ d ∈ ds, f d s = .ok (g d) s) → acc.length + ds.length ≤ sizeLine → compL f ds acc s = .ok (acc ++ ds.filterMap g) s
  | [], acc, _, _ => by
    show R.ok acc s = _
    rw [List.filterMap_nil, List.append_nil]
  | d :: ds, acc, h, hl => by
    rw [List.length_cons] at hl
    show (f d s).bind _ = _
    rw [h d List.mem_cons_self, R.bind_ok, List.filterMap_cons]
    cases e : g d with
    | none =>
      dsimp only
      exact compL_filter (fun x hx => h x (List.mem_cons_of_mem _ hx)) (by omega)
    | some z =>
      dsimp only
      rw [if_pos (by omega), compL_filter (fun x hx => h x (List.mem_cons_of_mem _ hx)) (by rw [List.length_append, List.length_singleton]; omega), List.append_assoc]
      rfl
/-! ### calls -/
theorem callP_ok {C : Cl} {f : Nat} {as : List Dt} {s s1 : Sto} {d e : Dt} (h1 : Dt.frs (as.map (norm s)) = true) (h2 : C f (as.map (norm s)) [] = .ok d s1) (h3 : rslv s1 4 d = some e) : callP C f as s = .ok e s := by
  unfold callP
  rw [if_pos h1, h2]
  dsimp only
  rw [h3]
theorem callP_er {C : Cl} {f : Nat} {as : List Dt} {s s1 : Sto} {z : Er} {p : List (Nat × Dt)} (h1 : Dt.frs (as.map (norm s)) = true) (h2 : C f (as.map (norm s)) [] = .er z s1) (h3 : rslvP s1 z.pay = some p) : callP C f as s = .er ⟨z.cls, p⟩ s := by
  unfold callP
  rw [if_pos h1, h2]
  dsimp only
  rw [h3]
theorem rslv_fr {s : Sto} {n : Nat} {d : Dt} (h : d.fr = true) : rslv s n d = some d := by
  cases n <;> unfold rslv <;> rw [if_pos h]
/-- a call that sees data alone and hands back data -/
def Cp (C : Cl) (f : Nat) (as : List Dt) (d : Dt) : Prop := C f as [] = .ok d [] ∧ d.fr = true ∧ Dt.frs as = true
theorem norm_fr {s : Sto} {d : Dt} (h : d.fr = true) : norm s d = d := by
  cases d <;> first | rfl | cases h
theorem norms_fr {s : Sto} : ∀ {ds : List Dt}, Dt.frs ds = true → ds.map (norm s) = ds
  | [], _ => rfl
  | d :: ds, h => by
    have h' : (d.fr && Dt.frs ds) = true := h
    rw [Bool.and_eq_true] at h'
    rw [List.map_cons, norm_fr h'.1, norms_fr h'.2]
theorem callP_fr {C : Cl} {f : Nat} {as : List Dt} {s s1 : Sto} {d e : Dt} (h1 : Dt.frs as = true) (h2 : C f as [] = .ok d s1) (h3 : rslv s1 4 d = some e) : callP C f as s = .ok e s :=
  callP_ok (by rw [norms_fr h1]; exact h1) (by rw [norms_fr h1]; exact h2) h3
theorem callP_frD {C : Cl} {f : Nat} {as : List Dt} {s s1 : Sto} {d : Dt} (h1 : Dt.frs as = true) (h2 : C f as [] = .ok d s1) (h3 : d.fr = true) : callP C f as s = .ok d s := callP_fr h1 h2 (rslv_fr h3)
theorem callP_frE {C : Cl} {f : Nat} {as : List Dt} {s s1 : Sto} {c : Nat} (h1 : Dt.frs as = true) (h2 : C f as [] = .er ⟨c, []⟩ s1) : callP C f as s = .er ⟨c, []⟩ s :=
  callP_er (s1 := s1) (z := ⟨c, []⟩) (p := []) (by rw [norms_fr h1]; exact h1) (by rw [norms_fr h1]; exact h2) rfl
theorem frs_map {α : Type} {g : α → Dt} (h : ∀ a, (g a).fr = true) : ∀ l : List α, Dt.frs (l.map g) = true
  | [] => rfl
  | a :: l => by
    show ((g a).fr && Dt.frs (l.map g)) = true
    rw [h a, frs_map h l]
    rfl
theorem frs_iff : ∀ {l : List Dt}, Dt.frs l = true ↔ ∀ d ∈ l, d.fr = true
  | [] => ⟨fun _ d h => (by cases h), fun _ => rfl⟩
  | a :: l => by
    show (a.fr && Dt.frs l) = true ↔ _
    rw [Bool.and_eq_true, frs_iff (l := l)]
    exact ⟨fun ⟨h1, h2⟩ d hd => by
      rcases List.mem_cons.mp hd with rfl | hd
      · exact h1
      · exact h2 d hd, fun h => ⟨h a List.mem_cons_self, fun d hd => h d (List.mem_cons_of_mem _ hd)⟩⟩
theorem runF_eq (P : Pg) (k f : Nat) (as : List Dt) (s : Sto) : runF P (k + 2) f as s = goF P (runF P (k + 1)) (runF P k) f as s := rfl
theorem goF_eq {P : Pg} {C C' : Cl} {f : Nat} {fd : FD} (h : P.fns[f]? = some fd) {as : List Dt} {s : Sto} (hl : as.length = fd.np) : goF P C C' f as s = match exS P C C' fd.b none (as.map some ++ List.replicate (fd.nz - fd.np) none) s with
      | .nx _ s => .ok .non s
      | .rt d s => .ok d s
      | .er e _ s => .er e s
      | .no => .no := by
  unfold goF
  rw [h]
  dsimp only
  rw [if_pos hl]
  all_goals (cases exS P C C' fd.b none (as.map some ++ List.replicate (fd.nz - fd.np) none) s <;> rfl)
def O.res : O → R Dt
  | .nx _ s => .ok .non s
  | .rt d s => .ok d s
  | .er e _ s => .er e s
  | .no => .no
@[simp] theorem O.res_nx (l : Loc) (s : Sto) : (O.nx l s).res = .ok .non s := rfl
@[simp] theorem O.res_rt (d : Dt) (s : Sto) : (O.rt d s).res = .ok d s := rfl
@[simp] theorem O.res_er (e : Er) (l : Loc) (s : Sto) : (O.er e l s).res = .er e s := rfl
theorem run_eq {P : Pg} {k f : Nat} {fd : FD} {as : List Dt} {s : Sto} (h : P.fns[f]? = some fd) (hl : as.length = fd.np) : runF P (k + 2) f as s = (exS P (runF P (k + 1)) (runF P k) fd.b none (as.map some ++ List.replicate (fd.nz - fd.np) none) s).res := by
  rw [runF_eq, goF_eq h hl]
  cases exS P (runF P (k + 1)) (runF P k) fd.b none (as.map some ++ List.replicate (fd.nz - fd.np) none) s <;> rfl
/-! ### operators, under what is known -/
open Classical in
theorem binS_mul {i j : Int} {s : Sto} (h : IntMulOk i j) : binS .mul (.int i) (.int j) s = .ok (.int (i * j)) s := by
  show (if IntMulOk i j then _ else _) = _
  rw [if_pos h]
theorem binS_add {i j : Int} {s : Sto} : binS .add (.int i) (.int j) s = .ok (.int (i + j)) s := rfl
theorem binS_sub {i j : Int} {s : Sto} : binS .sub (.int i) (.int j) s = .ok (.int (i - j)) s := rfl
theorem binS_mod {i j : Int} {s : Sto} (h : j ≠ 0) : binS .mod (.int i) (.int j) s = .ok (.int (i.fmod j)) s := by
  show (if j ≠ 0 then _ else _) = _
  rw [if_pos h]
theorem binS_div {i j : Int} {s : Sto} (h : j ≠ 0) (h2 : Builtin.divisionGoesByPylong i j = false) : binS .div (.int i) (.int j) s = .ok (.int (i.fdiv j)) s := by
  show (if j ≠ 0 ∧ Builtin.divisionGoesByPylong i j = false then _ else _) = _
  rw [if_pos ⟨h, h2⟩]
theorem noPy_pos {i j : Int} (h : j.natAbs < 2 ^ 9000) : Builtin.divisionGoesByPylong i j = false := by
  refine PyProof.noPylong_of_log2 ?_
  by_cases hn : j.natAbs = 0
  · rw [hn]; decide
  · exact (Nat.log2_lt hn).mpr h
theorem binS_modP {i j : Int} {s : Sto} (h : 0 < j) : binS .mod (.int i) (.int j) s = .ok (.int (i % j)) s := by
  rw [binS_mod (by omega), Int.fmod_eq_emod_of_nonneg _ (by omega)]
theorem binS_divP {i j : Int} {s : Sto} (h : 0 < j) (h2 : j.natAbs < 2 ^ 9000) : binS .div (.int i) (.int j) s = .ok (.int (i / j)) s := by
  rw [binS_div (by omega) (noPy_pos h2), Int.fdiv_eq_ediv_of_nonneg _ (by omega)]
theorem mulOk_l {a b : Int} (h : a.natAbs < 2 ^ 64) : IntMulOk a b := IntMulOk.of_left (intBits_le_64 (by omega) (by omega))
theorem mulOk_r {a b : Int} (h : b.natAbs < 2 ^ 64) : IntMulOk a b := IntMulOk.of_right (intBits_le_64 (by omega) (by omega))
/-! ### statements, one by one -/
section
variable {P : Pg} {C C' : Cl} {h : Option Er} {l l1 l2 : Loc} {s s1 s2 : Sto} {e c it : E} {a b r : S} {d : Dt} {i : Nat} {o : O} {tg : Tg}
noncomputable abbrev bodF (P : Pg) (C C' : Cl) (tg : Tg) (b : S) (h : Option Er) : Dt → Loc → Sto → O := fun d l s => withO (setTg tg d l) .no fun l => exS P C C' b h l s
theorem q_skip : exS P C C' .skip h l s = .nx l s := rfl
theorem q_nx (ha : exS P C C' a h l s = .nx l1 s1) : exS P C C' (.seq a r) h l s = exS P C C' r h l1 s1 := by
  show (exS P C C' a h l s).then _ = _
  rw [ha]
  rfl
theorem q_rt (ha : exS P C C' a h l s = .rt d s1) : exS P C C' (.seq a r) h l s = .rt d s1 := by
  show (exS P C C' a h l s).then _ = _
  rw [ha]
  rfl
theorem q_er {z : Er} (ha : exS P C C' a h l s = .er z l1 s1) : exS P C C' (.seq a r) h l s = .er z l1 s1 := by
  show (exS P C C' a h l s).then _ = _
  rw [ha]
  rfl
theorem q_set (he : evE P C h e l s = .ok d s1) : exS P C C' (.seq (.set i e) r) h l s = exS P C C' r h (l.set i (some d)) s1 := q_nx (by
  show (evE P C h e l s).out l _ = _
  rw [he]
  rfl)
theorem q_setE {z : Er} (he : evE P C h e l s = .er z s1) : exS P C C' (.seq (.set i e) r) h l s = .er z l s1 := q_er (by
  show (evE P C h e l s).out l _ = _
  rw [he]
  rfl)
theorem q_unp {is : List Nat} (he : evE P C h e l s = .ok d s1) (ht : setTg (.tp is) d l = some l1) : exS P C C' (.seq (.unp is e) r) h l s = exS P C C' r h l1 s1 := q_nx (by
  show (evE P C h e l s).out l _ = _
  rw [he, R.out_ok, ht]
  rfl)
theorem q_par {j : Nat} {e2 : E} {d2 : Dt} (he : evE P C h e l s = .ok d s1) (he2 : evE P C h e2 l s1 = .ok d2 s2) : exS P C C' (.seq (.par i j e e2) r) h l s = exS P C C' r h ((l.set i (some d)).set j (some d2)) s2 := q_nx (by
  show (evE P C h e l s).out l _ = _
  rw [he, R.out_ok, he2]
  rfl)
theorem q_six {x y : E} {dx dy : Dt} {s3 s4 : Sto} (he : evE P C h e l s = .ok d s1) (hx : evE P C h x l s1 = .ok dx s2) (hy : evE P C h y l s2 = .ok dy s3) (hs : sixS dx dy d s3 = some s4) : exS P C C' (.seq (.six x y e) r) h l s = exS P C C' r h l s4 := q_nx (by
  show (evE P C h e l s).out l _ = _
  rw [he, R.out_ok, hx, R.out_ok, hy, R.out_ok, hs]
  rfl)
theorem q_ex (he : evE P C h e l s = .ok d s1) : exS P C C' (.seq (.ex e) r) h l s = exS P C C' r h l s1 := q_nx (by
  show (evE P C h e l s).out l _ = _
  rw [he]
  rfl)
theorem q_ret (he : evE P C h e l s = .ok d s1) : exS P C C' (.seq (.ret e) r) h l s = .rt d s1 := q_rt (by
  show (evE P C h e l s).out l _ = _
  rw [he]
  rfl)
theorem q_retE {z : Er} (he : evE P C h e l s = .er z s1) : exS P C C' (.seq (.ret e) r) h l s = .er z l s1 := q_er (by
  show (evE P C h e l s).out l _ = _
  rw [he]
  rfl)
theorem ite_t (hc : evE P C h c l s = .ok (.bl true) s1) : exS P C C' (.ite c a b) h l s = exS P C C' a h l s1 := by
  show (evE P C h c l s).out l _ = _
  rw [hc]
  rfl
theorem ite_f (hc : evE P C h c l s = .ok (.bl false) s1) : exS P C C' (.ite c a b) h l s = exS P C C' b h l s1 := by
  show (evE P C h c l s).out l _ = _
  rw [hc]
  rfl
/-- no branch is gone -/
theorem q_ifF (hc : evE P C h c l s = .ok (.bl false) s1) : exS P C C' (.seq (.ite c a .skip) r) h l s = exS P C C' r h l s1 := q_nx (ite_f hc)
theorem q_ifT (hc : evE P C h c l s = .ok (.bl true) s1) (ha : exS P C C' a h l s1 = .nx l2 s2) : exS P C C' (.seq (.ite c a b) r) h l s = exS P C C' r h l2 s2 := q_nx ((ite_t hc).trans ha)
theorem q_ifTr (hc : evE P C h c l s = .ok (.bl true) s1) (ha : exS P C C' a h l s1 = .rt d s2) : exS P C C' (.seq (.ite c a b) r) h l s = .rt d s2 := q_rt ((ite_t hc).trans ha)
theorem q_ifTe {z : Er} (hc : evE P C h c l s = .ok (.bl true) s1) (ha : exS P C C' a h l s1 = .er z l2 s2) : exS P C C' (.seq (.ite c a b) r) h l s = .er z l2 s2 := q_er ((ite_t hc).trans ha)
theorem q_ifE (hc : evE P C h c l s = .ok (.bl false) s1) (ha : exS P C C' b h l s1 = .nx l2 s2) : exS P C C' (.seq (.ite c a b) r) h l s = exS P C C' r h l2 s2 := q_nx ((ite_f hc).trans ha)
theorem q_ifEr (hc : evE P C h c l s = .ok (.bl false) s1) (ha : exS P C C' b h l s1 = .rt d s2) : exS P C C' (.seq (.ite c a b) r) h l s = .rt d s2 := q_rt ((ite_f hc).trans ha)
theorem for_pl {ds : List Dt} (hi : evI P C h it l s = .ok (.pl ds) s1) : exS P C C' (.for_ tg it b) h l s = forL (bodF P C C' tg b h) ds l s1 := by
  show (evI P C h it l s).out l _ = _
  rw [hi]
  rfl
theorem for_lv {ds : List Dt} {n : Nat} {ob : Ob} (hi : evI P C h it l s = .ok (.lv n ob ds) s1) : exS P C C' (.for_ tg it b) h l s = forV n ob (bodF P C C' tg b h) ds l s1 := by
  show (evI P C h it l s).out l _ = _
  rw [hi]
  rfl
theorem q_for {ds : List Dt} (hi : evI P C h it l s = .ok (.pl ds) s1) (hf : forL (bodF P C C' tg b h) ds l s1 = .nx l2 s2) : exS P C C' (.seq (.for_ tg it b) r) h l s = exS P C C' r h l2 s2 := q_nx ((for_pl hi).trans hf)
theorem q_forR {ds : List Dt} (hi : evI P C h it l s = .ok (.pl ds) s1) (hf : forL (bodF P C C' tg b h) ds l s1 = .rt d s2) : exS P C C' (.seq (.for_ tg it b) r) h l s = .rt d s2 := q_rt ((for_pl hi).trans hf)
theorem q_forV {ds : List Dt} {n : Nat} {ob : Ob} (hi : evI P C h it l s = .ok (.lv n ob ds) s1) (hf : forV n ob (bodF P C C' tg b h) ds l s1 = .nx l2 s2) : exS P C C' (.seq (.for_ tg it b) r) h l s = exS P C C' r h l2 s2 := q_nx ((for_lv hi).trans hf)
theorem q_rai {x : Nat} (he : P.exf.lookup x = none := by rfl) : exS P C C' (.seq (.rai x .nil) r) none l s = .er ⟨x, []⟩ l s := q_er (l1 := l) (by
  simp only [exS, evA, R.out_ok, he, List.isEmpty_nil, cond_true])
theorem q_raiX {x : Nat} {a : E} {ds : List Dt} {fs : List Nat} (ha : evA P C none a l s = .ok ds s1) (he : P.exf.lookup x = some fs) (h1 : fs.length = ds.length) (h2 : 0 < ds.length) (h3 : ds.length ≤ 10) : exS P C C' (.seq (.rai x a) r) none l s = .er ⟨x, (fs.zip ds).reverse⟩ l s1 := q_er (l1 := l) (by
  simp only [exS, ha, R.out_ok, he, decide_eq_true h1, decide_eq_true h2, decide_eq_true h3, Bool.and_self, cond_true])
theorem tri_nx {hs : S} (ha : exS P C C' a none l s = .nx l1 s1) : exS P C C' (.tri a hs) none l s = .nx l1 s1 := by
  show (match exS P C C' a none l s with
    | .er z l s => exS P C C' hs (some z) l s
    | o => o) = _
  rw [ha]
theorem tri_rt {hs : S} (ha : exS P C C' a none l s = .rt d s1) : exS P C C' (.tri a hs) none l s = .rt d s1 := by
  show (match exS P C C' a none l s with
    | .er z l s => exS P C C' hs (some z) l s
    | o => o) = _
  rw [ha]
theorem tri_er {hs : S} {z : Er} (ha : exS P C C' a none l s = .er z l1 s1) : exS P C C' (.tri a hs) none l s = exS P C C' hs (some z) l1 s1 := by
  show (match exS P C C' a none l s with
    | .er z l s => exS P C C' hs (some z) l s
    | o => o) = _
  rw [ha]
/-- while: by what each turn makes -/
theorem q_whl (hw : whS (fun l s => asB (evE P C h c l s)) (fun l s => exS P C C' b h l s) l s = .nx l2 s2) : exS P C C' (.seq (.whl c b) r) h l s = exS P C C' r h l2 s2 := q_nx hw
theorem wh_t (hc : evE P C h c l s = .ok (.bl true) s1) (hb : exS P C C' b h l s1 = .nx l1 s2) : whS (fun l s => asB (evE P C h c l s)) (fun l s => exS P C C' b h l s) l s = whS (fun l s => asB (evE P C h c l s)) (fun l s => exS P C C' b h l s) l1 s2 :=
  whS_true (by show asB _ = _; rw [hc]; rfl) hb
theorem wh_f (hc : evE P C h c l s = .ok (.bl false) s1) : whS (fun l s => asB (evE P C h c l s)) (fun l s => exS P C C' b h l s) l s = .nx l s1 := whS_false (by show asB _ = _; rw [hc]; rfl)
end
theorem ev_warm (P : Pg) (C C' : Cl) : evE P C none (.bin .add (.con (.int 1)) (.con (.int 2))) [] [] = .ok (.int (1 + 2)) [] ∧ evA P C none .nil [] [] = .ok [] [] ∧ evO P C none .nil [] [] = .ok none [] ∧ evI P C none .nil [] [] = .no ∧ exS P C C' .skip none [] [] = .nx [] [] := by
  refine ⟨?_, ?_, ?_, ?_, ?_⟩ <;> simp only [evE, evA, evO, evI, exS, R.bind_ok, binS_add]
section
variable {P : Pg} {C : Cl} {h : Option Er} {l : Loc} {s : Sto}
theorem evI_rng1 (b : E) : evI P C h (.rng1 b) l s = (evE P C h b l s).bind fun y s => rngS1 y s := by rw [evI]
theorem evI_rng (a b : E) : evI P C h (.rng a b) l s = (evE P C h a l s).bind fun x s => (evE P C h b l s).bind fun y s => rngS2 x y s := by rw [evI]
theorem evI_rngd (a b : E) : evI P C h (.rngd a b) l s = (evE P C h a l s).bind fun x s => (evE P C h b l s).bind fun y s => rngSd x y s := by rw [evI]
theorem evI_zip (a b : E) : evI P C h (.zip a b) l s = (evE P C h a l s).bind fun x s => (evE P C h b l s).bind fun y s => zipS x y s := by rw [evI]
theorem evI_enu (a : E) : evI P C h (.enu a) l s = (evE P C h a l s).bind fun x s => enuS x s := by rw [evI]
theorem evI_cons (a b : E) : evI P C h (.cons a b) l s = (evE P C h a l s).bind fun x s => iterS x s := by rw [evI]
end
end Ip

namespace Ip
open PySem L2 PySem.Spec
/-! ## data that == tells apart just where they differ -/
mutual
def Dt.hard : Nat → Dt → Prop
  | _, .non => True
  | _, .int _ => True
  | _, .str s => PyData.strOk s = true
  | 0, .tup _ => False
  | 0, .lst _ => False
  | n + 1, .tup l => Dt.hards n l
  | n + 1, .lst l => Dt.hards n l
  | _, .bl _ => False
  | _, .dic _ => False
  | _, .obj _ => False
def Dt.hards : Nat → List Dt → Prop
  | _, [] => True
  | n, d :: ds => Dt.hard n d ∧ Dt.hards n ds
end
theorem hards_iff {n : Nat} : ∀ {l : List Dt}, Dt.hards n l ↔ ∀ d ∈ l, Dt.hard n d
  | [] => by simp [Dt.hards]
  | d :: ds => by
    unfold Dt.hards
    rw [hards_iff (l := ds)]
    simp
theorem hard_int {n : Nat} {i : Int} : Dt.hard n (.int i) := by unfold Dt.hard; trivial
theorem hard_non {n : Nat} : Dt.hard n .non := by unfold Dt.hard; trivial
theorem hard_str {n : Nat} {s : Str} (h : PyData.strOk s = true) : Dt.hard n (.str s) := by unfold Dt.hard; exact h
theorem hard_tup {n : Nat} {l : List Dt} (h : ∀ d ∈ l, Dt.hard n d) : Dt.hard (n + 1) (.tup l) := by unfold Dt.hard; exact hards_iff.mpr h
theorem hard_lst {n : Nat} {l : List Dt} (h : ∀ d ∈ l, Dt.hard n d) : Dt.hard (n + 1) (.lst l) := by unfold Dt.hard; exact hards_iff.mpr h
mutual
theorem hard_facts : ∀ (n : Nat) (d : Dt), Dt.hard n d → d.flat = true ∧ d.py.canLay0 = true ∧ d.py.depth ≤ n
  | _, .non, _ => ⟨rfl, by simp only [Dt.py, PyData.canLay0], by simp only [Dt.py, PyData.depth]; omega⟩
  | _, .int _, _ => ⟨rfl, by simp only [Dt.py, PyData.canLay0], by simp only [Dt.py, PyData.depth]; omega⟩
  | _, .str s, h => ⟨rfl, by simp only [Dt.py, PyData.canLay0]; unfold Dt.hard at h; exact h, by simp only [Dt.py, PyData.depth]; omega⟩
  | 0, .tup _, h => by unfold Dt.hard at h; exact h.elim
  | 0, .lst _, h => by unfold Dt.hard at h; exact h.elim
  | n + 1, .tup l, h => by
    unfold Dt.hard at h
    obtain ⟨h1, h2, h3⟩ := hards_facts n l h
    exact ⟨h1, by simp only [Dt.py, PyData.canLay0]; exact h2, by simp only [Dt.py, PyData.depth]; omega⟩
  | n + 1, .lst l, h => by
    unfold Dt.hard at h
    obtain ⟨h1, h2, h3⟩ := hards_facts n l h
    exact ⟨h1, by simp only [Dt.py, PyData.canLay0]; exact h2, by simp only [Dt.py, PyData.depth]; omega⟩
  | _, .bl _, h => by unfold Dt.hard at h; exact h.elim
  | _, .dic _, h => by unfold Dt.hard at h; exact h.elim
  | _, .obj _, h => by unfold Dt.hard at h; exact h.elim
theorem hards_facts : ∀ (n : Nat) (l : List Dt), Dt.hards n l → Dt.flats l = true ∧ PyData.canLayAll0 (Dt.pys l) = true ∧ PyData.depthAll (Dt.pys l) ≤ n
  | _, [], _ => ⟨rfl, by simp only [Dt.pys, PyData.canLayAll0], by simp only [Dt.pys, PyData.depthAll]; omega⟩
  | n, d :: ds, h => by
    unfold Dt.hards at h
    obtain ⟨a1, a2, a3⟩ := hard_facts n d h.1
    obtain ⟨b1, b2, b3⟩ := hards_facts n ds h.2
    exact ⟨by unfold Dt.flats; rw [a1, b1]; rfl, by simp only [Dt.pys, PyData.canLayAll0]; rw [a2, b2]; rfl, by simp only [Dt.pys, PyData.depthAll]; omega⟩
end
mutual
theorem hard_eqv : ∀ (n m : Nat) (a b : Dt), Dt.hard n a → Dt.hard m b → (PyData.eqv a.py b.py = true ↔ a = b)
  | n, m, .non, b, _, hb => by cases b <;> simp [Dt.py, PyData.eqv] <;> (unfold Dt.hard at hb; exact hb)
  | n, m, .int i, b, _, hb => by
    cases b with
    | bl k => exact absurd hb (by unfold Dt.hard; exact id)
    | dic k => exact absurd hb (by unfold Dt.hard; exact id)
    | obj k => exact absurd hb (by unfold Dt.hard; exact id)
    | _ => simp [Dt.py, PyData.eqv]
  | n, m, .str s, b, _, hb => by
    cases b with
    | bl k => exact absurd hb (by unfold Dt.hard; exact id)
    | dic k => exact absurd hb (by unfold Dt.hard; exact id)
    | obj k => exact absurd hb (by unfold Dt.hard; exact id)
    | _ => simp [Dt.py, PyData.eqv]
  | 0, m, .tup _, b, h, _ => by unfold Dt.hard at h; exact h.elim
  | 0, m, .lst _, b, h, _ => by unfold Dt.hard at h; exact h.elim
  | n + 1, m, .tup l, b, h, hb => by
    cases b with
    | bl k => exact absurd hb (by unfold Dt.hard; exact id)
    | dic k => exact absurd hb (by unfold Dt.hard; exact id)
    | obj k => exact absurd hb (by unfold Dt.hard; exact id)
    | tup l2 =>
      cases m with
      | zero => unfold Dt.hard at hb; exact hb.elim
      | succ m =>
        unfold Dt.hard at h hb
        have q := hards_eqv n m l l2 h hb
        simp only [Dt.py, PyData.eqv]
        rw [q]
        simp
    | _ => simp [Dt.py, PyData.eqv]
  | n + 1, m, .lst l, b, h, hb => by
    cases b with
    | bl k => exact absurd hb (by unfold Dt.hard; exact id)
    | dic k => exact absurd hb (by unfold Dt.hard; exact id)
    | obj k => exact absurd hb (by unfold Dt.hard; exact id)
    | lst l2 =>
      cases m with
      | zero => unfold Dt.hard at hb; exact hb.elim
      | succ m =>
        unfold Dt.hard at h hb
        have q := hards_eqv n m l l2 h hb
        simp only [Dt.py, PyData.eqv]
        rw [q]
        simp
    | _ => simp [Dt.py, PyData.eqv]
  | _, _, .bl _, _, h, _ => by unfold Dt.hard at h; exact h.elim
  | _, _, .dic _, _, h, _ => by unfold Dt.hard at h; exact h.elim
  | _, _, .obj _, _, h, _ => by unfold Dt.hard at h; exact h.elim
theorem hards_eqv : ∀ (n m : Nat) (a b : List Dt), Dt.hards n a → Dt.hards m b → (PyData.eqvAll (Dt.pys a) (Dt.pys b) = true ↔ a = b)
  | n, m, [], [], _, _ => by simp [Dt.pys, PyData.eqvAll]
  | n, m, [], _ :: _, _, _ => by simp [Dt.pys, PyData.eqvAll]
  | n, m, _ :: _, [], _, _ => by simp [Dt.pys, PyData.eqvAll]
  | n, m, a :: as, b :: bs, ha, hb => by
    unfold Dt.hards at ha hb
    simp only [Dt.pys, PyData.eqvAll, Bool.and_eq_true]
    rw [hard_eqv n m a b ha.1 hb.1, hards_eqv n m as bs ha.2 hb.2]
    simp
end
/-- data that == tells apart -/
def Hd (d : Dt) : Prop := ∃ n, n ≤ 60 ∧ Dt.hard n d
theorem Hd.ok {d : Dt} (h : Hd d) : okEq d = true := by
  obtain ⟨n, hn, h⟩ := h
  obtain ⟨h1, h2, h3⟩ := hard_facts n d h
  unfold okEq SeqAt.shaped
  rw [h1, h2, decide_eq_true (by omega)]
  rfl
theorem Hd.eqv {a b : Dt} (ha : Hd a) (hb : Hd b) : PyData.eqv a.py b.py = true ↔ a = b := by
  obtain ⟨n, _, ha⟩ := ha
  obtain ⟨m, _, hb⟩ := hb
  exact hard_eqv n m a b ha hb
open Classical in
theorem Hd.eqb {a b : Dt} (ha : Hd a) (hb : Hd b) : PyData.eqv a.py b.py = decide (a = b) := by
  have h := ha.eqv hb
  cases e : PyData.eqv a.py b.py with
  | true => rw [decide_eq_true (h.mp e)]
  | false => rw [decide_eq_false fun z => by rw [h.mpr z] at e; cases e]
theorem hd_int {i : Int} : Hd (.int i) := ⟨0, by decide, hard_int⟩
theorem hd_non : Hd .non := ⟨0, by decide, hard_non⟩
theorem hard_mono : ∀ {n m : Nat} {d : Dt}, Dt.hard n d → n ≤ m → Dt.hard m d
  | n, m, .non, _, _ => hard_non
  | n, m, .int _, _, _ => hard_int
  | n, m, .str _, h, _ => hard_str (by unfold Dt.hard at h; exact h)
  | 0, m, .tup _, h, _ => by unfold Dt.hard at h; exact h.elim
  | 0, m, .lst _, h, _ => by unfold Dt.hard at h; exact h.elim
  | n + 1, 0, .tup _, h, k => absurd k (by omega)
  | n + 1, 0, .lst _, h, k => absurd k (by omega)
  | n + 1, m + 1, .tup l, h, k => hard_tup fun d hd => hard_mono (n := n) (by unfold Dt.hard at h; exact hards_iff.mp h d hd) (by omega)
  | n + 1, m + 1, .lst l, h, k => hard_lst fun d hd => hard_mono (n := n) (by unfold Dt.hard at h; exact hards_iff.mp h d hd) (by omega)
  | _, _, .bl _, h, _ => by unfold Dt.hard at h; exact h.elim
  | _, _, .dic _, h, _ => by unfold Dt.hard at h; exact h.elim
  | _, _, .obj _, h, _ => by unfold Dt.hard at h; exact h.elim
theorem hard_map {α : Type} {n : Nat} {g : α → Dt} (h : ∀ a, Dt.hard n (g a)) (l : List α) : Dt.hard (n + 1) (.lst (l.map g)) := hard_lst fun d hd => by
  obtain ⟨a, _, rfl⟩ := List.mem_map.mp hd
  exact h a
theorem map_inj {α : Type} {g : α → Dt} (h : ∀ a b, g a = g b → a = b) {xs ys : List α} : xs.map g = ys.map g ↔ xs = ys :=
  ⟨fun e => by
    induction xs generalizing ys with
    | nil => cases ys with
      | nil => rfl
      | cons y ys => cases e
    | cons x xs ih => cases ys with
      | nil => cases e
      | cons y ys =>
        rw [List.map_cons, List.map_cons, List.cons.injEq] at e
        rw [h _ _ e.1, ih e.2], fun e => by rw [e]⟩
/-! ### comparisons -/
section
variable {a b : Dt} {s : Sto} {i j : Int}
open Classical in
theorem cmp_eq (ha : Hd (view s a)) (hb : Hd (view s b)) : cmpS .eq a b s = .ok (.bl (decide (view s a = view s b))) s := by
  show (if okEq (view s a) = true ∧ okEq (view s b) = true then _ else _) = _
  rw [if_pos ⟨ha.ok, hb.ok⟩, ha.eqb hb]
open Classical in
theorem cmp_ne (ha : Hd (view s a)) (hb : Hd (view s b)) : cmpS .ne a b s = .ok (.bl (!decide (view s a = view s b))) s := by
  show (if okEq (view s a) = true ∧ okEq (view s b) = true then _ else _) = _
  rw [if_pos ⟨ha.ok, hb.ok⟩, ha.eqb hb]
theorem cmp_eqI : cmpS .eq (.int i) (.int j) s = .ok (.bl (decide (i = j))) s := by
  refine (cmp_eq (a := .int i) (b := .int j) hd_int hd_int).trans ?_
  congr 2
  exact decide_eq_decide.mpr ⟨fun e => by cases e; rfl, fun e => by rw [e]⟩
theorem cmp_neI : cmpS .ne (.int i) (.int j) s = .ok (.bl (!decide (i = j))) s := by
  refine (cmp_ne (a := .int i) (b := .int j) hd_int hd_int).trans ?_
  congr 3
  exact decide_eq_decide.mpr ⟨fun e => by cases e; rfl, fun e => by rw [e]⟩
theorem cmp_ltI : cmpS .lt (.int i) (.int j) s = .ok (.bl (decide (i < j))) s := rfl
theorem cmp_gtI : cmpS .gt (.int i) (.int j) s = .ok (.bl (decide (j < i))) s := rfl
theorem cmp_leI : cmpS .le (.int i) (.int j) s = .ok (.bl (decide (i ≤ j))) s := rfl
theorem cmp_geI : cmpS .ge (.int i) (.int j) s = .ok (.bl (decide (j ≤ i))) s := rfl
theorem pys_any {x : Dt} (hx : Hd x) : ∀ {l : List Dt}, (∀ d ∈ l, Hd d) → (((Dt.pys l).any fun z => PyData.eqv z x.py) = true ↔ x ∈ l)
  | [], _ => by simp [Dt.pys]
  | d :: ds, h => by
    unfold Dt.pys
    rw [List.any_cons, Bool.or_eq_true, (h d List.mem_cons_self).eqv hx, pys_any hx fun y hy => h y (List.mem_cons_of_mem _ hy), List.mem_cons]
    exact ⟨fun z => z.imp Eq.symm id, fun z => z.imp Eq.symm id⟩
theorem hd_mem {l : List Dt} (h : Hd (.lst l)) : ∀ d ∈ l, Hd d := fun d hd => by
  obtain ⟨n, hn, h⟩ := h
  cases n with
  | zero => unfold Dt.hard at h; exact h.elim
  | succ n =>
    unfold Dt.hard at h
    exact ⟨n, by omega, hards_iff.mp h d hd⟩
open Classical in
theorem cmp_in {l : List Dt} (e : view s b = .lst l) (ha : Hd (view s a)) (hl : Hd (.lst l)) : cmpS .inn a b s = .ok (.bl (decide (view s a ∈ l))) s := by
  have q := pys_any ha (hd_mem hl)
  have e2 : ((Dt.pys l).any fun z => PyData.eqv z (view s a).py) = decide (view s a ∈ l) := by
    cases z : ((Dt.pys l).any fun z => PyData.eqv z (view s a).py) with
    | true => rw [decide_eq_true (q.mp z)]
    | false => rw [decide_eq_false fun y => by rw [q.mpr y] at z; cases z]
  unfold cmpS
  dsimp only
  rw [e]
  dsimp only
  rw [if_pos ⟨ha.ok, hl.ok⟩, e2]
open Classical in
theorem cmp_nin {l : List Dt} (e : view s b = .lst l) (ha : Hd (view s a)) (hl : Hd (.lst l)) : cmpS .nin a b s = .ok (.bl (!decide (view s a ∈ l))) s := by
  have q := pys_any ha (hd_mem hl)
  have e2 : ((Dt.pys l).any fun z => PyData.eqv z (view s a).py) = decide (view s a ∈ l) := by
    cases z : ((Dt.pys l).any fun z => PyData.eqv z (view s a).py) with
    | true => rw [decide_eq_true (q.mp z)]
    | false => rw [decide_eq_false fun y => by rw [q.mpr y] at z; cases z]
  unfold cmpS
  dsimp only
  rw [e]
  dsimp only
  rw [if_pos ⟨ha.ok, hl.ok⟩, e2]
end
/-! ### sizes, indices -/
theorem mulOk_sz {a b : Int} {n m : Nat} (ha : a.natAbs < 2 ^ n) (hb : b.natAbs < 2 ^ m) (h : n + m ≤ 900000) : IntMulOk a b := by
  refine CMulW.ok (wide_mul (a := n + 1) (b := m + 1) (Nat.lt_of_lt_of_le ha (Nat.pow_le_pow_right (by decide) (by omega))) (Nat.lt_of_lt_of_le hb (Nat.pow_le_pow_right (by decide) (by omega))) (by omega) (by omega) (by omega))
theorem atI_get {α : Type} {l : List α} {i : Int} (h0 : 0 ≤ i) (h : i < l.length) : atI l i = some (l[i.toNat]'(by omega)) := by
  have := atI_nat (xs := l) (j := i.toNat) (v := l[i.toNat]'(by omega)) (List.getElem?_eq_getElem (by omega))
  rwa [Int.toNat_of_nonneg h0] at this
end Ip

/-! ## fractions: plain mathematics -/
namespace Fm
/-- a fraction: top, bottom -/
abbrev Fr := Int × Int
/-- in lowest terms, bottom from 1 on -/
def mk (t b : Int) : Fr := if b < 0 then (-(t / (Int.gcd t b : Int)), -(b / (Int.gcd t b : Int))) else (t / (Int.gcd t b : Int), b / (Int.gcd t b : Int))
def by_ (t b : Int) : Int := if b < 0 then 0 - (Int.gcd t b : Int) else (Int.gcd t b : Int)
theorem gcd_pos {t b : Int} (h : b ≠ 0) : 0 < Int.gcd t b := Nat.pos_of_ne_zero fun q => h (Int.gcd_eq_zero_iff.mp q).2
theorem by_ne {t b : Int} (h : b ≠ 0) : by_ t b ≠ 0 := by
  have := gcd_pos (t := t) h
  unfold by_
  split <;> omega
theorem by_abs (t b : Int) : (by_ t b).natAbs = Int.gcd t b := by
  unfold by_
  split <;> omega
theorem fdiv_neg {a g : Int} (hg : g ≠ 0) (h : g ∣ a) : a.fdiv (0 - g) = -(a / g) := by
  obtain ⟨c, rfl⟩ := h
  rw [Int.mul_ediv_cancel_left c hg, show g * c = (0 - g) * (-c) by rw [Int.zero_sub, Int.neg_mul_neg], Int.mul_fdiv_cancel_left _ (by omega)]
theorem fdiv_pos {a g : Int} (hg : g ≠ 0) (h : g ∣ a) : a.fdiv g = a / g := by
  obtain ⟨c, rfl⟩ := h
  rw [Int.mul_ediv_cancel_left c hg, Int.mul_fdiv_cancel_left _ hg]
theorem gd1 (t b : Int) : ((Int.gcd t b : Nat) : Int) ∣ t := Int.gcd_dvd_left ..
theorem gd2 (t b : Int) : ((Int.gcd t b : Nat) : Int) ∣ b := Int.gcd_dvd_right ..
/-- what the program reckons -/
theorem mk_by {t b : Int} (h : b ≠ 0) : (t.fdiv (by_ t b), b.fdiv (by_ t b)) = mk t b := by
  have hg : ((Int.gcd t b : Nat) : Int) ≠ 0 := by have := gcd_pos (t := t) h; omega
  unfold mk by_
  split
  · rw [fdiv_neg hg (gd1 t b), fdiv_neg hg (gd2 t b)]
  · rw [fdiv_pos hg (gd1 t b), fdiv_pos hg (gd2 t b)]
/-- a good fraction -/
structure Ok (a : Fr) : Prop where
  pos : 0 < a.2
  low : Int.gcd a.1 a.2 = 1
theorem cross_aux {t b g : Int} (h1 : g ∣ t) (h2 : g ∣ b) : (t / g) * b = t * (b / g) := by
  obtain ⟨c, rfl⟩ := h1
  obtain ⟨d, rfl⟩ := h2
  by_cases hg : g = 0
  · subst hg; simp
  · rw [Int.mul_ediv_cancel_left c hg, Int.mul_ediv_cancel_left d hg, ← Int.mul_assoc, Int.mul_comm c g]
theorem mk_cross (t b : Int) : (mk t b).1 * b = t * (mk t b).2 := by
  have key := cross_aux (gd1 t b) (gd2 t b)
  unfold mk
  split
  · show -(t / (Int.gcd t b : Int)) * b = t * -(b / (Int.gcd t b : Int))
    rw [Int.neg_mul, Int.mul_neg, key]
  · exact key
theorem mk_pos {t b : Int} (h : b ≠ 0) : 0 < (mk t b).2 := by
  have hg := gcd_pos (t := t) h
  obtain ⟨d, hd⟩ := gd2 t b
  have e2 : b / (Int.gcd t b : Int) = d := by
    have := Int.mul_ediv_cancel_left d (show ((Int.gcd t b : Nat) : Int) ≠ 0 by omega)
    rw [← hd] at this
    exact this
  have hd0 : d ≠ 0 := fun q => h (by rw [hd, q, Int.mul_zero])
  have hgi : (0 : Int) < (Int.gcd t b : Nat) := by omega
  unfold mk
  split
  · rename_i hb
    show 0 < -(b / (Int.gcd t b : Int))
    rw [e2]
    have : d < 0 := by
      rcases Int.lt_trichotomy d 0 with z | z | z
      · exact z
      · exact absurd z hd0
      · have := Int.mul_pos hgi z
        omega
    omega
  · rename_i hb
    show 0 < b / (Int.gcd t b : Int)
    rw [e2]
    rcases Int.lt_trichotomy d 0 with z | z | z
    · have := Int.mul_neg_of_pos_of_neg hgi z
      omega
    · exact absurd z hd0
    · exact z
theorem mk_low {t b : Int} (h : b ≠ 0) : Int.gcd (mk t b).1 (mk t b).2 = 1 := by
  have hg := gcd_pos (t := t) h
  have key : Int.gcd (t / (Int.gcd t b : Int)) (b / (Int.gcd t b : Int)) = 1 := Int.gcd_ediv_gcd_ediv_gcd hg
  unfold mk
  split
  · show Int.gcd (-(t / (Int.gcd t b : Int))) (-(b / (Int.gcd t b : Int))) = 1
    rw [Int.gcd_neg, Int.neg_gcd]
    exact key
  · exact key
theorem mk_ok {t b : Int} (h : b ≠ 0) : Ok (mk t b) := ⟨mk_pos h, mk_low h⟩
end Fm

namespace Fm
/-! sizes -/
/-- below 2 ^ n in size -/
structure Sz (n : Nat) (a : Fr) : Prop where
  top : a.1.natAbs < 2 ^ n
  pos : 0 < a.2
  bot : a.2.natAbs < 2 ^ n
theorem Sz.mono {n m : Nat} {a : Fr} (h : Sz n a) (l : n ≤ m) : Sz m a :=
  ⟨Nat.lt_of_lt_of_le h.top (Nat.pow_le_pow_right (by decide) l), h.pos, Nat.lt_of_lt_of_le h.bot (Nat.pow_le_pow_right (by decide) l)⟩
theorem div_abs (t g : Int) : (t / g).natAbs ≤ t.natAbs ∨ ¬ g ∣ t := by
  by_cases h : g ∣ t
  · obtain ⟨c, rfl⟩ := h
    left
    by_cases hg : g = 0
    · subst hg; simp
    · rw [Int.mul_ediv_cancel_left c hg, Int.natAbs_mul]
      exact Nat.le_mul_of_pos_left _ (Int.natAbs_pos.mpr hg)
  · exact .inr h
theorem mk_top (t b : Int) : (mk t b).1.natAbs ≤ t.natAbs := by
  have h := (div_abs t (Int.gcd t b : Int)).resolve_right (fun z => z (gd1 t b))
  unfold mk
  split
  · show (-(t / (Int.gcd t b : Int))).natAbs ≤ _
    rw [Int.natAbs_neg]
    exact h
  · exact h
theorem mk_bot (t b : Int) : (mk t b).2.natAbs ≤ b.natAbs := by
  have h := (div_abs b (Int.gcd t b : Int)).resolve_right (fun z => z (gd2 t b))
  unfold mk
  split
  · show (-(b / (Int.gcd t b : Int))).natAbs ≤ _
    rw [Int.natAbs_neg]
    exact h
  · exact h
theorem mk_sz {t b : Int} {n : Nat} (h : b ≠ 0) (ht : t.natAbs < 2 ^ n) (hb : b.natAbs < 2 ^ n) : Sz n (mk t b) := ⟨Nat.lt_of_le_of_lt (mk_top t b) ht, mk_pos h, Nat.lt_of_le_of_lt (mk_bot t b) hb⟩
theorem lt_mul {i j : Int} {a b : Nat} (ha : i.natAbs < 2 ^ a) (hb : j.natAbs < 2 ^ b) : (i * j).natAbs < 2 ^ (a + b) := by
  rw [Int.natAbs_mul, Nat.pow_add]
  exact Nat.mul_lt_mul'' ha hb
theorem lt_add {i j : Int} {a b : Nat} (ha : i.natAbs < 2 ^ a) (hb : j.natAbs < 2 ^ b) : (i + j).natAbs < 2 ^ (max a b + 1) := by
  have h1 : 2 ^ a ≤ 2 ^ max a b := Nat.pow_le_pow_right (by decide) (Nat.le_max_left _ _)
  have h2 : 2 ^ b ≤ 2 ^ max a b := Nat.pow_le_pow_right (by decide) (Nat.le_max_right _ _)
  have h3 : (i + j).natAbs ≤ i.natAbs + j.natAbs := Int.natAbs_add_le i j
  rw [Nat.pow_succ]
  omega
theorem lt_sub {i j : Int} {a b : Nat} (ha : i.natAbs < 2 ^ a) (hb : j.natAbs < 2 ^ b) : (i - j).natAbs < 2 ^ (max a b + 1) := by
  have := lt_add (j := -j) ha (by rw [Int.natAbs_neg]; exact hb)
  rw [Int.sub_eq_add_neg]
  exact this
theorem log_lt {n k : Nat} (h0 : 0 < k) (h : n < 2 ^ k) : n.log2 < k := by
  by_cases hn : n = 0
  · subst hn
    simpa using h0
  · exact (Nat.log2_lt hn).mpr h
theorem gcd_log {t b : Int} {k : Nat} (h0 : 0 < k) (hb : b ≠ 0) (h : b.natAbs < 2 ^ k) : (Int.gcd t b).log2 < k :=
  log_lt h0 (Nat.lt_of_le_of_lt (Nat.le_of_dvd (Int.natAbs_pos.mpr hb) (Int.gcd_dvd_natAbs_right t b)) h)
/-! the operations -/
def plus (a b : Fr) : Fr := mk (a.1 * b.2 + b.1 * a.2) (a.2 * b.2)
def minus (a b : Fr) : Fr := mk (a.1 * b.2 - b.1 * a.2) (a.2 * b.2)
def times (a b : Fr) : Fr := mk (a.1 * b.1) (a.2 * b.2)
def over (a b : Fr) : Fr := mk (a.1 * b.2) (a.2 * b.1)
def under (a b : Fr) : Bool := decide (a.1 * b.2 < b.1 * a.2)
theorem mul_ne {a b : Int} (ha : a ≠ 0) (hb : b ≠ 0) : a * b ≠ 0 := Int.mul_ne_zero ha hb
theorem plus_sz {a b : Fr} {n m : Nat} (ha : Sz n a) (hb : Sz m b) : Sz (n + m + 1) (plus a b) := by
  have h1 := lt_mul ha.top hb.bot
  have h2 := lt_mul hb.top ha.bot
  have h3 := lt_add h1 h2
  have h4 := lt_mul ha.bot hb.bot
  refine mk_sz (mul_ne (by have := ha.pos; omega) (by have := hb.pos; omega)) (Nat.lt_of_lt_of_le h3 (Nat.pow_le_pow_right (by decide) (by omega))) (Nat.lt_of_lt_of_le h4 (Nat.pow_le_pow_right (by decide) (by omega)))
theorem minus_sz {a b : Fr} {n m : Nat} (ha : Sz n a) (hb : Sz m b) : Sz (n + m + 1) (minus a b) := by
  have h1 := lt_mul ha.top hb.bot
  have h2 := lt_mul hb.top ha.bot
  have h3 := lt_sub h1 h2
  have h4 := lt_mul ha.bot hb.bot
  refine mk_sz (mul_ne (by have := ha.pos; omega) (by have := hb.pos; omega)) (Nat.lt_of_lt_of_le h3 (Nat.pow_le_pow_right (by decide) (by omega))) (Nat.lt_of_lt_of_le h4 (Nat.pow_le_pow_right (by decide) (by omega)))
theorem times_sz {a b : Fr} {n m : Nat} (ha : Sz n a) (hb : Sz m b) : Sz (n + m) (times a b) :=
  mk_sz (mul_ne (by have := ha.pos; omega) (by have := hb.pos; omega)) (lt_mul ha.top hb.top) (lt_mul ha.bot hb.bot)
theorem over_sz {a b : Fr} {n m : Nat} (ha : Sz n a) (hb : Sz m b) (h : b.1 ≠ 0) : Sz (n + m) (over a b) :=
  mk_sz (mul_ne (by have := ha.pos; omega) h) (lt_mul ha.top hb.bot) (lt_mul ha.bot hb.top)
theorem plus_ok {a b : Fr} (ha : 0 < a.2) (hb : 0 < b.2) : Ok (plus a b) := mk_ok (mul_ne (by omega) (by omega))
theorem minus_ok {a b : Fr} (ha : 0 < a.2) (hb : 0 < b.2) : Ok (minus a b) := mk_ok (mul_ne (by omega) (by omega))
theorem times_ok {a b : Fr} (ha : 0 < a.2) (hb : 0 < b.2) : Ok (times a b) := mk_ok (mul_ne (by omega) (by omega))
theorem over_ok {a b : Fr} (ha : 0 < a.2) (hb : b.1 ≠ 0) : Ok (over a b) := mk_ok (mul_ne (by omega) hb)
end Fm
/-! ## fractions as rational numbers -/
namespace Fm
def fr (q : Rat) : Fr := (q.num, (q.den : Int))
theorem fr_inj {p q : Rat} (h : fr p = fr q) : p = q := by
  unfold fr at h
  injection h with h1 h2
  exact Rat.ext h1 (by omega)
theorem fr_pos (q : Rat) : 0 < (fr q).2 := by
  have := q.den_pos
  show (0 : Int) < (q.den : Int)
  omega
theorem ok_fr {a : Fr} (h : Ok a) : ∃ q : Rat, a = fr q := by
  obtain ⟨t, b⟩ := a
  have hp : 0 < b := h.pos
  have hl : Int.gcd t b = 1 := h.low
  refine ⟨⟨t, b.toNat, by omega, ?_⟩, ?_⟩
  · have e : b.natAbs = b.toNat := by omega
    rw [← e]
    exact hl
  · show (t, b) = (t, ((b.toNat : Nat) : Int))
    rw [Int.toNat_of_nonneg (by omega)]
theorem fr_val (q : Rat) : ((fr q).1 : Rat) / ((fr q).2 : Rat) = q := by
  show (q.num : Rat) / ((q.den : Int) : Rat) = q
  rw [← Rat.divInt_eq_div]
  exact Rat.num_divInt_den q
theorem div_cross {a b c d : Int} (hb : b ≠ 0) (hd : d ≠ 0) : (a : Rat) / (b : Rat) = (c : Rat) / (d : Rat) ↔ a * d = c * b := by
  rw [← Rat.divInt_eq_div, ← Rat.divInt_eq_div]
  exact Rat.divInt_eq_divInt_iff hb hd
theorem mk_rat {t b : Int} (h : b ≠ 0) : mk t b = fr ((t : Rat) / (b : Rat)) := by
  obtain ⟨q, hq⟩ := ok_fr (mk_ok (t := t) h)
  rw [hq]
  congr 1
  have hc := mk_cross t b
  have hp := mk_pos (t := t) h
  rw [hq] at hc hp
  rw [← fr_val q]
  exact (div_cross (by omega) h).mpr hc
theorem ne_of_pos {b : Int} (h : 0 < b) : (b : Rat) ≠ 0 := by
  intro e
  have := Rat.intCast_pos.mpr h
  rw [e] at this
  exact Rat.lt_irrefl this
theorem ne_cast {b : Int} (h : b ≠ 0) : (b : Rat) ≠ 0 := fun e => h (by
  have e2 : ((b : Rat)).num = (0 : Rat).num := by rw [e]
  simpa using e2)
theorem plus_fr (p q : Rat) : plus (fr p) (fr q) = fr (p + q) := by
  have hp := fr_pos p
  have hq := fr_pos q
  have h1 := ne_of_pos hp
  have h2 := ne_of_pos hq
  unfold plus
  rw [mk_rat (mul_ne (by omega) (by omega))]
  congr 1
  conv => rhs; rw [← fr_val p, ← fr_val q]
  generalize (fr p).1 = a at *
  generalize (fr p).2 = b at *
  generalize (fr q).1 = c at *
  generalize (fr q).2 = d at *
  simp only [Rat.intCast_add, Rat.intCast_mul]
  grind
theorem minus_fr (p q : Rat) : minus (fr p) (fr q) = fr (p - q) := by
  have hp := fr_pos p
  have hq := fr_pos q
  have h1 := ne_of_pos hp
  have h2 := ne_of_pos hq
  unfold minus
  rw [mk_rat (mul_ne (by omega) (by omega))]
  congr 1
  conv => rhs; rw [← fr_val p, ← fr_val q]
  generalize (fr p).1 = a at *
  generalize (fr p).2 = b at *
  generalize (fr q).1 = c at *
  generalize (fr q).2 = d at *
  simp only [Rat.intCast_sub, Rat.intCast_mul]
  grind
theorem times_fr (p q : Rat) : times (fr p) (fr q) = fr (p * q) := by
  have hp := fr_pos p
  have hq := fr_pos q
  have h1 := ne_of_pos hp
  have h2 := ne_of_pos hq
  unfold times
  rw [mk_rat (mul_ne (by omega) (by omega))]
  congr 1
  conv => rhs; rw [← fr_val p, ← fr_val q]
  generalize (fr p).1 = a at *
  generalize (fr p).2 = b at *
  generalize (fr q).1 = c at *
  generalize (fr q).2 = d at *
  simp only [Rat.intCast_mul]
  grind
theorem fr_zero {q : Rat} : (fr q).1 = 0 ↔ q = 0 := by
  show q.num = 0 ↔ q = 0
  exact Rat.num_eq_zero
theorem over_fr {p q : Rat} (h : q ≠ 0) : over (fr p) (fr q) = fr (p / q) := by
  have hp := fr_pos p
  have hq := fr_pos q
  have h1 := ne_of_pos hp
  have h2 := ne_of_pos hq
  have h0 : (fr q).1 ≠ 0 := fun e => h (fr_zero.mp e)
  have h3 := ne_cast h0
  unfold over
  rw [mk_rat (mul_ne (by omega) h0)]
  congr 1
  conv => rhs; rw [← fr_val p, ← fr_val q]
  generalize (fr p).1 = a at *
  generalize (fr p).2 = b at *
  generalize (fr q).1 = c at *
  generalize (fr q).2 = d at *
  simp only [Rat.intCast_mul]
  grind
theorem under_fr (p q : Rat) : under (fr p) (fr q) = decide (p < q) := by
  unfold under fr
  exact decide_eq_decide.mpr (Rat.lt_iff p q).symm
theorem fr_int (n : Int) : fr (n : Rat) = (n, 1) := by
  unfold fr
  rw [Rat.num_intCast, Rat.den_intCast]
  rfl
theorem sz_div {n D : Int} {k : Nat} (hD : D ≠ 0) (hn : n.natAbs < 2 ^ k) (hd : D.natAbs < 2 ^ k) : Sz k (fr ((n : Rat) / (D : Rat))) := by
  rw [← mk_rat hD]
  exact mk_sz hD hn hd
/-- q, a whole number of D-th parts -/
def up (D : Nat) (q : Rat) : Int := q.num * (D / q.den : Nat)
theorem up_val {D : Nat} {q : Rat} (h : q.den ∣ D) (hD : 0 < D) : q = (up D q : Rat) / ((D : Int) : Rat) := by
  obtain ⟨c, rfl⟩ := h
  have hc : 0 < c := by
    rcases Nat.eq_zero_or_pos c with z | z
    · subst z; simp at hD
    · exact z
  have h1 : ((q.den : Int) : Rat) ≠ 0 := ne_of_pos (by have := q.den_pos; omega)
  have h2 : ((c : Int) : Rat) ≠ 0 := ne_of_pos (by omega)
  unfold up
  rw [Nat.mul_div_cancel_left _ q.den_pos]
  conv => lhs; rw [← fr_val q]
  show (q.num : Rat) / ((q.den : Int) : Rat) = _
  rw [Int.natCast_mul]
  simp only [Rat.intCast_mul]
  grind
theorem up_abs {D t d : Nat} {q : Rat} (hq : q.num.natAbs < 2 ^ t) (hD : D < 2 ^ d) : (up D q).natAbs < 2 ^ (t + d) := by
  unfold up
  rw [Int.natAbs_mul, Nat.pow_add]
  refine Nat.mul_lt_mul'' hq (Nat.lt_of_le_of_lt ?_ hD)
  exact Nat.div_le_self _ _
theorem sum_val {D : Nat} (hD : 0 < D) : ∀ {qs : List Rat}, (∀ q ∈ qs, q.den ∣ D) → qs.sum = ((qs.map (up D)).sum : Rat) / ((D : Int) : Rat)
  | [], _ => by
    show (0 : Rat) = ((0 : Int) : Rat) / _
    rw [Rat.intCast_zero, Rat.div_def, Rat.zero_mul]
  | q :: qs, h => by
    have hd : ((D : Int) : Rat) ≠ 0 := ne_of_pos (by omega)
    have e1 := up_val (h q (.head _)) hD
    have e2 := sum_val hD (qs := qs) fun x hx => h x (.tail _ hx)
    rw [List.map_cons, List.sum_cons, List.sum_cons, e2]
    conv => lhs; rw [e1]
    rw [Rat.intCast_add]
    grind
theorem sum_abs {M : Nat} : ∀ {zs : List Int}, (∀ z ∈ zs, z.natAbs < M) → zs.sum.natAbs ≤ zs.length * M
  | [], _ => by simp
  | z :: zs, h => by
    have h1 := h z (.head _)
    have h2 := sum_abs (zs := zs) fun x hx => h x (.tail _ hx)
    rw [List.sum_cons, List.length_cons, Nat.succ_mul]
    have := Int.natAbs_add_le z zs.sum
    omega
theorem sum_sz {D t d : Nat} (hD : 0 < D) (hd : D < 2 ^ d) {qs : List Rat} (h1 : ∀ q ∈ qs, q.den ∣ D) (h2 : ∀ q ∈ qs, q.num.natAbs < 2 ^ t) (hl : qs.length < 2 ^ 20) : Sz (t + d + 20) (fr qs.sum) := by
  rw [sum_val hD h1]
  refine sz_div (by omega) ?_ ?_
  · have h := sum_abs (M := 2 ^ (t + d)) (zs := qs.map (up D)) fun z hz => by
      obtain ⟨q, hq, rfl⟩ := List.mem_map.mp hz
      exact up_abs (h2 q hq) hd
    rw [List.length_map] at h
    have h3 : qs.length * 2 ^ (t + d) < 2 ^ 20 * 2 ^ (t + d) := Nat.mul_lt_mul_of_pos_right hl (Nat.pow_pos (by decide))
    rw [show t + d + 20 = 20 + (t + d) by omega, Nat.pow_add]
    omega
  · have : 2 ^ d ≤ 2 ^ (t + d + 20) := Nat.pow_le_pow_right (by decide) (by omega)
    omega
theorem sz_fr {q : Rat} {n : Nat} (h1 : q.num.natAbs < 2 ^ n) (h2 : q.den < 2 ^ n) : Sz n (fr q) := ⟨h1, fr_pos q, by show ((q.den : Int)).natAbs < _; omega⟩
end Fm

namespace Ip
open PySem L2 PySem.Spec
/-! ### data of fractions -/
def fd (a : Int × Int) : Dt := .tup [.int a.1, .int a.2]
def fq (q : Rat) : Dt := fd (Fm.fr q)
theorem fq_zero : fq 0 = .tup [.int 0, .int 1] := rfl
theorem fq_int (n : Int) : fq (n : Rat) = .tup [.int n, .int 1] := by
  unfold fq
  rw [Fm.fr_int]
  rfl
/-- fractions over one common bottom -/
structure Summing (t d : Nat) (qs : List Rat) : Prop where
  ex : ∃ D : Nat, 0 < D ∧ D < 2 ^ d ∧ ∀ q ∈ qs, q.den ∣ D
  top : ∀ q ∈ qs, q.num.natAbs < 2 ^ t
  len : qs.length < 2 ^ 20
  sml : 2 * (t + d) ≤ 8000
theorem Summing.take {t d : Nat} {qs : List Rat} (h : Summing t d qs) (i : Nat) : Fm.Sz (t + d + 20) (Fm.fr (qs.take i).sum) := by
  obtain ⟨D, h0, h1, h2⟩ := h.ex
  exact Fm.sum_sz h0 h1 (fun q hq => h2 q (List.mem_of_mem_take hq)) (fun q hq => h.top q (List.mem_of_mem_take hq)) (Nat.lt_of_le_of_lt (List.length_take_le' _ _) h.len)
theorem Summing.sz {t d : Nat} {qs : List Rat} (h : Summing t d qs) : Fm.Sz (t + d + 20) (Fm.fr qs.sum) := by
  have := h.take qs.length
  rwa [List.take_length] at this
theorem Summing.one {t d : Nat} {qs : List Rat} (h : Summing t d qs) {q : Rat} (hq : q ∈ qs) : Fm.Sz (t + d + 1) (Fm.fr q) := by
  obtain ⟨D, h0, h1, h2⟩ := h.ex
  refine Fm.sz_fr (Nat.lt_of_lt_of_le (h.top q hq) (Nat.pow_le_pow_right (by decide) (by omega))) ?_
  have := Nat.le_of_dvd h0 (h2 q hq)
  have : 2 ^ d ≤ 2 ^ (t + d + 1) := Nat.pow_le_pow_right (by decide) (by omega)
  omega
theorem sum_take {qs : List Rat} {i : Nat} {q : Rat} (h : qs[i]? = some q) : (qs.take (i + 1)).sum = (qs.take i).sum + q := by
  have sum_app : ∀ l : List Rat, (l ++ [q]).sum = l.sum + q := fun l => by
    induction l with
    | nil => show q + 0 = 0 + q; rw [Rat.add_comm]
    | cons a l ih => rw [List.cons_append, List.sum_cons, ih, List.sum_cons, Rat.add_assoc]
  rw [List.take_add_one, h]
  exact sum_app _
theorem hd_fq (q : Rat) : Dt.hard 1 (fq q) := hard_tup fun d hd => by
  simp only [List.mem_cons, List.mem_nil_iff, or_false] at hd
  rcases hd with rfl | rfl <;> exact hard_int
theorem hd_fqs (qs : List Rat) : Hd (.lst (qs.map fq)) := ⟨2, by decide, hard_lst fun d hd => by
  obtain ⟨q, _, rfl⟩ := List.mem_map.mp hd
  exact hd_fq q⟩
theorem fqs_nil (qs : List Rat) : Dt.lst (qs.map fq) = .lst [] ↔ qs = [] := by
  rw [Dt.lst.injEq]
  simp
theorem cut_ints0 (ns : List Int) (u v : Option Int) : ∃ cs : List Int, cutD (ns.map Dt.int) u v = cs.map Dt.int ∧ cs.length ≤ ns.length := by
  unfold cutD
  rw [List.length_map, ← List.map_drop, ← List.map_take]
  refine ⟨_, rfl, ?_⟩
  rw [List.length_take, List.length_drop]
  omega
theorem perm_sum {xs ys : List Rat} (h : xs.Perm ys) : xs.sum = ys.sum := by
  induction h with
  | nil => rfl
  | cons x _ ih => rw [List.sum_cons, List.sum_cons, ih]
  | swap x y l => rw [List.sum_cons, List.sum_cons, List.sum_cons, List.sum_cons, ← Rat.add_assoc, ← Rat.add_assoc, Rat.add_comm x y]
  | trans _ _ h1 h2 => exact h1.trans h2
theorem Summing.perm {t d : Nat} {xs ys : List Rat} (h : Summing t d xs) (p : ys.Perm xs) : Summing t d ys := by
  obtain ⟨⟨D, h1, h2, h3⟩, h4, h5, h6⟩ := h
  exact ⟨⟨D, h1, h2, fun q hq => h3 q (p.mem_iff.mp hq)⟩, fun q hq => h4 q (p.mem_iff.mp hq), by rw [p.length_eq]; exact h5, h6⟩
theorem fq_inj (p q : Rat) (h : fq p = fq q) : p = q := by
  apply Fm.fr_inj
  unfold fq fd at h
  injection h with h
  injection h with h1 h2
  injection h2 with h2
  injection h1 with h1
  injection h2 with h2
  exact Prod.ext h1 h2
/-- a fraction, or none -/
def oq : Option Rat → Dt
  | none => .non
  | some q => fq q
def OSz (n : Nat) (os : List (Option Rat)) : Prop := ∀ b, some b ∈ os → Fm.Sz n (Fm.fr b)
theorem take_snoc_all {α : Type} {P : α → Prop} {l : List α} {i : Nat} {x : α} (h : l[i]? = some x) (hp : ∀ y ∈ l.take i, P y) (hx : P x) : ∀ y ∈ l.take (i + 1), P y := fun y hy => by
  rw [List.take_add_one, h] at hy
  rcases List.mem_append.mp hy with z | z
  · exact hp y z
  · rw [show y = x by simpa using z]
    exact hx
theorem dens_mul {n : Nat} : ∀ {qs : List Rat}, (∀ q ∈ qs, Fm.Sz n (Fm.fr q)) → ∃ D : Nat, 0 < D ∧ D ≤ 2 ^ (n * qs.length) ∧ ∀ q ∈ qs, q.den ∣ D
  | [], _ => ⟨1, by decide, Nat.one_le_two_pow, fun q hq => by cases hq⟩
  | q :: qs, h => by
    obtain ⟨D, h0, h1, h2⟩ := dens_mul (qs := qs) fun x hx => h x (.tail _ hx)
    have hq := (h q (.head _)).bot
    have hq : q.den < 2 ^ n := by
      have : ((q.den : Int)).natAbs < 2 ^ n := hq
      omega
    refine ⟨q.den * D, Nat.mul_pos q.den_pos h0, ?_, fun x hx => ?_⟩
    · rw [List.length_cons, Nat.mul_succ, Nat.add_comm, Nat.pow_add]
      exact Nat.mul_le_mul (Nat.le_of_lt hq) h1
    · rcases List.mem_cons.mp hx with rfl | hx
      · exact Nat.dvd_mul_right _ _
      · exact Nat.dvd_trans (h2 x hx) (Nat.dvd_mul_left _ _)
theorem summing_of {n L : Nat} {qs : List Rat} (h : ∀ q ∈ qs, Fm.Sz n (Fm.fr q)) (hl : qs.length ≤ L) (hL : L < 1000) (hb : n + (n * L + 1) ≤ 4000) : Summing n (n * L + 1) qs := by
  obtain ⟨D, h0, h1, h2⟩ := dens_mul h
  refine ⟨⟨D, h0, ?_, h2⟩, fun q hq => (h q hq).top, by omega, by omega⟩
  have e1 : 2 ^ (n * qs.length) ≤ 2 ^ (n * L) := Nat.pow_le_pow_right (by decide) (Nat.mul_le_mul_left _ hl)
  have e2 : 2 ^ (n * L) < 2 ^ (n * L + 1) := Nat.pow_lt_pow_right (by decide) (by omega)
  omega

end Ip

namespace Ip
open PySem L2 PySem.Spec
/-! ## contracts of defs -/
section
variable {P : Pg} {k f : Nat} {fd : FD} {as : List Dt} {s s1 : Sto} {d e : Dt}
theorem cp_of (hk : 2 ≤ k) (h : P.fns[f]? = some fd) (hl : as.length = fd.np) (hf : Dt.frs as = true) (hr : ∀ j, k = j + 2 → exS P (runF P (j + 1)) (runF P j) fd.b none (as.map some ++ List.replicate (fd.nz - fd.np) none) [] = .rt d s1) (hd : rslv s1 4 d = some e) : callP (runF P k) f as s = .ok e s := by
  obtain ⟨j, rfl⟩ : ∃ j, k = j + 2 := ⟨k - 2, by omega⟩
  refine callP_fr hf ?_ hd
  rw [run_eq h hl, hr j rfl]
  rfl
theorem cp_fr (hk : 2 ≤ k) (h : P.fns[f]? = some fd) (hl : as.length = fd.np) (hf : Dt.frs as = true) (hd : d.fr = true) (hr : ∀ j, k = j + 2 → exS P (runF P (j + 1)) (runF P j) fd.b none (as.map some ++ List.replicate (fd.nz - fd.np) none) [] = .rt d s1) : callP (runF P k) f as s = .ok d s := cp_of hk h hl hf hr (rslv_fr hd)
theorem cp_er {c : Nat} {l1 : Loc} (hk : 2 ≤ k) (h : P.fns[f]? = some fd) (hl : as.length = fd.np) (hf : Dt.frs as = true) (hr : ∀ j, k = j + 2 → exS P (runF P (j + 1)) (runF P j) fd.b none (as.map some ++ List.replicate (fd.nz - fd.np) none) [] = .er ⟨c, []⟩ l1 s1) : callP (runF P k) f as s = .er ⟨c, []⟩ s := by
  obtain ⟨j, rfl⟩ : ∃ j, k = j + 2 := ⟨k - 2, by omega⟩
  refine callP_frE (s1 := s1) hf ?_
  rw [run_eq h hl, hr j rfl]
  rfl
theorem run_of (hk : 2 ≤ k) (h : P.fns[f]? = some fd) (hl : as.length = fd.np) (hr : ∀ j, k = j + 2 → exS P (runF P (j + 1)) (runF P j) fd.b none (as.map some ++ List.replicate (fd.nz - fd.np) none) s = .rt d s1) : runF P k f as s = .ok d s1 := by
  obtain ⟨j, rfl⟩ : ∃ j, k = j + 2 := ⟨k - 2, by omega⟩
  rw [run_eq h hl, hr j rfl]
  rfl
end
theorem rslv_lst {s : Sto} {i n : Nat} {l : List Dt} (h : s[i]? = some (.lst l)) (hl : Dt.frs l = true) : rslv s (n + 1) (.obj i) = some (.lst l) := by
  unfold rslv
  rw [if_neg (show ¬ (Dt.obj i).fr = true from fun z => by cases z)]
  dsimp only
  rw [h]
  dsimp only
  have key : ∀ l : List Dt, Dt.frs l = true → l.mapM (rslv s n) = some l := fun l => by
    induction l with
    | nil => intro _; rfl
    | cons d l ih =>
      intro hl
      have h' : (d.fr && Dt.frs l) = true := hl
      rw [Bool.and_eq_true] at h'
      rw [List.mapM_cons, rslv_fr h'.1, ih h'.2]
      rfl
  rw [key l hl]
  rfl
theorem fr_lst {l : List Dt} (h : Dt.frs l = true) : (Dt.lst l).fr = true := h
theorem fr_tup {l : List Dt} (h : Dt.frs l = true) : (Dt.tup l).fr = true := h
theorem fr_fq (q : Rat) : (fq q).fr = true := rfl
theorem frs_fqs (qs : List Rat) : Dt.frs (qs.map fq) = true := frs_map fr_fq qs
theorem frs_ints (ns : List Int) : Dt.frs (ns.map Dt.int) = true := frs_map (fun _ => rfl) ns
theorem frs_cons {d : Dt} {ds : List Dt} (h1 : d.fr = true) (h2 : Dt.frs ds = true) : Dt.frs (d :: ds) = true := by
  show (d.fr && Dt.frs ds) = true
  rw [h1, h2]
  rfl
theorem frs_nil : Dt.frs [] = true := rfl
theorem ix_fq0 {q : Rat} {s : Sto} : ixS (fq q) (.int 0) s = .ok (.int q.num) s := rfl
theorem ix_fq1 {q : Rat} {s : Sto} : ixS (fq q) (.int 1) s = .ok (.int (q.den : Int)) s := rfl
theorem ix_lst {l : List Dt} {i : Int} {d : Dt} {s : Sto} (h : atI l i = some d) : ixS (.lst l) (.int i) s = .ok d s := by
  show withO (atI l i) _ _ = _
  rw [h]
  rfl
theorem ix_nat {l : List Dt} {i : Nat} {d : Dt} {s : Sto} (h : l[i]? = some d) : ixS (.lst l) (.int (i : Nat)) s = .ok d s := ix_lst (atI_nat h)
/-- what a list of ints is, asked by % its length -/
theorem tup2_ok {a b : Dt} {s : Sto} : (if [a, b].length ≤ sizeLine then R.ok (Dt.tup [a, b]) s else R.no) = R.ok (Dt.tup [a, b]) s := if_pos (by rw [sizeLine_eq]; show 2 ≤ 16777216; decide)
theorem len_le (l : List Dt) (h : l.length ≤ 1000) : l.length ≤ sizeLine := by rw [sizeLine_eq]; omega
theorem le_sz {n : Nat} (h : n ≤ 10000) : (n ≤ sizeLine) = True := by rw [sizeLine_eq]; exact eq_true (by omega)
theorem lt_sz {n : Nat} (h : n ≤ 10000) : (n < sizeLine) = True := by rw [sizeLine_eq]; exact eq_true (by omega)
/-! ### sizes of whole numbers -/
theorem sz_const {i : Int} {n : Nat} (h : i.natAbs < 2 ^ n) {m : Nat} (hm : n ≤ m) : i.natAbs < 2 ^ m := Nat.lt_of_lt_of_le h (Nat.pow_le_pow_right (by decide) hm)

/-! ### loops over ranges and mapped lists -/
theorem dRange_get {lo : Int} {n i : Nat} (h : i < (dRange lo n).length) : (dRange lo n)[i] = .int (lo + (i : Nat)) := by
  have h' : i < n := by rw [dRange_len] at h; exact h
  have e : (dRange lo n)[i]? = some (.int (lo + (i : Nat))) := by
    unfold dRange
    rw [List.getElem?_map, List.getElem?_range h']
    rfl
  rw [List.getElem?_eq_getElem h] at e
  exact Option.some.inj e
theorem forR_inv {f : Dt → Loc → Sto → O} {lo : Int} {n : Nat} (I : Nat → Loc → Sto → Prop) (step : ∀ i, i < n → ∀ l s, I i l s → ∃ l' s', f (.int (lo + (i : Nat))) l s = .nx l' s' ∧ I (i + 1) l' s') {l : Loc} {s : Sto} (h0 : I 0 l s) :
    ∃ l' s', forL f (dRange lo n) l s = .nx l' s' ∧ I n l' s' := by
  have h := forL_inv (f := f) (ds := dRange lo n) I (fun i h l s hi => by
    rw [dRange_get h]
    exact step i (by rw [dRange_len] at h; exact h) l s hi) h0
  rwa [dRange_len] at h
theorem forR_or {f : Dt → Loc → Sto → O} {lo : Int} {n : Nat} (I : Nat → Loc → Sto → Prop) (Z : Dt → Sto → Prop) (step : ∀ i, i < n → ∀ l s, I i l s → (∃ l' s', f (.int (lo + (i : Nat))) l s = .nx l' s' ∧ I (i + 1) l' s') ∨ ∃ d s', f (.int (lo + (i : Nat))) l s = .rt d s' ∧ Z d s') {l : Loc} {s : Sto} (h0 : I 0 l s) :
    (∃ l' s', forL f (dRange lo n) l s = .nx l' s' ∧ I n l' s') ∨ ∃ d s', forL f (dRange lo n) l s = .rt d s' ∧ Z d s' := by
  have h := forL_or (f := f) (ds := dRange lo n) I Z (fun i h l s hi => by
    rw [dRange_get h]
    exact step i (by rw [dRange_len] at h; exact h) l s hi) h0
  rwa [dRange_len] at h
/-- range(n) -/
theorem forN_inv {f : Dt → Loc → Sto → O} {n : Nat} (I : Nat → Loc → Sto → Prop) (step : ∀ i, i < n → ∀ l s, I i l s → ∃ l' s', f (.int (i : Nat)) l s = .nx l' s' ∧ I (i + 1) l' s') {l : Loc} {s : Sto} (h0 : I 0 l s) :
    ∃ l' s', forL f (dRange 0 n) l s = .nx l' s' ∧ I n l' s' := forR_inv I (fun i hi l s h => by rw [Int.zero_add]; exact step i hi l s h) h0
theorem forN_or {f : Dt → Loc → Sto → O} {n : Nat} (I : Nat → Loc → Sto → Prop) (Z : Dt → Sto → Prop) (step : ∀ i, i < n → ∀ l s, I i l s → (∃ l' s', f (.int (i : Nat)) l s = .nx l' s' ∧ I (i + 1) l' s') ∨ ∃ d s', f (.int (i : Nat)) l s = .rt d s' ∧ Z d s') {l : Loc} {s : Sto} (h0 : I 0 l s) :
    (∃ l' s', forL f (dRange 0 n) l s = .nx l' s' ∧ I n l' s') ∨ ∃ d s', forL f (dRange 0 n) l s = .rt d s' ∧ Z d s' := forR_or I Z (fun i hi l s h => by rw [Int.zero_add]; exact step i hi l s h) h0
theorem forM_inv {α : Type} {g : α → Dt} {f : Dt → Loc → Sto → O} {xs : List α} (I : Nat → Loc → Sto → Prop) (step : ∀ i (h : i < xs.length) l s, I i l s → ∃ l' s', f (g xs[i]) l s = .nx l' s' ∧ I (i + 1) l' s') {l : Loc} {s : Sto} (h0 : I 0 l s) :
    ∃ l' s', forL f (xs.map g) l s = .nx l' s' ∧ I xs.length l' s' := by
  have h := forL_inv (f := f) (ds := xs.map g) I (fun i h l s hi => by
    rw [List.getElem_map]
    exact step i (by rw [List.length_map] at h; exact h) l s hi) h0
  rwa [List.length_map] at h
theorem forM_or {α : Type} {g : α → Dt} {f : Dt → Loc → Sto → O} {xs : List α} (I : Nat → Loc → Sto → Prop) (Z : Dt → Sto → Prop) (step : ∀ i (h : i < xs.length) l s, I i l s → (∃ l' s', f (g xs[i]) l s = .nx l' s' ∧ I (i + 1) l' s') ∨ ∃ d s', f (g xs[i]) l s = .rt d s' ∧ Z d s') {l : Loc} {s : Sto} (h0 : I 0 l s) :
    (∃ l' s', forL f (xs.map g) l s = .nx l' s' ∧ I xs.length l' s') ∨ ∃ d s', forL f (xs.map g) l s = .rt d s' ∧ Z d s' := by
  have h := forL_or (f := f) (ds := xs.map g) I Z (fun i h l s hi => by
    rw [List.getElem_map]
    exact step i (by rw [List.length_map] at h; exact h) l s hi) h0
  rwa [List.length_map] at h
theorem rng1_ok {n : Nat} {s : Sto} (h : n < 2 ^ 62) : rngS1 (.int (n : Nat)) s = .ok (.pl (dRange 0 n)) s := by
  unfold rngS1
  rw [asI_int, if_pos ⟨by omega, by omega⟩, Int.toNat_natCast]
theorem rng2_ok {a b : Nat} {s : Sto} (h : a < 2 ^ 62) (h2 : b < 2 ^ 62) : rngS2 (.int (a : Nat)) (.int (b : Nat)) s = .ok (.pl (dRange (a : Nat) (b - a))) s := by
  unfold rngS2
  rw [asI_int, asI_int, if_pos ⟨by omega, by omega, by omega, by omega⟩, show ((b : Int) - (a : Int)).toNat = b - a by omega]
/-- append to a live list -/
theorem q_app {P : Pg} {C C' : Cl} {h : Option Er} {l : Loc} {s s1 : Sto} {e : E} {r : S} {x : Dt} {i n : Nat} {acc : List Dt} (hl : l[i]? = some (some (.obj n))) (he : evE P C h e l s = .ok x s1) (hs : s[n]? = some (.lst acc)) (hs1 : s1[n]? = some (.lst acc)) (hz : acc.length < sizeLine) :
    exS P C C' (.seq (.ex (.mt .append (.var i) (.cons e .nil))) r) h l s = exS P C C' r h l (s1.set n (.lst (acc ++ [x]))) := by
  have rc : rcv .append (.obj n) s = true := by
    show (match viewO s[n]? n with
      | .lst _ => true
      | _ => false) = true
    rw [hs]
    rfl
  have mt : mtS .append (.obj n) [x] s1 = .ok .non (s1.set n (.lst (acc ++ [x]))) := by
    show (match s1[n]? with
      | some (.lst l) => if l.length < sizeLine then R.ok Dt.non (s1.set n (.lst (l ++ [x]))) else .no
      | _ => .no) = _
    rw [hs1]
    dsimp only
    rw [if_pos hz]
  refine q_ex (d := .non) ?_
  simp only [evE, evA, hl, getL_some, R.bind_ok, rc, if_true, he, mt]
theorem mkL_t (l : List Dt) (s : Sto) : mkL true l s = .ok (.obj s.length) (s ++ [.lst l]) := rfl
theorem mkL_f (l : List Dt) (s : Sto) : mkL false l s = .ok (.lst l) s := rfl
theorem len_obj {s : Sto} {n : Nat} {l : List Dt} (h : s[n]? = some (.lst l)) : biS .len false [.obj n] s = .ok (.int (l.length : Nat)) s := by
  have e : view s (.obj n) = .lst l := by
    show viewO s[n]? n = _
    rw [h]
    rfl
  unfold biS
  dsimp only
  rw [e]
theorem len_lst {s : Sto} {l : List Dt} : biS .len false [.lst l] s = .ok (.int (l.length : Nat)) s := rfl
theorem ix_obj {s : Sto} {n : Nat} {l : List Dt} {i : Int} {d : Dt} (h : s[n]? = some (.lst l)) (h2 : atI l i = some d) : ixS (.obj n) (.int i) s = .ok d s := by
  have e : view s (.obj n) = .lst l := by
    show viewO s[n]? n = _
    rw [h]
    rfl
  unfold ixS
  rw [e]
  dsimp only
  rw [h2]
  rfl
theorem getE_map {α : Type} {g : α → Dt} {xs : List α} {i : Nat} (h : i < xs.length) : (xs.map g)[i]? = some (g xs[i]) := by
  rw [List.getElem?_map, List.getElem?_eq_getElem h]
  rfl
end Ip

namespace Ip
open PySem L2 PySem.Spec
/-! ## walking by what is wanted -/
structure Fin (Q : O → Prop) (o : O) : Prop where
  go : Q o
theorem Fin.to {Q : O → Prop} {a b : O} (e : a = b) (h : Fin Q b) : Fin Q a := by rw [e]; exact h
/-- what is wanted of a block ahead of a rest -/
def Cn (P : Pg) (C C' : Cl) (h : Option Er) (r : S) (Q : O → Prop) : O → Prop := fun o => Q (o.then fun l s => exS P C C' r h l s)
/-- handed back, resolved -/
def RtZ (Z : Dt → Prop) : O → Prop := fun o => ∃ d s1 e, o = .rt d s1 ∧ rslv s1 4 d = some e ∧ Z e
section
variable {P : Pg} {C C' : Cl} {h : Option Er} {l l1 l2 : Loc} {s s1 s2 : Sto} {e c it : E} {a b r : S} {d : Dt} {i n : Nat} {tg : Tg} {Q : O → Prop} {Z : Dt → Prop} {k : Bool}
theorem fi_seq (ha : Fin (Cn P C C' h r Q) (exS P C C' a h l s)) : Fin Q (exS P C C' (.seq a r) h l s) := ⟨ha.go⟩
theorem fi_skip (ha : Fin Q (exS P C C' r h l s)) : Fin (Cn P C C' h r Q) (exS P C C' .skip h l s) := ⟨ha.go⟩
theorem fi_nx (ha : Fin Q (exS P C C' r h l s)) : Fin (Cn P C C' h r Q) (.nx l s) := ⟨ha.go⟩
theorem fi_rt (ha : Fin Q (.rt d s)) : Fin (Cn P C C' h r Q) (.rt d s) := ⟨ha.go⟩
theorem fi_er {z : Er} (ha : Fin Q (.er z l s)) : Fin (Cn P C C' h r Q) (.er z l s) := ⟨ha.go⟩
theorem fi_if (hc : evE P C h c l s = .ok (.bl k) s1) (ht : k = true → Fin (Cn P C C' h r Q) (exS P C C' a h l s1)) (hf : k = false → Fin (Cn P C C' h r Q) (exS P C C' b h l s1)) : Fin Q (exS P C C' (.seq (.ite c a b) r) h l s) := by
  refine fi_seq ?_
  cases k with
  | true => exact .to (ite_t hc) (ht rfl)
  | false => exact .to (ite_f hc) (hf rfl)
/-- an if whose ways join -/
theorem fi_ifJ (J : Loc → Sto → Prop) (hc : evE P C h c l s = .ok (.bl k) s1) (ht : k = true → ∃ l' s', exS P C C' a h l s1 = .nx l' s' ∧ J l' s') (hf : k = false → ∃ l' s', exS P C C' b h l s1 = .nx l' s' ∧ J l' s') (hj : ∀ l' s', J l' s' → Fin Q (exS P C C' r h l' s')) : Fin Q (exS P C C' (.seq (.ite c a b) r) h l s) := by
  cases k with
  | true =>
    obtain ⟨l', s', e, j⟩ := ht rfl
    exact .to (q_ifT hc e) (hj _ _ j)
  | false =>
    obtain ⟨l', s', e, j⟩ := hf rfl
    exact .to (q_ifE hc e) (hj _ _ j)
theorem fi_for {ds : List Dt} {J : Loc → Sto → Prop} (hi : evI P C h it l s = .ok (.pl ds) s1) (hf : ∃ l' s', forL (bodF P C C' tg b h) ds l s1 = .nx l' s' ∧ J l' s') (hj : ∀ l' s', J l' s' → Fin Q (exS P C C' r h l' s')) : Fin Q (exS P C C' (.seq (.for_ tg it b) r) h l s) := by
  obtain ⟨l', s', e, j⟩ := hf
  exact .to (q_for hi e) (hj _ _ j)
theorem fi_forR {ds : List Dt} {J : Loc → Sto → Prop} {R : Dt → Sto → Prop} (hi : evI P C h it l s = .ok (.pl ds) s1) (hf : (∃ l' s', forL (bodF P C C' tg b h) ds l s1 = .nx l' s' ∧ J l' s') ∨ ∃ d s', forL (bodF P C C' tg b h) ds l s1 = .rt d s' ∧ R d s') (hj : ∀ l' s', J l' s' → Fin Q (exS P C C' r h l' s')) (hr : ∀ d s', R d s' → Fin Q (.rt d s')) : Fin Q (exS P C C' (.seq (.for_ tg it b) r) h l s) := by
  rcases hf with ⟨l', s', e, j⟩ | ⟨d, s', e, j⟩
  · exact .to (q_for hi e) (hj _ _ j)
  · exact .to (q_forR hi e) (hr _ _ j)
theorem fi_forV {ds : List Dt} {ob : Ob} {J : Loc → Sto → Prop} (hi : evI P C h it l s = .ok (.lv n ob ds) s1) (hf : ∃ l' s', forV n ob (bodF P C C' tg b h) ds l s1 = .nx l' s' ∧ J l' s') (hj : ∀ l' s', J l' s' → Fin Q (exS P C C' r h l' s')) : Fin Q (exS P C C' (.seq (.for_ tg it b) r) h l s) := by
  obtain ⟨l', s', e, j⟩ := hf
  exact .to (q_forV hi e) (hj _ _ j)
/-- while: an invariant with a falling number -/
theorem whE_inv (I : Nat → Loc → Sto → Prop) (J : Loc → Sto → Prop) (step : ∀ n l s, I n l s → (∃ s1, evE P C h c l s = .ok (.bl false) s1 ∧ J l s1) ∨ ∃ s1 l' s' n', evE P C h c l s = .ok (.bl true) s1 ∧ exS P C C' b h l s1 = .nx l' s' ∧ n' < n ∧ I n' l' s') :
    ∀ (n : Nat) {l : Loc} {s : Sto}, I n l s → ∃ l' s', whS (fun l s => asB (evE P C h c l s)) (fun l s => exS P C C' b h l s) l s = .nx l' s' ∧ J l' s' := by
  intro n
  induction n using Nat.strongRecOn with
  | ind n ih =>
    intro l s hi
    rcases step n l s hi with ⟨s1, hc, hj⟩ | ⟨s1, l', s', n', hc, hb, hn, h2⟩
    · exact ⟨l, s1, wh_f hc, hj⟩
    · obtain ⟨l2, s2, e, j⟩ := ih n' hn h2
      exact ⟨l2, s2, (wh_t hc hb).trans e, j⟩
theorem fi_whl {J : Loc → Sto → Prop} (hw : ∃ l' s', whS (fun l s => asB (evE P C h c l s)) (fun l s => exS P C C' b h l s) l s = .nx l' s' ∧ J l' s') (hj : ∀ l' s', J l' s' → Fin Q (exS P C C' r h l' s')) : Fin Q (exS P C C' (.seq (.whl c b) r) h l s) := by
  obtain ⟨l', s', e, j⟩ := hw
  exact .to (q_whl e) (hj _ _ j)
theorem fin_fr (hd : d.fr = true) (hz : Z d) : Fin (RtZ Z) (.rt d s) := ⟨⟨d, s, d, rfl, rslv_fr hd, hz⟩⟩
theorem fin_obj {x : List Dt} (hs : s[i]? = some (.lst x)) (hd : Dt.frs x = true) (hz : Z (.lst x)) : Fin (RtZ Z) (.rt (.obj i) s) := ⟨⟨_, s, _, rfl, rslv_lst hs hd, hz⟩⟩
/-- a block within a loop: it goes on, with what holds -/
def NxJ (J : Loc → Sto → Prop) : O → Prop := fun o => ∃ l s, o = .nx l s ∧ J l s
theorem Fin.nx {J : Loc → Sto → Prop} {o : O} (hf : Fin (NxJ J) o) : ∃ l s, o = .nx l s ∧ J l s := hf.go
theorem nx_end {J : Loc → Sto → Prop} (hj : J l s) : Fin (NxJ J) (exS P C C' .skip h l s) := ⟨⟨l, s, rfl, hj⟩⟩
/-- .. or hands back -/
def NxR (J : Loc → Sto → Prop) (R : Dt → Sto → Prop) : O → Prop := fun o => (∃ l s, o = .nx l s ∧ J l s) ∨ ∃ d s, o = .rt d s ∧ R d s
theorem Fin.nr {J : Loc → Sto → Prop} {R : Dt → Sto → Prop} {o : O} (hf : Fin (NxR J R) o) : (∃ l s, o = .nx l s ∧ J l s) ∨ ∃ d s, o = .rt d s ∧ R d s := hf.go
theorem nr_end {J : Loc → Sto → Prop} {R : Dt → Sto → Prop} (hj : J l s) : Fin (NxR J R) (exS P C C' .skip h l s) := ⟨.inl ⟨l, s, rfl, hj⟩⟩
theorem nr_rt {J : Loc → Sto → Prop} {R : Dt → Sto → Prop} (hj : R d s) : Fin (NxR J R) (.rt d s) := ⟨.inr ⟨d, s, rfl, hj⟩⟩
end
/-! ### contracts -/
section
variable {P : Pg} {k f : Nat} {fd : FD} {as : List Dt} {l0 : Loc} {s : Sto}
theorem cx_of {Z : Dt → Prop} (hk : 2 ≤ k) (h : P.fns[f]? = some fd) (hl : as.length = fd.np) (hf : Dt.frs as = true) (hr : ∀ j, k = j + 2 → Fin (RtZ Z) (exS P (runF P (j + 1)) (runF P j) fd.b none (as.map some ++ List.replicate (fd.nz - fd.np) none) [])) : ∃ e, (∀ s, callP (runF P k) f as s = .ok e s) ∧ Z e := by
  obtain ⟨j, rfl⟩ : ∃ j, k = j + 2 := ⟨k - 2, by omega⟩
  obtain ⟨d, s1, e, h1, h2, h3⟩ := (hr j rfl).go
  refine ⟨e, fun s => callP_fr hf ?_ h2, h3⟩
  rw [run_eq h hl, h1]
  rfl
theorem cq_of {e : Dt} (hk : 2 ≤ k) (h : P.fns[f]? = some fd) (hl : as.length = fd.np) (hf : Dt.frs as = true) (hr : ∀ j, k = j + 2 → Fin (RtZ (· = e)) (exS P (runF P (j + 1)) (runF P j) fd.b none (as.map some ++ List.replicate (fd.nz - fd.np) none) [])) : callP (runF P k) f as s = .ok e s := by
  obtain ⟨e', h1, rfl⟩ := cx_of hk h hl hf hr
  exact h1 s
theorem ce_of {c : Nat} (hk : 2 ≤ k) (h : P.fns[f]? = some fd) (hl : as.length = fd.np) (hf : Dt.frs as = true) (hr : ∀ j, k = j + 2 → Fin (fun o => ∃ l1 s1, o = .er ⟨c, []⟩ l1 s1) (exS P (runF P (j + 1)) (runF P j) fd.b none (as.map some ++ List.replicate (fd.nz - fd.np) none) [])) : callP (runF P k) f as s = .er ⟨c, []⟩ s := by
  obtain ⟨j, rfl⟩ : ∃ j, k = j + 2 := ⟨k - 2, by omega⟩
  obtain ⟨l1, s1, h1⟩ := (hr j rfl).go
  refine callP_frE (s1 := s1) hf ?_
  rw [run_eq h hl, h1]
  rfl
theorem rq_of {Q : R Dt → Prop} (hk : 2 ≤ k) (h : P.fns[f]? = some fd) (hl : as.length = fd.np) (hr : ∀ j, k = j + 2 → Fin (fun o => Q o.res) (exS P (runF P (j + 1)) (runF P j) fd.b none (as.map some ++ List.replicate (fd.nz - fd.np) none) s)) : Q (runF P k f as s) := by
  obtain ⟨j, rfl⟩ : ∃ j, k = j + 2 := ⟨k - 2, by omega⟩
  rw [run_eq h hl]
  exact (hr j rfl).go
end
/-- insert into a live list -/
theorem q_ins {P : Pg} {C C' : Cl} {h : Option Er} {l : Loc} {s s1 : Sto} {e : E} {r : S} {x : Dt} {i n j k : Nat} {acc : List Dt} (hl : l[i]? = some (some (.obj n))) (hj : l[j]? = some (some (.int (k : Nat)))) (he : evE P C h e l s = .ok x s1) (hs : s[n]? = some (.lst acc)) (hs1 : s1[n]? = some (.lst acc)) (hz : acc.length < sizeLine) (hk : k ≤ acc.length) :
    exS P C C' (.seq (.ex (.mt .insert (.var i) (.cons (.var j) (.cons e .nil)))) r) h l s = exS P C C' r h l (s1.set n (.lst (acc.take k ++ [x] ++ acc.drop k))) := by
  have rc : rcv .insert (.obj n) s = true := by
    show (match viewO s[n]? n with
      | .lst _ => true
      | _ => false) = true
    rw [hs]
    rfl
  have mt : mtS .insert (.obj n) [.int (k : Nat), x] s1 = .ok .non (s1.set n (.lst (acc.take k ++ [x] ++ acc.drop k))) := by
    show (match s1[n]? with
      | some (.lst l) => if l.length < sizeLine ∧ (0 : Int) ≤ (k : Int) ∧ (k : Int) ≤ l.length then R.ok Dt.non (s1.set n (.lst (l.take (k : Int).toNat ++ [x] ++ l.drop (k : Int).toNat))) else .no
      | _ => .no) = _
    rw [hs1]
    dsimp only
    rw [if_pos ⟨hz, by omega, by omega⟩, Int.toNat_natCast]
  refine q_ex (d := .non) ?_
  simp only [evE, evA, hl, hj, getL_some, R.bind_ok, rc, if_true, he, mt]
end Ip

namespace Ip
open PySem L2 PySem.Spec
/-! ## comprehensions; expressions from their parts -/
section
variable {P : Pg} {C : Cl} {h : Option Er} {l : Loc} {s s1 s2 : Sto} {a b c elt it : E} {x y : Dt} {own : List Nat} {tg : Tg} {lv : Bool} {α : Type}
theorem lc_fm {ds : List Dt} {g : Dt → Option Dt} (hi : evI P C h it l s = .ok (.pl ds) s1) (hz : ds.length ≤ 100000) (hx : ∀ d ∈ ds, ∃ l1, setTg tg d (wipeL l own) = some l1 ∧ ((evE P C h c l1 s1 = .ok (.bl true) s1 ∧ ∃ e, g d = some e ∧ evE P C h elt l1 s1 = .ok e s1) ∨ (evE P C h c l1 s1 = .ok (.bl false) s1 ∧ g d = none))) :
    evE P C h (.lc lv own elt tg it c) l s = mkL lv (ds.filterMap g) s1 := by
  have e : compL (fun d s => withO (setTg tg d (wipeL l own)) .no fun l1 =>
      (evE P C h c l1 s).tame.bind fun k s => brn k .no ((evE P C h elt l1 s).tame.bind fun e s => .ok (some e) s) (.ok none s)) ds [] s1 = .ok (ds.filterMap g) s1 := by
    refine compL_filter (fun d hd => ?_) (by rw [List.length_nil, sizeLine_eq]; omega)
    obtain ⟨l1, e1, q⟩ := hx d hd
    rw [e1, wo_some]
    rcases q with ⟨e2, e, e3, e4⟩ | ⟨e2, e3⟩
    · rw [e2, e3]
      show (evE P C h elt l1 s1).tame.bind _ = _
      rw [e4]
      rfl
    · rw [e2, e3]
      rfl
  rw [evE, hi]
  exact R.bind_congr e
theorem fm_eq {f g : α → Dt} {p : α → Bool} (G : Dt → Option Dt) : ∀ {xs : List α}, (∀ x ∈ xs, G (f x) = if p x = true then some (g x) else none) → (xs.map f).filterMap G = (xs.filter p).map g
  | [], _ => rfl
  | x :: xs, h => by
    rw [List.map_cons, List.filterMap_cons, h x List.mem_cons_self, List.filter_cons]
    have ih := fm_eq (p := p) (g := g) G (xs := xs) fun y hy => h y (List.mem_cons_of_mem _ hy)
    by_cases q : p x = true
    · rw [if_pos q, if_pos q, ih]
      rfl
    · rw [if_neg q, if_neg q, ih]
theorem compL_gen {f g : α → Dt} {p : α → Bool} {F : Dt → Sto → R (Option Dt)} {s : Sto} : ∀ {xs : List α} {acc : List Dt}, (∀ x ∈ xs, F (f x) s = .ok (if p x = true then some (g x) else none) s) → acc.length + xs.length ≤ sizeLine → compL F (xs.map f) acc s = .ok (acc ++ (xs.filter p).map g) s
  | [], acc, _, _ => by
    show R.ok acc s = _
    rw [List.filter_nil, List.map_nil, List.append_nil]
  | x :: xs, acc, h, hl => by
    rw [List.length_cons] at hl
    show (F (f x) s).bind _ = _
    rw [h x List.mem_cons_self, R.bind_ok, List.filter_cons]
    by_cases q : p x = true
    · rw [if_pos q, if_pos q]
      dsimp only
      rw [if_pos (by omega), compL_gen (fun y hy => h y (List.mem_cons_of_mem _ hy)) (by rw [List.length_append, List.length_singleton]; omega), List.append_assoc]
      rfl
    · rw [if_neg q, if_neg q]
      dsimp only
      exact compL_gen (fun y hy => h y (List.mem_cons_of_mem _ hy)) (by omega)
theorem lc_genX {jt : It} {xs : List α} {f g : α → Dt} {p : α → Bool} (hi : evI P C h it l s = .ok jt s1) (hj : jt.items = xs.map f) (hcd : jt.cond s1) (hz : xs.length ≤ 100000) (hx : ∀ x ∈ xs, ∃ l1, setTg tg (f x) (wipeL l own) = some l1 ∧ evE P C h c l1 s1 = .ok (.bl (p x)) s1 ∧ (p x = true → evE P C h elt l1 s1 = .ok (g x) s1)) :
    evE P C h (.lc lv own elt tg it c) l s = mkL lv ((xs.filter p).map g) s1 := by
  have e : compL (gdI jt fun d s => withO (setTg tg d (wipeL l own)) .no fun l1 =>
      (evE P C h c l1 s).tame.bind fun k s => brn k .no ((evE P C h elt l1 s).tame.bind fun e s => .ok (some e) s) (.ok none s)) jt.items [] s1 = .ok ((xs.filter p).map g) s1 := by
    rw [hj]
    refine (compL_gen (p := p) (g := g) (fun x hxs => ?_) (by rw [List.length_nil, sizeLine_eq]; omega)).trans (by rw [List.nil_append])
    rw [gdI_eq]
    obtain ⟨l1, e1, e2, e3⟩ := hx x hxs
    have e4 : (withO (setTg tg (f x) (wipeL l own)) .no fun l1 => (evE P C h c l1 s1).tame.bind fun k s => brn k .no ((evE P C h elt l1 s).tame.bind fun e s => .ok (some e) s) (.ok none s)) = R.ok (if p x = true then some (g x) else none) s1 := by
      rw [e1, wo_some, e2]
      cases q : p x with
      | true =>
        show (evE P C h elt l1 s1).tame.bind _ = _
        rw [e3 q]
        rfl
      | false => rfl
    refine (R.bind_congr e4).trans ?_
    exact if_pos hcd
  rw [evE, hi]
  exact R.bind_congr e
theorem lc_gen {xs : List α} {f g : α → Dt} {p : α → Bool} (hi : evI P C h it l s = .ok (.pl (xs.map f)) s1) (hz : xs.length ≤ 100000) (hx : ∀ x ∈ xs, ∃ l1, setTg tg (f x) (wipeL l own) = some l1 ∧ evE P C h c l1 s1 = .ok (.bl (p x)) s1 ∧ (p x = true → evE P C h elt l1 s1 = .ok (g x) s1)) :
    evE P C h (.lc lv own elt tg it c) l s = mkL lv ((xs.filter p).map g) s1 := lc_genX hi rfl True.intro hz hx
theorem lc_all {xs : List α} {f g : α → Dt} (hi : evI P C h it l s = .ok (.pl (xs.map f)) s1) (hz : xs.length ≤ 100000) (hx : ∀ x ∈ xs, ∃ l1, setTg tg (f x) (wipeL l own) = some l1 ∧ evE P C h elt l1 s1 = .ok (g x) s1) :
    evE P C h (.lc lv own elt tg it (.con (.bl true))) l s = mkL lv (xs.map g) s1 := by
  have e := lc_gen (P := P) (C := C) (h := h) (l := l) (c := .con (.bl true)) (elt := elt) (own := own) (tg := tg) (lv := lv) (g := g) (p := fun _ => true) hi hz (fun x hxs => by
    obtain ⟨l1, e1, e2⟩ := hx x hxs
    exact ⟨l1, e1, by rw [evE], fun _ => e2⟩)
  rw [e]
  congr 2
  exact List.filter_eq_self.mpr fun _ _ => rfl
theorem lc_genF {xs : List α} {f g : α → Dt} {p : α → Bool} (hi : evI P C h it l s = .ok (.pl (xs.map f)) s1) (hz : xs.length ≤ 100000) (hx : ∀ x ∈ xs, ∃ l1, setTg tg (f x) (wipeL l own) = some l1 ∧ evE P C h c l1 s1 = .ok (.bl (p x)) s1 ∧ (p x = true → evE P C h elt l1 s1 = .ok (g x) s1)) :
    evE P C h (.lc false own elt tg it c) l s = .ok (.lst ((xs.filter p).map g)) s1 := lc_gen hi hz hx
theorem lc_allF {xs : List α} {f g : α → Dt} (hi : evI P C h it l s = .ok (.pl (xs.map f)) s1) (hz : xs.length ≤ 100000) (hx : ∀ x ∈ xs, ∃ l1, setTg tg (f x) (wipeL l own) = some l1 ∧ evE P C h elt l1 s1 = .ok (g x) s1) :
    evE P C h (.lc false own elt tg it (.con (.bl true))) l s = .ok (.lst (xs.map g)) s1 := lc_all hi hz hx
theorem e_bi1 {o : BI} (ha : evE P C h a l s = .ok x s1) : evE P C h (.bi o lv (.cons a .nil)) l s = biS o lv [x] s1 := by simp only [evE, evA, ha, bd_ok]
theorem e_bin {o : BO} (ha : evE P C h a l s = .ok x s1) (hb : evE P C h b l s1 = .ok y s2) : evE P C h (.bin o a b) l s = binS o x y s2 := by simp only [evE, ha, hb, bd_ok]
theorem e_cmp {o : CO} (ha : evE P C h a l s = .ok x s1) (hb : evE P C h b l s1 = .ok y s2) : evE P C h (.cmp o a b) l s = cmpS o x y s2 := by simp only [evE, ha, hb, bd_ok]
theorem e_not {k : Bool} (ha : evE P C h a l s = .ok (.bl k) s1) : evE P C h (.not a) l s = .ok (.bl (!k)) s1 := by
  simp only [evE, ha, bd_ok, br_bl]
  cases k <;> rfl
theorem e_and {k m : Bool} (ha : evE P C h a l s = .ok (.bl k) s1) (hb : k = true → evE P C h b l s1 = .ok (.bl m) s1) : evE P C h (.and a b) l s = .ok (.bl (k && m)) s1 := by
  simp only [evE, ha, bd_ok, br_bl]
  cases k with
  | true => exact hb rfl
  | false => rfl
theorem e_or {k m : Bool} (ha : evE P C h a l s = .ok (.bl k) s1) (hb : k = false → evE P C h b l s1 = .ok (.bl m) s1) : evE P C h (.or a b) l s = .ok (.bl (k || m)) s1 := by
  simp only [evE, ha, bd_ok, br_bl]
  cases k with
  | false => exact hb rfl
  | true => rfl
theorem e_ite {k : Bool} (hc : evE P C h c l s = .ok (.bl k) s1) (ha : k = true → evE P C h a l s1 = .ok x s2) (hb : k = false → evE P C h b l s1 = .ok x s2) : evE P C h (.ite c a b) l s = .ok x s2 := by
  simp only [evE, hc, bd_ok, br_bl]
  cases k with
  | true => exact ha rfl
  | false => exact hb rfl
theorem e_rev {xs : List Dt} (ha : evE P C h a l s = .ok (.lst xs) s1) : evE P C h (.rev a) l s = .ok (.lst xs.reverse) s1 := by
  simp only [evE, ha, bd_ok]
  rfl
theorem e_ix (ha : evE P C h a l s = .ok x s1) (hb : evE P C h b l s1 = .ok y s2) : evE P C h (.ix a b) l s = ixS x y s2 := by simp only [evE, ha, hb, bd_ok]
theorem e_call1 {f : Nat} (ha : evE P C h a l s = .ok x s1) : evE P C h (.call f (.cons a .nil)) l s = callP C f [x] s1 := by simp only [evE, evA, ha, bd_ok]
theorem e_call2 {f : Nat} (ha : evE P C h a l s = .ok x s1) (hb : evE P C h b l s1 = .ok y s2) : evE P C h (.call f (.cons a (.cons b .nil))) l s = callP C f [x, y] s2 := by simp only [evE, evA, ha, hb, bd_ok]
theorem e_fz {xs : List Dt} {n : Nat} (ha : evE P C h a l s = .ok (.obj n) s1) (hs : s1[n]? = some (.lst xs)) (hf : Dt.frs xs = true) : evE P C h (.fz a) l s = .ok (.lst xs) (s1.set n (.fz (.lst xs))) := by
  simp only [evE, ha, bd_ok]
  show (match s1[n]? with
    | some (.lst l) => if Dt.frs l = true then R.ok (Dt.lst l) (s1.set n (.fz (.lst l))) else .no
    | some (.dK l) => if Dt.frk l = true then .ok (.dic l) (s1.set n (.fz (.dic l))) else .no
    | some (.fz d) => .ok d s1
    | _ => .no) = _
  rw [hs]
  dsimp only
  rw [if_pos hf]
theorem e_fz2 {d : Dt} {n : Nat} (ha : evE P C h a l s = .ok (.obj n) s1) (hs : s1[n]? = some (.fz d)) : evE P C h (.fz a) l s = .ok d s1 := by
  simp only [evE, ha, bd_ok]
  show (match s1[n]? with
    | some (.lst l) => if Dt.frs l = true then R.ok (Dt.lst l) (s1.set n (.fz (.lst l))) else .no
    | some (.dK l) => if Dt.frk l = true then .ok (.dic l) (s1.set n (.fz (.dic l))) else .no
    | some (.fz d) => .ok d s1
    | _ => .no) = _
  rw [hs]
end
theorem cut_last {α : Type} (f : α → Dt) (cs : List α) : cutD (cs.map f) none (some (-1)) = cs.dropLast.map f := by
  unfold cutD
  rw [List.length_map]
  have e : HT.sIx cs.length cs.length (some (-1)) = cs.length - 1 := by
    unfold HT.sIx
    dsimp only
    rw [if_pos (by decide)]
    omega
  have e0 : HT.sIx cs.length 0 none = 0 := rfl
  rw [e, e0, List.drop_zero, Nat.sub_zero, ← List.map_take, List.dropLast_eq_take]
def dNat (n : Nat) : Dt := .int (n : Nat)
theorem frs_nats (ns : List Nat) : Dt.frs (ns.map dNat) = true := frs_map (fun _ => rfl) ns
theorem fr_oq (o : Option Rat) : (oq o).fr = true := by cases o <;> rfl
theorem frs_oqs (os : List (Option Rat)) : Dt.frs (os.map oq) = true := frs_map fr_oq os
theorem oq_inj (p q : Option Rat) (h : oq p = oq q) : p = q := by
  cases p <;> cases q
  · rfl
  · cases h
  · cases h
  · rw [fq_inj _ _ h]
theorem dNat_inj (a b : Nat) (h : dNat a = dNat b) : a = b := by
  unfold dNat at h
  injection h with h
  omega
theorem hd_oq (o : Option Rat) : Dt.hard 1 (oq o) := by
  cases o with
  | none => exact hard_non
  | some q => exact hd_fq q
theorem hd_oqs (os : List (Option Rat)) : Hd (.lst (os.map oq)) := ⟨2, by decide, hard_map hd_oq os⟩
theorem hd_nats (ns : List Nat) : Hd (.lst (ns.map dNat)) := ⟨1, by decide, hard_map (fun _ => hard_int) ns⟩
theorem atI_last {α : Type} {l : List α} (h : l ≠ []) : atI l (-1) = some (l.getLast h) := by
  have h0 : 0 < l.length := List.length_pos_iff.mpr h
  have e : ixN l.length (-1) = some (l.length - 1) := by
    unfold ixN
    rw [if_neg (by decide), if_pos (by omega)]
    congr 1
    omega
  show (ixN l.length (-1)).bind _ = _
  rw [e]
  show l[l.length - 1]? = _
  rw [← List.getLast?_eq_getElem?, List.getLast?_eq_some_getLast h]
theorem fz_lst (l : List Dt) (s : Sto) : frzS (.lst l) s = .ok (.lst l) s := nr rfl
theorem fz_tup (l : List Dt) (s : Sto) : frzS (.tup l) s = .ok (.tup l) s := nr rfl
/-- a law's end -/
def LawE : O → Prop := fun o => ∃ s', o.res = .ok (.bl true) s'
theorem law_end {s : Sto} : Fin LawE (.rt (.bl true) s) := ⟨⟨s, rfl⟩⟩
theorem bi_mx {i j : Int} {s : Sto} : biS .mx false [.int i, .int j] s = .ok (.int (max i j)) s := rfl
theorem bi_mn {i j : Int} {s : Sto} : biS .mn false [.int i, .int j] s = .ok (.int (min i j)) s := rfl
theorem bi_intB {k : Bool} {s : Sto} : biS .int false [.bl k] s = .ok (.int (if k = true then 1 else 0)) s := rfl
theorem bi_list {l : List Dt} {s : Sto} : biS .list false [.lst l] s = .ok (.lst l) s := rfl
theorem t_bl {t : Ty} {k : Bool} {s : Sto} : isTS t (.bl k) s = .ok (.bl (subTy .bool t)) s := rfl
theorem t_int {t : Ty} {k : Int} {s : Sto} : isTS t (.int k) s = .ok (.bl (subTy .int t)) s := rfl
theorem t_lst {t : Ty} {k : List Dt} {s : Sto} : isTS t (.lst k) s = .ok (.bl (subTy .lst t)) s := rfl
open Classical in
theorem cmp_eqR {a b : Dt} {s : Sto} (h : Hd (view s a)) (e : view s a = view s b) : cmpS .eq a b s = .ok (.bl true) s := by
  rw [cmp_eq h (by rw [← e]; exact h), decide_eq_true e]
open Classical in
theorem cmp_neR {a b : Dt} {s : Sto} (h : Hd (view s a)) (e : view s a = view s b) : cmpS .ne a b s = .ok (.bl false) s := by
  rw [cmp_ne h (by rw [← e]; exact h), decide_eq_true e]
  rfl
end Ip

namespace Ip
open PySem L2 PySem.Spec
/-! ## tables of fractions; systems -/
/-- a loop that ends, or ends by an error -/
theorem forL_orE {f : Dt → Ip.Loc → Sto → O} {ds : List Dt} (I : Nat → Ip.Loc → Sto → Prop) (Z : Er → Prop) (step : ∀ i (h : i < ds.length) l s, I i l s → (∃ l' s', f ds[i] l s = .nx l' s' ∧ I (i + 1) l' s') ∨ ∃ z l' s', f ds[i] l s = .er z l' s' ∧ Z z) :
    ∀ {l : Ip.Loc} {s : Sto}, I 0 l s → (∃ l' s', forL f ds l s = .nx l' s' ∧ I ds.length l' s') ∨ ∃ z l' s', forL f ds l s = .er z l' s' ∧ Z z := by
  have key : ∀ (j : Nat) (l : Ip.Loc) (s : Sto), j ≤ ds.length → I (ds.length - j) l s → (∃ l' s', forL f (ds.drop (ds.length - j)) l s = .nx l' s' ∧ I ds.length l' s') ∨ ∃ z l' s', forL f (ds.drop (ds.length - j)) l s = .er z l' s' ∧ Z z := fun j => by
    induction j with
    | zero =>
      intro l s _ h
      rw [Nat.sub_zero] at h ⊢
      rw [List.drop_length]
      exact .inl ⟨l, s, rfl, h⟩
    | succ j ih =>
      intro l s hj h
      have hlt : ds.length - (j + 1) < ds.length := by omega
      rw [List.drop_eq_getElem_cons hlt]
      show (∃ l' s', (f _ l s).then (fun l s => forL f _ l s) = _ ∧ _) ∨ ∃ z l' s', (f _ l s).then (fun l s => forL f _ l s) = _ ∧ _
      rcases step _ hlt l s h with ⟨l1, s1, e1, h1⟩ | ⟨z, l1, s1, e1, h1⟩
      · rw [e1, O.then_nx]
        have e2 : ds.length - (j + 1) + 1 = ds.length - j := by omega
        rw [e2] at h1 ⊢
        exact ih l1 s1 (by omega) h1
      · rw [e1, O.then_er]
        exact .inr ⟨z, l1, s1, rfl, h1⟩
  intro l s h
  have := key ds.length l s (Nat.le_refl _) (by rw [Nat.sub_self]; exact h)
  rwa [Nat.sub_self, List.drop_zero] at this
theorem forN_orE {f : Dt → Ip.Loc → Sto → O} {n : Nat} (I : Nat → Ip.Loc → Sto → Prop) (Z : Er → Prop) (step : ∀ i, i < n → ∀ l s, I i l s → (∃ l' s', f (.int (i : Nat)) l s = .nx l' s' ∧ I (i + 1) l' s') ∨ ∃ z l' s', f (.int (i : Nat)) l s = .er z l' s' ∧ Z z) {l : Ip.Loc} {s : Sto} (h0 : I 0 l s) :
    (∃ l' s', forL f (dRange 0 n) l s = .nx l' s' ∧ I n l' s') ∨ ∃ z l' s', forL f (dRange 0 n) l s = .er z l' s' ∧ Z z := by
  have h := forL_orE (f := f) (ds := dRange 0 n) I Z (fun i h l s hi => by
    rw [dRange_get h, Int.zero_add]
    exact step i (by rw [dRange_len] at h; exact h) l s hi) h0
  rwa [dRange_len] at h
section
variable {P : Pg} {C C' : Cl} {h : Option Er} {l : Ip.Loc} {s s1 : Sto} {it : E} {b r : S} {tg : Tg} {Q : O → Prop}
theorem fi_forE {ds : List Dt} {J : Ip.Loc → Sto → Prop} {Z : Er → Prop} (hi : evI P C h it l s = .ok (.pl ds) s1) (hf : (∃ l' s', forL (bodF P C C' tg b h) ds l s1 = .nx l' s' ∧ J l' s') ∨ ∃ z l' s', forL (bodF P C C' tg b h) ds l s1 = .er z l' s' ∧ Z z) (hj : ∀ l' s', J l' s' → Fin Q (exS P C C' r h l' s')) (hr : ∀ z l' s', Z z → Fin Q (.er z l' s')) : Fin Q (exS P C C' (.seq (.for_ tg it b) r) h l s) := by
  rcases hf with ⟨l', s', e, j⟩ | ⟨z, l', s', e, j⟩
  · exact .to (q_for hi e) (hj _ _ j)
  · exact .to (q_er ((for_pl hi).trans e)) (hr _ _ _ j)
end
/-- on, or an error -/
def NxE (J : Ip.Loc → Sto → Prop) (Z : Er → Prop) : O → Prop := fun o => (∃ l s, o = .nx l s ∧ J l s) ∨ ∃ z l s, o = .er z l s ∧ Z z
theorem Fin.ne {J : Ip.Loc → Sto → Prop} {Z : Er → Prop} {o : O} (hf : Fin (NxE J Z) o) : (∃ l s, o = .nx l s ∧ J l s) ∨ ∃ z l s, o = .er z l s ∧ Z z := hf.go
theorem ne_end {P : Pg} {C C' : Cl} {h : Option Er} {l : Ip.Loc} {s : Sto} {J : Ip.Loc → Sto → Prop} {Z : Er → Prop} (hj : J l s) : Fin (NxE J Z) (exS P C C' .skip h l s) := ⟨.inl ⟨l, s, rfl, hj⟩⟩
theorem ne_er {l : Ip.Loc} {s : Sto} {J : Ip.Loc → Sto → Prop} {Z : Er → Prop} {z : Er} (hj : Z z) : Fin (NxE J Z) (.er z l s) := ⟨.inr ⟨z, l, s, rfl, hj⟩⟩
/-! ### rows and tables by functions -/
def rowF (m : Nat) (g : Nat → Rat) : Dt := .lst ((List.range m).map fun j => fq (g j))
def tabF (n m : Nat) (f : Nat → Nat → Rat) : List Dt := (List.range n).map fun i => rowF m (f i)
theorem fr_row (m : Nat) (g : Nat → Rat) : (rowF m g).fr = true := fr_lst (frs_map (fun j => fr_fq (g j)) _)
theorem frs_tab (n m : Nat) (f : Nat → Nat → Rat) : Dt.frs (tabF n m f) = true := frs_map (fun i => fr_row m (f i)) _
theorem tab_len (n m : Nat) (f : Nat → Nat → Rat) : (tabF n m f).length = n := by
  unfold tabF
  rw [List.length_map, List.length_range]
theorem tab_at {n m i : Nat} {f : Nat → Nat → Rat} (h : i < n) : (tabF n m f)[i]? = some (rowF m (f i)) := by
  unfold tabF
  rw [List.getElem?_map, List.getElem?_range h]
  rfl
theorem row_at {m i : Nat} {g : Nat → Rat} (h : i < m) (s : Sto) : ixS (rowF m g) (.int (i : Nat)) s = .ok (fq (g i)) s := ix_nat (by
  rw [List.getElem?_map, List.getElem?_range h]
  rfl)
theorem tab_set {n m i : Nat} {f : Nat → Nat → Rat} {h : Nat → Rat} : (tabF n m f).set i (rowF m h) = tabF n m fun r => if r = i then h else f r := by
  unfold tabF
  refine List.ext_getElem (by simp) fun r h1 h2 => ?_
  rw [List.getElem_set, List.getElem_map, List.getElem_map, List.getElem_range]
  show _ = rowF m (if r = i then h else f r)
  by_cases e : i = r
  · rw [if_pos e, if_pos e.symm]
  · rw [if_neg e, if_neg (fun z => e z.symm)]
theorem tab_congr {n m : Nat} {f g : Nat → Nat → Rat} (h : ∀ i, i < n → ∀ j, j < m → f i j = g i j) : tabF n m f = tabF n m g := by
  unfold tabF rowF
  refine List.map_congr_left fun i hi => ?_
  congr 1
  exact List.map_congr_left fun j hj => by rw [h i (List.mem_range.mp hi) j (List.mem_range.mp hj)]
theorem row_congr {m : Nat} {f g : Nat → Rat} (h : ∀ j, j < m → f j = g j) : rowF m f = rowF m g := by
  unfold rowF
  congr 1
  exact List.map_congr_left fun j hj => by rw [h j (List.mem_range.mp hj)]
theorem zip_rng {n : Nat} {F G : Nat → Dt} {s : Sto} : zipS (.lst ((List.range n).map F)) (.lst ((List.range n).map G)) s = .ok (.pl ((List.range n).map fun i => .tup [F i, G i])) s := by
  show R.ok (It.pl (dZip ((List.range n).map F) ((List.range n).map G))) s = _
  unfold dZip
  rw [List.zip_map', List.map_map]
  rfl
open Classical in
theorem cmp_ne_fq0 (q : Rat) (s : Sto) : cmpS .ne (fq q) (.tup [.int 0, .int 1]) s = .ok (.bl (!decide (q = 0))) s := by
  refine (cmp_ne (a := fq q) (b := fq 0) (s := s) ⟨1, by decide, hd_fq q⟩ ⟨1, by decide, hd_fq 0⟩).trans ?_
  congr 3
  exact decide_eq_decide.mpr ⟨fun h => fq_inj _ _ h, fun h => by rw [h]⟩
theorem six_tab {n m i : Nat} {f : Nat → Nat → Rat} {h : Nat → Rat} (hi : i < n) : sixS (.obj 0) (.int (i : Nat)) (rowF m h) [.lst (tabF n m f)] = some [.lst (tabF n m fun r => if r = i then h else f r)] := by
  have e : ixN (tabF n m f).length (i : Nat) = some i := by
    unfold ixN
    rw [tab_len, if_pos (by omega), Int.toNat_natCast, if_pos (by omega)]
  show (match ixN (tabF n m f).length (i : Nat) with
      | some j => some ([Ob.lst (tabF n m f)].set 0 (.lst ((tabF n m f).set j (rowF m h))))
      | none => none) = _
  rw [e]
  dsimp only
  rw [tab_set]
  rfl
theorem it_row {m : Nat} {g : Nat → Rat} {s : Sto} : iterS (rowF m g) s = .ok (.pl ((List.range m).map fun j => fq (g j))) s := rfl
theorem row_snoc {n : Nat} {g : Nat → Rat} {s : Sto} (hn : n ≤ 1000) : binS .add (rowF n g) (.lst [fq (g n)]) s = .ok (rowF (n + 1) g) s := by
  show (if ((List.range n).map fun j => fq (g j)).length + [fq (g n)].length ≤ sizeLine then R.ok (Dt.lst (((List.range n).map fun j => fq (g j)) ++ [fq (g n)])) s else .no) = _
  rw [if_pos (by rw [List.length_map, List.length_range, sizeLine_eq]; show n + 1 ≤ _; omega)]
  unfold rowF
  rw [List.range_succ, List.map_append]
  rfl
/-- sizes of a row: over one common bottom -/
def RowSz (b m : Nat) (g : Nat → Rat) : Prop := ∃ D : Int, D ≠ 0 ∧ D.natAbs < 2 ^ b ∧ ∀ j, j < m → ∃ N : Int, N.natAbs < 2 ^ b ∧ g j = (N : Rat) / (D : Rat)
theorem RowSz.one {b m j : Nat} {g : Nat → Rat} (h : RowSz b m g) (hj : j < m) : Fm.Sz b (Fm.fr (g j)) := by
  obtain ⟨D, h0, h1, h2⟩ := h
  obtain ⟨N, h3, h4⟩ := h2 j hj
  rw [h4]
  exact Fm.sz_div h0 h3 h1
theorem RowSz.mono {b c m : Nat} {g : Nat → Rat} (h : RowSz b m g) (l : b ≤ c) : RowSz c m g := by
  obtain ⟨D, h0, h1, h2⟩ := h
  have hp : 2 ^ b ≤ 2 ^ c := Nat.pow_le_pow_right (by decide) l
  refine ⟨D, h0, by omega, fun j hj => ?_⟩
  obtain ⟨N, h3, h4⟩ := h2 j hj
  exact ⟨N, by omega, h4⟩
theorem RowSz.over {b m a : Nat} {g : Nat → Rat} (h : RowSz b m g) (ha : a < m) (hz : g a ≠ 0) : RowSz b m fun j => g j / g a := by
  obtain ⟨D, h0, h1, h2⟩ := h
  obtain ⟨A, h3, h4⟩ := h2 a ha
  have hD := Fm.ne_cast h0
  have hA : A ≠ 0 := fun z => hz (by rw [h4, z, Rat.div_def]; simp)
  have hA' := Fm.ne_cast hA
  refine ⟨A, hA, h3, fun j hj => ?_⟩
  obtain ⟨N, h5, h6⟩ := h2 j hj
  refine ⟨N, h5, ?_⟩
  show g j / g a = _
  rw [h4, h6]
  grind
theorem RowSz.clear {b m a : Nat} {g h : Nat → Rat} (hg : RowSz b m g) (hh : RowSz b m h) (ha : a < m) : RowSz (2 * b + 1) m fun j => h j - h a * g j := by
  obtain ⟨D, d0, d1, d2⟩ := hg
  obtain ⟨E, e0, e1, e2⟩ := hh
  obtain ⟨A, a1, a2⟩ := e2 a ha
  have hD := Fm.ne_cast d0
  have hE := Fm.ne_cast e0
  have hp : 2 ^ (b + b) ≤ 2 ^ (2 * b + 1) := Nat.pow_le_pow_right (by decide) (by omega)
  refine ⟨D * E, Int.mul_ne_zero d0 e0, Nat.lt_of_lt_of_le (Fm.lt_mul d1 e1) hp, fun j hj => ?_⟩
  obtain ⟨N, n1, n2⟩ := d2 j hj
  obtain ⟨M, m1, m2⟩ := e2 j hj
  refine ⟨M * D - A * N, ?_, ?_⟩
  · have := Fm.lt_sub (Fm.lt_mul m1 d1) (Fm.lt_mul a1 n1)
    rw [Nat.max_self] at this
    rw [show 2 * b + 1 = b + b + 1 by omega]
    exact this
  · show h j - h a * g j = _
    rw [a2, n2, m2, Rat.intCast_sub, Rat.intCast_mul, Rat.intCast_mul, Rat.intCast_mul]
    grind
/-! ### steps of Gauss and Jordan -/
def redT (g : Nat → Nat → Rat) (t k : Nat) : Nat → Nat → Rat := fun i j =>
  if i = t then g k j / g k t else (if i = k then g t else g i) j - (if i = k then g t else g i) t * (g k j / g k t)
inductive Red (n : Nat) (f : Nat → Nat → Rat) : Nat → (Nat → Nat → Rat) → Prop
  | zero : Red n f 0 f
  | step {t k : Nat} {g : Nat → Nat → Rat} : Red n f t g → t < n → t ≤ k → k < n → g k t ≠ 0 → Red n f (t + 1) (redT g t k)
def bdN (b : Nat) : Nat → Nat
  | 0 => b
  | t + 1 => 2 * bdN b t + 1
theorem bdN_eq (b : Nat) : ∀ t, bdN b t + 1 = (b + 1) * 2 ^ t
  | 0 => by simp [bdN]
  | t + 1 => by
    have := bdN_eq b t
    rw [Nat.pow_succ, ← Nat.mul_assoc, ← this]
    show 2 * bdN b t + 1 + 1 = _
    omega
theorem redT_sz {b n m t k : Nat} {g : Nat → Nat → Rat} (h : ∀ i, i < n → RowSz b m (g i)) (ht : t < n) (hk : k < n) (htm : t < m) (hz : g k t ≠ 0) : ∀ i, i < n → RowSz (2 * b + 1) m (redT g t k i) := fun i hi => by
  have hb := (h k hk).over htm hz
  unfold redT
  by_cases e : i = t
  · simp only [if_pos e]
    exact hb.mono (by omega)
  · simp only [if_neg e]
    have hr : RowSz b m (if i = k then g t else g i) := by
      split
      · exact h t ht
      · exact h i hi
    exact RowSz.clear hb hr htm
theorem redT_mid {n m t p i : Nat} {g : Nat → Nat → Rat} : tabF n m (fun r => if r < n ∧ r ≠ t then (fun c => (if r = p then g t else g r) c - (if r = p then g t else g r) t * (g p c / g p t)) else if r = t then (fun c => g p c / g p t) else if r = p then g t else g r) = tabF n m (redT g t p) := tab_congr fun r hr j hj => by
  unfold redT
  by_cases e : r = t
  · rw [if_neg (fun z => z.2 e), if_pos e, if_pos e]
  · rw [if_pos ⟨hr, e⟩, if_neg e]
theorem mid_set {n m t i : Nat} {A B : Nat → Nat → Rat} (z : ¬ i = t) : tabF n m (fun r => if r = i then A i else if r < i ∧ r ≠ t then A r else B r) = tabF n m (fun r => if r < i + 1 ∧ r ≠ t then A r else B r) := by
  congr 1
  funext r
  by_cases q : r = i
  · rw [if_pos q, if_pos ⟨by omega, by omega⟩, q]
  · rw [if_neg q]
    by_cases q2 : r < i ∧ r ≠ t
    · rw [if_pos q2, if_pos ⟨by omega, q2.2⟩]
    · rw [if_neg q2, if_neg (fun y => q2 ⟨by omega, y.2⟩)]
theorem mid_skip {n m t i : Nat} {A B : Nat → Nat → Rat} (z : i = t) : tabF n m (fun r => if r < i ∧ r ≠ t then A r else B r) = tabF n m (fun r => if r < i + 1 ∧ r ≠ t then A r else B r) := by
  congr 1
  funext r
  by_cases q2 : r < i ∧ r ≠ t
  · rw [if_pos q2, if_pos ⟨by omega, q2.2⟩]
  · rw [if_neg q2, if_neg (fun y => q2 ⟨by omega, y.2⟩)]
end Ip

namespace Ip
/-! ## what the steps of Gauss and Jordan keep (plain) -/
def sm : Nat → (Nat → Rat) → Rat
  | 0, _ => 0
  | n + 1, g => sm n g + g n
theorem sm_congr {g h : Nat → Rat} : ∀ {n : Nat}, (∀ j, j < n → g j = h j) → sm n g = sm n h
  | 0, _ => rfl
  | n + 1, e => by
    show sm n g + g n = sm n h + h n
    rw [sm_congr fun j hj => e j (by omega), e n (by omega)]
theorem sm_zero : ∀ n : Nat, sm n (fun _ => 0) = 0
  | 0 => rfl
  | n + 1 => by
    show sm n (fun _ => 0) + 0 = 0
    rw [sm_zero n]
    grind
theorem sm_add {g h : Nat → Rat} : ∀ n : Nat, sm n (fun j => g j + h j) = sm n g + sm n h
  | 0 => by show (0 : Rat) = 0 + 0; grind
  | n + 1 => by
    show sm n (fun j => g j + h j) + (g n + h n) = (sm n g + g n) + (sm n h + h n)
    rw [sm_add n]
    grind
theorem sm_mul {g : Nat → Rat} {c : Rat} : ∀ n : Nat, sm n (fun j => c * g j) = c * sm n g
  | 0 => by show (0 : Rat) = c * 0; grind
  | n + 1 => by
    show sm n (fun j => c * g j) + c * g n = c * (sm n g + g n)
    rw [sm_mul n]
    grind
theorem sm_delta {y : Nat → Rat} {i : Nat} : ∀ {n : Nat}, sm n (fun j => (if i = j then 1 else 0) * y j) = if i < n then y i else 0
  | 0 => by
    rw [if_neg (by omega)]
    rfl
  | n + 1 => by
    show sm n (fun j => (if i = j then 1 else 0) * y j) + (if i = n then 1 else 0) * y n = _
    rw [sm_delta]
    by_cases h : i = n
    · subst h
      rw [if_neg (by omega), if_pos rfl, if_pos (by omega)]
      grind
    · rw [if_neg h]
      by_cases h2 : i < n
      · rw [if_pos h2, if_pos (by omega)]
        grind
      · rw [if_neg h2, if_neg (by omega)]
        grind
/-- a row asked at y, its last entry taken c times -/
def lin (n : Nat) (y : Nat → Rat) (c : Rat) (r : Nat → Rat) : Rat := sm n (fun j => r j * y j) - r n * c
theorem lin_sub {n : Nat} {y : Nat → Rat} {c a : Rat} {r q : Nat → Rat} : lin n y c (fun j => r j - a * q j) = lin n y c r - a * lin n y c q := by
  unfold lin
  have e : sm n (fun j => (r j - a * q j) * y j) = sm n (fun j => r j * y j) + sm n (fun j => (-a) * (q j * y j)) := by
    rw [← sm_add]
    exact sm_congr fun j _ => by grind
  rw [e, sm_mul]
  grind
theorem lin_div {n : Nat} {y : Nat → Rat} {c p : Rat} {q : Nat → Rat} (hp : p ≠ 0) : lin n y c (fun j => q j / p) = lin n y c q / p := by
  unfold lin
  have e : sm n (fun j => q j / p * y j) = sm n (fun j => (1 / p) * (q j * y j)) := sm_congr fun j _ => by grind
  rw [e, sm_mul]
  grind
theorem red_lin {n t k : Nat} {g : Nat → Nat → Rat} {y : Nat → Rat} {c : Rat} (ht : t < n) (hk : k < n) (hz : g k t ≠ 0) : (∀ i, i < n → lin n y c (redT g t k i) = 0) ↔ ∀ i, i < n → lin n y c (g i) = 0 := by
  have e1 : lin n y c (redT g t k t) = lin n y c (g k) / g k t := by
    rw [← lin_div hz]
    congr 1
    funext j
    unfold redT
    rw [if_pos rfl]
  have e2 : ∀ i, i ≠ t → lin n y c (redT g t k i) = lin n y c (if i = k then g t else g i) - (if i = k then g t else g i) t * (lin n y c (g k) / g k t) := fun i hi => by
    rw [← lin_div hz, ← lin_sub]
    congr 1
    funext j
    unfold redT
    rw [if_neg hi]
  constructor
  · intro h
    have h1 : lin n y c (g k) = 0 := by
      have := h t ht
      rw [e1] at this
      grind
    have h2 : ∀ i, i < n → i ≠ t → lin n y c (if i = k then g t else g i) = 0 := fun i hi hit => by
      have := h i hi
      rw [e2 i hit, h1] at this
      grind
    intro i hi
    by_cases e : i = k
    · rw [e]; exact h1
    · by_cases e3 : i = t
      · have := h2 k hk (fun z => e (e3.trans z.symm))
        rw [if_pos rfl] at this
        rw [e3]
        exact this
      · have := h2 i hi e3
        rw [if_neg e] at this
        exact this
  · intro h i hi
    by_cases e : i = t
    · rw [e, e1, h k hk]
      grind
    · rw [e2 i e, h k hk]
      have : lin n y c (if i = k then g t else g i) = 0 := by
        split
        · exact h t ht
        · exact h i hi
      rw [this]
      grind
theorem Red.lin {n t : Nat} {f g : Nat → Nat → Rat} {y : Nat → Rat} {c : Rat} (h : Red n f t g) : (∀ i, i < n → lin n y c (g i) = 0) ↔ ∀ i, i < n → lin n y c (f i) = 0 := by
  induction h with
  | zero => exact Iff.rfl
  | step _ ht _ hk hz ih => exact (red_lin ht hk hz).trans ih
theorem Red.unit {n t : Nat} {f g : Nat → Nat → Rat} (h : Red n f t g) : ∀ c, c < t → ∀ i, i < n → g i c = if i = c then 1 else 0 := by
  induction h with
  | zero => intro c hc; omega
  | @step t k g _ ht htk hk hz ih =>
    intro c hc i hi
    by_cases ec : c = t
    · subst ec
      unfold redT
      have e1 : g k c / g k c = 1 := by grind
      by_cases e : i = c
      · rw [if_pos e, if_pos e, e1]
      · rw [if_neg e, if_neg e, e1]
        grind
    · have hct : c < t := by omega
      have e0 : g k c = 0 := by rw [ih c hct k hk, if_neg (by omega)]
      unfold redT
      by_cases e : i = t
      · rw [if_pos e, e0, if_neg (by omega)]
        grind
      · rw [if_neg e, e0]
        have e1 : (if i = k then g t else g i) c = if i = c then 1 else 0 := by
          by_cases ek : i = k
          · rw [if_pos ek, ih c hct t ht, if_neg (by omega), if_neg (by omega)]
          · rw [if_neg ek, ih c hct i hi]
        rw [e1]
        grind
/-- the answer, where all steps went -/
theorem Red.answer {n : Nat} {f g : Nat → Nat → Rat} {y : Nat → Rat} (h : Red n f n g) (hy : ∀ i, i < n → Ip.lin n y 1 (f i) = 0) : ∀ i, i < n → g i n = y i := fun i hi => by
  have e := h.lin.mpr hy i hi
  unfold Ip.lin at e
  have e2 : sm n (fun j => g i j * y j) = y i := by
    rw [sm_congr (h := fun j => (if i = j then 1 else 0) * y j) fun j hj => by rw [h.unit j hj i hi], sm_delta, if_pos hi]
  rw [e2] at e
  grind
/-- a vector of the kernel, where no pivot was found -/
theorem Red.kernel {n t : Nat} {f g : Nat → Nat → Rat} (h : Red n f t g) (ht : t < n) (h0 : ∀ i, t ≤ i → i < n → g i t = 0) : ∃ v : Nat → Rat, v t = 1 ∧ ∀ i, i < n → sm n (fun j => f i j * v j) = 0 := by
  refine ⟨fun j => if j = t then 1 else if j < t then -(g j t) else 0, if_pos rfl, ?_⟩
  have key := (h.lin (y := fun j => if j = t then 1 else if j < t then -(g j t) else 0) (c := 0)).mp fun i hi => by
    unfold Ip.lin
    by_cases e : i < t
    · have e1 : sm n (fun j => g i j * (if j = t then 1 else if j < t then -(g j t) else 0)) = sm n (fun j => (if t = j then 1 else 0) * g i j) + sm n (fun j => (if i = j then 1 else 0) * (-(g j t))) := by
        rw [← sm_add]
        refine sm_congr fun j hj => ?_
        by_cases q : j = t
        · rw [if_pos q, if_pos q.symm, if_neg (by omega)]
          grind
        · rw [if_neg q, if_neg (c := t = j) (fun z => q z.symm)]
          by_cases q2 : j < t
          · rw [if_pos q2, h.unit j q2 i hi]
            grind
          · rw [if_neg q2, if_neg (by omega)]
            grind
      rw [e1, sm_delta, sm_delta, if_pos ht, if_pos hi]
      grind
    · have e1 : sm n (fun j => g i j * (if j = t then 1 else if j < t then -(g j t) else 0)) = sm n (fun _ => 0) := sm_congr fun j hj => by
        by_cases q : j = t
        · rw [q, h0 i (by omega) hi]
          grind
        · rw [if_neg q]
          by_cases q2 : j < t
          · rw [if_pos q2, h.unit j q2 i hi, if_neg (by omega)]
            grind
          · rw [if_neg q2]
            grind
      rw [e1, sm_zero]
      grind
  intro i hi
  have := key i hi
  unfold Ip.lin at this
  grind
theorem sm_swap {f : Nat → Nat → Rat} {m : Nat} : ∀ n : Nat, sm n (fun i => sm m fun j => f i j) = sm m fun j => sm n fun i => f i j
  | 0 => (sm_zero m).symm
  | n + 1 => by
    show sm n (fun i => sm m fun j => f i j) + sm m (fun j => f n j) = sm m fun j => sm n (fun i => f i j) + f n j
    rw [sm_swap n, sm_add]
/-- the steps ask the left columns alone -/
theorem Red.left {n t : Nat} {f f' g : Nat → Nat → Rat} (h : Red n f t g) (e : ∀ i j, j < n → f' i j = f i j) : ∃ g', Red n f' t g' ∧ ∀ i j, j < n → g' i j = g i j := by
  induction h with
  | zero => exact ⟨f', .zero, e⟩
  | @step t k g _ ht htk hk hz ih =>
    obtain ⟨g', h1, h2⟩ := ih
    refine ⟨redT g' t k, .step h1 ht htk hk (by rw [h2 k t ht]; exact hz), fun i j hj => ?_⟩
    unfold redT
    by_cases e1 : i = t
    · rw [if_pos e1, if_pos e1, h2 k j hj, h2 k t ht]
    · rw [if_neg e1, if_neg e1, h2 k j hj, h2 k t ht]
      by_cases e2 : i = k
      · rw [if_pos e2, if_pos e2, h2 t j hj, h2 t t ht]
      · rw [if_neg e2, if_neg e2, h2 i j hj, h2 i t ht]
/-- where all steps went, each right side has an answer -/
theorem Red.onto {n : Nat} {f g : Nat → Nat → Rat} (h : Red n f n g) (b : Nat → Rat) : ∃ y : Nat → Rat, ∀ i, i < n → sm n (fun j => f i j * y j) = b i := by
  obtain ⟨g', h1, h2⟩ := h.left (f' := fun i j => if j = n then b i else f i j) fun i j hj => if_neg (by omega)
  have key := (h1.lin (y := fun i => g' i n) (c := 1)).mp fun i hi => by
    unfold Ip.lin
    rw [sm_congr (h := fun j => (if i = j then 1 else 0) * g' j n) fun j hj => by rw [h1.unit j hj i hi], sm_delta, if_pos hi]
    grind
  refine ⟨fun i => g' i n, fun i hi => ?_⟩
  have := key i hi
  unfold Ip.lin at this
  dsimp only at this
  rw [if_pos rfl] at this
  rw [sm_congr (h := fun j => (if j = n then b i else f i j) * g' j n) fun j hj => by rw [if_neg (show ¬ j = n by omega)]]
  grind
/-- rows that depend on one another: the steps do not all go -/
theorem Red.dep {n : Nat} {f g : Nat → Nat → Rat} {mu : Nat → Rat} (h : Red n f n g) (hm : ∀ j, j < n → sm n (fun i => mu i * f i j) = 0) : ∀ i, i < n → mu i = 0 := fun i hi => by
  obtain ⟨y, hy⟩ := h.onto fun r => if i = r then 1 else 0
  have e1 : sm n (fun r => (if i = r then 1 else 0) * mu r) = mu i := by rw [sm_delta, if_pos hi]
  have e2 : sm n (fun r => (if i = r then 1 else 0) * mu r) = sm n (fun r => sm n fun j => mu r * (f r j * y j)) := sm_congr fun r hr => by
    rw [sm_mul, hy r hr]
    grind
  have e3 : sm n (fun j => sm n fun r => mu r * (f r j * y j)) = sm n fun _ => 0 := sm_congr fun j hj => by
    rw [sm_congr (h := fun r => y j * (mu r * f r j)) fun r _ => by grind, sm_mul, hm j hj]
    grind
  rw [← e1, e2, sm_swap, e3, sm_zero]
end Ip

namespace Ip
/-! ## determinants up to four rows (plain) -/
def minorQ (f : Nat → Nat → Rat) (k : Nat) : Nat → Nat → Rat := fun i j => f (i + 1) (if j < k then j else j + 1)
def sgnQ (k : Nat) : Rat := if k % 2 = 0 then 1 else -1
def detQ : Nat → (Nat → Nat → Rat) → Rat
  | 0, _ => 1
  | n + 1, f => sm (n + 1) fun k => f 0 k * detQ n (minorQ f k) * sgnQ k
theorem det1 (f : Nat → Nat → Rat) : detQ 1 f = f 0 0 := by
  simp [detQ, sm, minorQ, sgnQ]
  try grind
theorem det2 (f : Nat → Nat → Rat) : detQ 2 f = f 0 0 * f 1 1 - f 0 1 * f 1 0 := by
  simp [detQ, sm, minorQ, sgnQ]
  try grind
theorem det3 (f : Nat → Nat → Rat) : detQ 3 f = f 0 0 * (f 1 1 * f 2 2 - f 1 2 * f 2 1) - f 0 1 * (f 1 0 * f 2 2 - f 1 2 * f 2 0) + f 0 2 * (f 1 0 * f 2 1 - f 1 1 * f 2 0) := by
  simp [detQ, sm, minorQ, sgnQ]
  try grind
theorem det4 (f : Nat → Nat → Rat) : detQ 4 f = f 0 0 * detQ 3 (minorQ f 0) - f 0 1 * detQ 3 (minorQ f 1) + f 0 2 * detQ 3 (minorQ f 2) - f 0 3 * detQ 3 (minorQ f 3) := by
  show sm 4 _ = _
  simp only [sm, sgnQ]
  grind
theorem det4e (f : Nat → Nat → Rat) : detQ 4 f = f 0 0 * (f 1 1 * (f 2 2 * f 3 3 - f 2 3 * f 3 2) - f 1 2 * (f 2 1 * f 3 3 - f 2 3 * f 3 1) + f 1 3 * (f 2 1 * f 3 2 - f 2 2 * f 3 1))
  - f 0 1 * (f 1 0 * (f 2 2 * f 3 3 - f 2 3 * f 3 2) - f 1 2 * (f 2 0 * f 3 3 - f 2 3 * f 3 0) + f 1 3 * (f 2 0 * f 3 2 - f 2 2 * f 3 0))
  + f 0 2 * (f 1 0 * (f 2 1 * f 3 3 - f 2 3 * f 3 1) - f 1 1 * (f 2 0 * f 3 3 - f 2 3 * f 3 0) + f 1 3 * (f 2 0 * f 3 1 - f 2 1 * f 3 0))
  - f 0 3 * (f 1 0 * (f 2 1 * f 3 2 - f 2 2 * f 3 1) - f 1 1 * (f 2 0 * f 3 2 - f 2 2 * f 3 0) + f 1 2 * (f 2 0 * f 3 1 - f 2 1 * f 3 0)) := by
  rw [det4, det3, det3, det3, det3]
  simp [minorQ]
theorem red_det_100 (g : Nat → Nat → Rat) (h : g 0 0 ≠ 0) : detQ 1 (redT g 0 0) * g 0 0 = detQ 1 g := by
  rw [det1, det1]
  simp [redT]
  grind
theorem red_det_200 (g : Nat → Nat → Rat) (h : g 0 0 ≠ 0) : detQ 2 (redT g 0 0) * g 0 0 = detQ 2 g := by
  rw [det2, det2]
  simp [redT]
  grind
theorem red_det_201 (g : Nat → Nat → Rat) (h : g 1 0 ≠ 0) : detQ 2 (redT g 0 1) * g 1 0 = -detQ 2 g := by
  rw [det2, det2]
  simp [redT]
  grind
theorem red_det_211 (g : Nat → Nat → Rat) (h : g 1 1 ≠ 0) : detQ 2 (redT g 1 1) * g 1 1 = detQ 2 g := by
  rw [det2, det2]
  simp [redT]
  grind
theorem red_det_300 (g : Nat → Nat → Rat) (h : g 0 0 ≠ 0) : detQ 3 (redT g 0 0) * g 0 0 = detQ 3 g := by
  rw [det3, det3]
  simp [redT]
  grind
theorem red_det_301 (g : Nat → Nat → Rat) (h : g 1 0 ≠ 0) : detQ 3 (redT g 0 1) * g 1 0 = -detQ 3 g := by
  rw [det3, det3]
  simp [redT]
  grind
theorem red_det_302 (g : Nat → Nat → Rat) (h : g 2 0 ≠ 0) : detQ 3 (redT g 0 2) * g 2 0 = -detQ 3 g := by
  rw [det3, det3]
  simp [redT]
  grind
theorem red_det_311 (g : Nat → Nat → Rat) (h : g 1 1 ≠ 0) : detQ 3 (redT g 1 1) * g 1 1 = detQ 3 g := by
  rw [det3, det3]
  simp [redT]
  grind
theorem red_det_312 (g : Nat → Nat → Rat) (h : g 2 1 ≠ 0) : detQ 3 (redT g 1 2) * g 2 1 = -detQ 3 g := by
  rw [det3, det3]
  simp [redT]
  grind
theorem red_det_322 (g : Nat → Nat → Rat) (h : g 2 2 ≠ 0) : detQ 3 (redT g 2 2) * g 2 2 = detQ 3 g := by
  rw [det3, det3]
  simp [redT]
  grind
theorem red_det_400 (g : Nat → Nat → Rat) (h : g 0 0 ≠ 0) : detQ 4 (redT g 0 0) * g 0 0 = detQ 4 g := by
  rw [det4e, det4e]
  simp [redT]
  grind
theorem red_det_401 (g : Nat → Nat → Rat) (h : g 1 0 ≠ 0) : detQ 4 (redT g 0 1) * g 1 0 = -detQ 4 g := by
  rw [det4e, det4e]
  simp [redT]
  grind
theorem red_det_402 (g : Nat → Nat → Rat) (h : g 2 0 ≠ 0) : detQ 4 (redT g 0 2) * g 2 0 = -detQ 4 g := by
  rw [det4e, det4e]
  simp [redT]
  grind
theorem red_det_403 (g : Nat → Nat → Rat) (h : g 3 0 ≠ 0) : detQ 4 (redT g 0 3) * g 3 0 = -detQ 4 g := by
  rw [det4e, det4e]
  simp [redT]
  grind
theorem red_det_411 (g : Nat → Nat → Rat) (h : g 1 1 ≠ 0) : detQ 4 (redT g 1 1) * g 1 1 = detQ 4 g := by
  rw [det4e, det4e]
  simp [redT]
  grind
theorem red_det_412 (g : Nat → Nat → Rat) (h : g 2 1 ≠ 0) : detQ 4 (redT g 1 2) * g 2 1 = -detQ 4 g := by
  rw [det4e, det4e]
  simp [redT]
  grind
theorem red_det_413 (g : Nat → Nat → Rat) (h : g 3 1 ≠ 0) : detQ 4 (redT g 1 3) * g 3 1 = -detQ 4 g := by
  rw [det4e, det4e]
  simp [redT]
  grind
theorem red_det_422 (g : Nat → Nat → Rat) (h : g 2 2 ≠ 0) : detQ 4 (redT g 2 2) * g 2 2 = detQ 4 g := by
  rw [det4e, det4e]
  simp [redT]
  grind
theorem red_det_423 (g : Nat → Nat → Rat) (h : g 3 2 ≠ 0) : detQ 4 (redT g 2 3) * g 3 2 = -detQ 4 g := by
  rw [det4e, det4e]
  simp [redT]
  grind
theorem red_det_433 (g : Nat → Nat → Rat) (h : g 3 3 ≠ 0) : detQ 4 (redT g 3 3) * g 3 3 = detQ 4 g := by
  rw [det4e, det4e]
  simp [redT]
  grind
theorem red_det {n t k : Nat} {g : Nat → Nat → Rat} (hn : n ≤ 4) (ht : t < n) (htk : t ≤ k) (hk : k < n) (hz : g k t ≠ 0) : ∃ c : Rat, c ≠ 0 ∧ detQ n (redT g t k) * c = detQ n g := by
  rcases (show n = 1 ∨ n = 2 ∨ n = 3 ∨ n = 4 by omega) with rfl | rfl | rfl | rfl
  · obtain rfl : t = 0 := by omega
    obtain rfl : k = 0 := by omega
    exact ⟨_, hz, red_det_100 g hz⟩
  · rcases (show t = 0 ∨ t = 1 by omega) with rfl | rfl
    · rcases (show k = 0 ∨ k = 1 by omega) with rfl | rfl
      · exact ⟨_, hz, red_det_200 g hz⟩
      · exact ⟨-(g 1 0), fun z => hz (by grind), by have := red_det_201 g hz; grind⟩
    · rcases (show k = 0 ∨ k = 1 by omega) with rfl | rfl
      · omega
      · exact ⟨_, hz, red_det_211 g hz⟩
  · rcases (show t = 0 ∨ t = 1 ∨ t = 2 by omega) with rfl | rfl | rfl
    · rcases (show k = 0 ∨ k = 1 ∨ k = 2 by omega) with rfl | rfl | rfl
      · exact ⟨_, hz, red_det_300 g hz⟩
      · exact ⟨-(g 1 0), fun z => hz (by grind), by have := red_det_301 g hz; grind⟩
      · exact ⟨-(g 2 0), fun z => hz (by grind), by have := red_det_302 g hz; grind⟩
    · rcases (show k = 0 ∨ k = 1 ∨ k = 2 by omega) with rfl | rfl | rfl
      · omega
      · exact ⟨_, hz, red_det_311 g hz⟩
      · exact ⟨-(g 2 1), fun z => hz (by grind), by have := red_det_312 g hz; grind⟩
    · rcases (show k = 0 ∨ k = 1 ∨ k = 2 by omega) with rfl | rfl | rfl
      · omega
      · omega
      · exact ⟨_, hz, red_det_322 g hz⟩
  · rcases (show t = 0 ∨ t = 1 ∨ t = 2 ∨ t = 3 by omega) with rfl | rfl | rfl | rfl
    · rcases (show k = 0 ∨ k = 1 ∨ k = 2 ∨ k = 3 by omega) with rfl | rfl | rfl | rfl
      · exact ⟨_, hz, red_det_400 g hz⟩
      · exact ⟨-(g 1 0), fun z => hz (by grind), by have := red_det_401 g hz; grind⟩
      · exact ⟨-(g 2 0), fun z => hz (by grind), by have := red_det_402 g hz; grind⟩
      · exact ⟨-(g 3 0), fun z => hz (by grind), by have := red_det_403 g hz; grind⟩
    · rcases (show k = 0 ∨ k = 1 ∨ k = 2 ∨ k = 3 by omega) with rfl | rfl | rfl | rfl
      · omega
      · exact ⟨_, hz, red_det_411 g hz⟩
      · exact ⟨-(g 2 1), fun z => hz (by grind), by have := red_det_412 g hz; grind⟩
      · exact ⟨-(g 3 1), fun z => hz (by grind), by have := red_det_413 g hz; grind⟩
    · rcases (show k = 0 ∨ k = 1 ∨ k = 2 ∨ k = 3 by omega) with rfl | rfl | rfl | rfl
      · omega
      · omega
      · exact ⟨_, hz, red_det_422 g hz⟩
      · exact ⟨-(g 3 2), fun z => hz (by grind), by have := red_det_423 g hz; grind⟩
    · rcases (show k = 0 ∨ k = 1 ∨ k = 2 ∨ k = 3 by omega) with rfl | rfl | rfl | rfl
      · omega
      · omega
      · omega
      · exact ⟨_, hz, red_det_433 g hz⟩
theorem det_unit {n : Nat} {g : Nat → Nat → Rat} (hn : n ≤ 4) (h : ∀ j, j < n → ∀ i, i < n → g i j = if i = j then 1 else 0) : detQ n g = 1 := by
  rcases (show n = 0 ∨ n = 1 ∨ n = 2 ∨ n = 3 ∨ n = 4 by omega) with rfl | rfl | rfl | rfl | rfl
  · rfl
  · have a00 : g 0 0 = 1 := h 0 (by decide) 0 (by decide)
    rw [det1]
    simp only [a00]
    try grind
  · have a00 : g 0 0 = 1 := h 0 (by decide) 0 (by decide)
    have a01 : g 0 1 = 0 := h 1 (by decide) 0 (by decide)
    have a10 : g 1 0 = 0 := h 0 (by decide) 1 (by decide)
    have a11 : g 1 1 = 1 := h 1 (by decide) 1 (by decide)
    rw [det2]
    simp only [a00, a01, a10, a11]
    try grind
  · have a00 : g 0 0 = 1 := h 0 (by decide) 0 (by decide)
    have a01 : g 0 1 = 0 := h 1 (by decide) 0 (by decide)
    have a02 : g 0 2 = 0 := h 2 (by decide) 0 (by decide)
    have a10 : g 1 0 = 0 := h 0 (by decide) 1 (by decide)
    have a11 : g 1 1 = 1 := h 1 (by decide) 1 (by decide)
    have a12 : g 1 2 = 0 := h 2 (by decide) 1 (by decide)
    have a20 : g 2 0 = 0 := h 0 (by decide) 2 (by decide)
    have a21 : g 2 1 = 0 := h 1 (by decide) 2 (by decide)
    have a22 : g 2 2 = 1 := h 2 (by decide) 2 (by decide)
    rw [det3]
    simp only [a00, a01, a02, a10, a11, a12, a20, a21, a22]
    try grind
  · have a00 : g 0 0 = 1 := h 0 (by decide) 0 (by decide)
    have a01 : g 0 1 = 0 := h 1 (by decide) 0 (by decide)
    have a02 : g 0 2 = 0 := h 2 (by decide) 0 (by decide)
    have a03 : g 0 3 = 0 := h 3 (by decide) 0 (by decide)
    have a10 : g 1 0 = 0 := h 0 (by decide) 1 (by decide)
    have a11 : g 1 1 = 1 := h 1 (by decide) 1 (by decide)
    have a12 : g 1 2 = 0 := h 2 (by decide) 1 (by decide)
    have a13 : g 1 3 = 0 := h 3 (by decide) 1 (by decide)
    have a20 : g 2 0 = 0 := h 0 (by decide) 2 (by decide)
    have a21 : g 2 1 = 0 := h 1 (by decide) 2 (by decide)
    have a22 : g 2 2 = 1 := h 2 (by decide) 2 (by decide)
    have a23 : g 2 3 = 0 := h 3 (by decide) 2 (by decide)
    have a30 : g 3 0 = 0 := h 0 (by decide) 3 (by decide)
    have a31 : g 3 1 = 0 := h 1 (by decide) 3 (by decide)
    have a32 : g 3 2 = 0 := h 2 (by decide) 3 (by decide)
    have a33 : g 3 3 = 1 := h 3 (by decide) 3 (by decide)
    rw [det4e]
    simp only [a00, a01, a02, a03, a10, a11, a12, a13, a20, a21, a22, a23, a30, a31, a32, a33]
    try grind
theorem det_zero {n t : Nat} {g : Nat → Nat → Rat} (hn : n ≤ 4) (ht : t < n) (h : ∀ j, j < t → ∀ i, i < n → g i j = if i = j then 1 else 0) (h0 : ∀ i, t ≤ i → i < n → g i t = 0) : detQ n g = 0 := by
  rcases (show n = 1 ∨ n = 2 ∨ n = 3 ∨ n = 4 by omega) with rfl | rfl | rfl | rfl
  · obtain rfl : t = 0 := by omega
    have a00 : g 0 0 = 0 := h0 0 (by decide) (by decide)
    rw [det1]
    simp only [a00]
    try grind
  · rcases (show t = 0 ∨ t = 1 by omega) with rfl | rfl
    · have a00 : g 0 0 = 0 := h0 0 (by decide) (by decide)
      have a10 : g 1 0 = 0 := h0 1 (by decide) (by decide)
      rw [det2]
      simp only [a00, a10]
      try grind
    · have a00 : g 0 0 = 1 := h 0 (by decide) 0 (by decide)
      have a10 : g 1 0 = 0 := h 0 (by decide) 1 (by decide)
      have a11 : g 1 1 = 0 := h0 1 (by decide) (by decide)
      rw [det2]
      simp only [a00, a10, a11]
      try grind
  · rcases (show t = 0 ∨ t = 1 ∨ t = 2 by omega) with rfl | rfl | rfl
    · have a00 : g 0 0 = 0 := h0 0 (by decide) (by decide)
      have a10 : g 1 0 = 0 := h0 1 (by decide) (by decide)
      have a20 : g 2 0 = 0 := h0 2 (by decide) (by decide)
      rw [det3]
      simp only [a00, a10, a20]
      try grind
    · have a00 : g 0 0 = 1 := h 0 (by decide) 0 (by decide)
      have a10 : g 1 0 = 0 := h 0 (by decide) 1 (by decide)
      have a20 : g 2 0 = 0 := h 0 (by decide) 2 (by decide)
      have a11 : g 1 1 = 0 := h0 1 (by decide) (by decide)
      have a21 : g 2 1 = 0 := h0 2 (by decide) (by decide)
      rw [det3]
      simp only [a00, a10, a20, a11, a21]
      try grind
    · have a00 : g 0 0 = 1 := h 0 (by decide) 0 (by decide)
      have a10 : g 1 0 = 0 := h 0 (by decide) 1 (by decide)
      have a20 : g 2 0 = 0 := h 0 (by decide) 2 (by decide)
      have a01 : g 0 1 = 0 := h 1 (by decide) 0 (by decide)
      have a11 : g 1 1 = 1 := h 1 (by decide) 1 (by decide)
      have a21 : g 2 1 = 0 := h 1 (by decide) 2 (by decide)
      have a22 : g 2 2 = 0 := h0 2 (by decide) (by decide)
      rw [det3]
      simp only [a00, a10, a20, a01, a11, a21, a22]
      try grind
  · rcases (show t = 0 ∨ t = 1 ∨ t = 2 ∨ t = 3 by omega) with rfl | rfl | rfl | rfl
    · have a00 : g 0 0 = 0 := h0 0 (by decide) (by decide)
      have a10 : g 1 0 = 0 := h0 1 (by decide) (by decide)
      have a20 : g 2 0 = 0 := h0 2 (by decide) (by decide)
      have a30 : g 3 0 = 0 := h0 3 (by decide) (by decide)
      rw [det4e]
      simp only [a00, a10, a20, a30]
      try grind
    · have a00 : g 0 0 = 1 := h 0 (by decide) 0 (by decide)
      have a10 : g 1 0 = 0 := h 0 (by decide) 1 (by decide)
      have a20 : g 2 0 = 0 := h 0 (by decide) 2 (by decide)
      have a30 : g 3 0 = 0 := h 0 (by decide) 3 (by decide)
      have a11 : g 1 1 = 0 := h0 1 (by decide) (by decide)
      have a21 : g 2 1 = 0 := h0 2 (by decide) (by decide)
      have a31 : g 3 1 = 0 := h0 3 (by decide) (by decide)
      rw [det4e]
      simp only [a00, a10, a20, a30, a11, a21, a31]
      try grind
    · have a00 : g 0 0 = 1 := h 0 (by decide) 0 (by decide)
      have a10 : g 1 0 = 0 := h 0 (by decide) 1 (by decide)
      have a20 : g 2 0 = 0 := h 0 (by decide) 2 (by decide)
      have a30 : g 3 0 = 0 := h 0 (by decide) 3 (by decide)
      have a01 : g 0 1 = 0 := h 1 (by decide) 0 (by decide)
      have a11 : g 1 1 = 1 := h 1 (by decide) 1 (by decide)
      have a21 : g 2 1 = 0 := h 1 (by decide) 2 (by decide)
      have a31 : g 3 1 = 0 := h 1 (by decide) 3 (by decide)
      have a22 : g 2 2 = 0 := h0 2 (by decide) (by decide)
      have a32 : g 3 2 = 0 := h0 3 (by decide) (by decide)
      rw [det4e]
      simp only [a00, a10, a20, a30, a01, a11, a21, a31, a22, a32]
      try grind
    · have a00 : g 0 0 = 1 := h 0 (by decide) 0 (by decide)
      have a10 : g 1 0 = 0 := h 0 (by decide) 1 (by decide)
      have a20 : g 2 0 = 0 := h 0 (by decide) 2 (by decide)
      have a30 : g 3 0 = 0 := h 0 (by decide) 3 (by decide)
      have a01 : g 0 1 = 0 := h 1 (by decide) 0 (by decide)
      have a11 : g 1 1 = 1 := h 1 (by decide) 1 (by decide)
      have a21 : g 2 1 = 0 := h 1 (by decide) 2 (by decide)
      have a31 : g 3 1 = 0 := h 1 (by decide) 3 (by decide)
      have a02 : g 0 2 = 0 := h 2 (by decide) 0 (by decide)
      have a12 : g 1 2 = 0 := h 2 (by decide) 1 (by decide)
      have a22 : g 2 2 = 1 := h 2 (by decide) 2 (by decide)
      have a32 : g 3 2 = 0 := h 2 (by decide) 3 (by decide)
      have a33 : g 3 3 = 0 := h0 3 (by decide) (by decide)
      rw [det4e]
      simp only [a00, a10, a20, a30, a01, a11, a21, a31, a02, a12, a22, a32, a33]
      try grind
theorem det_scale {n : Nat} {g : Nat → Nat → Rat} {u : Nat → Rat} (hn : n ≤ 4) (hu : ∀ i, u i ≠ 0) : ∃ c : Rat, c ≠ 0 ∧ detQ n (fun i j => g i j * u i) = c * detQ n g := by
  rcases (show n = 0 ∨ n = 1 ∨ n = 2 ∨ n = 3 ∨ n = 4 by omega) with rfl | rfl | rfl | rfl | rfl
  · exact ⟨1, by decide, by show (1 : Rat) = 1 * 1; grind⟩
  · refine ⟨u 0, ?_, ?_⟩
    · have h0 := hu 0; grind
    · rw [det1, det1]
      grind
  · refine ⟨u 0 * u 1, ?_, ?_⟩
    · have h0 := hu 0; have h1 := hu 1; grind
    · rw [det2, det2]
      grind
  · refine ⟨u 0 * u 1 * u 2, ?_, ?_⟩
    · have h0 := hu 0; have h1 := hu 1; have h2 := hu 2; grind
    · rw [det3, det3]
      grind
  · refine ⟨u 0 * u 1 * u 2 * u 3, ?_, ?_⟩
    · have h0 := hu 0; have h1 := hu 1; have h2 := hu 2; have h3 := hu 3; grind
    · rw [det4e, det4e]
      grind
theorem Red.det {n t : Nat} {f g : Nat → Nat → Rat} (hn : n ≤ 4) (h : Red n f t g) : ∃ c : Rat, c ≠ 0 ∧ detQ n g * c = detQ n f := by
  induction h with
  | zero => exact ⟨1, by decide, by grind⟩
  | step _ ht htk hk hz ih =>
    obtain ⟨c, h1, h2⟩ := ih
    obtain ⟨e, h3, h4⟩ := red_det hn ht htk hk hz
    exact ⟨e * c, by grind, by rw [← h2, ← h4]; grind⟩
/-- all steps went: the determinant is none -/
theorem Red.det_ne {n : Nat} {f g : Nat → Nat → Rat} (hn : n ≤ 4) (h : Red n f n g) : detQ n f ≠ 0 := by
  obtain ⟨c, h1, h2⟩ := h.det hn
  rw [det_unit hn h.unit] at h2
  grind
theorem Red.det_eq {n t : Nat} {f g : Nat → Nat → Rat} (hn : n ≤ 4) (h : Red n f t g) (ht : t < n) (h0 : ∀ i, t ≤ i → i < n → g i t = 0) : detQ n f = 0 := by
  obtain ⟨c, h1, h2⟩ := h.det hn
  rw [det_zero hn ht h.unit h0] at h2
  grind
theorem detQ_congr : ∀ {n : Nat} {f g : Nat → Nat → Rat}, (∀ i, i < n → ∀ j, j < n → f i j = g i j) → detQ n f = detQ n g
  | 0, _, _, _ => rfl
  | n + 1, f, g, h => by
    show sm (n + 1) _ = sm (n + 1) _
    refine sm_congr fun k hk => ?_
    rw [h 0 (by omega) k hk, detQ_congr (f := minorQ f k) (g := minorQ g k) fun i hi j hj => ?_]
    unfold minorQ
    exact h _ (by omega) _ (by split <;> omega)
end Ip

namespace Ip
open PySem L2 PySem.Spec
/-! ## walking in few words -/
/-- names set anew, by number -/
def upds (l : Ip.Loc) : List (Nat × Option Dt) → Ip.Loc
  | [] => l
  | (i, d) :: r => upds (l.set i d) r
theorem upds_nil (l : Ip.Loc) : upds l [] = l := nr rfl
theorem upds_cons (l : Ip.Loc) (i : Nat) (d : Option Dt) (r : List (Nat × Option Dt)) : upds l ((i, d) :: r) = upds (l.set i d) r := nr rfl
theorem st_nm (i : Nat) (d : Dt) (l : Ip.Loc) : setTg (.nm i) d l = some (l.set i (some d)) := nr rfl
theorem st_1 (i : Nat) (a : Dt) (l : Ip.Loc) : setTg (.tp [i]) (.tup [a]) l = some (l.set i (some a)) := nr rfl
theorem st_2 (i j : Nat) (a b : Dt) (l : Ip.Loc) : setTg (.tp [i, j]) (.tup [a, b]) l = some ((l.set i (some a)).set j (some b)) := nr rfl
theorem st_3 (i j k : Nat) (a b c : Dt) (l : Ip.Loc) : setTg (.tp [i, j, k]) (.tup [a, b, c]) l = some (((l.set i (some a)).set j (some b)).set k (some c)) := nr rfl
theorem st_4 (i j k m : Nat) (a b c d : Dt) (l : Ip.Loc) : setTg (.tp [i, j, k, m]) (.tup [a, b, c, d]) l = some ((((l.set i (some a)).set j (some b)).set k (some c)).set m (some d)) := nr rfl
theorem wi_nil (l : Ip.Loc) : wipeL l [] = l := nr rfl
theorem wi_cons (l : Ip.Loc) (v : Nat) (vs : List Nat) : wipeL l (v :: vs) = (wipeL l vs).set v none := nr rfl
/-- on with J, else Q -/
def Lp (J : Ip.Loc → Sto → Prop) (Q : O → Prop) : O → Prop := fun o => match o with
  | .nx l s => J l s
  | o => Q o
section
variable {P : Pg} {C C' : Cl} {h : Option Er} {l l1 l2 : Ip.Loc} {s s1 s2 : Sto} {e c it : E} {a b r : S} {d : Dt} {i n : Nat} {tg : Tg} {Q : O → Prop} {J : Ip.Loc → Sto → Prop} {k : Bool}
theorem lp_end (hj : J l s) : Fin (Lp J Q) (exS P C C' .skip h l s) := ⟨hj⟩
theorem lp_nx (hj : J l s) : Fin (Lp J Q) (.nx l s) := ⟨hj⟩
theorem lp_rt (hq : Fin Q (.rt d s)) : Fin (Lp J Q) (.rt d s) := ⟨hq.go⟩
theorem lp_er {z : Er} (hq : Fin Q (.er z l s)) : Fin (Lp J Q) (.er z l s) := ⟨hq.go⟩
theorem lp_seq {o : O} (ho : Fin (Lp J Q) o) (hj : ∀ l s, J l s → Fin Q (exS P C C' r h l s)) : Fin Q (o.then fun l s => exS P C C' r h l s) := by
  cases o with
  | nx l s => exact hj l s ho.go
  | _ => exact ⟨ho.go⟩
/-- a loop, by an invariant -/
theorem forL_lp {f : Dt → Ip.Loc → Sto → O} {ds : List Dt} (I : Nat → Ip.Loc → Sto → Prop) (step : ∀ i (h : i < ds.length) l s, I i l s → Fin (Lp (I (i + 1)) Q) (f ds[i] l s)) : ∀ {l : Ip.Loc} {s : Sto}, I 0 l s → Fin (Lp (I ds.length) Q) (forL f ds l s) := by
  have key : ∀ (j : Nat) (l : Ip.Loc) (s : Sto), j ≤ ds.length → I (ds.length - j) l s → Fin (Lp (I ds.length) Q) (forL f (ds.drop (ds.length - j)) l s) := fun j => by
    induction j with
    | zero =>
      intro l s _ h
      rw [Nat.sub_zero] at h ⊢
      rw [List.drop_length]
      exact ⟨h⟩
    | succ j ih =>
      intro l s hj h
      have hlt : ds.length - (j + 1) < ds.length := by omega
      have st := step _ hlt l s h
      rw [List.drop_eq_getElem_cons hlt]
      show Fin _ ((f _ l s).then (fun l s => forL f _ l s))
      have e2 : ds.length - (j + 1) + 1 = ds.length - j := by omega
      rw [e2] at st ⊢
      generalize f (ds[ds.length - (j + 1)]) l s = o at st
      cases o with
      | nx l1 s1 => exact ih l1 s1 (by omega) st.go
      | _ => exact ⟨st.go⟩
  intro l s h
  have := key ds.length l s (Nat.le_refl _) (by rw [Nat.sub_self]; exact h)
  rwa [Nat.sub_self, List.drop_zero] at this
open Classical in
theorem forV_lp {m : Nat} {ob : Ob} {f : Dt → Ip.Loc → Sto → O} {ds : List Dt} (I : Nat → Ip.Loc → Sto → Prop) (step : ∀ i (h : i < ds.length) l s, I i l s → Fin (Lp (fun l s => I (i + 1) l s ∧ s[m]? = some ob) Q) (f ds[i] l s)) : ∀ {l : Ip.Loc} {s : Sto}, I 0 l s → Fin (Lp (I ds.length) Q) (forV m ob f ds l s) := by
  have key : ∀ (j : Nat) (l : Ip.Loc) (s : Sto), j ≤ ds.length → I (ds.length - j) l s → Fin (Lp (I ds.length) Q) (forV m ob f (ds.drop (ds.length - j)) l s) := fun j => by
    induction j with
    | zero =>
      intro l s _ h
      rw [Nat.sub_zero] at h ⊢
      rw [List.drop_length]
      exact ⟨h⟩
    | succ j ih =>
      intro l s hj h
      have hlt : ds.length - (j + 1) < ds.length := by omega
      have st := step _ hlt l s h
      rw [List.drop_eq_getElem_cons hlt]
      show Fin _ ((f _ l s).then (fun l s => if s[m]? = some ob then forV m ob f _ l s else .no))
      have e2 : ds.length - (j + 1) + 1 = ds.length - j := by omega
      rw [e2] at st ⊢
      generalize f (ds[ds.length - (j + 1)]) l s = o at st
      cases o with
      | nx l1 s1 =>
        show Fin _ (if s1[m]? = some ob then forV m ob f _ l1 s1 else .no)
        rw [if_pos st.go.2]
        exact ih l1 s1 (by omega) st.go.1
      | _ => exact ⟨st.go⟩
  intro l s h
  have := key ds.length l s (Nat.le_refl _) (by rw [Nat.sub_self]; exact h)
  rwa [Nat.sub_self, List.drop_zero] at this
/-- for: the invariant sees the names and the store ahead of the loop -/
theorem fi_forG {ds : List Dt} (I : Ip.Loc → Sto → Nat → Ip.Loc → Sto → Prop) (hi : evI P C h it l s = .ok (.pl ds) s1) (h0 : I l s1 0 l s1) (step : ∀ i (hl : i < ds.length) l' s', I l s1 i l' s' → Fin (Lp (I l s1 (i + 1)) Q) (bodF P C C' tg b h ds[i] l' s')) (fin : ∀ l' s', I l s1 ds.length l' s' → Fin Q (exS P C C' r h l' s')) : Fin Q (exS P C C' (.seq (.for_ tg it b) r) h l s) := by
  show Fin Q ((exS P C C' (.for_ tg it b) h l s).then _)
  rw [for_pl hi]
  exact lp_seq (forL_lp (I l s1) step h0) fin
theorem fi_forRg {lo : Int} {n : Nat} (I : Ip.Loc → Sto → Nat → Ip.Loc → Sto → Prop) (hi : evI P C h it l s = .ok (.pl (dRange lo n)) s1) (h0 : I l s1 0 l s1) (step : ∀ i, i < n → ∀ l' s', I l s1 i l' s' → Fin (Lp (I l s1 (i + 1)) Q) (bodF P C C' tg b h (.int (lo + (i : Nat))) l' s')) (fin : ∀ l' s', I l s1 n l' s' → Fin Q (exS P C C' r h l' s')) : Fin Q (exS P C C' (.seq (.for_ tg it b) r) h l s) :=
  fi_forG I hi h0 (fun i hl l' s' q => by rw [dRange_get hl]; exact step i (by rw [dRange_len] at hl; exact hl) l' s' q) (fun l' s' q => by rw [dRange_len] at q; exact fin l' s' q)
theorem fi_forN {n : Nat} (I : Ip.Loc → Sto → Nat → Ip.Loc → Sto → Prop) (hi : evI P C h it l s = .ok (.pl (dRange 0 n)) s1) (h0 : I l s1 0 l s1) (step : ∀ i, i < n → ∀ l' s', I l s1 i l' s' → Fin (Lp (I l s1 (i + 1)) Q) (bodF P C C' tg b h (.int (i : Nat)) l' s')) (fin : ∀ l' s', I l s1 n l' s' → Fin Q (exS P C C' r h l' s')) : Fin Q (exS P C C' (.seq (.for_ tg it b) r) h l s) :=
  fi_forRg I hi h0 (fun i hl l' s' q => by rw [Int.zero_add]; exact step i hl l' s' q) fin
theorem fi_forM {α : Type} {g : α → Dt} {xs : List α} (I : Ip.Loc → Sto → Nat → Ip.Loc → Sto → Prop) (hi : evI P C h it l s = .ok (.pl (xs.map g)) s1) (h0 : I l s1 0 l s1) (step : ∀ i (hl : i < xs.length) l' s', I l s1 i l' s' → Fin (Lp (I l s1 (i + 1)) Q) (bodF P C C' tg b h (g xs[i]) l' s')) (fin : ∀ l' s', I l s1 xs.length l' s' → Fin Q (exS P C C' r h l' s')) : Fin Q (exS P C C' (.seq (.for_ tg it b) r) h l s) :=
  fi_forG I hi h0 (fun i hl l' s' q => by rw [List.getElem_map]; exact step i (by rw [List.length_map] at hl; exact hl) l' s' q) (fun l' s' q => by rw [List.length_map] at q; exact fin l' s' q)
theorem fi_forVM {α : Type} {g : α → Dt} {xs : List α} {m : Nat} (I : Ip.Loc → Sto → Nat → Ip.Loc → Sto → Prop) (hi : evI P C h it l s = .ok (.lv m (.lst (xs.map g)) (xs.map g)) s1) (h0 : I l s1 0 l s1) (step : ∀ i (hl : i < xs.length) l' s', I l s1 i l' s' → Fin (Lp (fun l2 s2 => I l s1 (i + 1) l2 s2 ∧ s2[m]? = some (.lst (xs.map g))) Q) (bodF P C C' tg b h (g xs[i]) l' s')) (fin : ∀ l' s', I l s1 xs.length l' s' → Fin Q (exS P C C' r h l' s')) : Fin Q (exS P C C' (.seq (.for_ tg it b) r) h l s) := by
  show Fin Q ((exS P C C' (.for_ tg it b) h l s).then _)
  rw [for_lv hi]
  refine lp_seq (forV_lp (ob := .lst (xs.map g)) (I l s1) (fun i hl l' s' q => ?_) h0) fun l' s' q => ?_
  · rw [List.getElem_map]
    exact step i (by rw [List.length_map] at hl; exact hl) l' s' q
  · rw [List.length_map] at q
    exact fin l' s' q
/-- an if whose ways join -/
theorem fi_ifL (J : Ip.Loc → Sto → Ip.Loc → Sto → Prop) (hc : evE P C h c l s = .ok (.bl k) s1) (ht : k = true → Fin (Lp (J l s1) Q) (exS P C C' a h l s1)) (hf : k = false → Fin (Lp (J l s1) Q) (exS P C C' b h l s1)) (hj : ∀ l' s', J l s1 l' s' → Fin Q (exS P C C' r h l' s')) : Fin Q (exS P C C' (.seq (.ite c a b) r) h l s) := by
  show Fin Q ((exS P C C' (.ite c a b) h l s).then _)
  cases k with
  | true =>
    rw [ite_t hc]
    exact lp_seq (ht rfl) hj
  | false =>
    rw [ite_f hc]
    exact lp_seq (hf rfl) hj
theorem fi_ifK (hc : evE P C h c l s = .ok (.bl true) s1) (ht : Fin (Cn P C C' h r Q) (exS P C C' a h l s1)) : Fin Q (exS P C C' (.seq (.ite c a b) r) h l s) := fi_if hc (fun _ => ht) fun z => by cases z
theorem fi_ifN (hc : evE P C h c l s = .ok (.bl false) s1) (hf : Fin (Cn P C C' h r Q) (exS P C C' b h l s1)) : Fin Q (exS P C C' (.seq (.ite c a b) r) h l s) := fi_if hc (fun z => by cases z) fun _ => hf
/-- while, by an invariant with a falling number -/
theorem fi_whlL (I : Ip.Loc → Sto → Nat → Ip.Loc → Sto → Prop) (n : Nat) (h0 : I l s n l s) (step : ∀ m l' s', I l s m l' s' → (∃ s1, evE P C h c l' s' = .ok (.bl false) s1 ∧ Fin Q (exS P C C' r h l' s1)) ∨ ∃ s1 l2 s2 m', evE P C h c l' s' = .ok (.bl true) s1 ∧ exS P C C' b h l' s1 = .nx l2 s2 ∧ m' < m ∧ I l s m' l2 s2) : Fin Q (exS P C C' (.seq (.whl c b) r) h l s) := by
  obtain ⟨l', s', e, j⟩ := whE_inv (P := P) (C := C) (C' := C') (h := h) (c := c) (b := b) (I l s) (fun l' s' => Fin Q (exS P C C' r h l' s')) (fun m l' s' q => by
    rcases step m l' s' q with ⟨s1, h1, h2⟩ | ⟨s1, l2, s2, m', h1, h2, h3, h4⟩
    · exact .inl ⟨s1, h1, h2⟩
    · exact .inr ⟨s1, l2, s2, m', h1, h2, h3, h4⟩) n h0
  exact .to (q_whl e) j
/-- try: the body, then what follows -/
theorem fi_tri {hs : S} (ha : Fin (fun o => match o with
    | .er z l s => Fin Q ((exS P C C' hs (some z) l s).then fun l s => exS P C C' r none l s)
    | o => Fin Q (o.then fun l s => exS P C C' r none l s)) (exS P C C' a none l s)) : Fin Q (exS P C C' (.seq (.tri a hs) r) none l s) := by
  have g := ha.go
  show Fin Q ((match exS P C C' a none l s with
    | .er z l s => exS P C C' hs (some z) l s
    | o => o).then _)
  generalize exS P C C' a none l s = o at g
  cases o <;> exact g
end
/-! ### comprehensions -/
section
variable {P : Pg} {C : Cl} {h : Option Er} {l : Ip.Loc} {s s1 s2 : Sto} {a b c elt it : E} {x y : Dt} {own : List Nat} {tg : Tg} {lv : Bool} {α : Type}
theorem lc_map {xs : List α} {f g : α → Dt} (hi : evI P C h it l s = .ok (.pl (xs.map f)) s1) (hz : xs.length ≤ 100000) (hx : ∀ x ∈ xs, withO (setTg tg (f x) (wipeL l own)) R.no (fun l1 => evE P C h elt l1 s1) = .ok (g x) s1) :
    evE P C h (.lc lv own elt tg it (.con (.bl true))) l s = mkL lv (xs.map g) s1 := lc_all hi hz fun x hxs => by
  have e := hx x hxs
  cases q : setTg tg (f x) (wipeL l own) with
  | none => rw [q] at e; cases e
  | some l1 => exact ⟨l1, rfl, by rw [q] at e; exact e⟩
theorem lc_flt {xs : List α} {f g : α → Dt} {p : α → Bool} (hi : evI P C h it l s = .ok (.pl (xs.map f)) s1) (hz : xs.length ≤ 100000) (hx : ∀ x ∈ xs, withO (setTg tg (f x) (wipeL l own)) R.no (fun l1 => evE P C h c l1 s1) = .ok (.bl (p x)) s1) (hy : ∀ x ∈ xs, p x = true → withO (setTg tg (f x) (wipeL l own)) R.no (fun l1 => evE P C h elt l1 s1) = .ok (g x) s1) :
    evE P C h (.lc lv own elt tg it c) l s = mkL lv ((xs.filter p).map g) s1 := lc_gen hi hz fun x hxs => by
  have e := hx x hxs
  have e2 := hy x hxs
  cases q : setTg tg (f x) (wipeL l own) with
  | none => rw [q] at e; cases e
  | some l1 => exact ⟨l1, rfl, by rw [q] at e; exact e, fun z => by have := e2 z; rw [q] at this; exact this⟩
theorem lc_mapF {xs : List α} {f g : α → Dt} (hi : evI P C h it l s = .ok (.pl (xs.map f)) s1) (hz : xs.length ≤ 100000) (hx : ∀ x ∈ xs, withO (setTg tg (f x) (wipeL l own)) R.no (fun l1 => evE P C h elt l1 s1) = .ok (g x) s1) :
    evE P C h (.lc false own elt tg it (.con (.bl true))) l s = .ok (.lst (xs.map g)) s1 := lc_map hi hz hx
theorem lc_fltF {xs : List α} {f g : α → Dt} {p : α → Bool} (hi : evI P C h it l s = .ok (.pl (xs.map f)) s1) (hz : xs.length ≤ 100000) (hx : ∀ x ∈ xs, withO (setTg tg (f x) (wipeL l own)) R.no (fun l1 => evE P C h c l1 s1) = .ok (.bl (p x)) s1) (hy : ∀ x ∈ xs, p x = true → withO (setTg tg (f x) (wipeL l own)) R.no (fun l1 => evE P C h elt l1 s1) = .ok (g x) s1) :
    evE P C h (.lc false own elt tg it c) l s = .ok (.lst ((xs.filter p).map g)) s1 := lc_flt hi hz hx hy
end
/-! ### statements as equations, for many at once -/
section
variable {P : Pg} {C C' : Cl} {h : Option Er} {l : Ip.Loc} {s : Sto} {r : S}
theorem w_set (i : Nat) (e : E) : exS P C C' (.seq (.set i e) r) h l s = (evE P C h e l s).out l fun d s => exS P C C' r h (l.set i (some d)) s := by
  show ((evE P C h e l s).out l _).then _ = _
  cases evE P C h e l s <;> rfl
theorem w_ex (e : E) : exS P C C' (.seq (.ex e) r) h l s = (evE P C h e l s).out l fun d s => exS P C C' r h l s := by
  show ((evE P C h e l s).out l _).then _ = _
  cases evE P C h e l s <;> rfl
theorem w_unp (is : List Nat) (e : E) : exS P C C' (.seq (.unp is e) r) h l s = (evE P C h e l s).out l fun d s => withO (setTg (.tp is) d l) O.no fun l => exS P C C' r h l s := by
  show ((evE P C h e l s).out l _).then _ = _
  cases evE P C h e l s with
  | ok d s => show (withO (setTg (.tp is) d l) O.no _).then _ = withO (setTg (.tp is) d l) O.no _
              cases setTg (.tp is) d l <;> rfl
  | _ => rfl
theorem w_ret (e : E) : exS P C C' (.seq (.ret e) r) h l s = (evE P C h e l s).out l fun d s => .rt d s := by
  show ((evE P C h e l s).out l _).then _ = _
  cases evE P C h e l s <;> rfl
theorem w_retN : exS P C C' (.seq .retN r) h l s = .rt .non s := nr rfl
theorem w_par (i j : Nat) (e f : E) : exS P C C' (.seq (.par i j e f) r) h l s = (evE P C h e l s).out l fun x s => (evE P C h f l s).out l fun y s => exS P C C' r h ((l.set i (some x)).set j (some y)) s := by
  show ((evE P C h e l s).out l fun x s => (evE P C h f l s).out l _).then _ = _
  cases evE P C h e l s with
  | ok d s => show ((evE P C h f l s).out l _).then _ = (evE P C h f l s).out l _
              cases evE P C h f l s <;> rfl
  | _ => rfl
theorem w_six (o i e : E) : exS P C C' (.seq (.six o i e) r) h l s = (evE P C h e l s).out l fun v s => (evE P C h o l s).out l fun x s => (evE P C h i l s).out l fun y s => withO (sixS x y v s) O.no fun s => exS P C C' r h l s := by
  show ((evE P C h e l s).out l fun v s => (evE P C h o l s).out l fun x s => (evE P C h i l s).out l fun y s => withO (sixS x y v s) O.no fun s => .nx l s).then _ = _
  cases evE P C h e l s with
  | ok v s => show ((evE P C h o l s).out l fun x s => (evE P C h i l s).out l fun y s => withO (sixS x y v s) O.no fun s => .nx l s).then _ = (evE P C h o l s).out l _
              cases evE P C h o l s with
              | ok x s => show ((evE P C h i l s).out l fun y s => withO (sixS x y v s) O.no fun s => .nx l s).then _ = (evE P C h i l s).out l _
                          cases evE P C h i l s with
                          | ok y s => show (withO (sixS x y v s) O.no _).then _ = withO (sixS x y v s) O.no _
                                      cases sixS x y v s <;> rfl
                          | _ => rfl
              | _ => rfl
  | _ => rfl
theorem w_skip : exS P C C' .skip h l s = .nx l s := nr rfl
theorem ot_er {α : Type} (e : Er) (s : Sto) (l : Ip.Loc) (k : α → Sto → O) : (R.er e s : R α).out l k = .er e l s := nr rfl
end
/-! ### sorting by a key -/
theorem srt_key {α : Type} {f : α → Int} {l l' : List α} (hp : l'.Perm l) (hs : l'.Pairwise fun a b => f a ≤ f b) (inj : ∀ a ∈ l', ∀ b ∈ l', f a = f b → a = b) : l.mergeSort (fun a b => decide (f a ≤ f b)) = l' := by
  have h := List.pairwise_mergeSort (le := fun a b : α => decide (f a ≤ f b)) (fun a b c h1 h2 => by simp only [decide_eq_true_eq] at *; omega) (fun a b => by simp only [Bool.or_eq_true, decide_eq_true_eq]; omega) l
  refine (List.Perm.eq_of_pairwise (le := fun x y : α => f x ≤ f y) (fun x y hx hy h1 h2 => ?_) hs (h.imp fun h => by simpa using h) (hp.trans (List.mergeSort_perm l _).symm)).symm
  exact inj x hx y (hp.mem_iff.mpr ((List.mergeSort_perm l _).mem_iff.mp hy)) (Int.le_antisymm h1 h2)
/-! ### what simp reckons with -/
def isLO : Option Ob → Bool
  | some (.lst _) => true
  | some (.fz (.lst _)) => true
  | some (.lk (.lst _)) => true
  | _ => false
theorem rcv_app (n : Nat) (s : Sto) : rcv .append (.obj n) s = isLO s[n]? := by
  show (match viewO s[n]? n with
    | .lst _ => true
    | _ => false) = _
  generalize s[n]? = o
  cases o with
  | none => rfl
  | some o => cases o with
    | fz d => cases d <;> rfl
    | lk o => cases o <;> rfl
    | _ => rfl
theorem rcv_ins (n : Nat) (s : Sto) : rcv .insert (.obj n) s = isLO s[n]? := rcv_app n s
theorem rcv_rev (n : Nat) (s : Sto) : rcv .reverse (.obj n) s = isLO s[n]? := rcv_app n s
theorem isLO_lst (l : List Dt) : isLO (some (.lst l)) = true := nr rfl
def appO (o : Option Ob) (n : Nat) (x : Dt) (s : Sto) : R Dt := match o with
  | some (.lst l) => if l.length < sizeLine then .ok .non (s.set n (.lst (l ++ [x]))) else .no
  | _ => .no
theorem mt_app (n : Nat) (x : Dt) (s : Sto) : mtS .append (.obj n) [x] s = appO s[n]? n x s := nr rfl
theorem appO_lst {l : List Dt} (h : l.length < sizeLine) (n : Nat) (x : Dt) (s : Sto) : appO (some (.lst l)) n x s = .ok .non (s.set n (.lst (l ++ [x]))) := if_pos h
theorem ix_l (l : List Dt) (i : Int) (s : Sto) : ixS (.lst l) (.int i) s = withO (atI l i) R.no fun d => .ok d s := nr rfl
theorem ix_t (l : List Dt) (i : Int) (s : Sto) : ixS (.tup l) (.int i) s = withO (atI l i) R.no fun d => .ok d s := nr rfl
def ixO (o : Option Ob) (n : Nat) (y : Dt) (s : Sto) : R Dt := match o with
  | some (.lst l) => match y with
    | .int i => withO (atI l i) R.no fun d => .ok d s
    | _ => ixS (.obj n) y s
  | some (.fz (.lst l)) => match y with
    | .int i => withO (atI l i) R.no fun d => .ok d s
    | _ => ixS (.obj n) y s
  | some (.dK l) => match keyOf y with
    | some k => withO (lookK l k) R.no fun d => .ok d s
    | none => ixS (.obj n) y s
  | some (.lk (.dK l)) => match keyOf y with
    | some k => withO (lookK l k) R.no fun d => .ok d s
    | none => ixS (.obj n) y s
  | some (.fz (.dic l)) => match keyOf y with
    | some k => withO (lookK l k) R.no fun d => .ok d s
    | none => ixS (.obj n) y s
  | _ => ixS (.obj n) y s
theorem ixS_v {a y x : Dt} {s : Sto} (h : view s a = x) : ixS a y s = match (generalizing := false) x, y with
  | .tup l, .int i => withO (atI l i) R.no fun d => .ok d s
  | .lst l, .int i => withO (atI l i) .no fun d => .ok d s
  | .str z, .int i => if z.length ≤ sizeLine then withO (atI z.cps.toList i) .no fun c => .ok (.str ⟨#[c]⟩) s else .no
  | _, _ => match dGet a y s with
    | some (some d) => .ok d s
    | _ => .no := by
  unfold ixS
  rw [h] <;> (cases x <;> cases y <;> rfl)
theorem dGet_v {a y : Dt} {l : List (Key × Dt)} {s : Sto} (h : view s a = .dic l) : dGet a y s = (keyOf y).map fun k => lookK l k := by
  unfold dGet
  rw [h]
theorem ix_key {a y : Dt} {l : List (Key × Dt)} {k : Key} {s : Sto} (h : view s a = .dic l) (hk : keyOf y = some k) : ixS a y s = withO (lookK l k) R.no fun d => .ok d s := by
  rw [ixS_v h]
  have e : dGet a y s = some (lookK l k) := by rw [dGet_v h, hk]; rfl
  have g : (match dGet a y s with
    | some (some d) => R.ok d s
    | _ => R.no) = withO (lookK l k) R.no fun d => .ok d s := by
    rw [e]
    cases lookK l k <;> rfl
  cases y <;> exact g
theorem ix_o (n : Nat) (y : Dt) (s : Sto) : ixS (.obj n) y s = ixO s[n]? n y s := by
  have hv : view s (.obj n) = viewO s[n]? n := rfl
  have kd : ∀ l : List (Key × Dt), view s (.obj n) = .dic l → ixS (.obj n) y s = match keyOf y with
    | some k => withO (lookK l k) R.no fun d => .ok d s
    | none => ixS (.obj n) y s := fun l e => by
    cases ek : keyOf y with
    | none => rfl
    | some k => exact ix_key e ek
  generalize s[n]? = o at hv
  cases o with
  | none => rfl
  | some o => cases o with
    | lst l =>
      cases y with
      | int i => exact ixS_v (x := .lst l) hv
      | _ => rfl
    | dK l => exact kd l hv
    | fz d =>
      cases d with
      | lst l =>
        cases y with
        | int i => exact ixS_v (x := .lst l) hv
        | _ => rfl
      | dic l => exact kd l hv
      | _ => rfl
    | lk o =>
      cases o with
      | dK l => exact kd l hv
      | _ => rfl
    | _ => rfl
theorem ixO_l (l : List Dt) (n : Nat) (i : Int) (s : Sto) : ixO (some (.lst l)) n (.int i) s = withO (atI l i) R.no fun d => .ok d s := nr rfl
theorem ixO_f (l : List Dt) (n : Nat) (i : Int) (s : Sto) : ixO (some (.fz (.lst l))) n (.int i) s = withO (atI l i) R.no fun d => .ok d s := nr rfl
theorem ixO_dS (l : List (Key × Dt)) (n : Nat) (z : Str) (s : Sto) : ixO (some (.dK l)) n (.str z) s = withO (lookK l (.inr z)) R.no fun d => .ok d s := nr rfl
theorem ixO_dI (l : List (Key × Dt)) (n : Nat) (z : Int) (s : Sto) : ixO (some (.dK l)) n (.int z) s = withO (lookK l (.inl z)) R.no fun d => .ok d s := nr rfl
theorem ixO_kS (l : List (Key × Dt)) (n : Nat) (z : Str) (s : Sto) : ixO (some (.lk (.dK l))) n (.str z) s = withO (lookK l (.inr z)) R.no fun d => .ok d s := nr rfl
theorem ixO_fS (l : List (Key × Dt)) (n : Nat) (z : Str) (s : Sto) : ixO (some (.fz (.dic l))) n (.str z) s = withO (lookK l (.inr z)) R.no fun d => .ok d s := nr rfl
theorem ix_dS (l : List (Key × Dt)) (z : Str) (s : Sto) : ixS (.dic l) (.str z) s = withO (lookK l (.inr z)) R.no fun d => .ok d s := ix_key rfl rfl
theorem ix_dI (l : List (Key × Dt)) (z : Int) (s : Sto) : ixS (.dic l) (.int z) s = withO (lookK l (.inl z)) R.no fun d => .ok d s := ix_key rfl rfl
theorem atI_0 {α : Type} (a : α) (l : List α) : atI (a :: l) 0 = some a := atI_nat (xs := a :: l) (j := 0) rfl
theorem atI_1 {α : Type} (a b : α) (l : List α) : atI (a :: b :: l) 1 = some b := atI_nat (xs := a :: b :: l) (j := 1) rfl
theorem atI_2 {α : Type} (a b c : α) (l : List α) : atI (a :: b :: c :: l) 2 = some c := atI_nat (xs := a :: b :: c :: l) (j := 2) rfl
theorem atI_3 {α : Type} (a b c d : α) (l : List α) : atI (a :: b :: c :: d :: l) 3 = some d := atI_nat (xs := a :: b :: c :: d :: l) (j := 3) rfl
theorem atI_4 {α : Type} (a b c d e : α) (l : List α) : atI (a :: b :: c :: d :: e :: l) 4 = some e := atI_nat (xs := a :: b :: c :: d :: e :: l) (j := 4) rfl
theorem atI_5 {α : Type} (a b c d e f : α) (l : List α) : atI (a :: b :: c :: d :: e :: f :: l) 5 = some f := atI_nat (xs := a :: b :: c :: d :: e :: f :: l) (j := 5) rfl
theorem atI_rng {α : Type} {n i : Nat} (h : i < n) (f : Nat → α) : atI ((List.range n).map f) (i : Nat) = some (f i) := atI_nat (by
  rw [List.getElem?_map, List.getElem?_range h]
  rfl)
theorem atI_map {α : Type} {xs : List α} {i : Nat} (h : i < xs.length) (f : α → Dt) : atI (xs.map f) (i : Nat) = some (f xs[i]) := atI_nat (getE_map h)
theorem len_l (l : List Dt) (s : Sto) : biS .len false [.lst l] s = .ok (.int (l.length : Nat)) s := nr rfl
theorem len_t (l : List Dt) (s : Sto) : biS .len false [.tup l] s = .ok (.int (l.length : Nat)) s := nr rfl
noncomputable def lenO (o : Option Ob) (n : Nat) (s : Sto) : R Dt := match o with
  | some (.lst l) => .ok (.int (l.length : Nat)) s
  | some (.fz (.lst l)) => .ok (.int (l.length : Nat)) s
  | some (.dK l) => .ok (.int (l.length : Nat)) s
  | some (.lk (.dK l)) => .ok (.int (l.length : Nat)) s
  | some (.fz (.dic l)) => .ok (.int (l.length : Nat)) s
  | _ => biS .len false [.obj n] s
theorem len_v {a x : Dt} {s : Sto} (h : view s a = x) : biS .len false [a] s = match (generalizing := false) x with
    | .lst l => .ok (.int l.length) s
    | .tup l => .ok (.int l.length) s
    | .dic l => .ok (.int l.length) s
    | .str z => if z.length ≤ sizeLine then .ok (.int z.length) s else .no
    | _ => .no := by
  unfold biS
  dsimp only
  rw [h] <;> (cases x <;> rfl)
theorem len_o (n : Nat) (s : Sto) : biS .len false [.obj n] s = lenO s[n]? n s := by
  have hv : view s (.obj n) = viewO s[n]? n := rfl
  generalize s[n]? = o at hv
  cases o with
  | none => rfl
  | some o => cases o with
    | lst l => exact len_v (x := .lst l) hv
    | dK l => exact len_v (x := .dic l) hv
    | fz d => cases d <;> first | exact len_v hv | rfl
    | lk o => cases o <;> first | exact len_v hv | rfl
    | _ => rfl
theorem lenO_l (l : List Dt) (n : Nat) (s : Sto) : lenO (some (.lst l)) n s = .ok (.int (l.length : Nat)) s := nr rfl
theorem lenO_f (l : List Dt) (n : Nat) (s : Sto) : lenO (some (.fz (.lst l))) n s = .ok (.int (l.length : Nat)) s := nr rfl
theorem lenO_d (l : List (Key × Dt)) (n : Nat) (s : Sto) : lenO (some (.dK l)) n s = .ok (.int (l.length : Nat)) s := nr rfl
theorem len_d (l : List (Key × Dt)) (s : Sto) : biS .len false [.dic l] s = .ok (.int (l.length : Nat)) s := nr rfl
theorem len_s {z : Str} (h : z.length ≤ sizeLine) (s : Sto) : biS .len false [.str z] s = .ok (.int (z.length : Nat)) s := if_pos h
theorem cd_not (k : Bool) (s : Sto) : cond k (R.ok (Dt.bl false) s) (R.ok (Dt.bl true) s) = .ok (.bl (!k)) s := by cases k <;> rfl
theorem cd_and (k m : Bool) (s : Sto) : cond k (R.ok (Dt.bl m) s) (R.ok (Dt.bl false) s) = .ok (.bl (k && m)) s := by cases k <;> rfl
theorem cd_or (k m : Bool) (s : Sto) : cond k (R.ok (Dt.bl true) s) (R.ok (Dt.bl m) s) = .ok (.bl (k || m)) s := by cases k <;> rfl
def fzO (o : Option Ob) (n : Nat) (s : Sto) : R Dt := match o with
  | some (.lst l) => if Dt.frs l = true then .ok (.lst l) (s.set n (.fz (.lst l))) else .no
  | some (.dK l) => if Dt.frk l = true then .ok (.dic l) (s.set n (.fz (.dic l))) else .no
  | some (.fz d) => .ok d s
  | _ => .no
theorem fz_o (n : Nat) (s : Sto) : frzS (.obj n) s = fzO s[n]? n s := nr rfl
theorem fzO_l {l : List Dt} (h : Dt.frs l = true) (n : Nat) (s : Sto) : fzO (some (.lst l)) n s = .ok (.lst l) (s.set n (.fz (.lst l))) := if_pos h
theorem fzO_f (d : Dt) (n : Nat) (s : Sto) : fzO (some (.fz d)) n s = .ok d s := nr rfl
theorem rng1_n {n : Nat} (h : n < 2 ^ 62) (s : Sto) : rngS1 (.int (n : Nat)) s = .ok (.pl (dRange 0 n)) s := rng1_ok h
theorem rng2_n {a b : Nat} (h : a < 2 ^ 62) (h2 : b < 2 ^ 62) (s : Sto) : rngS2 (.int (a : Nat)) (.int (b : Nat)) s = .ok (.pl (dRange (a : Nat) (b - a))) s := rng2_ok h h2
theorem dR_nat (n : Nat) : dRange 0 n = (List.range n).map dNat := by
  unfold dRange
  exact List.map_congr_left fun k _ => by rw [Int.zero_add]; rfl
def sixO (o : Option Ob) (n : Nat) (y v : Dt) (s : Sto) : Option Sto := match o with
  | some (.lst l) => match y with
    | .int k => match ixN l.length k with
      | some j => some (s.set n (.lst (l.set j v)))
      | none => none
    | _ => none
  | some (.dK l) => match keyOf y with
    | some k => if l.length < sizeLine then some (s.set n (.dK (setK l k v))) else none
    | none => none
  | some (.dT l) => match tkeyOf y with
    | some k => if l.length < sizeLine then some (s.set n (.dT (setK l k v))) else none
    | none => none
  | _ => none
theorem six_o (n : Nat) (y v : Dt) (s : Sto) : sixS (.obj n) y v s = sixO s[n]? n y v s := nr rfl
theorem sixO_l {l : List Dt} {i : Nat} (h : i < l.length) (n : Nat) (v : Dt) (s : Sto) : sixO (some (.lst l)) n (.int (i : Nat)) v s = some (s.set n (.lst (l.set i v))) := by
  have e : ixN l.length (i : Nat) = some i := by
    unfold ixN
    rw [if_pos (by omega), Int.toNat_natCast, if_pos (by omega)]
  show (match ixN l.length (i : Nat) with
      | some j => some (s.set n (.lst (l.set j v)))
      | none => none) = _
  rw [e]
theorem sixO_dS {l : List (Key × Dt)} (h : l.length < sizeLine) (n : Nat) (z : Str) (v : Dt) (s : Sto) : sixO (some (.dK l)) n (.str z) v s = some (s.set n (.dK (setK l (.inr z) v))) := if_pos h
theorem sixO_dI {l : List (Key × Dt)} (h : l.length < sizeLine) (n : Nat) (z : Int) (v : Dt) (s : Sto) : sixO (some (.dK l)) n (.int z) v s = some (s.set n (.dK (setK l (.inl z) v))) := if_pos h
theorem set_rng {α : Type} {n i : Nat} (f : Nat → α) (v : α) : ((List.range n).map f).set i v = (List.range n).map fun r => if r = i then v else f r := by
  refine List.ext_getElem (by simp) fun r h1 h2 => ?_
  rw [List.getElem_set, List.getElem_map, List.getElem_map, List.getElem_range]
  by_cases e : i = r
  · rw [if_pos e, if_pos e.symm]
  · rw [if_neg e, if_neg (fun z => e z.symm)]
theorem rng_snoc {α : Type} (n : Nat) (f : Nat → α) : (List.range n).map f ++ [f n] = (List.range (n + 1)).map f := by
  rw [List.range_succ, List.map_append]
  rfl
/-! ### the equations of expressions, but comprehensions -/
section
variable {P : Pg} {C : Cl} {h : Option Er} {l : Ip.Loc} {s : Sto}
theorem ev_var (i : Nat) : evE P C h (.var i) l s = getL l[i]? s := by rw [evE]
theorem ev_con (d : Dt) : evE P C h (.con d) l s = .ok d s := by rw [evE]
theorem ev_tup (a : E) : evE P C h (.tup a) l s = (evA P C h a l s).bind fun ds s => if ds.length ≤ sizeLine then .ok (.tup ds) s else .no := by rw [evE]
theorem ev_lst (lv : Bool) (a : E) : evE P C h (.lst lv a) l s = (evA P C h a l s).bind fun ds s => if ds.length ≤ sizeLine then mkL lv ds s else .no := by rw [evE]
theorem ev_dic (t : Bool) : evE P C h (.dic t) l s = .ok (.obj s.length) (s ++ [if t = true then .dT [] else .dK []]) := by rw [evE]
theorem ev_neg (a : E) : evE P C h (.neg a) l s = (evE P C h a l s).bind fun d s => asI d .no fun i => .ok (.int (-i)) s := by rw [evE]
theorem ev_bin (o : BO) (a b : E) : evE P C h (.bin o a b) l s = (evE P C h a l s).bind fun x s => (evE P C h b l s).bind fun y s => binS o x y s := by rw [evE]
theorem ev_cmp (o : CO) (a b : E) : evE P C h (.cmp o a b) l s = (evE P C h a l s).bind fun x s => (evE P C h b l s).bind fun y s => cmpS o x y s := by rw [evE]
theorem ev_chn (o p : CO) (a b c : E) : evE P C h (.chn o p a b c) l s = (evE P C h a l s).bind fun x s => (evE P C h b l s).bind fun y s => (cmpS o x y s).bind fun k s => brn k .no ((evE P C h c l s).bind fun z s => cmpS p y z s) (.ok (.bl false) s) := by rw [evE]
theorem ev_isN (n : Bool) (a : E) : evE P C h (.isN n a) l s = (evE P C h a l s).bind fun d s => .ok (.bl (n != d.isNon)) s := by rw [evE]
theorem ev_isB (n b : Bool) (a : E) : evE P C h (.isB n b a) l s = (evE P C h a l s).bind fun d s => brn d .no (.ok (.bl (n != (b == true))) s) (.ok (.bl (n != (b == false))) s) := by rw [evE]
theorem ev_and (a b : E) : evE P C h (.and a b) l s = (evE P C h a l s).bind fun d s => brn d .no (evE P C h b l s) (.ok (.bl false) s) := by rw [evE]
theorem ev_or (a b : E) : evE P C h (.or a b) l s = (evE P C h a l s).bind fun d s => brn d .no (.ok (.bl true) s) (evE P C h b l s) := by rw [evE]
theorem ev_not (a : E) : evE P C h (.not a) l s = (evE P C h a l s).bind fun d s => brn d .no (.ok (.bl false) s) (.ok (.bl true) s) := by rw [evE]
theorem ev_ite (c a b : E) : evE P C h (.ite c a b) l s = (evE P C h c l s).bind fun d s => brn d .no (evE P C h a l s) (evE P C h b l s) := by rw [evE]
theorem ev_ix (a b : E) : evE P C h (.ix a b) l s = (evE P C h a l s).bind fun x s => (evE P C h b l s).bind fun y s => ixS x y s := by rw [evE]
theorem ev_sl (a lo hi : E) : evE P C h (.sl a lo hi) l s = (evE P C h a l s).bind fun x s => (evO P C h lo l s).bind fun i s => (evO P C h hi l s).bind fun j s => slS x i j s := by rw [evE]
theorem ev_rev (a : E) : evE P C h (.rev a) l s = (evE P C h a l s).bind fun x s => revS x s := by rw [evE]
theorem ev_rev0 (a : E) : evE P C h (.rev0 a) l s = (evE P C h a l s).bind fun x s => rev0S x s := by rw [evE]
theorem ev_sst (lv : Bool) (a : E) : evE P C h (.sst lv a) l s = (evE P C h a l s).bind fun x s => sstS lv x s := by rw [evE]
theorem ev_sln (a : E) : evE P C h (.sln a) l s = (evE P C h a l s).bind fun x s => slnS x s := by rw [evE]
theorem ev_bi (b : BI) (lv : Bool) (a : E) : evE P C h (.bi b lv a) l s = (evA P C h a l s).bind fun as s => biS b lv as s := by rw [evE]
theorem ev_isT (n : Ty) (a : E) : evE P C h (.isT n a) l s = (evE P C h a l s).bind fun x s => isTS n x s := by rw [evE]
theorem ev_mt (m : MI) (o a : E) : evE P C h (.mt m o a) l s = (evE P C h o l s).bind fun x s => if rcv m x s = true then (evA P C h a l s).bind fun as s => mtS m x as s else .no := by rw [evE]
theorem ev_call (f : Nat) (a : E) : evE P C h (.call f a) l s = (evA P C h a l s).bind fun as s => callP C f as s := by rw [evE]
theorem ev_cali (f : Nat) (a : E) : evE P C h (.cali f a) l s = (evA P C h a l s).bind fun as s => C f as s := by rw [evE]
theorem ev_cald (f : Nat) (ds : List Dt) (a : E) : evE P C h (.cald f ds a) l s = (evA P C h a l s).bind fun as s => callP C f (as ++ ds) s := by rw [evE]
theorem ev_new (c : Nat) (a : E) : evE P C h (.new c a) l s = (evA P C h a l s).bind fun as s => C (nwI c) as s := by rw [evE]
theorem ev_ome (c m : Nat) (o a : E) : evE P C h (.ome c m o a) l s = (evE P C h o l s).bind fun x s => withO (mthS P m x s) .no fun f => (evA P C h a l s).bind fun as s => C f (x :: as) s := by rw [evE]
theorem ev_att (f : Nat) (o : E) : evE P C h (.att f o) l s = (evE P C h o l s).bind fun x s => attS P f x s := by rw [evE]
theorem ev_isX (cs : List Nat) : evE P C h (.isX cs) l s = withO h .no fun z => cond (P.isExc z.cls) (.ok (.bl (cs.any fun c => P.isSub z.cls c)) s) .no := by rw [evE]
theorem ev_exf (f : Nat) : evE P C h (.exf f) l s = withO h .no fun z => cond (P.isExc z.cls) (withO (z.pay.lookup f) .no fun d => .ok d s) .no := by rw [evE]
theorem ev_fz (a : E) : evE P C h (.fz a) l s = (evE P C h a l s).bind fun d s => frzS d s := by rw [evE]
theorem ea_nil : evA P C h .nil l s = .ok [] s := by rw [evA]
theorem ea_cons (a r : E) : evA P C h (.cons a r) l s = (evE P C h a l s).bind fun x s => (evA P C h r l s).bind fun xs s => .ok (x :: xs) s := by rw [evA]
theorem eo_nil : evO P C h .nil l s = .ok none s := by rw [evO]
theorem eo_cons (a b : E) : evO P C h (.cons a b) l s = (evE P C h a l s).bind fun x s => asI x .no fun i => .ok (some i) s := by rw [evO]
end
section
variable {P : Pg} {C : Cl} {h : Option Er} {l : Ip.Loc} {s : Sto} {elt it c : E} {own : List Nat} {tg : Tg} {lv : Bool} {α : Type}
theorem lcM {xs : List α} {f g : α → Dt} (hi : evI P C h it l s = .ok (.pl (xs.map f)) s) (hz : xs.length ≤ 100000) (hx : ∀ x ∈ xs, withO (setTg tg (f x) (wipeL l own)) R.no (fun l1 => evE P C h elt l1 s) = .ok (g x) s) :
    evE P C h (.lc lv own elt tg it (.con (.bl true))) l s = mkL lv (xs.map g) s := lc_map hi hz hx
theorem lcF {xs : List α} {f g : α → Dt} {p : α → Bool} (hi : evI P C h it l s = .ok (.pl (xs.map f)) s) (hz : xs.length ≤ 100000) (hx : ∀ x ∈ xs, withO (setTg tg (f x) (wipeL l own)) R.no (fun l1 => evE P C h c l1 s) = .ok (.bl (p x)) s) (hy : ∀ x ∈ xs, p x = true → withO (setTg tg (f x) (wipeL l own)) R.no (fun l1 => evE P C h elt l1 s) = .ok (g x) s) :
    evE P C h (.lc lv own elt tg it c) l s = mkL lv ((xs.filter p).map g) s := lc_flt hi hz hx hy
end
/-! ### results, resolved -/
theorem rs_tup {s : Sto} {n : Nat} : ∀ {l l' : List Dt}, (l.mapM (rslv s n)) = some l' → rslv s (n + 1) (.tup l) = some (.tup l') := fun {l l'} e => by
  by_cases h : (Dt.tup l).fr = true
  · have key : ∀ l : List Dt, Dt.frs l = true → l.mapM (rslv s n) = some l := fun l => by
      induction l with
      | nil => intro _; rfl
      | cons d l ih =>
        intro hl
        have h' : (d.fr && Dt.frs l) = true := hl
        rw [Bool.and_eq_true] at h'
        rw [List.mapM_cons, rslv_fr h'.1, ih h'.2]
        rfl
    rw [key l h] at e
    cases e
    exact rslv_fr h
  · unfold rslv
    rw [if_neg h]
    dsimp only
    rw [e]
    rfl
theorem rs_2 {s : Sto} {n : Nat} {a b a' b' : Dt} (h1 : rslv s n a = some a') (h2 : rslv s n b = some b') : rslv s (n + 1) (.tup [a, b]) = some (.tup [a', b']) := rs_tup (by
  rw [List.mapM_cons, List.mapM_cons, List.mapM_nil, h1, h2]
  rfl)
theorem rs_3 {s : Sto} {n : Nat} {a b c a' b' c' : Dt} (h1 : rslv s n a = some a') (h2 : rslv s n b = some b') (h3 : rslv s n c = some c') : rslv s (n + 1) (.tup [a, b, c]) = some (.tup [a', b', c']) := rs_tup (by
  rw [List.mapM_cons, List.mapM_cons, List.mapM_cons, List.mapM_nil, h1, h2, h3]
  rfl)
theorem fin_rs {s : Sto} {d e : Dt} {Z : Dt → Prop} (h : rslv s 4 d = some e) (hz : Z e) : Fin (RtZ Z) (.rt d s) := ⟨⟨d, s, e, rfl, h, hz⟩⟩
/-! ### classes -/
theorem rn_new0 {P : Pg} {k c : Nat} {cd : CD} (hk : 1 ≤ k) (h1 : P.fns[nwI c]? = none) (h2 : P.cls.lookup c = some cd) (h3 : cd.ini = none) (s : Sto) : runF P k (nwI c) [] s = .ok (.obj s.length) (s ++ [.ins c []]) := by
  have e : ∀ C C' : Cl, goF P C C' (nwI c) [] s = .ok (.obj s.length) (s ++ [.ins c []]) := fun C C' => by
    unfold goF
    rw [h1]
    dsimp only
    have e3 : ¬ nwI c < 1000 := by unfold nwI; omega
    have e4 : nwI c - 1000 = c := by unfold nwI; omega
    rw [if_neg e3, e4, h2, withO_some, h3]
    rfl
  match k, hk with
  | 1, _ => exact e _ _
  | k + 2, _ => exact e _ _
theorem rn_new {P : Pg} {k c fi : Nat} {cd : CD} (hk : 2 ≤ k) (h1 : P.fns[nwI c]? = none) (h2 : P.cls.lookup c = some cd) (h3 : cd.ini = some fi) (as : List Dt) (s : Sto) : runF P k (nwI c) as s = (runF P (k - 1) fi (.obj s.length :: as) (s ++ [.ins c []])).bind fun d s1 => if d.isNon = true then .ok (.obj s.length) s1 else .no := by
  match k, hk with
  | k + 2, _ =>
    show goF P (runF P (k + 1)) (runF P k) (nwI c) as s = _
    unfold goF
    rw [h1]
    dsimp only
    have e3 : ¬ nwI c < 1000 := by unfold nwI; omega
    have e4 : nwI c - 1000 = c := by unfold nwI; omega
    rw [if_neg e3, e4, h2, withO_some, h3]
    rfl
theorem mthS_o (P : Pg) (m n : Nat) (s : Sto) : mthS P m (.obj n) s = mthO P m s[n]? := nr rfl
def attO (P : Pg) (f : Nat) (o : Option Ob) (s : Sto) : R Dt := match o with
  | some (.ins c fs) => if P.hasF c f = true then withO (fs.lookup f) .no fun d => .ok d s else .no
  | _ => .no
theorem attS_o (P : Pg) (f n : Nat) (s : Sto) : attS P f (.obj n) s = attO P f s[n]? s := by
  show (match s[n]? with
    | some (.ins c fs) => if P.hasF c f = true then withO (fs.lookup f) R.no fun d => .ok d s else .no
    | _ => .no) = _
  cases s[n]? with
  | none => rfl
  | some o => cases o <;> rfl
theorem attO_i {P : Pg} {f c : Nat} {fs : List (Nat × Dt)} {d : Dt} (h : P.hasF c f = true) (h2 : fs.lookup f = some d) (s : Sto) : attO P f (some (.ins c fs)) s = .ok d s := by
  show (if P.hasF c f = true then withO (fs.lookup f) R.no fun d => .ok d s else .no) = _
  rw [if_pos h, h2]
  rfl
theorem w_sat {P : Pg} {C C' : Cl} {h : Option Er} {l : Ip.Loc} {s : Sto} {r : S} (f : Nat) (o e : E) : exS P C C' (.seq (.sat f o e) r) h l s = (evE P C h e l s).out l fun v s => (evE P C h o l s).out l fun x s => withO (satS P f x v s) O.no fun s => exS P C C' r h l s := by
  show ((evE P C h e l s).out l fun v s => (evE P C h o l s).out l fun x s => withO (satS P f x v s) O.no fun s => .nx l s).then _ = _
  cases evE P C h e l s with
  | ok v s => show ((evE P C h o l s).out l fun x s => withO (satS P f x v s) O.no fun s => .nx l s).then _ = (evE P C h o l s).out l _
              cases evE P C h o l s with
              | ok x s => show (withO (satS P f x v s) O.no _).then _ = withO (satS P f x v s) O.no _
                          cases satS P f x v s <;> rfl
              | _ => rfl
  | _ => rfl
theorem satS_i {P : Pg} {f c n : Nat} {fs : List (Nat × Dt)} {s : Sto} (h0 : s[n]? = some (.ins c fs)) (h : P.hasF c f = true) (h2 : fs.length < 1000) (v : Dt) : satS P f (.obj n) v s = some (s.set n (.ins c (putN f v fs))) := by
  show (match s[n]? with
    | some (.ins c fs) => if P.hasF c f = true ∧ fs.length < 1000 then some (s.set n (.ins c (putN f v fs))) else none
    | _ => none) = _
  rw [h0]
  exact if_pos ⟨h, h2⟩
/-! ### cuts -/
theorem sIx_nat (n a d : Nat) : HT.sIx n d (some (a : Int)) = min a n := by
  unfold HT.sIx
  dsimp only
  rw [if_neg (by omega)]
  omega
theorem sIx_none (n d : Nat) : HT.sIx n d none = d := rfl
theorem cut_nn {l : List Dt} {a b : Nat} (hab : a ≤ b) (hb : b ≤ l.length) : cutD l (some (a : Int)) (some (b : Int)) = (l.drop a).take (b - a) := by
  unfold cutD
  rw [sIx_nat, sIx_nat, Nat.min_eq_left hb, Nat.min_eq_left (Nat.le_trans hab hb)]
theorem cut_n0 {l : List Dt} {a : Nat} (ha : a ≤ l.length) : cutD l (some (a : Int)) none = l.drop a := by
  unfold cutD
  rw [sIx_nat, sIx_none, Nat.min_eq_left ha]
  exact List.take_of_length_le (by rw [List.length_drop]; omega)
theorem cut_0n {l : List Dt} {b : Nat} (hb : b ≤ l.length) : cutD l none (some (b : Int)) = l.take b := by
  unfold cutD
  rw [sIx_nat, sIx_none, Nat.min_eq_left hb, List.drop_zero, Nat.sub_zero]
theorem sl_l (l : List Dt) (lo hi : Option Int) (s : Sto) : slS (.lst l) lo hi s = .ok (.lst (cutD l lo hi)) s := nr rfl
theorem rev_l (l : List Dt) (s : Sto) : revS (.lst l) s = .ok (.lst l.reverse) s := nr rfl
theorem add_l {x y : List Dt} (h : x.length + y.length ≤ sizeLine) (s : Sto) : binS .add (.lst x) (.lst y) s = .ok (.lst (x ++ y)) s := by
  show (if x.length + y.length ≤ sizeLine then R.ok (Dt.lst (x ++ y)) s else .no) = _
  rw [if_pos h]
/-! ### texts -/
theorem hd_str {a : Str} (h : PyData.strOk a = true) : Hd (.str a) := ⟨0, by decide, hard_str h⟩
open Classical in
theorem cmp_eqS {a b : Str} (ha : PyData.strOk a = true) (hb : PyData.strOk b = true) (s : Sto) : cmpS .eq (.str a) (.str b) s = .ok (.bl (decide (a = b))) s := by
  refine (cmp_eq (a := .str a) (b := .str b) (hd_str ha) (hd_str hb)).trans ?_
  congr 2
  exact decide_eq_decide.mpr ⟨fun e => by cases e; rfl, fun e => by rw [e]⟩
/-! ### try -/
def TriQ (P : Pg) (C C' : Cl) (hs r : S) (Q : O → Prop) : O → Prop := fun o => match o with
  | .er z l s => Fin Q ((exS P C C' hs (some z) l s).then fun l s => exS P C C' r none l s)
  | o => Fin Q (o.then fun l s => exS P C C' r none l s)
/-- a handler's suite -/
def HdQ (v : Option Nat) (k : Ip.Loc → Sto → O) (Q : O → Prop) : O → Prop := fun o => match o with
  | .nx l s => match v with
    | some i => Fin Q (k (l.set i none) s)
    | none => Fin Q (k l s)
  | .rt d s => Fin Q (.rt d s)
  | _ => False
section
variable {P : Pg} {C C' : Cl} {l l1 : Ip.Loc} {s s1 : Sto} {a b r hs : S} {d : Dt} {Q : O → Prop} {z : Er} {k : Ip.Loc → Sto → O}
theorem fi_try (ha : Fin (TriQ P C C' hs r Q) (exS P C C' a none l s)) : Fin Q (exS P C C' (.seq (.tri a hs) r) none l s) := fi_tri ⟨ha.go⟩
theorem try_nx (h : Fin Q (exS P C C' r none l s)) : Fin (TriQ P C C' hs r Q) (.nx l s) := ⟨h⟩
theorem try_end (h : Fin Q (exS P C C' r none l s)) : Fin (TriQ P C C' hs r Q) (exS P C C' .skip none l s) := ⟨h⟩
theorem try_rt (h : Fin Q (.rt d s)) : Fin (TriQ P C C' hs r Q) (.rt d s) := ⟨h⟩
theorem try_er (h : Fin Q ((exS P C C' hs (some z) l s).then fun l s => exS P C C' r none l s)) : Fin (TriQ P C C' hs r Q) (.er z l s) := ⟨h⟩
theorem fi_hdI {x i : Nat} (h1 : P.isExc z.cls = true) (h2 : P.isSub z.cls x = true) (h3 : i < l.length) (hb : Fin (HdQ (some i) k Q) (exS P C C' b (some z) (l.set i none) s)) : Fin Q ((exS P C C' (.hd x (some i) b r) (some z) l s).then k) := by
  simp only [exS, withO_some, h1, h2, cond_true, decide_eq_true h3]
  have g := hb.go
  generalize exS P C C' b (some z) (l.set i none) s = o at g
  cases o with
  | nx l s => exact g
  | rt d s => exact g
  | _ => exact g.elim
theorem fi_hdN {x : Nat} (h1 : P.isExc z.cls = true) (h2 : P.isSub z.cls x = true) (hb : Fin (HdQ none k Q) (exS P C C' b (some z) l s)) : Fin Q ((exS P C C' (.hd x none b r) (some z) l s).then k) := by
  simp only [exS, withO_some, h1, h2, cond_true]
  have g := hb.go
  generalize exS P C C' b (some z) l s = o at g
  cases o with
  | nx l s => exact g
  | rt d s => exact g
  | _ => exact g.elim
theorem hd_endI {i : Nat} {h : Option Er} (g : Fin Q (k (l.set i none) s)) : Fin (HdQ (some i) k Q) (exS P C C' .skip h l s) := ⟨g⟩
theorem hd_endN {h : Option Er} (g : Fin Q (k l s)) : Fin (HdQ none k Q) (exS P C C' .skip h l s) := ⟨g⟩
theorem hd_rt {v : Option Nat} (g : Fin Q (.rt d s)) : Fin (HdQ v k Q) (.rt d s) := ⟨g⟩
theorem isx_ok {cs : List Nat} {b : Bool} (h1 : P.isExc z.cls = true) (h2 : (cs.any fun c => P.isSub z.cls c) = b) (l : Ip.Loc) (s : Sto) : evE P C (some z) (.isX cs) l s = .ok (.bl b) s := by
  rw [evE]
  show cond (P.isExc z.cls) (R.ok (Dt.bl (cs.any fun c => P.isSub z.cls c)) s) .no = _
  rw [h1, h2]
  rfl
theorem exf_ok {f : Nat} {d : Dt} (h1 : P.isExc z.cls = true) (h2 : z.pay.lookup f = some d) (l : Ip.Loc) (s : Sto) : evE P C (some z) (.exf f) l s = .ok d s := by
  rw [evE]
  show cond (P.isExc z.cls) (withO (z.pay.lookup f) R.no fun d => .ok d s) .no = _
  rw [h1, h2]
  rfl
end
theorem fd_mk {t b : Int} (h : b ≠ 0) : fd (Fm.mk t b) = fq ((t : Rat) / (b : Rat)) := by
  rw [Fm.mk_rat h]
  rfl
theorem num_den (q : Rat) : (q.num : Rat) / (((q.den : Nat) : Int) : Rat) = q := Fm.fr_val q
theorem low_sz {t b : Int} {n : Nat} (hb : 0 < b) (ht : t.natAbs < 2 ^ n) (hb2 : b.natAbs < 2 ^ n) : Fm.Sz n (Fm.fr ((t : Rat) / (b : Rat))) := Fm.sz_div (by omega) ht hb2
theorem low_div (q : Rat) {n : Int} (hn : n ≠ 0) : fd (Fm.mk q.num ((q.den : Int) * n)) = fq (q / (n : Rat)) := by
  have h0 : ((q.den : Nat) : Int) ≠ 0 := by have := q.den_pos; omega
  rw [fd_mk (Int.mul_ne_zero h0 hn)]
  congr 1
  have e := num_den q
  have h1 := Fm.ne_cast h0
  have h2 := Fm.ne_cast hn
  rw [Rat.intCast_mul]
  generalize (q.num : Rat) = a at *
  generalize (((q.den : Nat) : Int) : Rat) = b at *
  generalize (n : Rat) = c at *
  rw [← e]
  grind
end Ip

namespace Ip
open PySem L2 PySem.Spec
/-! ## texts -/
def mkS (l : List Nat) : Str := ⟨l.toArray⟩
theorem mkS_inj {a b : List Nat} (h : mkS a = mkS b) : a = b := by
  have := congrArg Str.cps h
  simpa [mkS] using this
theorem mkS_len (l : List Nat) : (mkS l).length = l.length := by
  show l.toArray.size = _
  simp
theorem mkS_app (a b : List Nat) : mkS a ++ mkS b = mkS (a ++ b) := by
  show (⟨a.toArray ++ b.toArray⟩ : Str) = ⟨(a ++ b).toArray⟩
  simp
theorem mkS_ok {l : List Nat} (h : ∀ c ∈ l, c < 0x110000) : PyData.strOk (mkS l) = true := by
  show l.toArray.all (fun c => decide (c < 0x110000)) = true
  rw [List.all_toArray, List.all_eq_true]
  exact fun c hc => decide_eq_true (h c hc)
theorem add_s {x y : Str} (h : x.length + y.length ≤ sizeLine) (s : Sto) : binS .add (.str x) (.str y) s = .ok (.str (x ++ y)) s := if_pos h
theorem ix_s {z : Str} (h : z.length ≤ sizeLine) (i : Int) (s : Sto) : ixS (.str z) (.int i) s = withO (atI z.cps.toList i) R.no fun c => .ok (.str ⟨#[c]⟩) s := if_pos h
def dSs (l : List Str) : Dt := .lst (l.map Dt.str)
def SOk (l : List Str) : Prop := ∀ x ∈ l, PyData.strOk x = true
theorem frs_strs (l : List Str) : Dt.frs (l.map Dt.str) = true := frs_map (g := Dt.str) (fun _ => rfl) l
theorem hd_strs {l : List Str} (h : SOk l) : Hd (dSs l) := ⟨1, by decide, hard_lst fun d hd => by
  obtain ⟨x, hx, rfl⟩ := List.mem_map.mp hd
  exact hard_str (h x hx)⟩
theorem dSs_inj {a b : List Str} (h : dSs a = dSs b) : a = b := by
  have h : a.map Dt.str = b.map Dt.str := by
    unfold dSs at h
    exact Dt.lst.inj h
  exact (List.map_inj_right fun x y e => Dt.str.inj e).mp h
open Classical in
theorem cmp_eqSs {a b : List Str} (ha : SOk a) (hb : SOk b) (s : Sto) : cmpS .eq (dSs a) (dSs b) s = .ok (.bl (decide (a = b))) s := by
  refine (cmp_eq (a := dSs a) (b := dSs b) (hd_strs ha) (hd_strs hb)).trans ?_
  congr 2
  exact decide_eq_decide.mpr ⟨fun e => dSs_inj e, fun e => by rw [e]⟩
open Classical in
theorem cmp_neSs {a b : List Str} (ha : SOk a) (hb : SOk b) (s : Sto) : cmpS .ne (dSs a) (dSs b) s = .ok (.bl (!decide (a = b))) s := by
  refine (cmp_ne (a := dSs a) (b := dSs b) (hd_strs ha) (hd_strs hb)).trans ?_
  congr 3
  exact decide_eq_decide.mpr ⟨fun e => dSs_inj e, fun e => by rw [e]⟩
open Classical in
theorem in_strs {x : Str} {l : List Str} (hx : PyData.strOk x = true) (hl : SOk l) (s : Sto) : cmpS .inn (.str x) (dSs l) s = .ok (.bl (decide (x ∈ l))) s := by
  refine (cmp_in (a := .str x) (b := dSs l) (s := s) (l := l.map Dt.str) rfl (show Hd (view s (.str x)) from hd_str hx) (hd_strs hl)).trans ?_
  congr 2
  refine decide_eq_decide.mpr ⟨fun h => ?_, fun h => List.mem_map.mpr ⟨x, h, rfl⟩⟩
  obtain ⟨y, hy, e⟩ := List.mem_map.mp h
  rw [← Dt.str.inj e]
  exact hy
open Classical in
theorem nin_strs {x : Str} {l : List Str} (hx : PyData.strOk x = true) (hl : SOk l) (s : Sto) : cmpS .nin (.str x) (dSs l) s = .ok (.bl (!decide (x ∈ l))) s := by
  refine (cmp_nin (a := .str x) (b := dSs l) (s := s) (l := l.map Dt.str) rfl (show Hd (view s (.str x)) from hd_str hx) (hd_strs hl)).trans ?_
  congr 3
  refine decide_eq_decide.mpr ⟨fun h => ?_, fun h => List.mem_map.mpr ⟨x, h, rfl⟩⟩
  obtain ⟨y, hy, e⟩ := List.mem_map.mp h
  rw [← Dt.str.inj e]
  exact hy
theorem SOk.sub {a b : List Str} (h : SOk b) (hs : ∀ x ∈ a, x ∈ b) : SOk a := fun x hx => h x (hs x hx)
theorem SOk.app {a b : List Str} (ha : SOk a) (hb : SOk b) : SOk (a ++ b) := fun x hx => (List.mem_append.mp hx).elim (ha x) (hb x)
/-! ## a locked dict -/
section
variable {P : Pg} {C C' : Cl} {h : Option Er} {l : Ip.Loc} {s : Sto} {r a b : S} {Q : O → Prop}
def LkQ (n : Nat) (ob : Ob) (k : Ip.Loc → Sto → O) (Q : O → Prop) : O → Prop := fun o => match o with
  | .nx l s => s[n]? = some (.lk ob) ∧ Fin Q (k l (s.set n ob))
  | .rt d s => s[n]? = some (.lk ob) ∧ Fin Q (.rt d (s.set n ob))
  | _ => False
theorem fi_lkd {o : E} {n : Nat} {ob : Ob} (hp : peekO P o l s = some n) (hs : lkOk s[n]? = some ob) (hb : Fin (LkQ n ob (fun l s => exS P C C' r h l s) Q) (exS P C C' b h l (s.set n (.lk ob)))) : Fin Q (exS P C C' (.seq (.lkd o b) r) h l s) := by
  have hb := hb.go
  refine ⟨?_⟩
  rw [exS, exS, hp, withO_some, hs, withO_some]
  cases e : exS P C C' b h l (s.set n (.lk ob)) with
  | nx l1 s1 =>
    rw [e] at hb
    obtain ⟨h1, h2⟩ := hb
    unfold unlkO
    dsimp only
    rw [if_pos h1]
    exact h2.go
  | rt d s1 =>
    rw [e] at hb
    obtain ⟨h1, h2⟩ := hb
    unfold unlkO
    dsimp only
    rw [if_pos h1]
    exact h2.go
  | _ => rw [e] at hb; exact hb.elim
theorem fi_forVX {α : Type} {g : α → Dt} {xs : List α} {m : Nat} {ob : Ob} {tg : Tg} {it : E} {s1 : Sto} (I : Ip.Loc → Sto → Nat → Ip.Loc → Sto → Prop) (hi : evI P C h it l s = .ok (.lv m ob (xs.map g)) s1) (h0 : I l s1 0 l s1) (step : ∀ i (hl : i < xs.length) l' s', I l s1 i l' s' → Fin (Lp (fun l2 s2 => I l s1 (i + 1) l2 s2 ∧ s2[m]? = some ob) Q) (bodF P C C' tg b h (g xs[i]) l' s')) (fin : ∀ l' s', I l s1 xs.length l' s' → Fin Q (exS P C C' r h l' s')) : Fin Q (exS P C C' (.seq (.for_ tg it b) r) h l s) := by
  show Fin Q ((exS P C C' (.for_ tg it b) h l s).then _)
  rw [for_lv hi]
  refine lp_seq (forV_lp (ob := ob) (I l s1) (fun i hl l' s' q => ?_) h0) fun l' s' q => ?_
  · rw [List.getElem_map]
    exact step i (by rw [List.length_map] at hl; exact hl) l' s' q
  · rw [List.length_map] at q
    exact fin l' s' q
theorem fi_alone (hb : Fin Q (exS P C C' (.seq a .skip) h l s)) : Fin Q (exS P C C' a h l s) := by
  have hb := hb.go
  refine ⟨?_⟩
  rw [exS] at hb
  cases e : exS P C C' a h l s with
  | nx l1 s1 =>
    rw [e] at hb
    have : exS P C C' .skip h l1 s1 = .nx l1 s1 := w_skip
    exact this ▸ hb
  | _ => rw [e] at hb; exact hb
theorem lk_end {n : Nat} {ob : Ob} {k : Ip.Loc → Sto → O} (h1 : s[n]? = some (.lk ob)) (h2 : Fin Q (k l (s.set n ob))) : Fin (LkQ n ob k Q) (exS P C C' .skip h l s) := ⟨⟨h1, h2⟩⟩
theorem lk_rt {n : Nat} {ob : Ob} {k : Ip.Loc → Sto → O} {d : Dt} (h1 : s[n]? = some (.lk ob)) (h2 : Fin Q (.rt d (s.set n ob))) : Fin (LkQ n ob k Q) (.rt d s) := ⟨⟨h1, h2⟩⟩
theorem ev_sdf {C : Cl} (t : Bool) (d k : E) : evE P C h (.sdf t d k) l s = (evE P C h d l s).bind fun x s => if rcv .setd x s = true then (evE P C h k l s).bind fun y s => setdS t x y s else .no := by rw [evE]
end
def isDO : Option Ob → Bool
  | some (.dK _) => true
  | some (.dT _) => true
  | some (.fz (.dic _)) => true
  | _ => false
theorem rcv_setd (n : Nat) (s : Sto) : rcv .setd (.obj n) s = isDO s[n]? := by
  unfold rcv isDO
  first
  | (dsimp only; done)
  | (dsimp only
     rcases s[n]? with _ | o
     · rfl
     · rcases o with _ | _ | _ | _ | d | _
       case fz => cases d <;> rfl
       all_goals rfl)
theorem isDO_dK (l : List (Key × Dt)) : isDO (some (.dK l)) = true := nr rfl
def setdO (t : Bool) (o : Option Ob) (n : Nat) (y : Dt) (s : Sto) : R Dt := match o with
  | some (.dK l) => match keyOf y with
    | some k => if l.length < sizeLine then match lookK l k with
      | some v => .ok v s
      | none => .ok (.obj s.length) (s.set n (.dK (setK l k (.obj s.length))) ++ [if t = true then .dK [] else .lst []])
      else .no
    | none => .no
  | _ => .no
theorem setd_o (t : Bool) (n : Nat) (y : Dt) (s : Sto) : setdS t (.obj n) y s = setdO t s[n]? n y s := nr rfl
theorem setdO_some {l : List (Key × Dt)} {x : Str} {v : Dt} (hz : l.length < sizeLine) (hk : lookK l (.inr x) = some v) (t : Bool) (n : Nat) (s : Sto) : setdO t (some (.dK l)) n (.str x) s = .ok v s := by
  show (if l.length < sizeLine then (match lookK l (.inr x) with | some v => R.ok v s | none => _) else _) = _
  rw [if_pos hz, hk]
theorem setdO_none {l : List (Key × Dt)} {x : Str} (hz : l.length < sizeLine) (hk : lookK l (.inr x) = none) (t : Bool) (n : Nat) (s : Sto) : setdO t (some (.dK l)) n (.str x) s = .ok (.obj s.length) (s.set n (.dK (l ++ [(.inr x, .obj s.length)])) ++ [if t = true then .dK [] else .lst []]) := by
  have e : setK l (.inr x) (Dt.obj s.length) = l ++ [(.inr x, .obj s.length)] := by
    unfold setK
    rw [hk]
    rfl
  show (if l.length < sizeLine then (match lookK l (.inr x) with | some v => R.ok v s | none => _) else _) = _
  rw [if_pos hz, hk]
  dsimp only
  rw [e]
theorem it_lk {l : List (Key × Dt)} {n : Nat} {s : Sto} (h : s[n]? = some (.lk (.dK l))) : iterS (.obj n) s = .ok (.lv n (.lk (.dK l)) (l.map fun p => ofKey p.1)) s := by
  unfold iterS
  dsimp only
  rw [h]
end Ip

namespace Ip
open PySem L2 PySem.Spec
/-! ## groups: who is joined with whom -/
section
variable {α : Type} [DecidableEq α]
structure Par (T : α → α → Prop) (Ws G : List (List α)) : Prop where
  ne : ∀ g ∈ G, g ≠ []
  dj : G.Pairwise fun g g' => ∀ x ∈ g, x ∉ g'
  sub : ∀ g ∈ G, ∀ x ∈ g, ∀ y ∈ g, T x y
  cov : ∀ w ∈ Ws, ∃ g ∈ G, ∀ x ∈ w, x ∈ g
theorem Par.nil (T : α → α → Prop) : Par T [] [] := ⟨fun _ h => (by cases h), .nil, fun _ h => (by cases h), fun _ h => (by cases h)⟩
theorem dj_eq : ∀ {G : List (List α)}, (G.Pairwise fun g g' => ∀ x ∈ g, x ∉ g') → ∀ {g g' : List α} {x : α}, g ∈ G → g' ∈ G → x ∈ g → x ∈ g' → g = g'
  | [], _, _, _, _, h, _, _, _ => by cases h
  | a :: G, h, g, g', x, h1, h2, m1, m2 => by
    obtain ⟨ha, hG⟩ := List.pairwise_cons.mp h
    rcases List.mem_cons.mp h1 with e1 | k1 <;> rcases List.mem_cons.mp h2 with e2 | k2
    · rw [e1, e2]
    · exact absurd m2 (ha _ k2 x (e1 ▸ m1))
    · exact absurd m1 (ha _ k1 x (e2 ▸ m2))
    · exact dj_eq hG k1 k2 m1 m2
/-- does the group touch w? -/
def ovl (w g : List α) : Bool := g.any fun x => decide (x ∈ w)
theorem ovl_t {w g : List α} : ovl w g = true ↔ ∃ x ∈ g, x ∈ w := by
  unfold ovl
  rw [List.any_eq_true]
  exact ⟨fun ⟨x, h, e⟩ => ⟨x, h, of_decide_eq_true e⟩, fun ⟨x, h, e⟩ => ⟨x, h, decide_eq_true e⟩⟩
theorem Par.step {T : α → α → Prop} {Ws G : List (List α)} (sy : ∀ x y, T x y → T y x) (tr : ∀ x y z, T x y → T y z → T x z) (P : Par T Ws G) {w one : List α} (hw : w ≠ []) (hT : ∀ x ∈ w, ∀ y ∈ w, T x y)
    (ho : ∀ x, x ∈ one ↔ x ∈ w ∨ ∃ g ∈ G, ovl w g = true ∧ x ∈ g) : Par T (w :: Ws) (G.filter (fun g => !ovl w g) ++ [one]) := by
  obtain ⟨a, ha⟩ := List.exists_mem_of_ne_nil w hw
  have toA : ∀ x ∈ one, T x a := fun x hx => by
    rcases (ho x).mp hx with h | ⟨g, hg, o, h⟩
    · exact hT x h a ha
    · obtain ⟨b, hb, hb2⟩ := ovl_t.mp o
      exact tr x b a (P.sub g hg x h b hb) (hT b hb2 a ha)
  refine ⟨fun g hg => ?_, ?_, fun g hg x hx y hy => ?_, fun v hv => ?_⟩
  · rcases List.mem_append.mp hg with h | h
    · exact P.ne g (List.mem_filter.mp h).1
    · rw [List.mem_singleton.mp h]
      exact List.ne_nil_of_mem ((ho a).mpr (.inl ha))
  · refine List.pairwise_append.mpr ⟨P.dj.sublist List.filter_sublist, List.pairwise_singleton _ _, fun g hg g' hg' x hx hx2 => ?_⟩
    rw [List.mem_singleton.mp hg'] at hx2
    obtain ⟨h1, h2⟩ := List.mem_filter.mp hg
    rcases (ho x).mp hx2 with h | ⟨g2, hg2, o, h⟩
    · rw [ovl_t.mpr ⟨x, hx, h⟩] at h2; cases h2
    · rw [dj_eq P.dj h1 hg2 hx h, o] at h2; cases h2
  · rcases List.mem_append.mp hg with h | h
    · exact P.sub g (List.mem_filter.mp h).1 x hx y hy
    · rw [List.mem_singleton.mp h] at hx hy
      exact tr x a y (toA x hx) (sy y a (toA y hy))
  · rcases List.mem_cons.mp hv with rfl | hv
    · exact ⟨one, List.mem_append_right _ (.head _), fun x hx => (ho x).mpr (.inl hx)⟩
    · obtain ⟨g, hg, hc⟩ := P.cov v hv
      cases o : ovl w g with
      | true => exact ⟨one, List.mem_append_right _ (.head _), fun x hx => (ho x).mpr (.inr ⟨g, hg, o, hc x hx⟩)⟩
      | false => exact ⟨g, List.mem_append_left _ (List.mem_filter.mpr ⟨hg, by rw [o]; rfl⟩), hc⟩
/-! the program's step -/
def stpP (w : List α) (one g : List α) : List α := if (g.filter fun x => decide (x ∈ w)) = [] then one else one ++ g.filter fun x => !decide (x ∈ one)
def joinP (G : List (List α)) (w : List α) : List (List α) := (G.filter fun g => !ovl w g) ++ [G.foldl (stpP w) w]
/-! the law's step -/
def stpL (one g : List α) : List α := if (g.filter fun x => decide (x ∈ one)) ≠ [] then one ++ g else one
def joinL (G : List (List α)) (w : List α) : List (List α) := (G.filter fun g => decide ((g.filter fun x => decide (x ∈ G.foldl stpL w)) = [])) ++ [G.foldl stpL w]
theorem flt_ovl {w g : List α} : (g.filter fun x => decide (x ∈ w)) = [] ↔ ovl w g = false := by
  rw [List.filter_eq_nil_iff]
  constructor
  · intro h
    cases o : ovl w g with
    | false => rfl
    | true =>
      obtain ⟨x, hx, h2⟩ := ovl_t.mp o
      exact absurd (decide_eq_true h2) (h x hx)
  · intro h x hx e
    rw [ovl_t.mpr ⟨x, hx, of_decide_eq_true e⟩] at h
    cases h
theorem stpP_mem (w : List α) : ∀ (G : List (List α)) (one : List α) (x : α), x ∈ G.foldl (stpP w) one ↔ x ∈ one ∨ ∃ g ∈ G, ovl w g = true ∧ x ∈ g
  | [], one, x => ⟨.inl, fun h => h.elim id fun ⟨_, h, _⟩ => by cases h⟩
  | g :: G, one, x => by
    rw [List.foldl_cons, stpP_mem w G]
    have e : x ∈ stpP w one g ↔ x ∈ one ∨ (ovl w g = true ∧ x ∈ g) := by
      unfold stpP
      by_cases q : (g.filter fun x => decide (x ∈ w)) = []
      · rw [if_pos q, flt_ovl.mp q]
        exact ⟨.inl, fun h => h.elim id fun h => by cases h.1⟩
      · rw [if_neg q, List.mem_append, List.mem_filter]
        have o : ovl w g = true := by
          cases o : ovl w g with
          | true => rfl
          | false => exact absurd (flt_ovl.mpr o) q
        rw [o]
        constructor
        · rintro (h | h)
          · exact .inl h
          · exact .inr ⟨rfl, h.1⟩
        · rintro (h | h)
          · exact .inl h
          · by_cases z : x ∈ one
            · exact .inl z
            · exact .inr ⟨h.2, by simp [z]⟩
    rw [e]
    constructor
    · rintro ((h | h) | ⟨g2, hg, h⟩)
      · exact .inl h
      · exact .inr ⟨g, .head _, h⟩
      · exact .inr ⟨g2, .tail _ hg, h⟩
    · rintro (h | ⟨g2, hg, h⟩)
      · exact .inl (.inl h)
      · rcases List.mem_cons.mp hg with rfl | hg
        · exact .inl (.inr h)
        · exact .inr ⟨g2, hg, h⟩
theorem stpP_nd (w : List α) : ∀ (G : List (List α)) (one : List α), (∀ g ∈ G, g.Nodup) → one.Nodup → (G.foldl (stpP w) one).Nodup
  | [], one, _, h => h
  | g :: G, one, hG, h => by
    rw [List.foldl_cons]
    refine stpP_nd w G _ (fun g hg => hG g (.tail _ hg)) ?_
    unfold stpP
    split
    · exact h
    · refine List.nodup_append.mpr ⟨h, (hG g (.head _)).sublist List.filter_sublist, fun a ha b hb e => ?_⟩
      have := (List.mem_filter.mp hb).2
      rw [← e] at this
      simp [ha] at this
theorem joinP_nd {G : List (List α)} {w : List α} (h : ∀ g ∈ G, g.Nodup) (hw : w.Nodup) : ∀ g ∈ joinP G w, g.Nodup := fun g hg => by
  rcases List.mem_append.mp hg with z | z
  · exact h g (List.mem_filter.mp z).1
  · rw [List.mem_singleton.mp z]
    exact stpP_nd w G w h hw
theorem joinP_par {T : α → α → Prop} {Ws G : List (List α)} (sy : ∀ x y, T x y → T y x) (tr : ∀ x y z, T x y → T y z → T x z) (P : Par T Ws G) {w : List α} (hw : w ≠ []) (hT : ∀ x ∈ w, ∀ y ∈ w, T x y) : Par T (w :: Ws) (joinP G w) :=
  P.step sy tr hw hT fun x => stpP_mem w G w x
theorem stpL_mem {w : List α} : ∀ (R G : List (List α)) (one : List α), ((G ++ R).Pairwise fun g g' => ∀ x ∈ g, x ∉ g') → (∀ x, x ∈ one ↔ x ∈ w ∨ ∃ g ∈ G, ovl w g = true ∧ x ∈ g) → ∀ x, x ∈ R.foldl stpL one ↔ x ∈ w ∨ ∃ g ∈ G ++ R, ovl w g = true ∧ x ∈ g
  | [], G, one, _, ho, x => by rw [List.append_nil]; exact ho x
  | g :: R, G, one, hd, ho, x => by
    have key : ovl one g = ovl w g := by
      rw [Bool.eq_iff_iff, ovl_t, ovl_t]
      constructor
      · rintro ⟨y, hy, h⟩
        rcases (ho y).mp h with h | ⟨g2, hg2, o, h⟩
        · exact ⟨y, hy, h⟩
        · exact absurd hy ((List.pairwise_append.mp hd).2.2 g2 hg2 g (.head _) y h)
      · rintro ⟨y, hy, h⟩
        exact ⟨y, hy, (ho y).mpr (.inl h)⟩
    rw [List.foldl_cons]
    have := stpL_mem (w := w) R (G ++ [g]) (stpL one g) (by rw [List.append_assoc]; exact hd) (fun y => by
      have e : y ∈ stpL one g ↔ y ∈ one ∨ (ovl w g = true ∧ y ∈ g) := by
        unfold stpL
        rw [← key]
        cases o : ovl one g with
        | false =>
          rw [if_neg (not_not_intro (flt_ovl.mpr o))]
          exact ⟨.inl, fun h => h.elim id fun h => by cases h.1⟩
        | true =>
          rw [if_pos (fun z => by rw [flt_ovl.mp z] at o; cases o), List.mem_append]
          exact ⟨fun h => h.imp id fun h => ⟨rfl, h⟩, fun h => h.imp id fun h => h.2⟩
      rw [e, ho]
      constructor
      · rintro ((h | ⟨g2, hg, h⟩) | h)
        · exact .inl h
        · exact .inr ⟨g2, List.mem_append_left _ hg, h⟩
        · exact .inr ⟨g, List.mem_append_right _ (.head _), h⟩
      · rintro (h | ⟨g2, hg, h⟩)
        · exact .inl (.inl h)
        · rcases List.mem_append.mp hg with hg | hg
          · exact .inl (.inr ⟨g2, hg, h⟩)
          · rw [List.mem_singleton.mp hg] at h
            exact .inr h) x
    rw [this, List.append_assoc]
    rfl
theorem joinL_par {T : α → α → Prop} {Ws G : List (List α)} (sy : ∀ x y, T x y → T y x) (tr : ∀ x y z, T x y → T y z → T x z) (P : Par T Ws G) {w : List α} (hw : w ≠ []) (hT : ∀ x ∈ w, ∀ y ∈ w, T x y) : Par T (w :: Ws) (joinL G w) := by
  have ho : ∀ x, x ∈ G.foldl stpL w ↔ x ∈ w ∨ ∃ g ∈ G, ovl w g = true ∧ x ∈ g := stpL_mem G [] w P.dj fun x => ⟨.inl, fun h => h.elim id fun ⟨_, h, _⟩ => by cases h⟩
  have e : (G.filter fun g => decide ((g.filter fun x => decide (x ∈ G.foldl stpL w)) = [])) = G.filter fun g => !ovl w g := by
    refine List.filter_congr fun g hg => ?_
    have key : ovl (G.foldl stpL w) g = ovl w g := by
      rw [Bool.eq_iff_iff, ovl_t, ovl_t]
      constructor
      · rintro ⟨y, hy, h⟩
        rcases (ho y).mp h with h | ⟨g2, hg2, o, h⟩
        · exact ⟨y, hy, h⟩
        · rw [dj_eq P.dj hg hg2 hy h]
          exact ovl_t.mp o
      · rintro ⟨y, hy, h⟩
        exact ⟨y, hy, (ho y).mpr (.inl h)⟩
    rw [← key, Bool.eq_iff_iff, decide_eq_true_eq, flt_ovl]
    cases ovl (G.foldl stpL w) g <;> simp
  unfold joinL
  rw [e]
  exact P.step sy tr hw hT ho
/-- the least symmetric and transitive that holds what B tells -/
def Tr (B : α → α → Prop) (x y : α) : Prop := ∀ E : α → α → Prop, (∀ x y, E x y → E y x) → (∀ x y z, E x y → E y z → E x z) → (∀ x y, B x y → E x y) → E x y
theorem Tr.sy {B : α → α → Prop} : ∀ x y, Tr B x y → Tr B y x := fun x y h E s t b => s x y (h E s t b)
theorem Tr.tr {B : α → α → Prop} : ∀ x y z, Tr B x y → Tr B y z → Tr B x z := fun x y z h1 h2 E s t b => t x y z (h1 E s t b) (h2 E s t b)
theorem Tr.of {B : α → α → Prop} {x y : α} (h : B x y) : Tr B x y := fun E s t b => b x y h
/-- what two such partings share -/
theorem Par.iff {B : α → α → Prop} {Ws G : List (List α)} (P : Par (Tr B) Ws G) (hB : ∀ x y, B x y → ∃ w ∈ Ws, x ∈ w ∧ y ∈ w) (x y : α) : Tr B x y ↔ ∃ g ∈ G, x ∈ g ∧ y ∈ g := by
  constructor
  · intro h
    refine h (fun x y => ∃ g ∈ G, x ∈ g ∧ y ∈ g) (fun x y ⟨g, hg, h1, h2⟩ => ⟨g, hg, h2, h1⟩) (fun x y z ⟨g, hg, h1, h2⟩ ⟨g2, hg2, h3, h4⟩ => ?_) fun x y b => ?_
    · obtain rfl := dj_eq P.dj hg hg2 h2 h3
      exact ⟨g, hg, h1, h4⟩
    · obtain ⟨w, hw, h1, h2⟩ := hB x y b
      obtain ⟨g, hg, hc⟩ := P.cov w hw
      exact ⟨g, hg, hc x h1, hc y h2⟩
  · rintro ⟨g, hg, h1, h2⟩
    exact P.sub g hg x h1 y h2
theorem Par.same {B : α → α → Prop} {Ws1 G1 Ws2 G2 : List (List α)} (P1 : Par (Tr B) Ws1 G1) (P2 : Par (Tr B) Ws2 G2) (h1 : ∀ x y, B x y → ∃ w ∈ Ws1, x ∈ w ∧ y ∈ w) (h2 : ∀ x y, B x y → ∃ w ∈ Ws2, x ∈ w ∧ y ∈ w) :
    ∀ g ∈ G1, ∃ g2 ∈ G2, ∀ x, x ∈ g ↔ x ∈ g2 := fun g hg => by
  obtain ⟨a, ha⟩ := List.exists_mem_of_ne_nil g (P1.ne g hg)
  obtain ⟨g2, hg2, m1, _⟩ := (P2.iff h2 a a).mp (P1.sub g hg a ha a ha)
  refine ⟨g2, hg2, fun x => ⟨fun hx => ?_, fun hx => ?_⟩⟩
  · obtain ⟨g3, hg3, m2, m3⟩ := (P2.iff h2 a x).mp (P1.sub g hg a ha x hx)
    rw [dj_eq P2.dj hg2 hg3 m1 m2]
    exact m3
  · obtain ⟨g3, hg3, m2, m3⟩ := (P1.iff h1 a x).mp (P2.sub g2 hg2 a m1 x hx)
    rw [dj_eq P1.dj hg hg3 ha m2]
    exact m3
end
/-! ## sorted -/
def cG (g : List Str) : List Str := (nubS g).mergeSort leS
theorem cG_mem {g : List Str} {x : Str} : x ∈ cG g ↔ x ∈ g := by
  unfold cG
  rw [(List.mergeSort_perm _ _).mem_iff, mem_nubS]
theorem cG_eq {a b : List Str} (h : ∀ x, x ∈ a ↔ x ∈ b) : cG a = cG b := by
  unfold cG
  refine srtS_eq ?_ (srtS_ok _)
  refine (List.mergeSort_perm _ _).trans ((List.perm_ext_iff_of_nodup (nd_nubS a) (nd_nubS b)).mpr fun x => ?_)
  rw [mem_nubS, mem_nubS, h]
theorem nub_id : ∀ {l : List Str}, l.Nodup → nubS l = l
  | [], _ => rfl
  | x :: r, h => by
    obtain ⟨h1, h2⟩ := List.nodup_cons.mp h
    unfold nubS
    rw [if_neg h1, nub_id h2]
theorem cG_nd {g : List Str} (h : g.Nodup) : cG g = g.mergeSort leS := by
  unfold cG
  rw [nub_id h]
theorem par_cG {B : Str → Str → Prop} {Ws1 G1 Ws2 G2 : List (List Str)} (P1 : Par (Tr B) Ws1 G1) (P2 : Par (Tr B) Ws2 G2) (h1 : ∀ x y, B x y → ∃ w ∈ Ws1, x ∈ w ∧ y ∈ w) (h2 : ∀ x y, B x y → ∃ w ∈ Ws2, x ∈ w ∧ y ∈ w) : (G1.map cG).Perm (G2.map cG) := by
  have nd : ∀ {Ws G : List (List Str)}, Par (Tr B) Ws G → (G.map cG).Nodup := fun {Ws G} P => by
    refine List.pairwise_map.mpr (List.Pairwise.imp_of_mem (fun {g g'} hg hg' hd e => ?_) P.dj)
    obtain ⟨a, ha⟩ := List.exists_mem_of_ne_nil g (P.ne g hg)
    exact hd a ha (cG_mem.mp (e ▸ cG_mem.mpr ha))
  have half : ∀ {Ws1 G1 Ws2 G2 : List (List Str)}, Par (Tr B) Ws1 G1 → Par (Tr B) Ws2 G2 → (∀ x y, B x y → ∃ w ∈ Ws1, x ∈ w ∧ y ∈ w) → (∀ x y, B x y → ∃ w ∈ Ws2, x ∈ w ∧ y ∈ w) → ∀ c, c ∈ G1.map cG → c ∈ G2.map cG := fun P1 P2 h1 h2 c hc => by
    obtain ⟨g, hg, rfl⟩ := List.mem_map.mp hc
    obtain ⟨g2, hg2, e⟩ := P1.same P2 h1 h2 g hg
    exact List.mem_map.mpr ⟨g2, hg2, (cG_eq e).symm⟩
  exact (List.perm_ext_iff_of_nodup (nd P1) (nd P2)).mpr fun c => ⟨half P1 P2 h1 h2 c, half P2 P1 h2 h1 c⟩
/-! ## sorted lists of texts, sorted lists of lists of texts -/
def kS (x : Str) : List Nat := x.cps.toList
theorem kS_inj {x y : Str} (h : kS x = kS y) : x = y := Str.ext' (Array.toList_inj.mp h)
theorem rowLt_strs : ∀ xs ys : List Str, PySem.W.rowLt (xs.map .str) (ys.map .str) = decide (xs.map kS < ys.map kS)
  | [], [] => by
    have e : PySem.W.rowLt [] [] = false := PyProof.Rows.lex_irrefl _
    simp [e]
  | [], y :: ys => by
    have e : PySem.W.rowLt [] (PyData.str y :: ys.map .str) = true := by
      unfold PySem.W.rowLt
      rw [PySem.W.toks_all_cons]
      simp only [PySem.W.keyToksAll]
      rw [PyProof.Rows.lex_diff (O := PyProof.Rows.itemOrd) (by simp)]
      rfl
    simpa using e
  | x :: xs, [] => by
    have e : PySem.W.rowLt (PyData.str x :: xs.map .str) [] = false := by
      unfold PySem.W.rowLt
      rw [PySem.W.toks_all_cons]
      simp only [PySem.W.keyToksAll]
      rw [PyProof.Rows.lex_diff (O := PyProof.Rows.itemOrd) (by simp)]
      rfl
    simpa using e
  | x :: xs, y :: ys => by
    have e : PySem.W.rowLt (PyData.str x :: xs.map .str) (PyData.str y :: ys.map .str) = if x = y then PySem.W.rowLt (xs.map .str) (ys.map .str) else decide (kS x < kS y) := by
      unfold PySem.W.rowLt
      rw [PySem.W.dataLt_cons (by simp [PySem.W.alike]), PySem.W.dataLt_str]
      simp only [PyData.eqv, beq_iff_eq]
      rfl
    show PySem.W.rowLt (PyData.str x :: xs.map .str) (PyData.str y :: ys.map .str) = _
    rw [e]
    by_cases h : x = y
    · rw [if_pos h, rowLt_strs xs ys]
      simp [h, List.cons_lt_cons_iff]
    · have h2 : kS x ≠ kS y := fun z => h (kS_inj z)
      rw [if_neg h]
      simp [h2, List.cons_lt_cons_iff]
def leG (a b : List Str) : Bool := decide (a.map kS ≤ b.map kS)
theorem pys_strs : ∀ l : List Str, Dt.pys (l.map Dt.str) = l.map PyData.str
  | [] => rfl
  | x :: r => by
    show Dt.py (.str x) :: Dt.pys (r.map Dt.str) = _
    rw [pys_strs r]
    rfl
theorem leD_strs (a b : List Str) : PySem.W.dataLe false Dt.py (dSs a) (dSs b) = leG a b := by
  show (!PySem.W.dataLt (.list (Dt.pys (b.map Dt.str))) (.list (Dt.pys (a.map Dt.str)))) = _
  rw [pys_strs, pys_strs, PySem.W.dataLt_list]
  show (!PySem.W.rowLt (b.map .str) (a.map .str)) = _
  rw [rowLt_strs]
  unfold leG
  by_cases h : b.map kS < a.map kS
  · have h' : ¬ a.map kS ≤ b.map kS := fun r => List.not_lt.mpr r h
    simp [h, h']
  · have h' : a.map kS ≤ b.map kS := List.not_lt.mp h
    simp [h, h']
theorem leG_trans (a b c : List Str) (h1 : leG a b = true) (h2 : leG b c = true) : leG a c = true := by
  unfold leG at *
  simp only [decide_eq_true_eq] at *
  exact List.le_trans h1 h2
theorem leG_total (a b : List Str) : (leG a b || leG b a) = true := by
  unfold leG
  simp only [Bool.or_eq_true, decide_eq_true_eq]
  exact List.le_total _ _
theorem leG_anti {a b : List Str} (h1 : leG a b = true) (h2 : leG b a = true) : a = b := by
  unfold leG at *
  simp only [decide_eq_true_eq] at *
  exact (List.map_inj_right fun x y e => kS_inj e).mp (List.le_antisymm h1 h2)
def srtG (G : List (List Str)) : List (List Str) := G.mergeSort leG
theorem srtG_map (G : List (List Str)) : (G.map dSs).mergeSort (PySem.W.dataLe false Dt.py) = (srtG G).map dSs := (List.map_mergeSort fun a _ b _ => (leD_strs a b).symm).symm
theorem srtG_perm {G1 G2 : List (List Str)} (h : G1.Perm G2) : srtG G1 = srtG G2 :=
  List.Perm.eq_of_pairwise (fun _ _ _ _ h1 h2 => leG_anti h1 h2) (List.pairwise_mergeSort leG_trans leG_total G1) (List.pairwise_mergeSort leG_trans leG_total G2) ((List.mergeSort_perm _ _).trans (h.trans (List.mergeSort_perm _ _).symm))
theorem flats_strs : ∀ l : List Str, Dt.flats (l.map Dt.str) = true
  | [] => rfl
  | x :: r => by
    show (true && Dt.flats (r.map Dt.str)) = true
    rw [flats_strs r]
    rfl
theorem alikes_strs : ∀ a b : List Str, PySem.W.alikeAll (a.map .str) (b.map .str) = true
  | [], b => by simp [PySem.W.alikeAll]
  | x :: a, [] => by simp [PySem.W.alikeAll]
  | x :: a, y :: b => by simp [PySem.W.alikeAll, PySem.W.alike, alikes_strs a b]
theorem depth_strs : ∀ a : List Str, PyData.depthAll (a.map .str) = 0
  | [] => rfl
  | x :: a => by
    show max 0 (PyData.depthAll (a.map .str)) = 0
    rw [depth_strs a]
    rfl
theorem py_dSs (g : List Str) : Dt.py (dSs g) = PyData.list (g.map .str) := by
  show PyData.list (Dt.pys (g.map Dt.str)) = _
  rw [pys_strs]
theorem sortOk_gs (G : List (List Str)) : SortOk (G.map dSs) := by
  have e : (G.map dSs).map Dt.py = G.map fun g => PyData.list (g.map .str) := by
    rw [List.map_map]
    exact List.map_congr_left fun g _ => py_dSs g
  refine ⟨fun d hd => ?_, ?_, ?_, fun d hd => ?_⟩
  · obtain ⟨g, _, rfl⟩ := List.mem_map.mp hd
    exact flats_strs g
  · rw [e]
    exact PySem.W.AllAlike.of fun a b => alikes_strs a b
  · rw [e]
    exact PySem.W.Sortable.others fun g => ⟨fun z => (by cases z), fun xs z => (by cases z)⟩
  · obtain ⟨g, _, rfl⟩ := List.mem_map.mp hd
    rw [py_dSs]
    show PyData.depthAll (g.map .str) + 1 ≤ 60
    rw [depth_strs]
    decide
open Classical in
theorem srt_l (l : List Dt) (lv : Bool) (s : Sto) : biS .sorted lv [.lst l] s = match intsOf l with
    | some ns => mkL lv ((srtI ns).map Dt.int) s
    | none => if SortOk l then mkL lv (l.mergeSort (PySem.W.dataLe false Dt.py)) s else .no := rfl
theorem srt_gs (G : List (List Str)) (lv : Bool) (s : Sto) : biS .sorted lv [.lst (G.map dSs)] s = mkL lv ((srtG G).map dSs) s := by
  rw [srt_l]
  cases G with
  | nil =>
    show mkL lv ((srtI []).map Dt.int) s = mkL lv ((([] : List (List Str)).mergeSort leG).map dSs) s
    unfold srtI
    rw [List.mergeSort_nil, List.mergeSort_nil]
    rfl
  | cons g G =>
    rw [show intsOf ((g :: G).map dSs) = none from rfl]
    dsimp only
    rw [if_pos (sortOk_gs (g :: G)), srtG_map]
theorem sortOk_ss (l : List Str) : SortOk (l.map Dt.str) := by
  have e : (l.map Dt.str).map Dt.py = l.map PyData.str := by
    rw [List.map_map]
    rfl
  refine ⟨fun d hd => ?_, ?_, ?_, fun d hd => ?_⟩
  · obtain ⟨g, _, rfl⟩ := List.mem_map.mp hd
    rfl
  · rw [e]
    exact PySem.W.AllAlike.of fun a b => rfl
  · rw [e]
    exact PySem.W.Sortable.others fun g => ⟨fun z => (by cases z), fun xs z => (by cases z)⟩
  · obtain ⟨g, _, rfl⟩ := List.mem_map.mp hd
    exact Nat.zero_le _
theorem srt_ss (l : List Str) (lv : Bool) (s : Sto) : biS .sorted lv [dSs l] s = mkL lv ((l.mergeSort leS).map Dt.str) s := by
  unfold dSs
  rw [srt_l]
  cases l with
  | nil =>
    show mkL lv ((srtI []).map Dt.int) s = _
    unfold srtI
    rw [List.mergeSort_nil, List.mergeSort_nil]
    rfl
  | cons x l =>
    rw [show intsOf ((x :: l).map Dt.str) = none from rfl]
    dsimp only
    rw [if_pos (sortOk_ss (x :: l)), srtS_map]
theorem strsOf_map : ∀ l : List Str, strsOf (l.map Dt.str) = some l
  | [] => rfl
  | x :: l => by
    show (strsOf (l.map Dt.str)).map (x :: ·) = _
    rw [strsOf_map l]
    rfl
theorem sst_ss {l : List Str} (h : l.length < 4000) (lv : Bool) (s : Sto) : sstS lv (dSs l) s = mkL lv ((cG l).map Dt.str) s := by
  show (match strsOf (l.map Dt.str) with
    | some xs => if xs.length < 4000 then mkL lv (((nubS xs).mergeSort leS).map Dt.str) s else .no
    | none => .no) = _
  rw [strsOf_map]
  exact if_pos h
end Ip

namespace Ip
open PySem L2 PySem.Spec
/-! ## dicts whose keys are pairs of texts -/
abbrev Row : Type := Str × Str × Int
def rowD (r : Row) : Dt := .tup [.str r.1, .str r.2.1, .int r.2.2]
theorem frs_rows (rows : List Row) : Dt.frs (rows.map rowD) = true := frs_map (g := rowD) (fun _ => rfl) rows
def pk (a b : Str) : List Key := [.inr a, .inr b]
def tE (e : Row) : List Key × Dt := (pk e.1 e.2.1, .int e.2.2)
def keyD (e : Row) : Dt := .tup [.str e.1, .str e.2.1]
def atE (es : List Row) (a b : Str) : Option Row := es.find? fun e => decide (e.1 = a ∧ e.2.1 = b)
theorem pk_eq {a b c d : Str} : pk a b = pk c d ↔ a = c ∧ b = d := by
  unfold pk
  constructor
  · intro h
    injection h with h1 h2
    injection h2 with h2 _
    exact ⟨Sum.inr.inj h1, Sum.inr.inj h2⟩
  · rintro ⟨rfl, rfl⟩
    rfl
theorem tkey_2 (a b : Str) : tkeyOf (.tup [.str a, .str b]) = some (pk a b) := rfl
theorem look_tE (es : List Row) (a b : Str) : lookK (es.map tE) (pk a b) = (atE es a b).map fun e => Dt.int e.2.2 := by
  unfold lookK atE
  rw [List.find?_map, Option.map_map]
  have e : ((fun p : List Key × Dt => decide (p.1 = pk a b)) ∘ tE) = fun e : Row => decide (e.1 = a ∧ e.2.1 = b) := funext fun e => decide_eq_decide.mpr pk_eq
  rw [e]
  rfl
theorem atE_none {es : List Row} {a b : Str} : atE es a b = none ↔ ∀ e ∈ es, ¬ (e.1 = a ∧ e.2.1 = b) := by
  unfold atE
  rw [List.find?_eq_none]
  exact forall_congr' fun e => by simp
theorem set_tE {es : List Row} {a b : Str} (h : atE es a b = none) (m : Int) : setK (es.map tE) (pk a b) (.int m) = (es ++ [(a, b, m)]).map tE := by
  unfold setK
  rw [look_tE, h, List.map_append]
  rfl
def delE (es : List Row) (a b : Str) : List Row := es.filter fun e => !decide (e.1 = a ∧ e.2.1 = b)
theorem del_tE (es : List Row) (a b : Str) : delK (es.map tE) (pk a b) = (delE es a b).map tE := by
  unfold delK delE
  rw [List.filter_map]
  congr 1
  refine List.filter_congr fun e _ => ?_
  show decide (pk e.1 e.2.1 ≠ pk a b) = !decide (e.1 = a ∧ e.2.1 = b)
  rw [decide_not]
  congr 1
  exact decide_eq_decide.mpr pk_eq
section
variable {n : Nat} {s : Sto} {l : List (List Key × Dt)}
theorem view_T (h : s[n]? = some (.dT l)) : view s (.obj n) = .obj n := by
  unfold view
  dsimp only
  rw [h] <;> rfl
theorem view_TL (h : s[n]? = some (.lk (.dT l))) : view s (.obj n) = .obj n := by
  unfold view
  dsimp only
  rw [h] <;> rfl
theorem dGet_T (h : s[n]? = some (.dT l)) (a b : Str) : dGet (.obj n) (.tup [.str a, .str b]) s = some (lookK l (pk a b)) := by
  unfold dGet
  rw [view_T h]
  dsimp only
  rw [h] <;> rfl
theorem dGet_TL (h : s[n]? = some (.lk (.dT l))) (a b : Str) : dGet (.obj n) (.tup [.str a, .str b]) s = some (lookK l (pk a b)) := by
  unfold dGet
  rw [view_TL h]
  dsimp only
  rw [h] <;> rfl
theorem inn_T (h : s[n]? = some (.dT l)) (a b : Str) : cmpS .inn (.tup [.str a, .str b]) (.obj n) s = .ok (.bl (lookK l (pk a b)).isSome) s := by
  unfold cmpS
  dsimp only
  rw [view_T h]
  dsimp only
  rw [dGet_T h]
theorem nin_T (h : s[n]? = some (.dT l)) (a b : Str) : cmpS .nin (.tup [.str a, .str b]) (.obj n) s = .ok (.bl (!(lookK l (pk a b)).isSome)) s := by
  unfold cmpS
  dsimp only
  rw [view_T h]
  dsimp only
  rw [dGet_T h]
theorem ix_T (h : s[n]? = some (.dT l)) {a b : Str} {d : Dt} (hk : lookK l (pk a b) = some d) : ixS (.obj n) (.tup [.str a, .str b]) s = .ok d s := by
  unfold ixS
  rw [view_T h]
  dsimp only
  rw [dGet_T h, hk]
theorem six_T (h : s[n]? = some (.dT l)) (hz : l.length < sizeLine) (a b : Str) (v : Dt) : sixS (.obj n) (.tup [.str a, .str b]) v s = some (s.set n (.dT (setK l (pk a b) v))) := by
  unfold sixS
  dsimp only
  rw [h]
  dsimp only
  rw [tkey_2]
  dsimp only
  rw [if_pos hz]
theorem pop_T (h : s[n]? = some (.dT l)) {a b : Str} {d : Dt} (hk : lookK l (pk a b) = some d) : mtS .pop1 (.obj n) [.tup [.str a, .str b]] s = .ok d (s.set n (.dT (delK l (pk a b)))) := by
  unfold mtS
  dsimp only
  rw [h]
  dsimp only
  rw [tkey_2]
  dsimp only
  rw [hk]
theorem rcv_pop (n : Nat) (s : Sto) : rcv .pop1 (.obj n) s = isDO s[n]? := rcv_setd n s
theorem isDO_dT (l : List (List Key × Dt)) : isDO (some (.dT l)) = true := nr rfl
theorem it_lkT (h : s[n]? = some (.lk (.dT l))) : iterS (.obj n) s = .ok (.lv n (.lk (.dT l)) (l.map fun p => ofKeyT p.1)) s := by
  unfold iterS
  dsimp only
  rw [h]
end
def leR (a b : Row) : Bool := PySem.W.dataLe false Dt.py (keyD a) (keyD b)
def srtR (es : List Row) : List Row := es.mergeSort leR
theorem srtR_perm (es : List Row) : (srtR es).Perm es := List.mergeSort_perm _ _
theorem keys_tE (es : List Row) : (es.map tE).map (fun p => ofKeyT p.1) = es.map keyD := by
  rw [List.map_map]
  rfl
theorem sortOk_T (es : List Row) : SortOk (es.map keyD) := by
  have e : (es.map keyD).map Dt.py = es.map fun r => PyData.tuple [.str r.1, .str r.2.1] := by
    rw [List.map_map]
    rfl
  refine ⟨fun d hd => ?_, ?_, ?_, fun d hd => ?_⟩
  · obtain ⟨g, _, rfl⟩ := List.mem_map.mp hd
    rfl
  · rw [e]
    exact PySem.W.AllAlike.of fun a b => by simp [PySem.W.alike, PySem.W.alikeAll]
  · rw [e]
    exact PySem.W.Sortable.tuples fun a => ⟨_, _, rfl⟩
  · obtain ⟨g, _, rfl⟩ := List.mem_map.mp hd
    show PyData.depth (.tuple [.str g.1, .str g.2.1]) ≤ 60
    simp [PyData.depth, PyData.depthAll]
open Classical in
theorem srt_T {es : List Row} {n : Nat} {s : Sto} (h : s[n]? = some (.dT (es.map tE))) (lv : Bool) : biS .sorted lv [.obj n] s = mkL lv ((srtR es).map keyD) s := by
  unfold biS
  dsimp only
  rw [view_T h]
  dsimp only
  rw [h]
  dsimp only
  rw [keys_tE, if_pos (sortOk_T es)]
  unfold srtR
  rw [← List.map_mergeSort (r := leR) (s := PySem.W.dataLe false Dt.py) (f := keyD) fun a _ b _ => rfl]
/-! ## an expression with a dict locked -/
section
variable {P : Pg} {C : Cl} {h : Option Er} {l : Ip.Loc} {s s1 : Sto}
theorem ev_lkd {o e : E} {n : Nat} {ob : Ob} {d : Dt} (hp : peekO P o l s = some n) (hs : lkOk s[n]? = some ob) (he : evE P C h e l (s.set n (.lk ob)) = .ok d s1) (h1 : s1[n]? = some (.lk ob)) : evE P C h (.lkd o e) l s = .ok d (s1.set n ob) := by
  rw [evE, hp, withO_some, hs, withO_some, he]
  unfold unlkR
  dsimp only
  rw [if_pos h1]
end
/-! ## names -/
theorem letters_mk : ("abcdefghijklmnopqrstuvwxyz" : Str) = mkS ((List.range 26).map (97 + ·)) := by decide +kernel
theorem empty_mk : ("" : Str) = mkS [] := by decide +kernel
theorem letters_ix {r : Nat} (h : r < 26) (s : Sto) : ixS (.str (mkS ((List.range 26).map (97 + ·)))) (.int (r : Nat)) s = .ok (.str (mkS [97 + r])) s := by
  have h1 : (mkS ((List.range 26).map (97 + ·))).length ≤ sizeLine := by rw [mkS_len, List.length_map, List.length_range, sizeLine_eq]; decide
  rw [ix_s h1]
  have e : (mkS ((List.range 26).map (97 + ·))).cps.toList = (List.range 26).map (97 + ·) := by unfold mkS; simp
  rw [e, atI_rng h (fun x => 97 + x)]
  rfl
/-- a text of 1 to n small letters -/
def NmOk (n : Nat) (x : Str) : Prop := ∃ l : List Nat, x = mkS l ∧ 1 ≤ l.length ∧ l.length ≤ max 8 n ∧ ∀ a ∈ l, 97 ≤ a ∧ a < 123
theorem NmOk.ok {n : Nat} {x : Str} (h : NmOk n x) : PyData.strOk x = true := by
  obtain ⟨l, rfl, _, _, h⟩ := h
  exact mkS_ok fun c hc => Nat.lt_of_lt_of_le (h c hc).2 (by decide)
theorem occ_letter : ∀ r, r < 26 → (Builtin.Str.occurrences "abcdefghijklmnopqrstuvwxyz" (mkS [97 + r]) 0 ("abcdefghijklmnopqrstuvwxyz" : Str).length 1).isEmpty = false := by decide +kernel
theorem nin_letter {c : Nat} (h : 97 ≤ c ∧ c < 123) (s : Sto) : cmpS .nin (.str (mkS [c])) (.str "abcdefghijklmnopqrstuvwxyz") s = .ok (.bl false) s := by
  have e := occ_letter (c - 97) (by omega)
  rw [show 97 + (c - 97) = c by omega] at e
  show R.ok (Dt.bl (!!(Builtin.Str.occurrences "abcdefghijklmnopqrstuvwxyz" (mkS [c]) 0 ("abcdefghijklmnopqrstuvwxyz" : Str).length 1).isEmpty)) s = _
  rw [e]
  rfl
theorem strItems_mk (l : List Nat) : strItems (mkS l) = l.map fun c => Dt.str (mkS [c]) := by
  unfold strItems mkS
  simp
end Ip

namespace Pf
open PySem L2 PySem.Spec Ip
def top (i : Nat) : Stmt := PySem.Challenge.pw_hall_k11_book.main.body.getD i (.Pass ⟨0, 0, 0, 0⟩)
abbrev s_is_name : Stmt := top 9
/-- 0:thing 1:sign -/
def b_is_name : S := .seq (.ite (.or (.not (.isT .str (.var 0))) (.not (.chn .le .le (.con (.int 1)) (.bi .len false (.cons ((.var 0)) .nil)) (.con (.int 8))))) (.seq (.ret (.con (.bl false)))
    .skip) .skip)
    (.seq (.for_ (.nm 1) (.cons (.var 0) .nil) (.seq (.ite (.cmp .nin (.var 1) (.con (.str "abcdefghijklmnopqrstuvwxyz"))) (.seq (.ret (.con (.bl false)))
    .skip) .skip)
    .skip))
    (.seq (.ret (.con (.bl true)))
    .skip))
abbrev f_is_name : Nat := 0
abbrev s__law_cell : Stmt := top 12
/-- 0:_law_script 1:_law_k 2:_law_number -/
def b__law_cell : S := .seq (.ite (.cmp .lt (.var 1) (.bi .len false (.cons ((.var 0)) .nil))) (.seq (.ret (.ix (.var 0) (.var 1)))
    .skip) .skip)
    (.seq (.set 2 (.bin .add (.bin .mul (.var 1) (.con (.int 7919))) (.con (.int 5))))
    (.seq (.ite (.cmp .gt (.bi .len false (.cons ((.var 0)) .nil)) (.con (.int 0))) (.seq (.set 2 (.bin .mod (.bin .add (.bin .mul (.ix (.var 0) (.bin .mod (.bin .mul (.var 1) (.con (.int 7))) (.bi .len false (.cons ((.var 0)) .nil)))) (.con (.int 48271))) (.bin .mul (.var 1) (.con (.int 7919)))) (.con (.int 2147483647))))
    .skip) .skip)
    (.seq (.ret (.bin .mod (.bin .mul (.var 2) (.var 2)) (.con (.int 2147483629))))
    .skip)))
abbrev f__law_cell : Nat := 1
abbrev s__law_stream : Stmt := top 13
/-- 0:_law_cell_here 1:_law_many 2:_law_xs 3:_law_number 4:_law_k -/
def b__law_stream : S := .seq (.set 2 (.lst true .nil))
    (.seq (.set 3 (.bin .mod (.var 0) (.con (.int 2147483647))))
    (.seq (.for_ (.nm 4) (.rng1 (.var 1)) (.seq (.set 3 (.bin .mod (.bin .add (.bin .mul (.var 3) (.con (.int 48271))) (.con (.int 12345))) (.con (.int 2147483647))))
    (.seq (.ex (.mt .append (.var 2) (.cons ((.var 3)) .nil)))
    .skip)))
    (.seq (.ret (.var 2))
    .skip)))
abbrev f__law_stream : Nat := 2
abbrev s__law_names : Stmt := top 14
/-- 0:_law_cell_here 1:_law_many 2:_law_some 3:_law_size 4:_law_at 5:_law_k 6:_law_base 7:_law_names_here 8:_law_name 9:_law_j 10:_law_one -/
def b__law_names : S := .seq (.set 2 (.con (.str "abcdefghijklmnopqrstuvwxyz")))
    (.seq (.set 3 (.bin .add (.con (.int 1)) (.bin .mod (.var 0) (.con (.int 8)))))
    (.seq (.set 4 (.bin .mod (.bin .div (.var 0) (.con (.int 8))) (.var 3)))
    (.seq (.set 6 (.lc false [5] (.bin .mod (.bin .add (.bin .div (.bin .div (.var 0) (.con (.int 192))) (.bin .add (.var 5) (.con (.int 1)))) (.bin .mul (.bin .mul (.con (.int 5)) (.var 5)) (.var 5))) (.con (.int 26))) (.nm 5) (.rng1 (.con (.int 8))) (.con (.bl true))))
    (.seq (.set 7 (.lst true .nil))
    (.seq (.for_ (.nm 5) (.rng1 (.var 1)) (.seq (.set 8 (.con (.str "")))
    (.seq (.for_ (.nm 9) (.rng1 (.var 3)) (.seq (.set 8 (.bin .add (.var 8) (.ix (.var 2) (.bin .mod (.bin .add (.ix (.var 6) (.var 9)) (.bin .mul (.bin .mul (.bin .add (.con (.int 1)) (.bin .mul (.bin .mod (.bin .div (.var 0) (.con (.int 64))) (.con (.int 3))) (.con (.int 2)))) (.var 5)) (.bi .int false (.cons ((.cmp .eq (.var 9) (.var 4))) .nil)))) (.con (.int 26))))))
    .skip))
    (.seq (.ite (.and (.cmp .eq (.bin .mod (.var 5) (.con (.int 2))) (.con (.int 1))) (.and (.cmp .lt (.var 3) (.con (.int 8))) (.cmp .eq (.bin .mod (.bin .div (.var 0) (.con (.int 120))) (.con (.int 2))) (.con (.int 1))))) (.seq (.set 8 (.bin .add (.var 8) (.con (.str "m"))))
    .skip) .skip)
    (.seq (.ite (.and (.cmp .eq (.bin .mod (.bin .div (.var 0) (.con (.int 24))) (.con (.int 5))) (.con (.int 1))) (.cmp .le (.var 1) (.con (.int 8)))) (.seq (.set 8 (.mt .join (.con (.str "")) (.cons ((.lc false [10] (.ix (.var 2) (.var 10)) (.nm 10) (.cons (.sl (.var 6) .nil (.cons (.bin .add (.var 5) (.con (.int 1))) .nil)) .nil) (.con (.bl true)))) .nil)))
    .skip) .skip)
    (.seq (.ex (.mt .append (.var 7) (.cons ((.var 8)) .nil)))
    .skip))))))
    (.seq (.ret (.var 7))
    .skip))))))
abbrev f__law_names : Nat := 3
abbrev s__law_mark : Stmt := top 15
/-- 0:_law_x 1:_law_most -/
def b__law_mark : S := .seq (.ret (.ix (.lst false (.cons ((.con (.int 0))) (.cons ((.var 1)) (.cons ((.bin .mod (.bin .div (.var 0) (.con (.int 3))) (.bin .add (.var 1) (.con (.int 1))))) .nil)))) (.bin .mod (.var 0) (.con (.int 3)))))
    .skip
abbrev f__law_mark : Nat := 4
abbrev s__law_told : Stmt := top 16
/-- 0:_law_book 1:_law_kept 2:_law_turn 3:_law_asked 4:_law_rows 5:_law_word 6:_law_told_here 7:_law_due 8:_law_work 9:_law_hand 10:_law_row -/
def b__law_told : S := .seq (.set 3 (.lst false (.cons ((.con (.str "rows"))) (.cons ((.con (.str "works"))) (.cons ((.con (.str "hands"))) .nil)))))
    (.seq (.set 4 (.lc false [8, 9] (.tup (.cons ((.var 8)) (.cons ((.var 9)) (.cons ((.ix (.var 1) (.tup (.cons ((.var 8)) (.cons ((.var 9)) .nil))))) .nil)))) (.tp [8, 9]) (.cons (.bi .sorted false (.cons ((.var 1)) .nil)) .nil) (.con (.bl true))))
    (.seq (.for_ (.nm 5) (.cons (.bin .add (.sl (.var 3) (.cons (.bin .mod (.var 2) (.con (.int 3))) .nil) .nil) (.sl (.var 3) .nil (.cons (.bin .mod (.var 2) (.con (.int 3))) .nil))) .nil) (.seq (.ite (.cmp .eq (.var 5) (.con (.str "rows"))) (.seq (.set 6 (.ome 0 12 (.var 0) .nil))
    (.seq (.set 7 (.var 4))
    .skip)) (.seq (.ite (.cmp .eq (.var 5) (.con (.str "works"))) (.seq (.set 6 (.ome 0 13 (.var 0) .nil))
    (.seq (.set 7 (.sst false (.lc false [10] (.ix (.var 10) (.con (.int 0))) (.nm 10) (.cons (.var 4) .nil) (.con (.bl true)))))
    .skip)) (.seq (.set 6 (.ome 0 10 (.var 0) .nil))
    (.seq (.set 7 (.sst false (.lc false [10] (.ix (.var 10) (.con (.int 1))) (.nm 10) (.cons (.var 4) .nil) (.con (.bl true)))))
    .skip)))
    .skip))
    (.seq (.ite (.or (.not (.isT .lst (.var 6))) (.cmp .ne (.var 6) (.var 7))) (.seq (.ret (.con .non))
    .skip) .skip)
    .skip)))
    (.seq (.ret (.var 6))
    .skip)))
abbrev f__law_told : Nat := 5
abbrev s__law_kinds : Stmt := top 17
/-- 0:_law_rows 1:_law_row -/
def b__law_kinds : S := .seq (.for_ (.nm 1) (.cons (.var 0) .nil) (.seq (.ite (.or (.not (.isT .tup (.var 1))) (.or (.isT .bool (.ix (.var 1) (.con (.int 2)))) (.not (.isT .int (.ix (.var 1) (.con (.int 2))))))) (.seq (.ret (.con (.bl false)))
    .skip) .skip)
    .skip))
    (.seq (.ret (.con (.bl true)))
    .skip)
abbrev f__law_kinds : Nat := 6
abbrev s_law : Stmt := top 18
/-- 0:_law_script 1:_law_most 2:_law_works 3:_law_hands 4:_law_book 5:_law_kept 6:_law_held 7:_law_k 8:_law_xs 9:_law_key 10:_law_answer 11:_law_told_here 12:_law_copy -/
def b_law : S := .seq (.set 1 (.bin .mod (.call 1 (.cons ((.var 0)) (.cons ((.con (.int 0))) .nil))) (.con (.int 10))))
    (.seq (.ite (.cmp .eq (.bin .mod (.bin .div (.call 1 (.cons ((.var 0)) (.cons ((.con (.int 0))) .nil))) (.con (.int 10))) (.con (.int 3))) (.con (.int 1))) (.seq (.set 1 (.bin .mod (.bin .div (.call 1 (.cons ((.var 0)) (.cons ((.con (.int 0))) .nil))) (.con (.int 30))) (.bin .pow (.con (.int 10)) (.con (.int 59)))))
    .skip) .skip)
    (.seq (.set 2 (.call 3 (.cons ((.call 1 (.cons ((.var 0)) (.cons ((.con (.int 1))) .nil)))) (.cons ((.con (.int 5))) .nil))))
    (.seq (.set 3 (.call 3 (.cons ((.call 1 (.cons ((.var 0)) (.cons ((.con (.int 2))) .nil)))) (.cons ((.con (.int 5))) .nil))))
    (.seq (.set 4 (.new 6 (.cons ((.var 1)) .nil)))
    (.seq (.set 5 (.dic true))
    (.seq (.set 6 (.lst true .nil))
    (.seq (.for_ (.nm 7) (.rng (.con (.int 3)) (.bi .mx false (.cons ((.con (.int 11))) (.cons ((.bi .mn false (.cons ((.con (.int 53))) (.cons ((.bi .len false (.cons ((.var 0)) .nil))) .nil)))) .nil)))) (.seq (.set 8 (.call 2 (.cons ((.call 1 (.cons ((.var 0)) (.cons ((.var 7)) .nil)))) (.cons ((.con (.int 6))) .nil))))
    (.seq (.set 9 (.tup (.cons ((.ix (.var 2) (.bin .mod (.ix (.var 8) (.con (.int 0))) (.con (.int 5))))) (.cons ((.ix (.var 3) (.bin .mod (.ix (.var 8) (.con (.int 1))) (.con (.int 5))))) .nil))))
    (.seq (.ite (.cmp .inn (.var 9) (.var 5)) (.seq (.ex (.mt .pop1 (.var 5) (.cons ((.var 9)) .nil)))
    (.seq (.set 10 (.ome 0 9 (.var 4) (.cons ((.ix (.var 9) (.con (.int 0)))) (.cons ((.ix (.var 9) (.con (.int 1)))) .nil))))
    .skip)) (.seq (.six (.var 5) (.var 9) (.call 4 (.cons ((.ix (.var 8) (.con (.int 2)))) (.cons ((.var 1)) .nil))))
    (.seq (.set 10 (.ome 0 11 (.var 4) (.cons ((.ix (.var 9) (.con (.int 0)))) (.cons ((.ix (.var 9) (.con (.int 1)))) (.cons ((.ix (.var 5) (.var 9))) .nil)))))
    .skip)))
    (.seq (.set 11 (.cali 5 (.cons ((.var 4)) (.cons ((.var 5)) (.cons ((.ix (.var 8) (.con (.int 3)))) .nil)))))
    (.seq (.ite (.or (.isN true (.var 10)) (.or (.isN false (.var 11)) (.not (.cali 6 (.cons ((.ome 0 12 (.var 4) .nil)) .nil))))) (.seq (.ret (.con (.bl false)))
    .skip) .skip)
    (.seq (.ite (.cmp .eq (.bin .mod (.ix (.var 8) (.con (.int 4))) (.con (.int 3))) (.con (.int 0))) (.seq (.ex (.mt .append (.var 6) (.cons ((.tup (.cons ((.var 11)) (.cons ((.bi .list false (.cons ((.var 11)) .nil))) .nil)))) .nil)))
    .skip) (.seq (.ite (.cmp .eq (.bin .mod (.ix (.var 8) (.con (.int 4))) (.con (.int 3))) (.con (.int 1))) (.seq (.ex (.mt .clear (.var 11) .nil))
    .skip) (.seq (.ex (.mt .append (.var 11) (.cons ((.tup (.cons ((.con (.str "zz"))) (.cons ((.con (.str "zz"))) (.cons ((.con (.int 0))) .nil))))) .nil)))
    .skip))
    .skip))
    .skip)))))))
    (.seq (.for_ (.tp [11, 12]) (.cons (.var 6) .nil) (.seq (.ite (.cmp .ne (.var 11) (.var 12)) (.seq (.ret (.con (.bl false)))
    .skip) .skip)
    .skip))
    (.seq (.ret (.isN true (.cali 5 (.cons ((.var 4)) (.cons ((.var 5)) (.cons ((.con (.int 0))) .nil))))))
    .skip)))))))))
abbrev f_law : Nat := 7
abbrev s_Book___init__ : Stmt := (clsBody (top 10)).getD 0 (.Pass ⟨0, 0, 0, 0⟩)
/-- 0:self 1:most -/
def b_Book___init__ : S := .seq (.sat 8 (.var 0) (.var 1))
    (.seq (.sat 7 (.var 0) (.dic true))
    .skip)
abbrev f_Book___init__ : Nat := 8
abbrev s_Book_put : Stmt := (clsBody (top 10)).getD 1 (.Pass ⟨0, 0, 0, 0⟩)
/-- 0:self 1:work 2:hand 3:mark -/
def b_Book_put : S := .seq (.ite (.or (.not (.call 0 (.cons ((.var 1)) .nil))) (.not (.call 0 (.cons ((.var 2)) .nil)))) (.seq (.rai 1 .nil)
    .skip) .skip)
    (.seq (.ite (.or (.isT .bool (.var 3)) (.or (.not (.isT .int (.var 3))) (.not (.chn .le .le (.con (.int 0)) (.var 3) (.att 8 (.var 0)))))) (.seq (.rai 2 .nil)
    .skip) .skip)
    (.seq (.ite (.cmp .inn (.tup (.cons ((.var 1)) (.cons ((.var 2)) .nil))) (.att 7 (.var 0))) (.seq (.rai 3 .nil)
    .skip) .skip)
    (.seq (.six (.att 7 (.var 0)) (.tup (.cons ((.var 1)) (.cons ((.var 2)) .nil))) (.var 3))
    .skip)))
abbrev f_Book_put : Nat := 9
abbrev s_Book_drop : Stmt := (clsBody (top 10)).getD 2 (.Pass ⟨0, 0, 0, 0⟩)
/-- 0:self 1:work 2:hand -/
def b_Book_drop : S := .seq (.ite (.or (.not (.call 0 (.cons ((.var 1)) .nil))) (.or (.not (.call 0 (.cons ((.var 2)) .nil))) (.cmp .nin (.tup (.cons ((.var 1)) (.cons ((.var 2)) .nil))) (.att 7 (.var 0))))) (.seq (.rai 4 .nil)
    .skip) .skip)
    (.seq (.ex (.mt .pop1 (.att 7 (.var 0)) (.cons ((.tup (.cons ((.var 1)) (.cons ((.var 2)) .nil)))) .nil)))
    .skip)
abbrev f_Book_drop : Nat := 10
abbrev s_Book_rows : Stmt := (clsBody (top 10)).getD 3 (.Pass ⟨0, 0, 0, 0⟩)
/-- 0:self 1:work 2:hand -/
def b_Book_rows : S := .seq (.ret (.lc true [1, 2] (.tup (.cons ((.var 1)) (.cons ((.var 2)) (.cons ((.ix (.att 7 (.var 0)) (.tup (.cons ((.var 1)) (.cons ((.var 2)) .nil))))) .nil)))) (.tp [1, 2]) (.cons (.bi .sorted false (.cons ((.att 7 (.var 0))) .nil)) .nil) (.con (.bl true))))
    .skip
abbrev f_Book_rows : Nat := 11
abbrev s_Book_works : Stmt := (clsBody (top 10)).getD 4 (.Pass ⟨0, 0, 0, 0⟩)
/-- 0:self 1:work 2:hand -/
def b_Book_works : S := .seq (.ret (.sst true (.lkd (.att 7 (.var 0)) (.lc false [1, 2] (.var 1) (.tp [1, 2]) (.cons (.att 7 (.var 0)) .nil) (.con (.bl true))))))
    .skip
abbrev f_Book_works : Nat := 12
abbrev s_Book_hands : Stmt := (clsBody (top 10)).getD 5 (.Pass ⟨0, 0, 0, 0⟩)
/-- 0:self 1:work 2:hand -/
def b_Book_hands : S := .seq (.ret (.sst true (.lkd (.att 7 (.var 0)) (.lc false [1, 2] (.var 2) (.tp [1, 2]) (.cons (.att 7 (.var 0)) .nil) (.con (.bl true))))))
    .skip
abbrev f_Book_hands : Nat := 13
def Pp : Pg := { fns := [⟨1, 2, [], b_is_name⟩, ⟨2, 3, [], b__law_cell⟩, ⟨2, 5, [], b__law_stream⟩, ⟨2, 11, [], b__law_names⟩, ⟨2, 2, [], b__law_mark⟩, ⟨3, 11, [], b__law_told⟩, ⟨1, 2, [], b__law_kinds⟩, ⟨1, 13, [], b_law⟩, ⟨2, 2, [], b_Book___init__⟩, ⟨4, 4, [], b_Book_put⟩, ⟨3, 3, [], b_Book_drop⟩, ⟨1, 3, [], b_Book_rows⟩, ⟨1, 3, [], b_Book_works⟩, ⟨1, 3, [], b_Book_hands⟩], cls := [(6, ⟨some 8, [(9, 10), (10, 13), (11, 9), (12, 11), (13, 12)], [8, 7]⟩)], exf := [], sub := [(1, [1, 0, 5]), (2, [2, 0, 5]), (3, [3, 0, 5]), (4, [4, 0, 5])] }
def Gg : Gt := { tb := ["HallError", "NoName", "NoMark", "Twice", "Missing", "ValueError", "Book", "marks", "most", "drop", "hands", "put", "rows", "works"], free := ["len", "isinstance", "range", "sorted", "list", "set", "int", "bool", "str", "tuple", "max", "min", "ValueError"], ci := [("LONGEST", 8)], cs := [("LETTERS", "abcdefghijklmnopqrstuvwxyz")], fns := [("is_name", 0, 1), ("_law_cell", 1, 2), ("_law_stream", 2, 2), ("_law_names", 3, 2), ("_law_mark", 4, 2), ("_law_told", 5, 3), ("_law_kinds", 6, 1), ("law", 7, 1)], exc := [("NoName", 1), ("NoMark", 2), ("Twice", 3), ("Missing", 4)], hnd := [], xin := [], xfl := [], bex := [], new := [("Book", 6, true)], fnm := [("marks", 7), ("most", 8)], mnm := [("drop", 9), ("hands", 10), ("put", 11), ("rows", 12), ("works", 13)], fld := [(6, 8), (6, 7)], mth := [(6, 9, 10), (6, 10, 13), (6, 11, 9), (6, 12, 11), (6, 13, 12)], dfl := [] }
abbrev x_HallError : Nat := 0
abbrev x_NoName : Nat := 1
abbrev x_NoMark : Nat := 2
abbrev x_Twice : Nat := 3
abbrev x_Missing : Nat := 4
abbrev x_ValueError : Nat := 5
abbrev x_Book : Nat := 6
abbrev x_marks : Nat := 7
abbrev x_most : Nat := 8
abbrev x_drop : Nat := 9
abbrev x_hands : Nat := 10
abbrev x_put : Nat := 11
abbrev x_rows : Nat := 12
abbrev x_works : Nat := 13
abbrev n_Book : Nat := 6
theorem dc_is_name : DefC Gg Pp "is_name" "is_name" (defArgs s_is_name) (defBody s_is_name) (defScope s_is_name) ["thing", "sign"] ["thing"] f_is_name false := ⟨⟨rfl, rfl, rfl, by decide +kernel, rfl, by decide +kernel, by decide +kernel⟩, ⟨b_is_name, rfl, by decide +kernel⟩⟩
theorem dc__law_cell : DefC Gg Pp "_law_cell" "_law_cell" (defArgs s__law_cell) (defBody s__law_cell) (defScope s__law_cell) ["_law_script", "_law_k", "_law_number"] ["_law_script", "_law_k"] f__law_cell false := ⟨⟨rfl, rfl, rfl, by decide +kernel, rfl, by decide +kernel, by decide +kernel⟩, ⟨b__law_cell, rfl, by decide +kernel⟩⟩
theorem dc__law_stream : DefC Gg Pp "_law_stream" "_law_stream" (defArgs s__law_stream) (defBody s__law_stream) (defScope s__law_stream) ["_law_cell_here", "_law_many", "_law_xs", "_law_number", "_law_k"] ["_law_cell_here", "_law_many"] f__law_stream false := ⟨⟨rfl, rfl, rfl, by decide +kernel, rfl, by decide +kernel, by decide +kernel⟩, ⟨b__law_stream, rfl, by decide +kernel⟩⟩
theorem dc__law_names : DefC Gg Pp "_law_names" "_law_names" (defArgs s__law_names) (defBody s__law_names) (defScope s__law_names) ["_law_cell_here", "_law_many", "_law_some", "_law_size", "_law_at", "_law_k", "_law_base", "_law_names_here", "_law_name", "_law_j", "_law_one"] ["_law_cell_here", "_law_many"] f__law_names false := ⟨⟨rfl, rfl, rfl, by decide +kernel, rfl, by decide +kernel, by decide +kernel⟩, ⟨b__law_names, rfl, by decide +kernel⟩⟩
theorem dc__law_mark : DefC Gg Pp "_law_mark" "_law_mark" (defArgs s__law_mark) (defBody s__law_mark) (defScope s__law_mark) ["_law_x", "_law_most"] ["_law_x", "_law_most"] f__law_mark false := ⟨⟨rfl, rfl, rfl, by decide +kernel, rfl, by decide +kernel, by decide +kernel⟩, ⟨b__law_mark, rfl, by decide +kernel⟩⟩
theorem dc__law_told : DefC Gg Pp "_law_told" "_law_told" (defArgs s__law_told) (defBody s__law_told) (defScope s__law_told) ["_law_book", "_law_kept", "_law_turn", "_law_asked", "_law_rows", "_law_word", "_law_told_here", "_law_due", "_law_work", "_law_hand", "_law_row"] ["_law_book", "_law_kept", "_law_turn"] f__law_told false := ⟨⟨rfl, rfl, rfl, by decide +kernel, rfl, by decide +kernel, by decide +kernel⟩, ⟨b__law_told, rfl, by decide +kernel⟩⟩
theorem dc__law_kinds : DefC Gg Pp "_law_kinds" "_law_kinds" (defArgs s__law_kinds) (defBody s__law_kinds) (defScope s__law_kinds) ["_law_rows", "_law_row"] ["_law_rows"] f__law_kinds false := ⟨⟨rfl, rfl, rfl, by decide +kernel, rfl, by decide +kernel, by decide +kernel⟩, ⟨b__law_kinds, rfl, by decide +kernel⟩⟩
theorem dc_law : DefC Gg Pp "law" "law" (defArgs s_law) (defBody s_law) (defScope s_law) ["_law_script", "_law_most", "_law_works", "_law_hands", "_law_book", "_law_kept", "_law_held", "_law_k", "_law_xs", "_law_key", "_law_answer", "_law_told_here", "_law_copy"] ["_law_script"] f_law false := ⟨⟨rfl, rfl, rfl, by decide +kernel, rfl, by decide +kernel, by decide +kernel⟩, ⟨b_law, rfl, by decide +kernel⟩⟩
theorem dc_Book___init__ : DefC Gg Pp "__init__" "Book.__init__" (defArgs s_Book___init__) (defBody s_Book___init__) (defScope s_Book___init__) ["self", "most"] ["self", "most"] f_Book___init__ false := ⟨⟨rfl, rfl, rfl, by decide +kernel, rfl, by decide +kernel, by decide +kernel⟩, ⟨b_Book___init__, rfl, by decide +kernel⟩⟩
theorem dc_Book_put : DefC Gg Pp "put" "Book.put" (defArgs s_Book_put) (defBody s_Book_put) (defScope s_Book_put) ["self", "work", "hand", "mark"] ["self", "work", "hand", "mark"] f_Book_put false := ⟨⟨rfl, rfl, rfl, by decide +kernel, rfl, by decide +kernel, by decide +kernel⟩, ⟨b_Book_put, rfl, by decide +kernel⟩⟩
theorem dc_Book_drop : DefC Gg Pp "drop" "Book.drop" (defArgs s_Book_drop) (defBody s_Book_drop) (defScope s_Book_drop) ["self", "work", "hand"] ["self", "work", "hand"] f_Book_drop false := ⟨⟨rfl, rfl, rfl, by decide +kernel, rfl, by decide +kernel, by decide +kernel⟩, ⟨b_Book_drop, rfl, by decide +kernel⟩⟩
theorem dc_Book_rows : DefC Gg Pp "rows" "Book.rows" (defArgs s_Book_rows) (defBody s_Book_rows) (defScope s_Book_rows) ["self", "work", "hand"] ["self"] f_Book_rows false := ⟨⟨rfl, rfl, rfl, by decide +kernel, rfl, by decide +kernel, by decide +kernel⟩, ⟨b_Book_rows, rfl, by decide +kernel⟩⟩
theorem dc_Book_works : DefC Gg Pp "works" "Book.works" (defArgs s_Book_works) (defBody s_Book_works) (defScope s_Book_works) ["self", "work", "hand"] ["self"] f_Book_works false := ⟨⟨rfl, rfl, rfl, by decide +kernel, rfl, by decide +kernel, by decide +kernel⟩, ⟨b_Book_works, rfl, by decide +kernel⟩⟩
theorem dc_Book_hands : DefC Gg Pp "hands" "Book.hands" (defArgs s_Book_hands) (defBody s_Book_hands) (defScope s_Book_hands) ["self", "work", "hand"] ["self"] f_Book_hands false := ⟨⟨rfl, rfl, rfl, by decide +kernel, rfl, by decide +kernel, by decide +kernel⟩, ⟨b_Book_hands, rfl, by decide +kernel⟩⟩
theorem cx_is_name {k : Nat} {a0 : Dt} {Z : Dt → Prop} (hk : 2 ≤ k) (hf : Dt.frs [a0] = true) (hr : ∀ j, k = j + 2 → Fin (RtZ Z) (exS Pp (runF Pp (j + 1)) (runF Pp j) b_is_name none [some a0, none] [])) : ∃ e, (∀ s, callP (runF Pp k) f_is_name [a0] s = .ok e s) ∧ Z e := cx_of (fd := ⟨1, 2, [], b_is_name⟩) hk rfl rfl hf hr
theorem ck_is_name {k : Nat} {a0 : Dt} {s : Sto} {e : Dt} (hk : 2 ≤ k) (hf : Dt.frs [a0] = true) (hr : ∀ j, k = j + 2 → Fin (RtZ (· = e)) (exS Pp (runF Pp (j + 1)) (runF Pp j) b_is_name none [some a0, none] [])) : callP (runF Pp k) f_is_name [a0] s = .ok e s := cq_of (fd := ⟨1, 2, [], b_is_name⟩) hk rfl rfl hf hr
theorem ce_is_name {k : Nat} {a0 : Dt} {s : Sto} {c : Nat} (hk : 2 ≤ k) (hf : Dt.frs [a0] = true) (hr : ∀ j, k = j + 2 → Fin (fun o => ∃ l1 s1, o = .er ⟨c, []⟩ l1 s1) (exS Pp (runF Pp (j + 1)) (runF Pp j) b_is_name none [some a0, none] [])) : callP (runF Pp k) f_is_name [a0] s = .er ⟨c, []⟩ s := ce_of (fd := ⟨1, 2, [], b_is_name⟩) hk rfl rfl hf hr
theorem rq_is_name {k : Nat} {a0 : Dt} {s : Sto} {Q : R Dt → Prop} (hk : 2 ≤ k) (hr : ∀ j, k = j + 2 → Fin (fun o => Q o.res) (exS Pp (runF Pp (j + 1)) (runF Pp j) b_is_name none [some a0, none] s)) : Q (runF Pp k f_is_name [a0] s) := rq_of (fd := ⟨1, 2, [], b_is_name⟩) hk rfl rfl hr
theorem cx__law_cell {k : Nat} {a0 a1 : Dt} {Z : Dt → Prop} (hk : 2 ≤ k) (hf : Dt.frs [a0, a1] = true) (hr : ∀ j, k = j + 2 → Fin (RtZ Z) (exS Pp (runF Pp (j + 1)) (runF Pp j) b__law_cell none [some a0, some a1, none] [])) : ∃ e, (∀ s, callP (runF Pp k) f__law_cell [a0, a1] s = .ok e s) ∧ Z e := cx_of (fd := ⟨2, 3, [], b__law_cell⟩) hk rfl rfl hf hr
theorem ck__law_cell {k : Nat} {a0 a1 : Dt} {s : Sto} {e : Dt} (hk : 2 ≤ k) (hf : Dt.frs [a0, a1] = true) (hr : ∀ j, k = j + 2 → Fin (RtZ (· = e)) (exS Pp (runF Pp (j + 1)) (runF Pp j) b__law_cell none [some a0, some a1, none] [])) : callP (runF Pp k) f__law_cell [a0, a1] s = .ok e s := cq_of (fd := ⟨2, 3, [], b__law_cell⟩) hk rfl rfl hf hr
theorem ce__law_cell {k : Nat} {a0 a1 : Dt} {s : Sto} {c : Nat} (hk : 2 ≤ k) (hf : Dt.frs [a0, a1] = true) (hr : ∀ j, k = j + 2 → Fin (fun o => ∃ l1 s1, o = .er ⟨c, []⟩ l1 s1) (exS Pp (runF Pp (j + 1)) (runF Pp j) b__law_cell none [some a0, some a1, none] [])) : callP (runF Pp k) f__law_cell [a0, a1] s = .er ⟨c, []⟩ s := ce_of (fd := ⟨2, 3, [], b__law_cell⟩) hk rfl rfl hf hr
theorem rq__law_cell {k : Nat} {a0 a1 : Dt} {s : Sto} {Q : R Dt → Prop} (hk : 2 ≤ k) (hr : ∀ j, k = j + 2 → Fin (fun o => Q o.res) (exS Pp (runF Pp (j + 1)) (runF Pp j) b__law_cell none [some a0, some a1, none] s)) : Q (runF Pp k f__law_cell [a0, a1] s) := rq_of (fd := ⟨2, 3, [], b__law_cell⟩) hk rfl rfl hr
theorem cx__law_stream {k : Nat} {a0 a1 : Dt} {Z : Dt → Prop} (hk : 2 ≤ k) (hf : Dt.frs [a0, a1] = true) (hr : ∀ j, k = j + 2 → Fin (RtZ Z) (exS Pp (runF Pp (j + 1)) (runF Pp j) b__law_stream none [some a0, some a1, none, none, none] [])) : ∃ e, (∀ s, callP (runF Pp k) f__law_stream [a0, a1] s = .ok e s) ∧ Z e := cx_of (fd := ⟨2, 5, [], b__law_stream⟩) hk rfl rfl hf hr
theorem ck__law_stream {k : Nat} {a0 a1 : Dt} {s : Sto} {e : Dt} (hk : 2 ≤ k) (hf : Dt.frs [a0, a1] = true) (hr : ∀ j, k = j + 2 → Fin (RtZ (· = e)) (exS Pp (runF Pp (j + 1)) (runF Pp j) b__law_stream none [some a0, some a1, none, none, none] [])) : callP (runF Pp k) f__law_stream [a0, a1] s = .ok e s := cq_of (fd := ⟨2, 5, [], b__law_stream⟩) hk rfl rfl hf hr
theorem ce__law_stream {k : Nat} {a0 a1 : Dt} {s : Sto} {c : Nat} (hk : 2 ≤ k) (hf : Dt.frs [a0, a1] = true) (hr : ∀ j, k = j + 2 → Fin (fun o => ∃ l1 s1, o = .er ⟨c, []⟩ l1 s1) (exS Pp (runF Pp (j + 1)) (runF Pp j) b__law_stream none [some a0, some a1, none, none, none] [])) : callP (runF Pp k) f__law_stream [a0, a1] s = .er ⟨c, []⟩ s := ce_of (fd := ⟨2, 5, [], b__law_stream⟩) hk rfl rfl hf hr
theorem rq__law_stream {k : Nat} {a0 a1 : Dt} {s : Sto} {Q : R Dt → Prop} (hk : 2 ≤ k) (hr : ∀ j, k = j + 2 → Fin (fun o => Q o.res) (exS Pp (runF Pp (j + 1)) (runF Pp j) b__law_stream none [some a0, some a1, none, none, none] s)) : Q (runF Pp k f__law_stream [a0, a1] s) := rq_of (fd := ⟨2, 5, [], b__law_stream⟩) hk rfl rfl hr
theorem cx__law_names {k : Nat} {a0 a1 : Dt} {Z : Dt → Prop} (hk : 2 ≤ k) (hf : Dt.frs [a0, a1] = true) (hr : ∀ j, k = j + 2 → Fin (RtZ Z) (exS Pp (runF Pp (j + 1)) (runF Pp j) b__law_names none [some a0, some a1, none, none, none, none, none, none, none, none, none] [])) : ∃ e, (∀ s, callP (runF Pp k) f__law_names [a0, a1] s = .ok e s) ∧ Z e := cx_of (fd := ⟨2, 11, [], b__law_names⟩) hk rfl rfl hf hr
theorem ck__law_names {k : Nat} {a0 a1 : Dt} {s : Sto} {e : Dt} (hk : 2 ≤ k) (hf : Dt.frs [a0, a1] = true) (hr : ∀ j, k = j + 2 → Fin (RtZ (· = e)) (exS Pp (runF Pp (j + 1)) (runF Pp j) b__law_names none [some a0, some a1, none, none, none, none, none, none, none, none, none] [])) : callP (runF Pp k) f__law_names [a0, a1] s = .ok e s := cq_of (fd := ⟨2, 11, [], b__law_names⟩) hk rfl rfl hf hr
theorem ce__law_names {k : Nat} {a0 a1 : Dt} {s : Sto} {c : Nat} (hk : 2 ≤ k) (hf : Dt.frs [a0, a1] = true) (hr : ∀ j, k = j + 2 → Fin (fun o => ∃ l1 s1, o = .er ⟨c, []⟩ l1 s1) (exS Pp (runF Pp (j + 1)) (runF Pp j) b__law_names none [some a0, some a1, none, none, none, none, none, none, none, none, none] [])) : callP (runF Pp k) f__law_names [a0, a1] s = .er ⟨c, []⟩ s := ce_of (fd := ⟨2, 11, [], b__law_names⟩) hk rfl rfl hf hr
theorem rq__law_names {k : Nat} {a0 a1 : Dt} {s : Sto} {Q : R Dt → Prop} (hk : 2 ≤ k) (hr : ∀ j, k = j + 2 → Fin (fun o => Q o.res) (exS Pp (runF Pp (j + 1)) (runF Pp j) b__law_names none [some a0, some a1, none, none, none, none, none, none, none, none, none] s)) : Q (runF Pp k f__law_names [a0, a1] s) := rq_of (fd := ⟨2, 11, [], b__law_names⟩) hk rfl rfl hr
theorem cx__law_mark {k : Nat} {a0 a1 : Dt} {Z : Dt → Prop} (hk : 2 ≤ k) (hf : Dt.frs [a0, a1] = true) (hr : ∀ j, k = j + 2 → Fin (RtZ Z) (exS Pp (runF Pp (j + 1)) (runF Pp j) b__law_mark none [some a0, some a1] [])) : ∃ e, (∀ s, callP (runF Pp k) f__law_mark [a0, a1] s = .ok e s) ∧ Z e := cx_of (fd := ⟨2, 2, [], b__law_mark⟩) hk rfl rfl hf hr
theorem ck__law_mark {k : Nat} {a0 a1 : Dt} {s : Sto} {e : Dt} (hk : 2 ≤ k) (hf : Dt.frs [a0, a1] = true) (hr : ∀ j, k = j + 2 → Fin (RtZ (· = e)) (exS Pp (runF Pp (j + 1)) (runF Pp j) b__law_mark none [some a0, some a1] [])) : callP (runF Pp k) f__law_mark [a0, a1] s = .ok e s := cq_of (fd := ⟨2, 2, [], b__law_mark⟩) hk rfl rfl hf hr
theorem ce__law_mark {k : Nat} {a0 a1 : Dt} {s : Sto} {c : Nat} (hk : 2 ≤ k) (hf : Dt.frs [a0, a1] = true) (hr : ∀ j, k = j + 2 → Fin (fun o => ∃ l1 s1, o = .er ⟨c, []⟩ l1 s1) (exS Pp (runF Pp (j + 1)) (runF Pp j) b__law_mark none [some a0, some a1] [])) : callP (runF Pp k) f__law_mark [a0, a1] s = .er ⟨c, []⟩ s := ce_of (fd := ⟨2, 2, [], b__law_mark⟩) hk rfl rfl hf hr
theorem rq__law_mark {k : Nat} {a0 a1 : Dt} {s : Sto} {Q : R Dt → Prop} (hk : 2 ≤ k) (hr : ∀ j, k = j + 2 → Fin (fun o => Q o.res) (exS Pp (runF Pp (j + 1)) (runF Pp j) b__law_mark none [some a0, some a1] s)) : Q (runF Pp k f__law_mark [a0, a1] s) := rq_of (fd := ⟨2, 2, [], b__law_mark⟩) hk rfl rfl hr
theorem cx__law_told {k : Nat} {a0 a1 a2 : Dt} {Z : Dt → Prop} (hk : 2 ≤ k) (hf : Dt.frs [a0, a1, a2] = true) (hr : ∀ j, k = j + 2 → Fin (RtZ Z) (exS Pp (runF Pp (j + 1)) (runF Pp j) b__law_told none [some a0, some a1, some a2, none, none, none, none, none, none, none, none] [])) : ∃ e, (∀ s, callP (runF Pp k) f__law_told [a0, a1, a2] s = .ok e s) ∧ Z e := cx_of (fd := ⟨3, 11, [], b__law_told⟩) hk rfl rfl hf hr
theorem ck__law_told {k : Nat} {a0 a1 a2 : Dt} {s : Sto} {e : Dt} (hk : 2 ≤ k) (hf : Dt.frs [a0, a1, a2] = true) (hr : ∀ j, k = j + 2 → Fin (RtZ (· = e)) (exS Pp (runF Pp (j + 1)) (runF Pp j) b__law_told none [some a0, some a1, some a2, none, none, none, none, none, none, none, none] [])) : callP (runF Pp k) f__law_told [a0, a1, a2] s = .ok e s := cq_of (fd := ⟨3, 11, [], b__law_told⟩) hk rfl rfl hf hr
theorem ce__law_told {k : Nat} {a0 a1 a2 : Dt} {s : Sto} {c : Nat} (hk : 2 ≤ k) (hf : Dt.frs [a0, a1, a2] = true) (hr : ∀ j, k = j + 2 → Fin (fun o => ∃ l1 s1, o = .er ⟨c, []⟩ l1 s1) (exS Pp (runF Pp (j + 1)) (runF Pp j) b__law_told none [some a0, some a1, some a2, none, none, none, none, none, none, none, none] [])) : callP (runF Pp k) f__law_told [a0, a1, a2] s = .er ⟨c, []⟩ s := ce_of (fd := ⟨3, 11, [], b__law_told⟩) hk rfl rfl hf hr
theorem rq__law_told {k : Nat} {a0 a1 a2 : Dt} {s : Sto} {Q : R Dt → Prop} (hk : 2 ≤ k) (hr : ∀ j, k = j + 2 → Fin (fun o => Q o.res) (exS Pp (runF Pp (j + 1)) (runF Pp j) b__law_told none [some a0, some a1, some a2, none, none, none, none, none, none, none, none] s)) : Q (runF Pp k f__law_told [a0, a1, a2] s) := rq_of (fd := ⟨3, 11, [], b__law_told⟩) hk rfl rfl hr
theorem cx__law_kinds {k : Nat} {a0 : Dt} {Z : Dt → Prop} (hk : 2 ≤ k) (hf : Dt.frs [a0] = true) (hr : ∀ j, k = j + 2 → Fin (RtZ Z) (exS Pp (runF Pp (j + 1)) (runF Pp j) b__law_kinds none [some a0, none] [])) : ∃ e, (∀ s, callP (runF Pp k) f__law_kinds [a0] s = .ok e s) ∧ Z e := cx_of (fd := ⟨1, 2, [], b__law_kinds⟩) hk rfl rfl hf hr
theorem ck__law_kinds {k : Nat} {a0 : Dt} {s : Sto} {e : Dt} (hk : 2 ≤ k) (hf : Dt.frs [a0] = true) (hr : ∀ j, k = j + 2 → Fin (RtZ (· = e)) (exS Pp (runF Pp (j + 1)) (runF Pp j) b__law_kinds none [some a0, none] [])) : callP (runF Pp k) f__law_kinds [a0] s = .ok e s := cq_of (fd := ⟨1, 2, [], b__law_kinds⟩) hk rfl rfl hf hr
theorem ce__law_kinds {k : Nat} {a0 : Dt} {s : Sto} {c : Nat} (hk : 2 ≤ k) (hf : Dt.frs [a0] = true) (hr : ∀ j, k = j + 2 → Fin (fun o => ∃ l1 s1, o = .er ⟨c, []⟩ l1 s1) (exS Pp (runF Pp (j + 1)) (runF Pp j) b__law_kinds none [some a0, none] [])) : callP (runF Pp k) f__law_kinds [a0] s = .er ⟨c, []⟩ s := ce_of (fd := ⟨1, 2, [], b__law_kinds⟩) hk rfl rfl hf hr
theorem rq__law_kinds {k : Nat} {a0 : Dt} {s : Sto} {Q : R Dt → Prop} (hk : 2 ≤ k) (hr : ∀ j, k = j + 2 → Fin (fun o => Q o.res) (exS Pp (runF Pp (j + 1)) (runF Pp j) b__law_kinds none [some a0, none] s)) : Q (runF Pp k f__law_kinds [a0] s) := rq_of (fd := ⟨1, 2, [], b__law_kinds⟩) hk rfl rfl hr
theorem cx_law {k : Nat} {a0 : Dt} {Z : Dt → Prop} (hk : 2 ≤ k) (hf : Dt.frs [a0] = true) (hr : ∀ j, k = j + 2 → Fin (RtZ Z) (exS Pp (runF Pp (j + 1)) (runF Pp j) b_law none [some a0, none, none, none, none, none, none, none, none, none, none, none, none] [])) : ∃ e, (∀ s, callP (runF Pp k) f_law [a0] s = .ok e s) ∧ Z e := cx_of (fd := ⟨1, 13, [], b_law⟩) hk rfl rfl hf hr
theorem ck_law {k : Nat} {a0 : Dt} {s : Sto} {e : Dt} (hk : 2 ≤ k) (hf : Dt.frs [a0] = true) (hr : ∀ j, k = j + 2 → Fin (RtZ (· = e)) (exS Pp (runF Pp (j + 1)) (runF Pp j) b_law none [some a0, none, none, none, none, none, none, none, none, none, none, none, none] [])) : callP (runF Pp k) f_law [a0] s = .ok e s := cq_of (fd := ⟨1, 13, [], b_law⟩) hk rfl rfl hf hr
theorem ce_law {k : Nat} {a0 : Dt} {s : Sto} {c : Nat} (hk : 2 ≤ k) (hf : Dt.frs [a0] = true) (hr : ∀ j, k = j + 2 → Fin (fun o => ∃ l1 s1, o = .er ⟨c, []⟩ l1 s1) (exS Pp (runF Pp (j + 1)) (runF Pp j) b_law none [some a0, none, none, none, none, none, none, none, none, none, none, none, none] [])) : callP (runF Pp k) f_law [a0] s = .er ⟨c, []⟩ s := ce_of (fd := ⟨1, 13, [], b_law⟩) hk rfl rfl hf hr
theorem rq_law {k : Nat} {a0 : Dt} {s : Sto} {Q : R Dt → Prop} (hk : 2 ≤ k) (hr : ∀ j, k = j + 2 → Fin (fun o => Q o.res) (exS Pp (runF Pp (j + 1)) (runF Pp j) b_law none [some a0, none, none, none, none, none, none, none, none, none, none, none, none] s)) : Q (runF Pp k f_law [a0] s) := rq_of (fd := ⟨1, 13, [], b_law⟩) hk rfl rfl hr
theorem cx_Book___init__ {k : Nat} {a0 a1 : Dt} {Z : Dt → Prop} (hk : 2 ≤ k) (hf : Dt.frs [a0, a1] = true) (hr : ∀ j, k = j + 2 → Fin (RtZ Z) (exS Pp (runF Pp (j + 1)) (runF Pp j) b_Book___init__ none [some a0, some a1] [])) : ∃ e, (∀ s, callP (runF Pp k) f_Book___init__ [a0, a1] s = .ok e s) ∧ Z e := cx_of (fd := ⟨2, 2, [], b_Book___init__⟩) hk rfl rfl hf hr
theorem ck_Book___init__ {k : Nat} {a0 a1 : Dt} {s : Sto} {e : Dt} (hk : 2 ≤ k) (hf : Dt.frs [a0, a1] = true) (hr : ∀ j, k = j + 2 → Fin (RtZ (· = e)) (exS Pp (runF Pp (j + 1)) (runF Pp j) b_Book___init__ none [some a0, some a1] [])) : callP (runF Pp k) f_Book___init__ [a0, a1] s = .ok e s := cq_of (fd := ⟨2, 2, [], b_Book___init__⟩) hk rfl rfl hf hr
theorem ce_Book___init__ {k : Nat} {a0 a1 : Dt} {s : Sto} {c : Nat} (hk : 2 ≤ k) (hf : Dt.frs [a0, a1] = true) (hr : ∀ j, k = j + 2 → Fin (fun o => ∃ l1 s1, o = .er ⟨c, []⟩ l1 s1) (exS Pp (runF Pp (j + 1)) (runF Pp j) b_Book___init__ none [some a0, some a1] [])) : callP (runF Pp k) f_Book___init__ [a0, a1] s = .er ⟨c, []⟩ s := ce_of (fd := ⟨2, 2, [], b_Book___init__⟩) hk rfl rfl hf hr
theorem rq_Book___init__ {k : Nat} {a0 a1 : Dt} {s : Sto} {Q : R Dt → Prop} (hk : 2 ≤ k) (hr : ∀ j, k = j + 2 → Fin (fun o => Q o.res) (exS Pp (runF Pp (j + 1)) (runF Pp j) b_Book___init__ none [some a0, some a1] s)) : Q (runF Pp k f_Book___init__ [a0, a1] s) := rq_of (fd := ⟨2, 2, [], b_Book___init__⟩) hk rfl rfl hr
theorem cx_Book_put {k : Nat} {a0 a1 a2 a3 : Dt} {Z : Dt → Prop} (hk : 2 ≤ k) (hf : Dt.frs [a0, a1, a2, a3] = true) (hr : ∀ j, k = j + 2 → Fin (RtZ Z) (exS Pp (runF Pp (j + 1)) (runF Pp j) b_Book_put none [some a0, some a1, some a2, some a3] [])) : ∃ e, (∀ s, callP (runF Pp k) f_Book_put [a0, a1, a2, a3] s = .ok e s) ∧ Z e := cx_of (fd := ⟨4, 4, [], b_Book_put⟩) hk rfl rfl hf hr
theorem ck_Book_put {k : Nat} {a0 a1 a2 a3 : Dt} {s : Sto} {e : Dt} (hk : 2 ≤ k) (hf : Dt.frs [a0, a1, a2, a3] = true) (hr : ∀ j, k = j + 2 → Fin (RtZ (· = e)) (exS Pp (runF Pp (j + 1)) (runF Pp j) b_Book_put none [some a0, some a1, some a2, some a3] [])) : callP (runF Pp k) f_Book_put [a0, a1, a2, a3] s = .ok e s := cq_of (fd := ⟨4, 4, [], b_Book_put⟩) hk rfl rfl hf hr
theorem ce_Book_put {k : Nat} {a0 a1 a2 a3 : Dt} {s : Sto} {c : Nat} (hk : 2 ≤ k) (hf : Dt.frs [a0, a1, a2, a3] = true) (hr : ∀ j, k = j + 2 → Fin (fun o => ∃ l1 s1, o = .er ⟨c, []⟩ l1 s1) (exS Pp (runF Pp (j + 1)) (runF Pp j) b_Book_put none [some a0, some a1, some a2, some a3] [])) : callP (runF Pp k) f_Book_put [a0, a1, a2, a3] s = .er ⟨c, []⟩ s := ce_of (fd := ⟨4, 4, [], b_Book_put⟩) hk rfl rfl hf hr
theorem rq_Book_put {k : Nat} {a0 a1 a2 a3 : Dt} {s : Sto} {Q : R Dt → Prop} (hk : 2 ≤ k) (hr : ∀ j, k = j + 2 → Fin (fun o => Q o.res) (exS Pp (runF Pp (j + 1)) (runF Pp j) b_Book_put none [some a0, some a1, some a2, some a3] s)) : Q (runF Pp k f_Book_put [a0, a1, a2, a3] s) := rq_of (fd := ⟨4, 4, [], b_Book_put⟩) hk rfl rfl hr
theorem cx_Book_drop {k : Nat} {a0 a1 a2 : Dt} {Z : Dt → Prop} (hk : 2 ≤ k) (hf : Dt.frs [a0, a1, a2] = true) (hr : ∀ j, k = j + 2 → Fin (RtZ Z) (exS Pp (runF Pp (j + 1)) (runF Pp j) b_Book_drop none [some a0, some a1, some a2] [])) : ∃ e, (∀ s, callP (runF Pp k) f_Book_drop [a0, a1, a2] s = .ok e s) ∧ Z e := cx_of (fd := ⟨3, 3, [], b_Book_drop⟩) hk rfl rfl hf hr
theorem ck_Book_drop {k : Nat} {a0 a1 a2 : Dt} {s : Sto} {e : Dt} (hk : 2 ≤ k) (hf : Dt.frs [a0, a1, a2] = true) (hr : ∀ j, k = j + 2 → Fin (RtZ (· = e)) (exS Pp (runF Pp (j + 1)) (runF Pp j) b_Book_drop none [some a0, some a1, some a2] [])) : callP (runF Pp k) f_Book_drop [a0, a1, a2] s = .ok e s := cq_of (fd := ⟨3, 3, [], b_Book_drop⟩) hk rfl rfl hf hr
theorem ce_Book_drop {k : Nat} {a0 a1 a2 : Dt} {s : Sto} {c : Nat} (hk : 2 ≤ k) (hf : Dt.frs [a0, a1, a2] = true) (hr : ∀ j, k = j + 2 → Fin (fun o => ∃ l1 s1, o = .er ⟨c, []⟩ l1 s1) (exS Pp (runF Pp (j + 1)) (runF Pp j) b_Book_drop none [some a0, some a1, some a2] [])) : callP (runF Pp k) f_Book_drop [a0, a1, a2] s = .er ⟨c, []⟩ s := ce_of (fd := ⟨3, 3, [], b_Book_drop⟩) hk rfl rfl hf hr
theorem rq_Book_drop {k : Nat} {a0 a1 a2 : Dt} {s : Sto} {Q : R Dt → Prop} (hk : 2 ≤ k) (hr : ∀ j, k = j + 2 → Fin (fun o => Q o.res) (exS Pp (runF Pp (j + 1)) (runF Pp j) b_Book_drop none [some a0, some a1, some a2] s)) : Q (runF Pp k f_Book_drop [a0, a1, a2] s) := rq_of (fd := ⟨3, 3, [], b_Book_drop⟩) hk rfl rfl hr
theorem cx_Book_rows {k : Nat} {a0 : Dt} {Z : Dt → Prop} (hk : 2 ≤ k) (hf : Dt.frs [a0] = true) (hr : ∀ j, k = j + 2 → Fin (RtZ Z) (exS Pp (runF Pp (j + 1)) (runF Pp j) b_Book_rows none [some a0, none, none] [])) : ∃ e, (∀ s, callP (runF Pp k) f_Book_rows [a0] s = .ok e s) ∧ Z e := cx_of (fd := ⟨1, 3, [], b_Book_rows⟩) hk rfl rfl hf hr
theorem ck_Book_rows {k : Nat} {a0 : Dt} {s : Sto} {e : Dt} (hk : 2 ≤ k) (hf : Dt.frs [a0] = true) (hr : ∀ j, k = j + 2 → Fin (RtZ (· = e)) (exS Pp (runF Pp (j + 1)) (runF Pp j) b_Book_rows none [some a0, none, none] [])) : callP (runF Pp k) f_Book_rows [a0] s = .ok e s := cq_of (fd := ⟨1, 3, [], b_Book_rows⟩) hk rfl rfl hf hr
theorem ce_Book_rows {k : Nat} {a0 : Dt} {s : Sto} {c : Nat} (hk : 2 ≤ k) (hf : Dt.frs [a0] = true) (hr : ∀ j, k = j + 2 → Fin (fun o => ∃ l1 s1, o = .er ⟨c, []⟩ l1 s1) (exS Pp (runF Pp (j + 1)) (runF Pp j) b_Book_rows none [some a0, none, none] [])) : callP (runF Pp k) f_Book_rows [a0] s = .er ⟨c, []⟩ s := ce_of (fd := ⟨1, 3, [], b_Book_rows⟩) hk rfl rfl hf hr
theorem rq_Book_rows {k : Nat} {a0 : Dt} {s : Sto} {Q : R Dt → Prop} (hk : 2 ≤ k) (hr : ∀ j, k = j + 2 → Fin (fun o => Q o.res) (exS Pp (runF Pp (j + 1)) (runF Pp j) b_Book_rows none [some a0, none, none] s)) : Q (runF Pp k f_Book_rows [a0] s) := rq_of (fd := ⟨1, 3, [], b_Book_rows⟩) hk rfl rfl hr
theorem cx_Book_works {k : Nat} {a0 : Dt} {Z : Dt → Prop} (hk : 2 ≤ k) (hf : Dt.frs [a0] = true) (hr : ∀ j, k = j + 2 → Fin (RtZ Z) (exS Pp (runF Pp (j + 1)) (runF Pp j) b_Book_works none [some a0, none, none] [])) : ∃ e, (∀ s, callP (runF Pp k) f_Book_works [a0] s = .ok e s) ∧ Z e := cx_of (fd := ⟨1, 3, [], b_Book_works⟩) hk rfl rfl hf hr
theorem ck_Book_works {k : Nat} {a0 : Dt} {s : Sto} {e : Dt} (hk : 2 ≤ k) (hf : Dt.frs [a0] = true) (hr : ∀ j, k = j + 2 → Fin (RtZ (· = e)) (exS Pp (runF Pp (j + 1)) (runF Pp j) b_Book_works none [some a0, none, none] [])) : callP (runF Pp k) f_Book_works [a0] s = .ok e s := cq_of (fd := ⟨1, 3, [], b_Book_works⟩) hk rfl rfl hf hr
theorem ce_Book_works {k : Nat} {a0 : Dt} {s : Sto} {c : Nat} (hk : 2 ≤ k) (hf : Dt.frs [a0] = true) (hr : ∀ j, k = j + 2 → Fin (fun o => ∃ l1 s1, o = .er ⟨c, []⟩ l1 s1) (exS Pp (runF Pp (j + 1)) (runF Pp j) b_Book_works none [some a0, none, none] [])) : callP (runF Pp k) f_Book_works [a0] s = .er ⟨c, []⟩ s := ce_of (fd := ⟨1, 3, [], b_Book_works⟩) hk rfl rfl hf hr
theorem rq_Book_works {k : Nat} {a0 : Dt} {s : Sto} {Q : R Dt → Prop} (hk : 2 ≤ k) (hr : ∀ j, k = j + 2 → Fin (fun o => Q o.res) (exS Pp (runF Pp (j + 1)) (runF Pp j) b_Book_works none [some a0, none, none] s)) : Q (runF Pp k f_Book_works [a0] s) := rq_of (fd := ⟨1, 3, [], b_Book_works⟩) hk rfl rfl hr
theorem cx_Book_hands {k : Nat} {a0 : Dt} {Z : Dt → Prop} (hk : 2 ≤ k) (hf : Dt.frs [a0] = true) (hr : ∀ j, k = j + 2 → Fin (RtZ Z) (exS Pp (runF Pp (j + 1)) (runF Pp j) b_Book_hands none [some a0, none, none] [])) : ∃ e, (∀ s, callP (runF Pp k) f_Book_hands [a0] s = .ok e s) ∧ Z e := cx_of (fd := ⟨1, 3, [], b_Book_hands⟩) hk rfl rfl hf hr
theorem ck_Book_hands {k : Nat} {a0 : Dt} {s : Sto} {e : Dt} (hk : 2 ≤ k) (hf : Dt.frs [a0] = true) (hr : ∀ j, k = j + 2 → Fin (RtZ (· = e)) (exS Pp (runF Pp (j + 1)) (runF Pp j) b_Book_hands none [some a0, none, none] [])) : callP (runF Pp k) f_Book_hands [a0] s = .ok e s := cq_of (fd := ⟨1, 3, [], b_Book_hands⟩) hk rfl rfl hf hr
theorem ce_Book_hands {k : Nat} {a0 : Dt} {s : Sto} {c : Nat} (hk : 2 ≤ k) (hf : Dt.frs [a0] = true) (hr : ∀ j, k = j + 2 → Fin (fun o => ∃ l1 s1, o = .er ⟨c, []⟩ l1 s1) (exS Pp (runF Pp (j + 1)) (runF Pp j) b_Book_hands none [some a0, none, none] [])) : callP (runF Pp k) f_Book_hands [a0] s = .er ⟨c, []⟩ s := ce_of (fd := ⟨1, 3, [], b_Book_hands⟩) hk rfl rfl hf hr
theorem rq_Book_hands {k : Nat} {a0 : Dt} {s : Sto} {Q : R Dt → Prop} (hk : 2 ≤ k) (hr : ∀ j, k = j + 2 → Fin (fun o => Q o.res) (exS Pp (runF Pp (j + 1)) (runF Pp j) b_Book_hands none [some a0, none, none] s)) : Q (runF Pp k f_Book_hands [a0] s) := rq_of (fd := ⟨1, 3, [], b_Book_hands⟩) hk rfl rfl hr
abbrev lawLevel : Nat := 16
/-! ### is_name -/
/-- a book: its most, its marks in the dict at d -/
def bkI (most : Int) (d : Nat) : Ob := .ins n_Book [(x_most, .int most), (x_marks, .obj d)]
theorem at_marks (most : Int) (d : Nat) (s : Sto) : attO Pp 7 (some (bkI most d)) s = .ok (.obj d) s := attO_i (P := Pp) (f := 7) (c := n_Book) (fs := [(x_most, .int most), (x_marks, .obj d)]) rfl rfl s
theorem at_most (most : Int) (d : Nat) (s : Sto) : attO Pp 8 (some (bkI most d)) s = .ok (.int most) s := attO_i (P := Pp) (f := 8) (c := n_Book) (fs := [(x_most, .int most), (x_marks, .obj d)]) rfl rfl s
theorem cp_is_name {k : Nat} (hk : 2 ≤ k) {x : Str} {n : Nat} (h : NmOk n x) (hn : n ≤ 8) (s : Sto) : callP (runF Pp k) f_is_name [.str x] s = .ok (.bl true) s := by
  obtain ⟨l, rfl, h1, h2, h3⟩ := h
  refine ck_is_name (by omega) rfl fun j hj => ?_
  unfold b_is_name
  have t : ∀ s, isTS .str (.str (mkS l)) s = .ok (.bl true) s := fun s => rfl
  have ln : ∀ s, biS .len false [.str (mkS l)] s = .ok (.int (l.length : Nat)) s := fun s => by rw [len_s (by rw [mkS_len, sizeLine_eq]; omega), mkS_len]
  have e1 : decide ((1 : Int) ≤ (l.length : Int)) = true := decide_eq_true (by omega)
  have e2 : decide ((l.length : Int) ≤ 8) = true := decide_eq_true (by omega)
  refine fi_ifN (s1 := []) (by simp (disch := first | assumption | omega | (simp only [sizeLine_eq, List.length_map, List.length_range, List.length_append, List.length_cons, List.length_nil, List.length_set, List.length_reverse, List.length_take, List.length_drop]; omega) | (first | rfl | exact frs_fqs _ | exact frs_ints _ | exact frs_nats _ | exact frs_oqs _) | decide) only [ev_cald, ev_new, ev_ome, ev_att, evI_rngd, ev_var, ev_con, ev_tup, ev_lst, ev_dic, ev_neg, ev_bin, ev_cmp, ev_chn, ev_isN, ev_isB, ev_and, ev_or, ev_not, ev_ite, ev_ix, ev_sl, ev_rev, ev_rev0, ev_sst, ev_sln, ev_bi, ev_isT, ev_mt, ev_call, ev_cali, ev_fz, ea_nil, ea_cons, eo_nil, eo_cons,  evI_rng1, evI_rng, evI_zip, evI_enu, evI_cons, iterS, bd_ok, bd_er, ot_ok, gl_some, wo_some, ai_int, br_bl, List.map_cons, List.map_nil, List.cons_append, List.nil_append, List.length_cons, List.length_nil, List.getElem?_cons_zero, List.getElem?_cons_succ, List.set_cons_zero, List.set_cons_succ, cd_t, cd_f, binS_add, binS_sub, mkL_t, mkL_f, fz_lst, fz_tup, le_sz, Nat.zero_add, Nat.reduceAdd, Nat.reduceLeDiff, if_true, st_nm, st_1, st_2, st_3, st_4, wi_nil, wi_cons, upds_nil, upds_cons, ix_fq0, ix_fq1, mthS_o, attS_o, sl_l, rev_l, add_l, bi_mx, bi_mn, bi_list, rcv_app, rcv_ins, rcv_rev, isLO_lst, mt_app, appO_lst, ix_l, ix_t, ix_o, ixO_l, ixO_f, atI_0, atI_1, atI_2, atI_3, atI_4, atI_5, len_l, len_t, len_o, lenO_l, lenO_f, cd_not, cd_and, cd_or, fz_o, fzO_l, fzO_f, cmp_eqI, cmp_neI, cmp_ltI, cmp_leI, cmp_gtI, cmp_geI, bi_intB, List.length_map, List.length_range, six_o, sixO_l, t, ln, e1, e2, Bool.and_self, Bool.not_true]) (fi_skip ?_)
  refine fi_forM (g := fun c => Dt.str (mkS [c])) (xs := l) (fun l0 s0 i l' s' => s' = [] ∧ ∃ s1, l' = upds l0 [(1, s1)]) (by rw [evI_cons, ev_var]; simp only [List.getElem?_cons_zero, gl_some, bd_ok]; show iterS (.str (mkS l)) [] = _; unfold iterS; dsimp only; rw [strItems_mk]) ⟨rfl, _, rfl⟩ ?_ ?_
  · rintro i hi l' s' ⟨rfl, s1, rfl⟩
    simp only [bodF, st_nm, st_1, st_2, st_3, st_4, wo_some, upds_nil, upds_cons, List.set_cons_zero, List.set_cons_succ]
    refine fi_ifN (s1 := []) (by simp (disch := first | assumption | omega | (simp only [sizeLine_eq, List.length_map, List.length_range, List.length_append, List.length_cons, List.length_nil, List.length_set, List.length_reverse, List.length_take, List.length_drop]; omega) | (first | rfl | exact frs_fqs _ | exact frs_ints _ | exact frs_nats _ | exact frs_oqs _) | decide) only [ev_cald, ev_new, ev_ome, ev_att, evI_rngd, ev_var, ev_con, ev_tup, ev_lst, ev_dic, ev_neg, ev_bin, ev_cmp, ev_chn, ev_isN, ev_isB, ev_and, ev_or, ev_not, ev_ite, ev_ix, ev_sl, ev_rev, ev_rev0, ev_sst, ev_sln, ev_bi, ev_isT, ev_mt, ev_call, ev_cali, ev_fz, ea_nil, ea_cons, eo_nil, eo_cons,  evI_rng1, evI_rng, evI_zip, evI_enu, evI_cons, iterS, bd_ok, bd_er, ot_ok, gl_some, wo_some, ai_int, br_bl, List.map_cons, List.map_nil, List.cons_append, List.nil_append, List.length_cons, List.length_nil, List.getElem?_cons_zero, List.getElem?_cons_succ, List.set_cons_zero, List.set_cons_succ, cd_t, cd_f, binS_add, binS_sub, mkL_t, mkL_f, fz_lst, fz_tup, le_sz, Nat.zero_add, Nat.reduceAdd, Nat.reduceLeDiff, if_true, st_nm, st_1, st_2, st_3, st_4, wi_nil, wi_cons, upds_nil, upds_cons, ix_fq0, ix_fq1, mthS_o, attS_o, sl_l, rev_l, add_l, bi_mx, bi_mn, bi_list, rcv_app, rcv_ins, rcv_rev, isLO_lst, mt_app, appO_lst, ix_l, ix_t, ix_o, ixO_l, ixO_f, atI_0, atI_1, atI_2, atI_3, atI_4, atI_5, len_l, len_t, len_o, lenO_l, lenO_f, cd_not, cd_and, cd_or, fz_o, fzO_l, fzO_f, cmp_eqI, cmp_neI, cmp_ltI, cmp_leI, cmp_gtI, cmp_geI, bi_intB, List.length_map, List.length_range, six_o, sixO_l, nin_letter (h3 _ (List.getElem_mem hi))]) (fi_skip ?_)
    exact lp_end ⟨rfl, _, rfl⟩
  · rintro l' s' ⟨rfl, s1, rfl⟩
    try simp only [upds_nil, upds_cons, List.set_cons_zero, List.set_cons_succ]
    simp (disch := first | assumption | omega | (simp only [sizeLine_eq, List.length_map, List.length_range, List.length_append, List.length_cons, List.length_nil, List.length_set, List.length_reverse, List.length_take, List.length_drop]; omega) | (first | rfl | exact frs_fqs _ | exact frs_ints _ | exact frs_nats _ | exact frs_oqs _) | decide) only [w_sat, w_set, w_ex, w_unp, w_ret, w_retN, w_par, w_six, ev_cald, ev_new, ev_ome, ev_att, evI_rngd, ev_var, ev_con, ev_tup, ev_lst, ev_dic, ev_neg, ev_bin, ev_cmp, ev_chn, ev_isN, ev_isB, ev_and, ev_or, ev_not, ev_ite, ev_ix, ev_sl, ev_rev, ev_rev0, ev_sst, ev_sln, ev_bi, ev_isT, ev_mt, ev_call, ev_cali, ev_fz, ea_nil, ea_cons, eo_nil, eo_cons,  evI_rng1, evI_rng, evI_zip, evI_enu, evI_cons, iterS, bd_ok, bd_er, ot_ok, gl_some, wo_some, ai_int, br_bl, List.map_cons, List.map_nil, List.cons_append, List.nil_append, List.length_cons, List.length_nil, List.getElem?_cons_zero, List.getElem?_cons_succ, List.set_cons_zero, List.set_cons_succ, cd_t, cd_f, binS_add, binS_sub, mkL_t, mkL_f, fz_lst, fz_tup, le_sz, Nat.zero_add, Nat.reduceAdd, Nat.reduceLeDiff, if_true, st_nm, st_1, st_2, st_3, st_4, wi_nil, wi_cons, upds_nil, upds_cons, ix_fq0, ix_fq1, mthS_o, attS_o, sl_l, rev_l, add_l, bi_mx, bi_mn, bi_list, rcv_app, rcv_ins, rcv_rev, isLO_lst, mt_app, appO_lst, ix_l, ix_t, ix_o, ixO_l, ixO_f, atI_0, atI_1, atI_2, atI_3, atI_4, atI_5, len_l, len_t, len_o, lenO_l, lenO_f, cd_not, cd_and, cd_or, fz_o, fzO_l, fzO_f, cmp_eqI, cmp_neI, cmp_ltI, cmp_leI, cmp_gtI, cmp_geI, bi_intB, List.length_map, List.length_range, six_o, sixO_l]
    exact fin_fr rfl rfl
/-! ### _law_cell -/
def cellV (ns : List Int) (k : Nat) : Int := if k < ns.length then ns.getD k 0 else
  ((if ns.length > 0 then (ns.getD (k * 7 % ns.length) 0 * 48271 + (k : Int) * 7919) % 2147483647 else (k : Int) * 7919 + 5) * (if ns.length > 0 then (ns.getD (k * 7 % ns.length) 0 * 48271 + (k : Int) * 7919) % 2147483647 else (k : Int) * 7919 + 5)) % 2147483629
theorem cp__law_cell {k : Nat} (hk : 2 ≤ k) (ns : List Int) (i : Nat) (hi : i < 2 ^ 40) (hn : ns.length ≤ 1000) (s : Sto) : callP (runF Pp k) f__law_cell [.lst (ns.map Dt.int), .int (i : Nat)] s = .ok (.int (cellV ns i)) s := by
  refine ck__law_cell (by omega) (frs_cons (fr_lst (frs_ints ns)) rfl) fun j hj => ?_
  unfold b__law_cell cellV
  have len : ∀ s, biS .len false [.lst (ns.map Dt.int)] s = .ok (.int (ns.length : Nat)) s := fun s => by
    show R.ok (Dt.int ((ns.map Dt.int).length : Nat)) s = _
    rw [List.length_map]
  have at_ : ∀ (j : Nat) s, j < ns.length → ixS (.lst (ns.map Dt.int)) (.int (j : Nat)) s = .ok (.int (ns.getD j 0)) s := fun j s hj => ix_nat (by
    rw [List.getElem?_map, List.getElem?_eq_getElem hj, List.getD_eq_getElem?_getD, List.getElem?_eq_getElem hj]
    rfl)
  by_cases h : i < ns.length
  · rw [if_pos h]
    refine fi_if (k := true) (by simp only [evE, evA, evO, evI_rng1, evI_rng, evI_zip, evI_enu, evI_cons, iterS, bd_ok, bd_er, ot_ok, gl_some, wo_some, ai_int, br_bl, List.map_cons, List.map_nil, List.cons_append, List.nil_append, List.length_cons, List.length_nil, List.getElem?_cons_zero, List.getElem?_cons_succ, List.set_cons_zero, List.set_cons_succ, cd_t, cd_f, binS_add, binS_sub, mkL_t, mkL_f, fz_lst, fz_tup, le_sz, Nat.zero_add, Nat.reduceAdd, Nat.reduceLeDiff, if_true, st_nm, st_1, st_2, st_3, st_4, wi_nil, wi_cons, upds_nil, upds_cons, len, cmp_ltI, decide_eq_true (show (i : Int) < (ns.length : Nat) by omega)]; exact rfl) (fun _ => Fin.to (q_ret (by simp only [evE, evA, evO, evI_rng1, evI_rng, evI_zip, evI_enu, evI_cons, iterS, bd_ok, bd_er, ot_ok, gl_some, wo_some, ai_int, br_bl, List.map_cons, List.map_nil, List.cons_append, List.nil_append, List.length_cons, List.length_nil, List.getElem?_cons_zero, List.getElem?_cons_succ, List.set_cons_zero, List.set_cons_succ, cd_t, cd_f, binS_add, binS_sub, mkL_t, mkL_f, fz_lst, fz_tup, le_sz, Nat.zero_add, Nat.reduceAdd, Nat.reduceLeDiff, if_true, st_nm, st_1, st_2, st_3, st_4, wi_nil, wi_cons, upds_nil, upds_cons, at_ _ _ h]; exact rfl)) (fi_rt (fin_fr rfl rfl))) (fun z => absurd z (by decide))
  · rw [if_neg h]
    refine Fin.to (q_ifF (by simp only [evE, evA, evO, evI_rng1, evI_rng, evI_zip, evI_enu, evI_cons, iterS, bd_ok, bd_er, ot_ok, gl_some, wo_some, ai_int, br_bl, List.map_cons, List.map_nil, List.cons_append, List.nil_append, List.length_cons, List.length_nil, List.getElem?_cons_zero, List.getElem?_cons_succ, List.set_cons_zero, List.set_cons_succ, cd_t, cd_f, binS_add, binS_sub, mkL_t, mkL_f, fz_lst, fz_tup, le_sz, Nat.zero_add, Nat.reduceAdd, Nat.reduceLeDiff, if_true, st_nm, st_1, st_2, st_3, st_4, wi_nil, wi_cons, upds_nil, upds_cons, len, cmp_ltI, decide_eq_false (show ¬ (i : Int) < (ns.length : Nat) by omega)] <;> exact rfl)) ?_
    refine Fin.to (q_set (by simp only [evE, evA, evO, evI_rng1, evI_rng, evI_zip, evI_enu, evI_cons, iterS, bd_ok, bd_er, ot_ok, gl_some, wo_some, ai_int, br_bl, List.map_cons, List.map_nil, List.cons_append, List.nil_append, List.length_cons, List.length_nil, List.getElem?_cons_zero, List.getElem?_cons_succ, List.set_cons_zero, List.set_cons_succ, cd_t, cd_f, binS_add, binS_sub, mkL_t, mkL_f, fz_lst, fz_tup, le_sz, Nat.zero_add, Nat.reduceAdd, Nat.reduceLeDiff, if_true, st_nm, st_1, st_2, st_3, st_4, wi_nil, wi_cons, upds_nil, upds_cons, binS_mul (mulOk_r (a := (i : Int)) (b := 7919) (by decide))] <;> exact rfl)) ?_
    have fin : ∀ x : Int, x.natAbs < 2 ^ 64 → Fin (RtZ (· = .int (x * x % 2147483629))) (exS Pp (runF Pp (j + 1)) (runF Pp j) (.seq (.ret (.bin .mod (.bin .mul (.var 2) (.var 2)) (.con (.int 2147483629)))) .skip) none [some (.lst (ns.map Dt.int)), some (.int (i : Nat)), some (.int x)] []) := fun x hx => by
      refine Fin.to (q_ret (by simp only [evE, evA, evO, evI_rng1, evI_rng, evI_zip, evI_enu, evI_cons, iterS, bd_ok, bd_er, ot_ok, gl_some, wo_some, ai_int, br_bl, List.map_cons, List.map_nil, List.cons_append, List.nil_append, List.length_cons, List.length_nil, List.getElem?_cons_zero, List.getElem?_cons_succ, List.set_cons_zero, List.set_cons_succ, cd_t, cd_f, binS_add, binS_sub, mkL_t, mkL_f, fz_lst, fz_tup, le_sz, Nat.zero_add, Nat.reduceAdd, Nat.reduceLeDiff, if_true, st_nm, st_1, st_2, st_3, st_4, wi_nil, wi_cons, upds_nil, upds_cons, binS_mul (mulOk_r (a := x) hx), binS_modP (show (0 : Int) < 2147483629 by decide)] <;> exact rfl)) (fin_fr (by first | rfl | exact frs_fqs _ | exact frs_ints _ | exact frs_nats _ | exact frs_oqs _ | exact frs_map (fun _ => rfl) _) ?_)
      rfl
    by_cases h0 : ns.length > 0
    · rw [if_pos h0]
      have hm : i * 7 % ns.length < ns.length := Nat.mod_lt _ h0
      have hp : (0 : Int) < (ns.length : Nat) := by omega
      have e1 : (i : Int) * 7 % ((ns.length : Nat) : Int) = ((i * 7 % ns.length : Nat) : Int) := by rw [Int.natCast_emod, Int.natCast_mul]; rfl
      refine Fin.to (q_ifT (l2 := [some (.lst (ns.map Dt.int)), some (.int (i : Nat)), some (.int ((ns.getD (i * 7 % ns.length) 0 * 48271 + (i : Int) * 7919) % 2147483647))]) (s2 := []) (by simp only [evE, evA, evO, evI_rng1, evI_rng, evI_zip, evI_enu, evI_cons, iterS, bd_ok, bd_er, ot_ok, gl_some, wo_some, ai_int, br_bl, List.map_cons, List.map_nil, List.cons_append, List.nil_append, List.length_cons, List.length_nil, List.getElem?_cons_zero, List.getElem?_cons_succ, List.set_cons_zero, List.set_cons_succ, cd_t, cd_f, binS_add, binS_sub, mkL_t, mkL_f, fz_lst, fz_tup, le_sz, Nat.zero_add, Nat.reduceAdd, Nat.reduceLeDiff, if_true, st_nm, st_1, st_2, st_3, st_4, wi_nil, wi_cons, upds_nil, upds_cons, len, cmp_gtI, decide_eq_true (show (0 : Int) < (ns.length : Nat) by omega)]; exact rfl) ?_) (fin _ ?_)
      · refine (q_set (by simp only [evE, evA, evO, evI_rng1, evI_rng, evI_zip, evI_enu, evI_cons, iterS, bd_ok, bd_er, ot_ok, gl_some, wo_some, ai_int, br_bl, List.map_cons, List.map_nil, List.cons_append, List.nil_append, List.length_cons, List.length_nil, List.getElem?_cons_zero, List.getElem?_cons_succ, List.set_cons_zero, List.set_cons_succ, cd_t, cd_f, binS_add, binS_sub, mkL_t, mkL_f, fz_lst, fz_tup, le_sz, Nat.zero_add, Nat.reduceAdd, Nat.reduceLeDiff, if_true, st_nm, st_1, st_2, st_3, st_4, wi_nil, wi_cons, upds_nil, upds_cons, binS_mul (mulOk_r (a := (i : Int)) (b := 7919) (by decide)), binS_mul (mulOk_r (a := (i : Int)) (b := 7) (by decide)), len, binS_modP hp, e1, at_ _ _ hm, binS_mul (mulOk_r (a := ns.getD (i * 7 % ns.length) 0) (b := 48271) (by decide)), binS_modP (show (0 : Int) < 2147483647 by decide)] <;> exact rfl)).trans ?_
        rfl
      · omega
    · rw [if_neg h0]
      refine Fin.to (q_ifF (by simp only [evE, evA, evO, evI_rng1, evI_rng, evI_zip, evI_enu, evI_cons, iterS, bd_ok, bd_er, ot_ok, gl_some, wo_some, ai_int, br_bl, List.map_cons, List.map_nil, List.cons_append, List.nil_append, List.length_cons, List.length_nil, List.getElem?_cons_zero, List.getElem?_cons_succ, List.set_cons_zero, List.set_cons_succ, cd_t, cd_f, binS_add, binS_sub, mkL_t, mkL_f, fz_lst, fz_tup, le_sz, Nat.zero_add, Nat.reduceAdd, Nat.reduceLeDiff, if_true, st_nm, st_1, st_2, st_3, st_4, wi_nil, wi_cons, upds_nil, upds_cons, len, cmp_gtI, decide_eq_false (show ¬ (0 : Int) < (ns.length : Nat) by omega)] <;> exact rfl)) ?_
      exact fin _ (by omega)
/-! ### _law_stream -/
/-! ### _law_stream -/
def strmN (x : Int) : Int := (x * 48271 + 12345) % 2147483647
def strmL (x : Int) : Nat → List Int
  | 0 => []
  | n + 1 => strmN x :: strmL (strmN x) n
def strmI (x : Int) : Nat → Int
  | 0 => x
  | n + 1 => strmI (strmN x) n
theorem strmI_zero (x : Int) : strmI x 0 = x := rfl
theorem strmL_zero (x : Int) : strmL x 0 = [] := rfl
theorem strmI_succ (x : Int) : ∀ n, strmI x (n + 1) = strmN (strmI x n)
  | 0 => rfl
  | n + 1 => strmI_succ (strmN x) n
theorem strmL_snoc (x : Int) : ∀ n, strmL x (n + 1) = strmL x n ++ [strmN (strmI x n)]
  | 0 => rfl
  | n + 1 => by
    show strmN x :: strmL (strmN x) (n + 1) = strmN x :: strmL (strmN x) n ++ [strmN (strmI (strmN x) n)]
    rw [strmL_snoc (strmN x) n]
    rfl
theorem strmL_len (x : Int) : ∀ n, (strmL x n).length = n
  | 0 => rfl
  | n + 1 => congrArg (· + 1) (strmL_len (strmN x) n)
theorem strmN_bd (x : Int) : 0 ≤ strmN x ∧ strmN x < 2147483647 := ⟨Int.emod_nonneg _ (by decide), Int.emod_lt_of_pos _ (by decide)⟩
theorem strmL_bd (x : Int) : ∀ n, ∀ z ∈ strmL x n, 0 ≤ z ∧ z < 2147483647
  | 0, z, h => by cases h
  | n + 1, z, h => by
    cases h with
    | head => exact strmN_bd x
    | tail _ h => exact strmL_bd _ n z h
def strm (c : Int) (n : Nat) : List Int := strmL (c % 2147483647) n
theorem strm_len (c : Int) (n : Nat) : (strm c n).length = n := strmL_len _ n
theorem strm_bd (c : Int) (n : Nat) {z : Int} (h : z ∈ strm c n) : 0 ≤ z ∧ z < 2147483647 := strmL_bd _ n z h
theorem cp__law_stream {k : Nat} (hk : 2 ≤ k) (c : Int) (n : Nat) (hn : n < 10000) (s : Sto) : callP (runF Pp k) f__law_stream [.int c, .int (n : Nat)] s = .ok (.lst ((strm c n).map Dt.int)) s := by
  refine ck__law_stream (by omega) rfl fun j hj => ?_
  unfold b__law_stream
  refine Fin.to (q_set (by simp only [evE, evA, evO, evI_rng1, evI_rng, evI_zip, evI_enu, evI_cons, iterS, bd_ok, bd_er, ot_ok, gl_some, wo_some, ai_int, br_bl, List.map_cons, List.map_nil, List.cons_append, List.nil_append, List.length_cons, List.length_nil, List.getElem?_cons_zero, List.getElem?_cons_succ, List.set_cons_zero, List.set_cons_succ, cd_t, cd_f, binS_add, binS_sub, mkL_t, mkL_f, fz_lst, fz_tup, le_sz, Nat.zero_add, Nat.reduceAdd, Nat.reduceLeDiff, if_true, st_nm, st_1, st_2, st_3, st_4, wi_nil, wi_cons, upds_nil, upds_cons] <;> exact rfl)) ?_
  refine Fin.to (q_set (by simp only [evE, evA, evO, evI_rng1, evI_rng, evI_zip, evI_enu, evI_cons, iterS, bd_ok, bd_er, ot_ok, gl_some, wo_some, ai_int, br_bl, List.map_cons, List.map_nil, List.cons_append, List.nil_append, List.length_cons, List.length_nil, List.getElem?_cons_zero, List.getElem?_cons_succ, List.set_cons_zero, List.set_cons_succ, cd_t, cd_f, binS_add, binS_sub, mkL_t, mkL_f, fz_lst, fz_tup, le_sz, Nat.zero_add, Nat.reduceAdd, Nat.reduceLeDiff, if_true, st_nm, st_1, st_2, st_3, st_4, wi_nil, wi_cons, upds_nil, upds_cons, binS_modP (show (0 : Int) < 2147483647 by decide)] <;> exact rfl)) ?_
  unfold strm
  generalize c % 2147483647 = x0
  refine fi_for (by simp only [evE, evA, evO, evI_rng1, evI_rng, evI_zip, evI_enu, evI_cons, iterS, bd_ok, bd_er, ot_ok, gl_some, wo_some, ai_int, br_bl, List.map_cons, List.map_nil, List.cons_append, List.nil_append, List.length_cons, List.length_nil, List.getElem?_cons_zero, List.getElem?_cons_succ, List.set_cons_zero, List.set_cons_succ, cd_t, cd_f, binS_add, binS_sub, mkL_t, mkL_f, fz_lst, fz_tup, le_sz, Nat.zero_add, Nat.reduceAdd, Nat.reduceLeDiff, if_true, st_nm, st_1, st_2, st_3, st_4, wi_nil, wi_cons, upds_nil, upds_cons, rng1_ok (show n < 2 ^ 62 by omega)] <;> exact rfl) (forN_inv (fun i l s => ∃ s1, l = [some (.int c), some (.int (n : Nat)), some (.obj 0), some (.int (strmI x0 i)), s1] ∧ s = [.lst ((strmL x0 i).map Dt.int)]) ?_ ⟨none, by simp only [strmI_zero, List.set_cons_zero, List.set_cons_succ], by simp only [strmL_zero, List.map_nil]⟩) ?_
  · rintro i hi l s ⟨s1, rfl, rfl⟩
    refine Fin.nx ?_
    simp only [bodF, setTg, wo_some, List.set_cons_zero, List.set_cons_succ]
    refine Fin.to (q_set (by simp only [evE, evA, evO, evI_rng1, evI_rng, evI_zip, evI_enu, evI_cons, iterS, bd_ok, bd_er, ot_ok, gl_some, wo_some, ai_int, br_bl, List.map_cons, List.map_nil, List.cons_append, List.nil_append, List.length_cons, List.length_nil, List.getElem?_cons_zero, List.getElem?_cons_succ, List.set_cons_zero, List.set_cons_succ, cd_t, cd_f, binS_add, binS_sub, mkL_t, mkL_f, fz_lst, fz_tup, le_sz, Nat.zero_add, Nat.reduceAdd, Nat.reduceLeDiff, if_true, st_nm, st_1, st_2, st_3, st_4, wi_nil, wi_cons, upds_nil, upds_cons, binS_mul (mulOk_r (a := strmI x0 i) (b := 48271) (by decide)), binS_modP (show (0 : Int) < 2147483647 by decide)] <;> exact rfl)) ?_
    have e : (strmI x0 i * 48271 + 12345) % 2147483647 = strmI x0 (i + 1) := by rw [strmI_succ, strmN]
    rw [e]
    refine Fin.to (q_app rfl (by simp only [evE, evA, evO, evI_rng1, evI_rng, evI_zip, evI_enu, evI_cons, iterS, bd_ok, bd_er, ot_ok, gl_some, wo_some, ai_int, br_bl, List.map_cons, List.map_nil, List.cons_append, List.nil_append, List.length_cons, List.length_nil, List.getElem?_cons_zero, List.getElem?_cons_succ, List.set_cons_zero, List.set_cons_succ, cd_t, cd_f, binS_add, binS_sub, mkL_t, mkL_f, fz_lst, fz_tup, le_sz, Nat.zero_add, Nat.reduceAdd, Nat.reduceLeDiff, if_true, st_nm, st_1, st_2, st_3, st_4, wi_nil, wi_cons, upds_nil, upds_cons] <;> exact rfl) rfl rfl ?_) (nx_end ⟨_, rfl, ?_⟩)
    · rw [List.length_map, strmL_len, sizeLine_eq]; omega
    · rw [strmL_snoc, ← strmI_succ, List.map_append]
      rfl
  · rintro l s ⟨s1, rfl, rfl⟩
    refine Fin.to (q_ret (by simp only [evE, evA, evO, evI_rng1, evI_rng, evI_zip, evI_enu, evI_cons, iterS, bd_ok, bd_er, ot_ok, gl_some, wo_some, ai_int, br_bl, List.map_cons, List.map_nil, List.cons_append, List.nil_append, List.length_cons, List.length_nil, List.getElem?_cons_zero, List.getElem?_cons_succ, List.set_cons_zero, List.set_cons_succ, cd_t, cd_f, binS_add, binS_sub, mkL_t, mkL_f, fz_lst, fz_tup, le_sz, Nat.zero_add, Nat.reduceAdd, Nat.reduceLeDiff, if_true, st_nm, st_1, st_2, st_3, st_4, wi_nil, wi_cons, upds_nil, upds_cons] <;> exact rfl)) (fin_obj rfl (by first | rfl | exact frs_fqs _ | exact frs_ints _ | exact frs_nats _ | exact frs_oqs _ | exact frs_map (fun _ => rfl) _) ?_)
    rfl
/-! ### _law_names -/
theorem letters_at (r : Nat) (h : r < 26) (s : Sto) : withO (atI (mkS ((List.range 26).map (97 + ·))).cps.toList (r : Nat)) Ip.R.no (fun c => Ip.R.ok (Dt.str ⟨#[c]⟩) s) = .ok (.str (mkS [97 + r])) s := (ix_s (by rw [mkS_len, List.length_map, List.length_range, sizeLine_eq]; decide) _ s).symm.trans (letters_ix h s)
theorem fold_join : ∀ (l : List Nat) (acc : Array Nat), ((l.map fun c => mkS [c]).foldl (fun acc p => acc ++ (mkS []).cps ++ p.cps) acc) = acc ++ l.toArray
  | [], acc => by simp
  | c :: r, acc => by
    rw [List.map_cons, List.foldl_cons, fold_join r]
    show acc ++ #[] ++ #[c] ++ r.toArray = acc ++ (c :: r).toArray
    apply Array.toList_inj.mp
    simp
theorem join_mk (l : List Nat) : Txt.join (mkS []) (l.map fun c => mkS [c]) = mkS l := by
  cases l with
  | nil => rfl
  | cons c r =>
    show (⟨(r.map fun c => mkS [c]).foldl (fun acc p => acc ++ (mkS []).cps ++ p.cps) #[c]⟩ : Str) = ⟨(c :: r).toArray⟩
    rw [fold_join r]
    congr 1
    apply Array.toList_inj.mp
    simp
theorem join_s {l : List Nat} (h : l.length ≤ 1000) (s : Sto) : mtS .join (.str (mkS [])) [.lst (l.map fun c => Dt.str (mkS [c]))] s = .ok (.str (mkS l)) s := by
  have e : l.map (fun c => Dt.str (mkS [c])) = (l.map fun c => mkS [c]).map Dt.str := (List.map_map ..).symm
  rw [e]
  show (match strsOf ((l.map fun c => mkS [c]).map Dt.str) with
    | some ys => if (ys.map fun y : Str => y.length).sum + ys.length * (mkS []).length ≤ 16777216 then Ip.R.ok (Dt.str (Txt.join (mkS []) ys)) s else Ip.R.no
    | none => Ip.R.no) = _
  rw [strsOf_map]
  dsimp only
  rw [if_pos, join_mk]
  rw [mkS_len, List.length_nil, Nat.mul_zero, Nat.add_zero, List.map_map]
  have : ((l.map ((fun x : Str => x.length) ∘ fun c => mkS [c])).sum) = l.length := by
    clear h e
    induction l with
    | nil => rfl
    | cons c r ih =>
      rw [List.map_cons, List.sum_cons, ih, List.length_cons]
      show 1 + r.length = r.length + 1
      omega
  rw [this]
  omega
theorem cp__law_names {k : Nat} (hk : 2 ≤ k) (c : Int) {n : Nat} (hn : n ≤ 8) : ∃ ns : List Str, (ns.length = n ∧ ∀ x ∈ ns, NmOk 8 x) ∧ ∀ s, callP (runF Pp k) f__law_names [.int c, .int (n : Nat)] s = .ok (dSs ns) s := by
  suffices key : ∃ e, (∀ s, callP (runF Pp k) f__law_names [.int c, .int (n : Nat)] s = .ok e s) ∧ ∃ ns : List Str, e = dSs ns ∧ ns.length = n ∧ ∀ x ∈ ns, NmOk 8 x from by
    obtain ⟨e, h1, ns, rfl, h2⟩ := key
    exact ⟨ns, h2, h1⟩
  refine cx__law_names (Z := fun e => ∃ ns : List Str, e = dSs ns ∧ ns.length = n ∧ ∀ x ∈ ns, NmOk 8 x) (by omega) rfl fun j hj => ?_
  unfold b__law_names
  obtain ⟨sz, hsz1, hsz2, esz⟩ : ∃ sz : Nat, 1 ≤ sz ∧ sz ≤ 8 ∧ 1 + c % 8 = (sz : Int) := ⟨(1 + c % 8).toNat, by omega, by omega, by omega⟩
  have m8 : ∀ i s, binS .mod (.int i) (.int 8) s = .ok (.int (i % 8)) s := fun i s => binS_modP (by decide)
  have m26 : ∀ i s, binS .mod (.int i) (.int 26) s = .ok (.int (i % 26)) s := fun i s => binS_modP (by decide)
  have d8 : ∀ s, binS .div (.int c) (.int 8) s = .ok (.int (c / 8)) s := fun s => binS_divP (by decide) (by decide)
  have d192 : ∀ s, binS .div (.int c) (.int 192) s = .ok (.int (c / 192)) s := fun s => binS_divP (by decide) (by decide)
  have d64 : ∀ s, binS .div (.int c) (.int 64) s = .ok (.int (c / 64)) s := fun s => binS_divP (by decide) (by decide)
  have d120 : ∀ s, binS .div (.int c) (.int 120) s = .ok (.int (c / 120)) s := fun s => binS_divP (by decide) (by decide)
  have d24 : ∀ s, binS .div (.int c) (.int 24) s = .ok (.int (c / 24)) s := fun s => binS_divP (by decide) (by decide)
  simp (disch := first | assumption | omega | (simp only [sizeLine_eq, List.length_map, List.length_range, List.length_append, List.length_cons, List.length_nil, List.length_set, List.length_reverse, List.length_take, List.length_drop]; omega) | (first | rfl | exact frs_fqs _ | exact frs_ints _ | exact frs_nats _ | exact frs_oqs _) | decide) only [w_sat, w_set, w_ex, w_unp, w_ret, w_retN, w_par, w_six, ev_cald, ev_new, ev_ome, ev_att, evI_rngd, ev_var, ev_con, ev_tup, ev_lst, ev_dic, ev_neg, ev_bin, ev_cmp, ev_chn, ev_isN, ev_isB, ev_and, ev_or, ev_not, ev_ite, ev_ix, ev_sl, ev_rev, ev_rev0, ev_sst, ev_sln, ev_bi, ev_isT, ev_mt, ev_call, ev_cali, ev_fz, ea_nil, ea_cons, eo_nil, eo_cons,  evI_rng1, evI_rng, evI_zip, evI_enu, evI_cons, iterS, bd_ok, bd_er, ot_ok, gl_some, wo_some, ai_int, br_bl, List.map_cons, List.map_nil, List.cons_append, List.nil_append, List.length_cons, List.length_nil, List.getElem?_cons_zero, List.getElem?_cons_succ, List.set_cons_zero, List.set_cons_succ, cd_t, cd_f, binS_add, binS_sub, mkL_t, mkL_f, fz_lst, fz_tup, le_sz, Nat.zero_add, Nat.reduceAdd, Nat.reduceLeDiff, if_true, st_nm, st_1, st_2, st_3, st_4, wi_nil, wi_cons, upds_nil, upds_cons, ix_fq0, ix_fq1, mthS_o, attS_o, sl_l, rev_l, add_l, bi_mx, bi_mn, bi_list, rcv_app, rcv_ins, rcv_rev, isLO_lst, mt_app, appO_lst, ix_l, ix_t, ix_o, ixO_l, ixO_f, atI_0, atI_1, atI_2, atI_3, atI_4, atI_5, len_l, len_t, len_o, lenO_l, lenO_f, cd_not, cd_and, cd_or, fz_o, fzO_l, fzO_f, cmp_eqI, cmp_neI, cmp_ltI, cmp_leI, cmp_gtI, cmp_geI, bi_intB, List.length_map, List.length_range, six_o, sixO_l, letters_mk, m8, esz, d8, binS_modP (show (0 : Int) < (sz : Int) by omega)]
  let bf : Nat → Nat := fun i => ((c / 192 / ((i : Int) + 1) + 5 * i * i) % 26).toNat
  have hbf : ∀ i, bf i < 26 := fun i => by show ((c / 192 / ((i : Int) + 1) + 5 * i * i) % 26).toNat < 26; omega
  have ebf : ∀ i : Nat, (c / 192 / ((i : Int) + 1) + 5 * i * i) % 26 = ((bf i : Nat) : Int) := fun i => by show _ = ((((c / 192 / ((i : Int) + 1) + 5 * i * i) % 26).toNat : Nat) : Int); omega
  clear_value bf
  rw [lcM (xs := List.range 8) (f := dNat) (g := fun i => dNat (bf i)) (by simp (disch := first | assumption | omega | (simp only [sizeLine_eq, List.length_map, List.length_range, List.length_append, List.length_cons, List.length_nil, List.length_set, List.length_reverse, List.length_take, List.length_drop]; omega) | (first | rfl | exact frs_fqs _ | exact frs_ints _ | exact frs_nats _ | exact frs_oqs _) | decide) only [ev_cald, ev_new, ev_ome, ev_att, evI_rngd, ev_var, ev_con, ev_tup, ev_lst, ev_dic, ev_neg, ev_bin, ev_cmp, ev_chn, ev_isN, ev_isB, ev_and, ev_or, ev_not, ev_ite, ev_ix, ev_sl, ev_rev, ev_rev0, ev_sst, ev_sln, ev_bi, ev_isT, ev_mt, ev_call, ev_cali, ev_fz, ea_nil, ea_cons, eo_nil, eo_cons,  evI_rng1, evI_rng, evI_zip, evI_enu, evI_cons, iterS, bd_ok, bd_er, ot_ok, gl_some, wo_some, ai_int, br_bl, List.map_cons, List.map_nil, List.cons_append, List.nil_append, List.length_cons, List.length_nil, List.getElem?_cons_zero, List.getElem?_cons_succ, List.set_cons_zero, List.set_cons_succ, cd_t, cd_f, binS_add, binS_sub, mkL_t, mkL_f, fz_lst, fz_tup, le_sz, Nat.zero_add, Nat.reduceAdd, Nat.reduceLeDiff, if_true, st_nm, st_1, st_2, st_3, st_4, wi_nil, wi_cons, upds_nil, upds_cons, ix_fq0, ix_fq1, mthS_o, attS_o, sl_l, rev_l, add_l, bi_mx, bi_mn, bi_list, rcv_app, rcv_ins, rcv_rev, isLO_lst, mt_app, appO_lst, ix_l, ix_t, ix_o, ixO_l, ixO_f, atI_0, atI_1, atI_2, atI_3, atI_4, atI_5, len_l, len_t, len_o, lenO_l, lenO_f, cd_not, cd_and, cd_or, fz_o, fzO_l, fzO_f, cmp_eqI, cmp_neI, cmp_ltI, cmp_leI, cmp_gtI, cmp_geI, bi_intB, List.length_map, List.length_range, six_o, sixO_l, rng1_n (show 8 < 2 ^ 62 by decide), dR_nat] <;> first | rfl | (rw [dR_nat])) (by decide) (fun i hi => by
    have hi := List.mem_range.mp hi
    have h1 : IntMulOk (5 : Int) (i : Int) := mulOk_r (by omega)
    have h2 : IntMulOk (5 * (i : Int)) (i : Int) := mulOk_r (by omega)
    simp (disch := first | assumption | omega | (simp only [sizeLine_eq, List.length_map, List.length_range, List.length_append, List.length_cons, List.length_nil, List.length_set, List.length_reverse, List.length_take, List.length_drop]; omega) | (first | rfl | exact frs_fqs _ | exact frs_ints _ | exact frs_nats _ | exact frs_oqs _) | decide) only [ev_cald, ev_new, ev_ome, ev_att, evI_rngd, ev_var, ev_con, ev_tup, ev_lst, ev_dic, ev_neg, ev_bin, ev_cmp, ev_chn, ev_isN, ev_isB, ev_and, ev_or, ev_not, ev_ite, ev_ix, ev_sl, ev_rev, ev_rev0, ev_sst, ev_sln, ev_bi, ev_isT, ev_mt, ev_call, ev_cali, ev_fz, ea_nil, ea_cons, eo_nil, eo_cons,  evI_rng1, evI_rng, evI_zip, evI_enu, evI_cons, iterS, bd_ok, bd_er, ot_ok, gl_some, wo_some, ai_int, br_bl, List.map_cons, List.map_nil, List.cons_append, List.nil_append, List.length_cons, List.length_nil, List.getElem?_cons_zero, List.getElem?_cons_succ, List.set_cons_zero, List.set_cons_succ, cd_t, cd_f, binS_add, binS_sub, mkL_t, mkL_f, fz_lst, fz_tup, le_sz, Nat.zero_add, Nat.reduceAdd, Nat.reduceLeDiff, if_true, st_nm, st_1, st_2, st_3, st_4, wi_nil, wi_cons, upds_nil, upds_cons, ix_fq0, ix_fq1, mthS_o, attS_o, sl_l, rev_l, add_l, bi_mx, bi_mn, bi_list, rcv_app, rcv_ins, rcv_rev, isLO_lst, mt_app, appO_lst, ix_l, ix_t, ix_o, ixO_l, ixO_f, atI_0, atI_1, atI_2, atI_3, atI_4, atI_5, len_l, len_t, len_o, lenO_l, lenO_f, cd_not, cd_and, cd_or, fz_o, fzO_l, fzO_f, cmp_eqI, cmp_neI, cmp_ltI, cmp_leI, cmp_gtI, cmp_geI, bi_intB, List.length_map, List.length_range, six_o, sixO_l, dNat, d192, binS_divP (show (0 : Int) < (i : Int) + 1 by omega) (Nat.lt_of_lt_of_le (m := 2 ^ 10) (by omega) (Nat.pow_le_pow_right (by decide) (by decide))), binS_mul h1, binS_mul h2, m26, ebf i])]
  simp (disch := first | assumption | omega | (simp only [sizeLine_eq, List.length_map, List.length_range, List.length_append, List.length_cons, List.length_nil, List.length_set, List.length_reverse, List.length_take, List.length_drop]; omega) | (first | rfl | exact frs_fqs _ | exact frs_ints _ | exact frs_nats _ | exact frs_oqs _) | decide) only [w_sat, w_set, w_ex, w_unp, w_ret, w_retN, w_par, w_six, ev_cald, ev_new, ev_ome, ev_att, evI_rngd, ev_var, ev_con, ev_tup, ev_lst, ev_dic, ev_neg, ev_bin, ev_cmp, ev_chn, ev_isN, ev_isB, ev_and, ev_or, ev_not, ev_ite, ev_ix, ev_sl, ev_rev, ev_rev0, ev_sst, ev_sln, ev_bi, ev_isT, ev_mt, ev_call, ev_cali, ev_fz, ea_nil, ea_cons, eo_nil, eo_cons,  evI_rng1, evI_rng, evI_zip, evI_enu, evI_cons, iterS, bd_ok, bd_er, ot_ok, gl_some, wo_some, ai_int, br_bl, List.map_cons, List.map_nil, List.cons_append, List.nil_append, List.length_cons, List.length_nil, List.getElem?_cons_zero, List.getElem?_cons_succ, List.set_cons_zero, List.set_cons_succ, cd_t, cd_f, binS_add, binS_sub, mkL_t, mkL_f, fz_lst, fz_tup, le_sz, Nat.zero_add, Nat.reduceAdd, Nat.reduceLeDiff, if_true, st_nm, st_1, st_2, st_3, st_4, wi_nil, wi_cons, upds_nil, upds_cons, ix_fq0, ix_fq1, mthS_o, attS_o, sl_l, rev_l, add_l, bi_mx, bi_mn, bi_list, rcv_app, rcv_ins, rcv_rev, isLO_lst, mt_app, appO_lst, ix_l, ix_t, ix_o, ixO_l, ixO_f, atI_0, atI_1, atI_2, atI_3, atI_4, atI_5, len_l, len_t, len_o, lenO_l, lenO_f, cd_not, cd_and, cd_or, fz_o, fzO_l, fzO_f, cmp_eqI, cmp_neI, cmp_ltI, cmp_leI, cmp_gtI, cmp_geI, bi_intB, List.length_map, List.length_range, six_o, sixO_l]
  have hcz : IntMulOk (c / 64 % 3) 2 := mulOk_r (by decide)
  have e64 : ∀ i s, binS .mod (.int i) (.int 3) s = .ok (.int (i % 3)) s := fun i s => binS_modP (by decide)
  refine fi_forN (n := n) (fun l0 s0 i l s' => ∃ (ns : List Str) (s5 s8 s9 : Option Dt), (ns.length = i ∧ ∀ x ∈ ns, NmOk 8 x) ∧ s' = [.lst (ns.map Dt.str)] ∧ l = upds l0 [(5, s5), (8, s8), (9, s9)]) (by simp (disch := first | assumption | omega | (simp only [sizeLine_eq, List.length_map, List.length_range, List.length_append, List.length_cons, List.length_nil, List.length_set, List.length_reverse, List.length_take, List.length_drop]; omega) | (first | rfl | exact frs_fqs _ | exact frs_ints _ | exact frs_nats _ | exact frs_oqs _) | decide) only [ev_cald, ev_new, ev_ome, ev_att, evI_rngd, ev_var, ev_con, ev_tup, ev_lst, ev_dic, ev_neg, ev_bin, ev_cmp, ev_chn, ev_isN, ev_isB, ev_and, ev_or, ev_not, ev_ite, ev_ix, ev_sl, ev_rev, ev_rev0, ev_sst, ev_sln, ev_bi, ev_isT, ev_mt, ev_call, ev_cali, ev_fz, ea_nil, ea_cons, eo_nil, eo_cons,  evI_rng1, evI_rng, evI_zip, evI_enu, evI_cons, iterS, bd_ok, bd_er, ot_ok, gl_some, wo_some, ai_int, br_bl, List.map_cons, List.map_nil, List.cons_append, List.nil_append, List.length_cons, List.length_nil, List.getElem?_cons_zero, List.getElem?_cons_succ, List.set_cons_zero, List.set_cons_succ, cd_t, cd_f, binS_add, binS_sub, mkL_t, mkL_f, fz_lst, fz_tup, le_sz, Nat.zero_add, Nat.reduceAdd, Nat.reduceLeDiff, if_true, st_nm, st_1, st_2, st_3, st_4, wi_nil, wi_cons, upds_nil, upds_cons, ix_fq0, ix_fq1, mthS_o, attS_o, sl_l, rev_l, add_l, bi_mx, bi_mn, bi_list, rcv_app, rcv_ins, rcv_rev, isLO_lst, mt_app, appO_lst, ix_l, ix_t, ix_o, ixO_l, ixO_f, atI_0, atI_1, atI_2, atI_3, atI_4, atI_5, len_l, len_t, len_o, lenO_l, lenO_f, cd_not, cd_and, cd_or, fz_o, fzO_l, fzO_f, cmp_eqI, cmp_neI, cmp_ltI, cmp_leI, cmp_gtI, cmp_geI, bi_intB, List.length_map, List.length_range, six_o, sixO_l, rng1_n (show n < 2 ^ 62 by omega)] <;> rfl) ⟨[], _, _, _, ⟨rfl, fun _ h => (by cases h)⟩, rfl, rfl⟩ ?_ ?_
  · rintro i hi l s' ⟨ns, s5, s8, s9, ⟨hnl, hns⟩, rfl, rfl⟩
    simp only [bodF, st_nm, st_1, st_2, st_3, st_4, wo_some, upds_nil, upds_cons, List.set_cons_zero, List.set_cons_succ]
    simp (disch := first | assumption | omega | (simp only [sizeLine_eq, List.length_map, List.length_range, List.length_append, List.length_cons, List.length_nil, List.length_set, List.length_reverse, List.length_take, List.length_drop]; omega) | (first | rfl | exact frs_fqs _ | exact frs_ints _ | exact frs_nats _ | exact frs_oqs _) | decide) only [w_sat, w_set, w_ex, w_unp, w_ret, w_retN, w_par, w_six, ev_cald, ev_new, ev_ome, ev_att, evI_rngd, ev_var, ev_con, ev_tup, ev_lst, ev_dic, ev_neg, ev_bin, ev_cmp, ev_chn, ev_isN, ev_isB, ev_and, ev_or, ev_not, ev_ite, ev_ix, ev_sl, ev_rev, ev_rev0, ev_sst, ev_sln, ev_bi, ev_isT, ev_mt, ev_call, ev_cali, ev_fz, ea_nil, ea_cons, eo_nil, eo_cons,  evI_rng1, evI_rng, evI_zip, evI_enu, evI_cons, iterS, bd_ok, bd_er, ot_ok, gl_some, wo_some, ai_int, br_bl, List.map_cons, List.map_nil, List.cons_append, List.nil_append, List.length_cons, List.length_nil, List.getElem?_cons_zero, List.getElem?_cons_succ, List.set_cons_zero, List.set_cons_succ, cd_t, cd_f, binS_add, binS_sub, mkL_t, mkL_f, fz_lst, fz_tup, le_sz, Nat.zero_add, Nat.reduceAdd, Nat.reduceLeDiff, if_true, st_nm, st_1, st_2, st_3, st_4, wi_nil, wi_cons, upds_nil, upds_cons, ix_fq0, ix_fq1, mthS_o, attS_o, sl_l, rev_l, add_l, bi_mx, bi_mn, bi_list, rcv_app, rcv_ins, rcv_rev, isLO_lst, mt_app, appO_lst, ix_l, ix_t, ix_o, ixO_l, ixO_f, atI_0, atI_1, atI_2, atI_3, atI_4, atI_5, len_l, len_t, len_o, lenO_l, lenO_f, cd_not, cd_and, cd_or, fz_o, fzO_l, fzO_f, cmp_eqI, cmp_neI, cmp_ltI, cmp_leI, cmp_gtI, cmp_geI, bi_intB, List.length_map, List.length_range, six_o, sixO_l, empty_mk]
    refine fi_forN (n := sz) (fun l0 s0 q l s' => s' = s0 ∧ ∃ (t : List Nat) (s9 : Option Dt), (t.length = q ∧ ∀ a ∈ t, 97 ≤ a ∧ a < 123) ∧ l = upds l0 [(8, some (.str (mkS t))), (9, s9)]) (by simp (disch := first | assumption | omega | (simp only [sizeLine_eq, List.length_map, List.length_range, List.length_append, List.length_cons, List.length_nil, List.length_set, List.length_reverse, List.length_take, List.length_drop]; omega) | (first | rfl | exact frs_fqs _ | exact frs_ints _ | exact frs_nats _ | exact frs_oqs _) | decide) only [ev_cald, ev_new, ev_ome, ev_att, evI_rngd, ev_var, ev_con, ev_tup, ev_lst, ev_dic, ev_neg, ev_bin, ev_cmp, ev_chn, ev_isN, ev_isB, ev_and, ev_or, ev_not, ev_ite, ev_ix, ev_sl, ev_rev, ev_rev0, ev_sst, ev_sln, ev_bi, ev_isT, ev_mt, ev_call, ev_cali, ev_fz, ea_nil, ea_cons, eo_nil, eo_cons,  evI_rng1, evI_rng, evI_zip, evI_enu, evI_cons, iterS, bd_ok, bd_er, ot_ok, gl_some, wo_some, ai_int, br_bl, List.map_cons, List.map_nil, List.cons_append, List.nil_append, List.length_cons, List.length_nil, List.getElem?_cons_zero, List.getElem?_cons_succ, List.set_cons_zero, List.set_cons_succ, cd_t, cd_f, binS_add, binS_sub, mkL_t, mkL_f, fz_lst, fz_tup, le_sz, Nat.zero_add, Nat.reduceAdd, Nat.reduceLeDiff, if_true, st_nm, st_1, st_2, st_3, st_4, wi_nil, wi_cons, upds_nil, upds_cons, ix_fq0, ix_fq1, mthS_o, attS_o, sl_l, rev_l, add_l, bi_mx, bi_mn, bi_list, rcv_app, rcv_ins, rcv_rev, isLO_lst, mt_app, appO_lst, ix_l, ix_t, ix_o, ixO_l, ixO_f, atI_0, atI_1, atI_2, atI_3, atI_4, atI_5, len_l, len_t, len_o, lenO_l, lenO_f, cd_not, cd_and, cd_or, fz_o, fzO_l, fzO_f, cmp_eqI, cmp_neI, cmp_ltI, cmp_leI, cmp_gtI, cmp_geI, bi_intB, List.length_map, List.length_range, six_o, sixO_l, rng1_n (show sz < 2 ^ 62 by omega)] <;> rfl) ⟨rfl, [], _, ⟨rfl, fun _ h => (by cases h)⟩, rfl⟩ ?_ ?_
    · rintro q hq l s' ⟨rfl, t, s9, ⟨htl, ht⟩, rfl⟩
      simp only [bodF, st_nm, st_1, st_2, st_3, st_4, wo_some, upds_nil, upds_cons, List.set_cons_zero, List.set_cons_succ]
      have aq : ∀ s, withO (atI ((List.range 8).map fun i => Dt.int ((bf i : Nat) : Int)) (q : Nat)) Ip.R.no (fun d => Ip.R.ok d s) = .ok (Dt.int ((bf q : Nat) : Int)) s := fun s => by rw [atI_rng (show q < 8 by omega) fun i => Dt.int ((bf i : Nat) : Int)]; rfl
      have h1 : IntMulOk (1 + c / 64 % 3 * 2) (i : Int) := mulOk_r (by omega)
      have h2 : ∀ b : Bool, IntMulOk ((1 + c / 64 % 3 * 2) * (i : Int)) (if b = true then 1 else 0) := fun b => mulOk_r (by cases b <;> decide)
      obtain ⟨v, hv, ev⟩ : ∃ v : Nat, v < 26 ∧ (((bf q : Nat) : Int) + (1 + c / 64 % 3 * 2) * (i : Int) * (if decide ((q : Int) = c / 8 % (sz : Int)) = true then 1 else 0)) % 26 = (v : Int) := ⟨((((bf q : Nat) : Int) + (1 + c / 64 % 3 * 2) * (i : Int) * (if decide ((q : Int) = c / 8 % (sz : Int)) = true then 1 else 0)) % 26).toNat, by omega, by omega⟩
      simp (disch := first | assumption | omega | (simp only [sizeLine_eq, List.length_map, List.length_range, List.length_append, List.length_cons, List.length_nil, List.length_set, List.length_reverse, List.length_take, List.length_drop]; omega) | (first | rfl | exact frs_fqs _ | exact frs_ints _ | exact frs_nats _ | exact frs_oqs _) | decide) only [w_sat, w_set, w_ex, w_unp, w_ret, w_retN, w_par, w_six, ev_cald, ev_new, ev_ome, ev_att, evI_rngd, ev_var, ev_con, ev_tup, ev_lst, ev_dic, ev_neg, ev_bin, ev_cmp, ev_chn, ev_isN, ev_isB, ev_and, ev_or, ev_not, ev_ite, ev_ix, ev_sl, ev_rev, ev_rev0, ev_sst, ev_sln, ev_bi, ev_isT, ev_mt, ev_call, ev_cali, ev_fz, ea_nil, ea_cons, eo_nil, eo_cons,  evI_rng1, evI_rng, evI_zip, evI_enu, evI_cons, iterS, bd_ok, bd_er, ot_ok, gl_some, wo_some, ai_int, br_bl, List.map_cons, List.map_nil, List.cons_append, List.nil_append, List.length_cons, List.length_nil, List.getElem?_cons_zero, List.getElem?_cons_succ, List.set_cons_zero, List.set_cons_succ, cd_t, cd_f, binS_add, binS_sub, mkL_t, mkL_f, fz_lst, fz_tup, le_sz, Nat.zero_add, Nat.reduceAdd, Nat.reduceLeDiff, if_true, st_nm, st_1, st_2, st_3, st_4, wi_nil, wi_cons, upds_nil, upds_cons, ix_fq0, ix_fq1, mthS_o, attS_o, sl_l, rev_l, add_l, bi_mx, bi_mn, bi_list, rcv_app, rcv_ins, rcv_rev, isLO_lst, mt_app, appO_lst, ix_l, ix_t, ix_o, ixO_l, ixO_f, atI_0, atI_1, atI_2, atI_3, atI_4, atI_5, len_l, len_t, len_o, lenO_l, lenO_f, cd_not, cd_and, cd_or, fz_o, fzO_l, fzO_f, cmp_eqI, cmp_neI, cmp_ltI, cmp_leI, cmp_gtI, cmp_geI, bi_intB, List.length_map, List.length_range, six_o, sixO_l, aq, dNat, d64, e64, binS_mul hcz, binS_mul h1, binS_mul (h2 _), m26, ev, letters_ix hv, add_s (show (mkS t).length + (mkS [97 + v]).length ≤ sizeLine by rw [mkS_len, mkS_len, sizeLine_eq]; show t.length + 1 ≤ _; omega), mkS_app]
      refine lp_nx ⟨rfl, t ++ [97 + v], _, ⟨by rw [List.length_append, htl]; rfl, fun a ha => ?_⟩, rfl⟩
      rcases List.mem_append.mp ha with z | z
      · exact ht a z
      · rw [List.mem_singleton.mp z]
        omega
    · rintro l s' ⟨rfl, t, s9, ⟨htl, ht⟩, rfl⟩
      try simp only [upds_nil, upds_cons, List.set_cons_zero, List.set_cons_succ]
      refine fi_ifL (k := decide ((i : Int) % 2 = 1) && (decide ((sz : Int) < 8) && decide (c / 120 % 2 = 1))) (s1 := [.lst (ns.map Dt.str)]) (fun l0 s0 l s' => s' = s0 ∧ ∃ t : List Nat, (1 ≤ t.length ∧ t.length ≤ 8 ∧ ∀ a ∈ t, 97 ≤ a ∧ a < 123) ∧ l = upds l0 [(8, some (.str (mkS t)))]) (by simp (disch := first | assumption | omega | (simp only [sizeLine_eq, List.length_map, List.length_range, List.length_append, List.length_cons, List.length_nil, List.length_set, List.length_reverse, List.length_take, List.length_drop]; omega) | (first | rfl | exact frs_fqs _ | exact frs_ints _ | exact frs_nats _ | exact frs_oqs _) | decide) only [ev_cald, ev_new, ev_ome, ev_att, evI_rngd, ev_var, ev_con, ev_tup, ev_lst, ev_dic, ev_neg, ev_bin, ev_cmp, ev_chn, ev_isN, ev_isB, ev_and, ev_or, ev_not, ev_ite, ev_ix, ev_sl, ev_rev, ev_rev0, ev_sst, ev_sln, ev_bi, ev_isT, ev_mt, ev_call, ev_cali, ev_fz, ea_nil, ea_cons, eo_nil, eo_cons,  evI_rng1, evI_rng, evI_zip, evI_enu, evI_cons, iterS, bd_ok, bd_er, ot_ok, gl_some, wo_some, ai_int, br_bl, List.map_cons, List.map_nil, List.cons_append, List.nil_append, List.length_cons, List.length_nil, List.getElem?_cons_zero, List.getElem?_cons_succ, List.set_cons_zero, List.set_cons_succ, cd_t, cd_f, binS_add, binS_sub, mkL_t, mkL_f, fz_lst, fz_tup, le_sz, Nat.zero_add, Nat.reduceAdd, Nat.reduceLeDiff, if_true, st_nm, st_1, st_2, st_3, st_4, wi_nil, wi_cons, upds_nil, upds_cons, ix_fq0, ix_fq1, mthS_o, attS_o, sl_l, rev_l, add_l, bi_mx, bi_mn, bi_list, rcv_app, rcv_ins, rcv_rev, isLO_lst, mt_app, appO_lst, ix_l, ix_t, ix_o, ixO_l, ixO_f, atI_0, atI_1, atI_2, atI_3, atI_4, atI_5, len_l, len_t, len_o, lenO_l, lenO_f, cd_not, cd_and, cd_or, fz_o, fzO_l, fzO_f, cmp_eqI, cmp_neI, cmp_ltI, cmp_leI, cmp_gtI, cmp_geI, bi_intB, List.length_map, List.length_range, six_o, sixO_l, d120, binS_modP (show (0 : Int) < 2 by decide)]) (fun z => ?_) (fun z => lp_end ⟨rfl, t, ⟨by omega, by omega, ht⟩, rfl⟩) ?_
      · simp only [Bool.and_eq_true, decide_eq_true_eq] at z
        simp (disch := first | assumption | omega | (simp only [sizeLine_eq, List.length_map, List.length_range, List.length_append, List.length_cons, List.length_nil, List.length_set, List.length_reverse, List.length_take, List.length_drop]; omega) | (first | rfl | exact frs_fqs _ | exact frs_ints _ | exact frs_nats _ | exact frs_oqs _) | decide) only [w_sat, w_set, w_ex, w_unp, w_ret, w_retN, w_par, w_six, ev_cald, ev_new, ev_ome, ev_att, evI_rngd, ev_var, ev_con, ev_tup, ev_lst, ev_dic, ev_neg, ev_bin, ev_cmp, ev_chn, ev_isN, ev_isB, ev_and, ev_or, ev_not, ev_ite, ev_ix, ev_sl, ev_rev, ev_rev0, ev_sst, ev_sln, ev_bi, ev_isT, ev_mt, ev_call, ev_cali, ev_fz, ea_nil, ea_cons, eo_nil, eo_cons,  evI_rng1, evI_rng, evI_zip, evI_enu, evI_cons, iterS, bd_ok, bd_er, ot_ok, gl_some, wo_some, ai_int, br_bl, List.map_cons, List.map_nil, List.cons_append, List.nil_append, List.length_cons, List.length_nil, List.getElem?_cons_zero, List.getElem?_cons_succ, List.set_cons_zero, List.set_cons_succ, cd_t, cd_f, binS_add, binS_sub, mkL_t, mkL_f, fz_lst, fz_tup, le_sz, Nat.zero_add, Nat.reduceAdd, Nat.reduceLeDiff, if_true, st_nm, st_1, st_2, st_3, st_4, wi_nil, wi_cons, upds_nil, upds_cons, ix_fq0, ix_fq1, mthS_o, attS_o, sl_l, rev_l, add_l, bi_mx, bi_mn, bi_list, rcv_app, rcv_ins, rcv_rev, isLO_lst, mt_app, appO_lst, ix_l, ix_t, ix_o, ixO_l, ixO_f, atI_0, atI_1, atI_2, atI_3, atI_4, atI_5, len_l, len_t, len_o, lenO_l, lenO_f, cd_not, cd_and, cd_or, fz_o, fzO_l, fzO_f, cmp_eqI, cmp_neI, cmp_ltI, cmp_leI, cmp_gtI, cmp_geI, bi_intB, List.length_map, List.length_range, six_o, sixO_l, show ("m" : Str) = mkS [109] by decide +kernel, add_s (show (mkS t).length + (mkS [109]).length ≤ sizeLine by rw [mkS_len, mkS_len, sizeLine_eq]; show t.length + 1 ≤ _; omega), mkS_app]
        refine lp_nx ⟨rfl, t ++ [109], ⟨by rw [List.length_append]; omega, by rw [List.length_append]; show t.length + 1 ≤ 8; omega, fun a ha => ?_⟩, rfl⟩
        rcases List.mem_append.mp ha with z | z
        · exact ht a z
        · rw [List.mem_singleton.mp z]
          decide
      rintro l s' ⟨rfl, t, ht, rfl⟩
      try simp only [upds_nil, upds_cons, List.set_cons_zero, List.set_cons_succ]
      refine fi_ifL (k := decide (c / 24 % 5 = 1) && decide ((n : Int) ≤ 8)) (s1 := [.lst (ns.map Dt.str)]) (fun l0 s0 l s' => s' = s0 ∧ ∃ t : List Nat, (1 ≤ t.length ∧ t.length ≤ 8 ∧ ∀ a ∈ t, 97 ≤ a ∧ a < 123) ∧ l = upds l0 [(8, some (.str (mkS t)))]) (by simp (disch := first | assumption | omega | (simp only [sizeLine_eq, List.length_map, List.length_range, List.length_append, List.length_cons, List.length_nil, List.length_set, List.length_reverse, List.length_take, List.length_drop]; omega) | (first | rfl | exact frs_fqs _ | exact frs_ints _ | exact frs_nats _ | exact frs_oqs _) | decide) only [ev_cald, ev_new, ev_ome, ev_att, evI_rngd, ev_var, ev_con, ev_tup, ev_lst, ev_dic, ev_neg, ev_bin, ev_cmp, ev_chn, ev_isN, ev_isB, ev_and, ev_or, ev_not, ev_ite, ev_ix, ev_sl, ev_rev, ev_rev0, ev_sst, ev_sln, ev_bi, ev_isT, ev_mt, ev_call, ev_cali, ev_fz, ea_nil, ea_cons, eo_nil, eo_cons,  evI_rng1, evI_rng, evI_zip, evI_enu, evI_cons, iterS, bd_ok, bd_er, ot_ok, gl_some, wo_some, ai_int, br_bl, List.map_cons, List.map_nil, List.cons_append, List.nil_append, List.length_cons, List.length_nil, List.getElem?_cons_zero, List.getElem?_cons_succ, List.set_cons_zero, List.set_cons_succ, cd_t, cd_f, binS_add, binS_sub, mkL_t, mkL_f, fz_lst, fz_tup, le_sz, Nat.zero_add, Nat.reduceAdd, Nat.reduceLeDiff, if_true, st_nm, st_1, st_2, st_3, st_4, wi_nil, wi_cons, upds_nil, upds_cons, ix_fq0, ix_fq1, mthS_o, attS_o, sl_l, rev_l, add_l, bi_mx, bi_mn, bi_list, rcv_app, rcv_ins, rcv_rev, isLO_lst, mt_app, appO_lst, ix_l, ix_t, ix_o, ixO_l, ixO_f, atI_0, atI_1, atI_2, atI_3, atI_4, atI_5, len_l, len_t, len_o, lenO_l, lenO_f, cd_not, cd_and, cd_or, fz_o, fzO_l, fzO_f, cmp_eqI, cmp_neI, cmp_ltI, cmp_leI, cmp_gtI, cmp_geI, bi_intB, List.length_map, List.length_range, six_o, sixO_l, d24, binS_modP (show (0 : Int) < 5 by decide)]) (fun z => ?_) (fun z => lp_end ⟨rfl, t, ht, rfl⟩) ?_
      · have ei : (i : Int) + 1 = ((i + 1 : Nat) : Int) := rfl
        have cu : cutD ((List.range 8).map fun i => dNat (bf i)) none (some ((i : Int) + 1)) = (List.range (i + 1)).map fun i => dNat (bf i) := by
          rw [ei, cut_0n (by rw [List.length_map, List.length_range]; omega), ← List.map_take, List.take_range, Nat.min_eq_left (by omega)]
        have jn : ∀ s, mtS .join (.str (mkS [])) [.lst ((List.range (i + 1)).map fun i => Dt.str (mkS [97 + bf i]))] s = .ok (.str (mkS ((List.range (i + 1)).map fun i => 97 + bf i))) s := fun s => by
          have := join_s (l := (List.range (i + 1)).map fun i => 97 + bf i) (by rw [List.length_map, List.length_range]; omega) s
          rw [List.map_map] at this
          exact this
        have rj : rcv .join (.str (mkS [])) [Ob.lst (ns.map Dt.str)] = true := rfl
        simp (disch := first | assumption | omega | (simp only [sizeLine_eq, List.length_map, List.length_range, List.length_append, List.length_cons, List.length_nil, List.length_set, List.length_reverse, List.length_take, List.length_drop]; omega) | (first | rfl | exact frs_fqs _ | exact frs_ints _ | exact frs_nats _ | exact frs_oqs _) | decide) only [w_sat, w_set, w_ex, w_unp, w_ret, w_retN, w_par, w_six, ev_cald, ev_new, ev_ome, ev_att, evI_rngd, ev_var, ev_con, ev_tup, ev_lst, ev_dic, ev_neg, ev_bin, ev_cmp, ev_chn, ev_isN, ev_isB, ev_and, ev_or, ev_not, ev_ite, ev_ix, ev_sl, ev_rev, ev_rev0, ev_sst, ev_sln, ev_bi, ev_isT, ev_mt, ev_call, ev_cali, ev_fz, ea_nil, ea_cons, eo_nil, eo_cons,  evI_rng1, evI_rng, evI_zip, evI_enu, evI_cons, iterS, bd_ok, bd_er, ot_ok, gl_some, wo_some, ai_int, br_bl, List.map_cons, List.map_nil, List.cons_append, List.nil_append, List.length_cons, List.length_nil, List.getElem?_cons_zero, List.getElem?_cons_succ, List.set_cons_zero, List.set_cons_succ, cd_t, cd_f, binS_add, binS_sub, mkL_t, mkL_f, fz_lst, fz_tup, le_sz, Nat.zero_add, Nat.reduceAdd, Nat.reduceLeDiff, if_true, st_nm, st_1, st_2, st_3, st_4, wi_nil, wi_cons, upds_nil, upds_cons, ix_fq0, ix_fq1, mthS_o, attS_o, sl_l, rev_l, add_l, bi_mx, bi_mn, bi_list, rcv_app, rcv_ins, rcv_rev, isLO_lst, mt_app, appO_lst, ix_l, ix_t, ix_o, ixO_l, ixO_f, atI_0, atI_1, atI_2, atI_3, atI_4, atI_5, len_l, len_t, len_o, lenO_l, lenO_f, cd_not, cd_and, cd_or, fz_o, fzO_l, fzO_f, cmp_eqI, cmp_neI, cmp_ltI, cmp_leI, cmp_gtI, cmp_geI, bi_intB, List.length_map, List.length_range, six_o, sixO_l, empty_mk]
        rw [if_pos rj, lcM (xs := List.range (i + 1)) (f := fun i => dNat (bf i)) (g := fun i => Dt.str (mkS [97 + bf i])) (by simp (disch := first | assumption | omega | (simp only [sizeLine_eq, List.length_map, List.length_range, List.length_append, List.length_cons, List.length_nil, List.length_set, List.length_reverse, List.length_take, List.length_drop]; omega) | (first | rfl | exact frs_fqs _ | exact frs_ints _ | exact frs_nats _ | exact frs_oqs _) | decide) only [ev_cald, ev_new, ev_ome, ev_att, evI_rngd, ev_var, ev_con, ev_tup, ev_lst, ev_dic, ev_neg, ev_bin, ev_cmp, ev_chn, ev_isN, ev_isB, ev_and, ev_or, ev_not, ev_ite, ev_ix, ev_sl, ev_rev, ev_rev0, ev_sst, ev_sln, ev_bi, ev_isT, ev_mt, ev_call, ev_cali, ev_fz, ea_nil, ea_cons, eo_nil, eo_cons,  evI_rng1, evI_rng, evI_zip, evI_enu, evI_cons, iterS, bd_ok, bd_er, ot_ok, gl_some, wo_some, ai_int, br_bl, List.map_cons, List.map_nil, List.cons_append, List.nil_append, List.length_cons, List.length_nil, List.getElem?_cons_zero, List.getElem?_cons_succ, List.set_cons_zero, List.set_cons_succ, cd_t, cd_f, binS_add, binS_sub, mkL_t, mkL_f, fz_lst, fz_tup, le_sz, Nat.zero_add, Nat.reduceAdd, Nat.reduceLeDiff, if_true, st_nm, st_1, st_2, st_3, st_4, wi_nil, wi_cons, upds_nil, upds_cons, ix_fq0, ix_fq1, mthS_o, attS_o, sl_l, rev_l, add_l, bi_mx, bi_mn, bi_list, rcv_app, rcv_ins, rcv_rev, isLO_lst, mt_app, appO_lst, ix_l, ix_t, ix_o, ixO_l, ixO_f, atI_0, atI_1, atI_2, atI_3, atI_4, atI_5, len_l, len_t, len_o, lenO_l, lenO_f, cd_not, cd_and, cd_or, fz_o, fzO_l, fzO_f, cmp_eqI, cmp_neI, cmp_ltI, cmp_leI, cmp_gtI, cmp_geI, bi_intB, List.length_map, List.length_range, six_o, sixO_l, cu] <;> rfl) (by rw [List.length_range]; omega) (fun r hr => by simp (disch := first | assumption | omega | (simp only [sizeLine_eq, List.length_map, List.length_range, List.length_append, List.length_cons, List.length_nil, List.length_set, List.length_reverse, List.length_take, List.length_drop]; omega) | (first | rfl | exact frs_fqs _ | exact frs_ints _ | exact frs_nats _ | exact frs_oqs _) | decide) only [ev_cald, ev_new, ev_ome, ev_att, evI_rngd, ev_var, ev_con, ev_tup, ev_lst, ev_dic, ev_neg, ev_bin, ev_cmp, ev_chn, ev_isN, ev_isB, ev_and, ev_or, ev_not, ev_ite, ev_ix, ev_sl, ev_rev, ev_rev0, ev_sst, ev_sln, ev_bi, ev_isT, ev_mt, ev_call, ev_cali, ev_fz, ea_nil, ea_cons, eo_nil, eo_cons,  evI_rng1, evI_rng, evI_zip, evI_enu, evI_cons, iterS, bd_ok, bd_er, ot_ok, gl_some, wo_some, ai_int, br_bl, List.map_cons, List.map_nil, List.cons_append, List.nil_append, List.length_cons, List.length_nil, List.getElem?_cons_zero, List.getElem?_cons_succ, List.set_cons_zero, List.set_cons_succ, cd_t, cd_f, binS_add, binS_sub, mkL_t, mkL_f, fz_lst, fz_tup, le_sz, Nat.zero_add, Nat.reduceAdd, Nat.reduceLeDiff, if_true, st_nm, st_1, st_2, st_3, st_4, wi_nil, wi_cons, upds_nil, upds_cons, ix_fq0, ix_fq1, mthS_o, attS_o, sl_l, rev_l, add_l, bi_mx, bi_mn, bi_list, rcv_app, rcv_ins, rcv_rev, isLO_lst, mt_app, appO_lst, ix_l, ix_t, ix_o, ixO_l, ixO_f, atI_0, atI_1, atI_2, atI_3, atI_4, atI_5, len_l, len_t, len_o, lenO_l, lenO_f, cd_not, cd_and, cd_or, fz_o, fzO_l, fzO_f, cmp_eqI, cmp_neI, cmp_ltI, cmp_leI, cmp_gtI, cmp_geI, bi_intB, List.length_map, List.length_range, six_o, sixO_l, dNat, letters_ix (hbf r)])]
        simp (disch := first | assumption | omega | (simp only [sizeLine_eq, List.length_map, List.length_range, List.length_append, List.length_cons, List.length_nil, List.length_set, List.length_reverse, List.length_take, List.length_drop]; omega) | (first | rfl | exact frs_fqs _ | exact frs_ints _ | exact frs_nats _ | exact frs_oqs _) | decide) only [w_sat, w_set, w_ex, w_unp, w_ret, w_retN, w_par, w_six, ev_cald, ev_new, ev_ome, ev_att, evI_rngd, ev_var, ev_con, ev_tup, ev_lst, ev_dic, ev_neg, ev_bin, ev_cmp, ev_chn, ev_isN, ev_isB, ev_and, ev_or, ev_not, ev_ite, ev_ix, ev_sl, ev_rev, ev_rev0, ev_sst, ev_sln, ev_bi, ev_isT, ev_mt, ev_call, ev_cali, ev_fz, ea_nil, ea_cons, eo_nil, eo_cons,  evI_rng1, evI_rng, evI_zip, evI_enu, evI_cons, iterS, bd_ok, bd_er, ot_ok, gl_some, wo_some, ai_int, br_bl, List.map_cons, List.map_nil, List.cons_append, List.nil_append, List.length_cons, List.length_nil, List.getElem?_cons_zero, List.getElem?_cons_succ, List.set_cons_zero, List.set_cons_succ, cd_t, cd_f, binS_add, binS_sub, mkL_t, mkL_f, fz_lst, fz_tup, le_sz, Nat.zero_add, Nat.reduceAdd, Nat.reduceLeDiff, if_true, st_nm, st_1, st_2, st_3, st_4, wi_nil, wi_cons, upds_nil, upds_cons, ix_fq0, ix_fq1, mthS_o, attS_o, sl_l, rev_l, add_l, bi_mx, bi_mn, bi_list, rcv_app, rcv_ins, rcv_rev, isLO_lst, mt_app, appO_lst, ix_l, ix_t, ix_o, ixO_l, ixO_f, atI_0, atI_1, atI_2, atI_3, atI_4, atI_5, len_l, len_t, len_o, lenO_l, lenO_f, cd_not, cd_and, cd_or, fz_o, fzO_l, fzO_f, cmp_eqI, cmp_neI, cmp_ltI, cmp_leI, cmp_gtI, cmp_geI, bi_intB, List.length_map, List.length_range, six_o, sixO_l, jn]
        refine lp_nx ⟨rfl, (List.range (i + 1)).map fun i => 97 + bf i, ⟨by rw [List.length_map, List.length_range]; omega, by rw [List.length_map, List.length_range]; omega, fun a ha => ?_⟩, rfl⟩
        obtain ⟨r, _, rfl⟩ := List.mem_map.mp ha
        have := hbf r
        omega
      rintro l s' ⟨rfl, t, ht, rfl⟩
      try simp only [upds_nil, upds_cons, List.set_cons_zero, List.set_cons_succ]
      simp (disch := first | assumption | omega | (simp only [sizeLine_eq, List.length_map, List.length_range, List.length_append, List.length_cons, List.length_nil, List.length_set, List.length_reverse, List.length_take, List.length_drop]; omega) | (first | rfl | exact frs_fqs _ | exact frs_ints _ | exact frs_nats _ | exact frs_oqs _) | decide) only [w_sat, w_set, w_ex, w_unp, w_ret, w_retN, w_par, w_six, ev_cald, ev_new, ev_ome, ev_att, evI_rngd, ev_var, ev_con, ev_tup, ev_lst, ev_dic, ev_neg, ev_bin, ev_cmp, ev_chn, ev_isN, ev_isB, ev_and, ev_or, ev_not, ev_ite, ev_ix, ev_sl, ev_rev, ev_rev0, ev_sst, ev_sln, ev_bi, ev_isT, ev_mt, ev_call, ev_cali, ev_fz, ea_nil, ea_cons, eo_nil, eo_cons,  evI_rng1, evI_rng, evI_zip, evI_enu, evI_cons, iterS, bd_ok, bd_er, ot_ok, gl_some, wo_some, ai_int, br_bl, List.map_cons, List.map_nil, List.cons_append, List.nil_append, List.length_cons, List.length_nil, List.getElem?_cons_zero, List.getElem?_cons_succ, List.set_cons_zero, List.set_cons_succ, cd_t, cd_f, binS_add, binS_sub, mkL_t, mkL_f, fz_lst, fz_tup, le_sz, Nat.zero_add, Nat.reduceAdd, Nat.reduceLeDiff, if_true, st_nm, st_1, st_2, st_3, st_4, wi_nil, wi_cons, upds_nil, upds_cons, ix_fq0, ix_fq1, mthS_o, attS_o, sl_l, rev_l, add_l, bi_mx, bi_mn, bi_list, rcv_app, rcv_ins, rcv_rev, isLO_lst, mt_app, appO_lst, ix_l, ix_t, ix_o, ixO_l, ixO_f, atI_0, atI_1, atI_2, atI_3, atI_4, atI_5, len_l, len_t, len_o, lenO_l, lenO_f, cd_not, cd_and, cd_or, fz_o, fzO_l, fzO_f, cmp_eqI, cmp_neI, cmp_ltI, cmp_leI, cmp_gtI, cmp_geI, bi_intB, List.length_map, List.length_range, six_o, sixO_l, appO_lst (show (ns.map Dt.str).length < sizeLine by rw [List.length_map, sizeLine_eq]; omega)]
      refine lp_nx ⟨ns ++ [mkS t], _, _, _, ⟨by rw [List.length_append, hnl]; rfl, fun x hx => ?_⟩, by rw [List.map_append]; rfl, rfl⟩
      rcases List.mem_append.mp hx with z | z
      · exact hns x z
      · rw [List.mem_singleton.mp z]
        exact ⟨t, rfl, ht.1, by have := ht.2.1; omega, ht.2.2⟩
  · rintro l s' ⟨ns, s5, s8, s9, ⟨hnl, hns⟩, rfl, rfl⟩
    try simp only [upds_nil, upds_cons, List.set_cons_zero, List.set_cons_succ]
    simp (disch := first | assumption | omega | (simp only [sizeLine_eq, List.length_map, List.length_range, List.length_append, List.length_cons, List.length_nil, List.length_set, List.length_reverse, List.length_take, List.length_drop]; omega) | (first | rfl | exact frs_fqs _ | exact frs_ints _ | exact frs_nats _ | exact frs_oqs _) | decide) only [w_sat, w_set, w_ex, w_unp, w_ret, w_retN, w_par, w_six, ev_cald, ev_new, ev_ome, ev_att, evI_rngd, ev_var, ev_con, ev_tup, ev_lst, ev_dic, ev_neg, ev_bin, ev_cmp, ev_chn, ev_isN, ev_isB, ev_and, ev_or, ev_not, ev_ite, ev_ix, ev_sl, ev_rev, ev_rev0, ev_sst, ev_sln, ev_bi, ev_isT, ev_mt, ev_call, ev_cali, ev_fz, ea_nil, ea_cons, eo_nil, eo_cons,  evI_rng1, evI_rng, evI_zip, evI_enu, evI_cons, iterS, bd_ok, bd_er, ot_ok, gl_some, wo_some, ai_int, br_bl, List.map_cons, List.map_nil, List.cons_append, List.nil_append, List.length_cons, List.length_nil, List.getElem?_cons_zero, List.getElem?_cons_succ, List.set_cons_zero, List.set_cons_succ, cd_t, cd_f, binS_add, binS_sub, mkL_t, mkL_f, fz_lst, fz_tup, le_sz, Nat.zero_add, Nat.reduceAdd, Nat.reduceLeDiff, if_true, st_nm, st_1, st_2, st_3, st_4, wi_nil, wi_cons, upds_nil, upds_cons, ix_fq0, ix_fq1, mthS_o, attS_o, sl_l, rev_l, add_l, bi_mx, bi_mn, bi_list, rcv_app, rcv_ins, rcv_rev, isLO_lst, mt_app, appO_lst, ix_l, ix_t, ix_o, ixO_l, ixO_f, atI_0, atI_1, atI_2, atI_3, atI_4, atI_5, len_l, len_t, len_o, lenO_l, lenO_f, cd_not, cd_and, cd_or, fz_o, fzO_l, fzO_f, cmp_eqI, cmp_neI, cmp_ltI, cmp_leI, cmp_gtI, cmp_geI, bi_intB, List.length_map, List.length_range, six_o, sixO_l]
    exact fin_obj rfl (frs_strs ns) ⟨ns, rfl, hnl, hns⟩
/-! ### _law_mark -/
theorem cp__law_mark {k : Nat} (hk : 2 ≤ k) (x most : Int) (hm : 0 ≤ most) : ∃ m : Int, 0 ≤ m ∧ m ≤ most ∧ ∀ s, callP (runF Pp k) f__law_mark [.int x, .int most] s = .ok (.int m) s := by
  suffices key : ∃ e, (∀ s, callP (runF Pp k) f__law_mark [.int x, .int most] s = .ok e s) ∧ ∃ m : Int, e = .int m ∧ 0 ≤ m ∧ m ≤ most from by
    obtain ⟨e, h1, m, rfl, h2⟩ := key
    exact ⟨m, h2.1, h2.2, h1⟩
  refine cx__law_mark (Z := fun e => ∃ m : Int, e = .int m ∧ 0 ≤ m ∧ m ≤ most) (by omega) rfl fun j hj => ?_
  unfold b__law_mark
  have h1 := Int.emod_nonneg (x / 3) (show most + 1 ≠ 0 by omega)
  have h2 := Int.emod_lt_of_pos (x / 3) (show 0 < most + 1 by omega)
  obtain ⟨r, hr, er⟩ : ∃ r : Nat, r < 3 ∧ x % 3 = (r : Int) := ⟨(x % 3).toNat, by omega, by omega⟩
  obtain ⟨v, hv, ev⟩ : ∃ v : Int, (v = 0 ∨ v = most ∨ v = x / 3 % (most + 1)) ∧ ∀ s, withO (atI [Dt.int 0, Dt.int most, Dt.int (x / 3 % (most + 1))] (r : Nat)) Ip.R.no (fun d => Ip.R.ok d s) = .ok (.int v) s := by
    obtain rfl | rfl | rfl : r = 0 ∨ r = 1 ∨ r = 2 := by omega
    · exact ⟨_, .inl rfl, fun _ => rfl⟩
    · exact ⟨_, .inr (.inl rfl), fun _ => rfl⟩
    · exact ⟨_, .inr (.inr rfl), fun _ => rfl⟩
  simp (disch := first | assumption | omega | (simp only [sizeLine_eq, List.length_map, List.length_range, List.length_append, List.length_cons, List.length_nil, List.length_set, List.length_reverse, List.length_take, List.length_drop]; omega) | (first | rfl | exact frs_fqs _ | exact frs_ints _ | exact frs_nats _ | exact frs_oqs _) | decide) only [w_sat, w_set, w_ex, w_unp, w_ret, w_retN, w_par, w_six, ev_cald, ev_new, ev_ome, ev_att, evI_rngd, ev_var, ev_con, ev_tup, ev_lst, ev_dic, ev_neg, ev_bin, ev_cmp, ev_chn, ev_isN, ev_isB, ev_and, ev_or, ev_not, ev_ite, ev_ix, ev_sl, ev_rev, ev_rev0, ev_sst, ev_sln, ev_bi, ev_isT, ev_mt, ev_call, ev_cali, ev_fz, ea_nil, ea_cons, eo_nil, eo_cons,  evI_rng1, evI_rng, evI_zip, evI_enu, evI_cons, iterS, bd_ok, bd_er, ot_ok, gl_some, wo_some, ai_int, br_bl, List.map_cons, List.map_nil, List.cons_append, List.nil_append, List.length_cons, List.length_nil, List.getElem?_cons_zero, List.getElem?_cons_succ, List.set_cons_zero, List.set_cons_succ, cd_t, cd_f, binS_add, binS_sub, mkL_t, mkL_f, fz_lst, fz_tup, le_sz, Nat.zero_add, Nat.reduceAdd, Nat.reduceLeDiff, if_true, st_nm, st_1, st_2, st_3, st_4, wi_nil, wi_cons, upds_nil, upds_cons, ix_fq0, ix_fq1, mthS_o, attS_o, sl_l, rev_l, add_l, bi_mx, bi_mn, bi_list, rcv_app, rcv_ins, rcv_rev, isLO_lst, mt_app, appO_lst, ix_l, ix_t, ix_o, ixO_l, ixO_f, atI_0, atI_1, atI_2, atI_3, atI_4, atI_5, len_l, len_t, len_o, lenO_l, lenO_f, cd_not, cd_and, cd_or, fz_o, fzO_l, fzO_f, cmp_eqI, cmp_neI, cmp_ltI, cmp_leI, cmp_gtI, cmp_geI, bi_intB, List.length_map, List.length_range, six_o, sixO_l, binS_divP (show (0 : Int) < 3 by decide) (by decide), binS_modP (show (0 : Int) < most + 1 by omega), binS_modP (show (0 : Int) < 3 by decide), er, ev]
  exact fin_fr rfl ⟨v, rfl, by omega, by omega⟩
/-! ### Book.rows -/
/-- no two marks of one hand for one work -/
def ENd (es : List Ip.Row) : Prop := (es.map fun r => (r.1, r.2.1)).Nodup
theorem at_mem : ∀ {es : List Ip.Row}, ENd es → ∀ {e : Ip.Row}, e ∈ es → atE es e.1 e.2.1 = some e
  | [], _, _, h => by cases h
  | a :: es, hn, e, h => by
    unfold ENd at hn
    rw [List.map_cons] at hn
    obtain ⟨h1, h2⟩ := List.nodup_cons.mp hn
    unfold atE
    rcases List.mem_cons.mp h with rfl | h
    · rw [List.find?_cons, decide_eq_true (show e.1 = e.1 ∧ e.2.1 = e.2.1 from ⟨rfl, rfl⟩)]
    · have ne : ¬ (a.1 = e.1 ∧ a.2.1 = e.2.1) := fun z => h1 (List.mem_map.mpr ⟨e, h, by rw [z.1, z.2]⟩)
      rw [List.find?_cons, decide_eq_false ne]
      exact at_mem h2 h
theorem rn_Book_rows {k : Nat} (hk : 2 ≤ k) {es : List Ip.Row} (hn : ENd es) (hl : es.length ≤ 1000) {most : Int} {b d : Nat} {s : Sto} (hb : s[b]? = some (bkI most d)) (hd : s[d]? = some (.dT (es.map tE))) : runF Pp k f_Book_rows [.obj b] s = .ok (.obj s.length) (s ++ [.lst ((srtR es).map rowD)]) := by
  refine rq_Book_rows (k := k) (Q := fun o => o = .ok (.obj s.length) (s ++ [.lst ((srtR es).map rowD)])) (by omega) fun j hj => ?_
  unfold b_Book_rows
  rw [w_ret, lcM (xs := srtR es) (f := keyD) (g := rowD) (by simp (disch := first | assumption | omega | (simp only [sizeLine_eq, List.length_map, List.length_range, List.length_append, List.length_cons, List.length_nil, List.length_set, List.length_reverse, List.length_take, List.length_drop]; omega) | (first | rfl | exact frs_fqs _ | exact frs_ints _ | exact frs_nats _ | exact frs_oqs _) | decide) only [ev_cald, ev_new, ev_ome, ev_att, evI_rngd, ev_var, ev_con, ev_tup, ev_lst, ev_dic, ev_neg, ev_bin, ev_cmp, ev_chn, ev_isN, ev_isB, ev_and, ev_or, ev_not, ev_ite, ev_ix, ev_sl, ev_rev, ev_rev0, ev_sst, ev_sln, ev_bi, ev_isT, ev_mt, ev_call, ev_cali, ev_fz, ea_nil, ea_cons, eo_nil, eo_cons,  evI_rng1, evI_rng, evI_zip, evI_enu, evI_cons, iterS, bd_ok, bd_er, ot_ok, gl_some, wo_some, ai_int, br_bl, List.map_cons, List.map_nil, List.cons_append, List.nil_append, List.length_cons, List.length_nil, List.getElem?_cons_zero, List.getElem?_cons_succ, List.set_cons_zero, List.set_cons_succ, cd_t, cd_f, binS_add, binS_sub, mkL_t, mkL_f, fz_lst, fz_tup, le_sz, Nat.zero_add, Nat.reduceAdd, Nat.reduceLeDiff, if_true, st_nm, st_1, st_2, st_3, st_4, wi_nil, wi_cons, upds_nil, upds_cons, ix_fq0, ix_fq1, mthS_o, attS_o, sl_l, rev_l, add_l, bi_mx, bi_mn, bi_list, rcv_app, rcv_ins, rcv_rev, isLO_lst, mt_app, appO_lst, ix_l, ix_t, ix_o, ixO_l, ixO_f, atI_0, atI_1, atI_2, atI_3, atI_4, atI_5, len_l, len_t, len_o, lenO_l, lenO_f, cd_not, cd_and, cd_or, fz_o, fzO_l, fzO_f, cmp_eqI, cmp_neI, cmp_ltI, cmp_leI, cmp_gtI, cmp_geI, bi_intB, List.length_map, List.length_range, six_o, sixO_l, hb, at_marks, srt_T hd] <;> rfl) (by rw [(srtR_perm es).length_eq]; omega) (fun e he => by
    have hm : e ∈ es := (srtR_perm es).mem_iff.mp he
    have hk2 : lookK (es.map tE) (pk e.1 e.2.1) = some (.int e.2.2) := by rw [look_tE, at_mem hn hm]; rfl
    have hx := ix_T hd hk2
    have hx2 : ixO s[d]? d (.tup [.str e.1, .str e.2.1]) s = .ok (.int e.2.2) s := (ix_o d _ s).symm.trans hx
    simp (disch := first | assumption | omega | (simp only [sizeLine_eq, List.length_map, List.length_range, List.length_append, List.length_cons, List.length_nil, List.length_set, List.length_reverse, List.length_take, List.length_drop]; omega) | (first | rfl | exact frs_fqs _ | exact frs_ints _ | exact frs_nats _ | exact frs_oqs _) | decide) only [ev_cald, ev_new, ev_ome, ev_att, evI_rngd, ev_var, ev_con, ev_tup, ev_lst, ev_dic, ev_neg, ev_bin, ev_cmp, ev_chn, ev_isN, ev_isB, ev_and, ev_or, ev_not, ev_ite, ev_ix, ev_sl, ev_rev, ev_rev0, ev_sst, ev_sln, ev_bi, ev_isT, ev_mt, ev_call, ev_cali, ev_fz, ea_nil, ea_cons, eo_nil, eo_cons,  evI_rng1, evI_rng, evI_zip, evI_enu, evI_cons, iterS, bd_ok, bd_er, ot_ok, gl_some, wo_some, ai_int, br_bl, List.map_cons, List.map_nil, List.cons_append, List.nil_append, List.length_cons, List.length_nil, List.getElem?_cons_zero, List.getElem?_cons_succ, List.set_cons_zero, List.set_cons_succ, cd_t, cd_f, binS_add, binS_sub, mkL_t, mkL_f, fz_lst, fz_tup, le_sz, Nat.zero_add, Nat.reduceAdd, Nat.reduceLeDiff, if_true, st_nm, st_1, st_2, st_3, st_4, wi_nil, wi_cons, upds_nil, upds_cons, ix_fq0, ix_fq1, mthS_o, attS_o, sl_l, rev_l, add_l, bi_mx, bi_mn, bi_list, rcv_app, rcv_ins, rcv_rev, isLO_lst, mt_app, appO_lst, ix_l, ix_t, ix_o, ixO_l, ixO_f, atI_0, atI_1, atI_2, atI_3, atI_4, atI_5, len_l, len_t, len_o, lenO_l, lenO_f, cd_not, cd_and, cd_or, fz_o, fzO_l, fzO_f, cmp_eqI, cmp_neI, cmp_ltI, cmp_leI, cmp_gtI, cmp_geI, bi_intB, List.length_map, List.length_range, six_o, sixO_l, keyD, hb, at_marks, hx2]
    rfl)]
  simp (disch := first | assumption | omega | (simp only [sizeLine_eq, List.length_map, List.length_range, List.length_append, List.length_cons, List.length_nil, List.length_set, List.length_reverse, List.length_take, List.length_drop]; omega) | (first | rfl | exact frs_fqs _ | exact frs_ints _ | exact frs_nats _ | exact frs_oqs _) | decide) only [w_sat, w_set, w_ex, w_unp, w_ret, w_retN, w_par, w_six, ev_cald, ev_new, ev_ome, ev_att, evI_rngd, ev_var, ev_con, ev_tup, ev_lst, ev_dic, ev_neg, ev_bin, ev_cmp, ev_chn, ev_isN, ev_isB, ev_and, ev_or, ev_not, ev_ite, ev_ix, ev_sl, ev_rev, ev_rev0, ev_sst, ev_sln, ev_bi, ev_isT, ev_mt, ev_call, ev_cali, ev_fz, ea_nil, ea_cons, eo_nil, eo_cons,  evI_rng1, evI_rng, evI_zip, evI_enu, evI_cons, iterS, bd_ok, bd_er, ot_ok, gl_some, wo_some, ai_int, br_bl, List.map_cons, List.map_nil, List.cons_append, List.nil_append, List.length_cons, List.length_nil, List.getElem?_cons_zero, List.getElem?_cons_succ, List.set_cons_zero, List.set_cons_succ, cd_t, cd_f, binS_add, binS_sub, mkL_t, mkL_f, fz_lst, fz_tup, le_sz, Nat.zero_add, Nat.reduceAdd, Nat.reduceLeDiff, if_true, st_nm, st_1, st_2, st_3, st_4, wi_nil, wi_cons, upds_nil, upds_cons, ix_fq0, ix_fq1, mthS_o, attS_o, sl_l, rev_l, add_l, bi_mx, bi_mn, bi_list, rcv_app, rcv_ins, rcv_rev, isLO_lst, mt_app, appO_lst, ix_l, ix_t, ix_o, ixO_l, ixO_f, atI_0, atI_1, atI_2, atI_3, atI_4, atI_5, len_l, len_t, len_o, lenO_l, lenO_f, cd_not, cd_and, cd_or, fz_o, fzO_l, fzO_f, cmp_eqI, cmp_neI, cmp_ltI, cmp_leI, cmp_gtI, cmp_geI, bi_intB, List.length_map, List.length_range, six_o, sixO_l]
  exact ⟨rfl⟩
/-! ### Book.works -/
theorem rn_Book_works {k : Nat} (hk : 2 ≤ k) {es : List Ip.Row} (hl : es.length ≤ 1000) {most : Int} {b d : Nat} (hbd : b ≠ d) {s : Sto} (hb : s[b]? = some (bkI most d)) (hd : s[d]? = some (.dT (es.map tE))) : runF Pp k f_Book_works [.obj b] s = .ok (.obj s.length) (s ++ [.lst ((cG (es.map (·.1))).map Dt.str)]) := by
  refine rq_Book_works (k := k) (Q := fun o => o = .ok (.obj s.length) (s ++ [.lst ((cG (es.map (·.1))).map Dt.str)])) (by omega) fun j hj => ?_
  unfold b_Book_works
  have hdl : d < s.length := (List.getElem?_eq_some_iff.mp hd).1
  have hb2 : (s.set d (.lk (.dT (es.map tE))))[b]? = some (bkI most d) := by rw [List.getElem?_set_ne (Ne.symm hbd)]; exact hb
  have hd2 : (s.set d (.lk (.dT (es.map tE))))[d]? = some (.lk (.dT (es.map tE))) := List.getElem?_set_self hdl
  have back : (s.set d (.lk (.dT (es.map tE)))).set d (.dT (es.map tE)) = s := by
    rw [List.set_set]
    exact List.ext_getElem? fun i => by
      by_cases z : d = i
      · subst z
        rw [List.getElem?_set_self hdl, hd]
      · rw [List.getElem?_set_ne z]
  rw [w_ret, ev_sst, ev_lkd (n := d) (ob := .dT (es.map tE)) (d := .lst ((es.map (·.1)).map Dt.str)) (s1 := s.set d (.lk (.dT (es.map tE)))) (by
    show (match attS Pp 7 (.obj b) s with | .ok (.obj n) _ => some n | _ => none) = _
    rw [attS_o, hb, at_marks]) (by rw [hd]; rfl) (by
    rw [lc_genX (jt := .lv d (.lk (.dT (es.map tE))) (es.map keyD)) (xs := es) (f := keyD) (g := fun e => Dt.str e.1) (p := fun _ => true) (s1 := s.set d (.lk (.dT (es.map tE)))) (by
      rw [evI_cons, ev_att, ev_var]
      simp only [List.getElem?_cons_zero, gl_some, bd_ok, attS_o, hb2]
      rw [at_marks]
      show iterS (.obj d) _ = _
      rw [it_lkT hd2, keys_tE]) rfl hd2 (by omega) (fun e he => ⟨[some (.obj b), some (.str e.1), some (.str e.2.1)], rfl, by simp (disch := first | assumption | omega | (simp only [sizeLine_eq, List.length_map, List.length_range, List.length_append, List.length_cons, List.length_nil, List.length_set, List.length_reverse, List.length_take, List.length_drop]; omega) | (first | rfl | exact frs_fqs _ | exact frs_ints _ | exact frs_nats _ | exact frs_oqs _) | decide) only [ev_cald, ev_new, ev_ome, ev_att, evI_rngd, ev_var, ev_con, ev_tup, ev_lst, ev_dic, ev_neg, ev_bin, ev_cmp, ev_chn, ev_isN, ev_isB, ev_and, ev_or, ev_not, ev_ite, ev_ix, ev_sl, ev_rev, ev_rev0, ev_sst, ev_sln, ev_bi, ev_isT, ev_mt, ev_call, ev_cali, ev_fz, ea_nil, ea_cons, eo_nil, eo_cons,  evI_rng1, evI_rng, evI_zip, evI_enu, evI_cons, iterS, bd_ok, bd_er, ot_ok, gl_some, wo_some, ai_int, br_bl, List.map_cons, List.map_nil, List.cons_append, List.nil_append, List.length_cons, List.length_nil, List.getElem?_cons_zero, List.getElem?_cons_succ, List.set_cons_zero, List.set_cons_succ, cd_t, cd_f, binS_add, binS_sub, mkL_t, mkL_f, fz_lst, fz_tup, le_sz, Nat.zero_add, Nat.reduceAdd, Nat.reduceLeDiff, if_true, st_nm, st_1, st_2, st_3, st_4, wi_nil, wi_cons, upds_nil, upds_cons, ix_fq0, ix_fq1, mthS_o, attS_o, sl_l, rev_l, add_l, bi_mx, bi_mn, bi_list, rcv_app, rcv_ins, rcv_rev, isLO_lst, mt_app, appO_lst, ix_l, ix_t, ix_o, ixO_l, ixO_f, atI_0, atI_1, atI_2, atI_3, atI_4, atI_5, len_l, len_t, len_o, lenO_l, lenO_f, cd_not, cd_and, cd_or, fz_o, fzO_l, fzO_f, cmp_eqI, cmp_neI, cmp_ltI, cmp_leI, cmp_gtI, cmp_geI, bi_intB, List.length_map, List.length_range, six_o, sixO_l], fun _ => by simp (disch := first | assumption | omega | (simp only [sizeLine_eq, List.length_map, List.length_range, List.length_append, List.length_cons, List.length_nil, List.length_set, List.length_reverse, List.length_take, List.length_drop]; omega) | (first | rfl | exact frs_fqs _ | exact frs_ints _ | exact frs_nats _ | exact frs_oqs _) | decide) only [ev_cald, ev_new, ev_ome, ev_att, evI_rngd, ev_var, ev_con, ev_tup, ev_lst, ev_dic, ev_neg, ev_bin, ev_cmp, ev_chn, ev_isN, ev_isB, ev_and, ev_or, ev_not, ev_ite, ev_ix, ev_sl, ev_rev, ev_rev0, ev_sst, ev_sln, ev_bi, ev_isT, ev_mt, ev_call, ev_cali, ev_fz, ea_nil, ea_cons, eo_nil, eo_cons,  evI_rng1, evI_rng, evI_zip, evI_enu, evI_cons, iterS, bd_ok, bd_er, ot_ok, gl_some, wo_some, ai_int, br_bl, List.map_cons, List.map_nil, List.cons_append, List.nil_append, List.length_cons, List.length_nil, List.getElem?_cons_zero, List.getElem?_cons_succ, List.set_cons_zero, List.set_cons_succ, cd_t, cd_f, binS_add, binS_sub, mkL_t, mkL_f, fz_lst, fz_tup, le_sz, Nat.zero_add, Nat.reduceAdd, Nat.reduceLeDiff, if_true, st_nm, st_1, st_2, st_3, st_4, wi_nil, wi_cons, upds_nil, upds_cons, ix_fq0, ix_fq1, mthS_o, attS_o, sl_l, rev_l, add_l, bi_mx, bi_mn, bi_list, rcv_app, rcv_ins, rcv_rev, isLO_lst, mt_app, appO_lst, ix_l, ix_t, ix_o, ixO_l, ixO_f, atI_0, atI_1, atI_2, atI_3, atI_4, atI_5, len_l, len_t, len_o, lenO_l, lenO_f, cd_not, cd_and, cd_or, fz_o, fzO_l, fzO_f, cmp_eqI, cmp_neI, cmp_ltI, cmp_leI, cmp_gtI, cmp_geI, bi_intB, List.length_map, List.length_range, six_o, sixO_l]⟩), show es.filter (fun _ => true) = es from List.filter_eq_self.mpr (fun _ _ => rfl), List.map_map]
    rfl) hd2, back]
  have e := sst_ss (l := es.map (·.1)) (by rw [List.length_map]; omega) true s
  unfold dSs at e
  simp (disch := first | assumption | omega | (simp only [sizeLine_eq, List.length_map, List.length_range, List.length_append, List.length_cons, List.length_nil, List.length_set, List.length_reverse, List.length_take, List.length_drop]; omega) | (first | rfl | exact frs_fqs _ | exact frs_ints _ | exact frs_nats _ | exact frs_oqs _) | decide) only [w_sat, w_set, w_ex, w_unp, w_ret, w_retN, w_par, w_six, ev_cald, ev_new, ev_ome, ev_att, evI_rngd, ev_var, ev_con, ev_tup, ev_lst, ev_dic, ev_neg, ev_bin, ev_cmp, ev_chn, ev_isN, ev_isB, ev_and, ev_or, ev_not, ev_ite, ev_ix, ev_sl, ev_rev, ev_rev0, ev_sst, ev_sln, ev_bi, ev_isT, ev_mt, ev_call, ev_cali, ev_fz, ea_nil, ea_cons, eo_nil, eo_cons,  evI_rng1, evI_rng, evI_zip, evI_enu, evI_cons, iterS, bd_ok, bd_er, ot_ok, gl_some, wo_some, ai_int, br_bl, List.map_cons, List.map_nil, List.cons_append, List.nil_append, List.length_cons, List.length_nil, List.getElem?_cons_zero, List.getElem?_cons_succ, List.set_cons_zero, List.set_cons_succ, cd_t, cd_f, binS_add, binS_sub, mkL_t, mkL_f, fz_lst, fz_tup, le_sz, Nat.zero_add, Nat.reduceAdd, Nat.reduceLeDiff, if_true, st_nm, st_1, st_2, st_3, st_4, wi_nil, wi_cons, upds_nil, upds_cons, ix_fq0, ix_fq1, mthS_o, attS_o, sl_l, rev_l, add_l, bi_mx, bi_mn, bi_list, rcv_app, rcv_ins, rcv_rev, isLO_lst, mt_app, appO_lst, ix_l, ix_t, ix_o, ixO_l, ixO_f, atI_0, atI_1, atI_2, atI_3, atI_4, atI_5, len_l, len_t, len_o, lenO_l, lenO_f, cd_not, cd_and, cd_or, fz_o, fzO_l, fzO_f, cmp_eqI, cmp_neI, cmp_ltI, cmp_leI, cmp_gtI, cmp_geI, bi_intB, List.length_map, List.length_range, six_o, sixO_l, e]
  exact ⟨rfl⟩
/-! ### Book.hands -/
theorem rn_Book_hands {k : Nat} (hk : 2 ≤ k) {es : List Ip.Row} (hl : es.length ≤ 1000) {most : Int} {b d : Nat} (hbd : b ≠ d) {s : Sto} (hb : s[b]? = some (bkI most d)) (hd : s[d]? = some (.dT (es.map tE))) : runF Pp k f_Book_hands [.obj b] s = .ok (.obj s.length) (s ++ [.lst ((cG (es.map (·.2.1))).map Dt.str)]) := by
  refine rq_Book_hands (k := k) (Q := fun o => o = .ok (.obj s.length) (s ++ [.lst ((cG (es.map (·.2.1))).map Dt.str)])) (by omega) fun j hj => ?_
  unfold b_Book_hands
  have hdl : d < s.length := (List.getElem?_eq_some_iff.mp hd).1
  have hb2 : (s.set d (.lk (.dT (es.map tE))))[b]? = some (bkI most d) := by rw [List.getElem?_set_ne (Ne.symm hbd)]; exact hb
  have hd2 : (s.set d (.lk (.dT (es.map tE))))[d]? = some (.lk (.dT (es.map tE))) := List.getElem?_set_self hdl
  have back : (s.set d (.lk (.dT (es.map tE)))).set d (.dT (es.map tE)) = s := by
    rw [List.set_set]
    exact List.ext_getElem? fun i => by
      by_cases z : d = i
      · subst z
        rw [List.getElem?_set_self hdl, hd]
      · rw [List.getElem?_set_ne z]
  rw [w_ret, ev_sst, ev_lkd (n := d) (ob := .dT (es.map tE)) (d := .lst ((es.map (·.2.1)).map Dt.str)) (s1 := s.set d (.lk (.dT (es.map tE)))) (by
    show (match attS Pp 7 (.obj b) s with | .ok (.obj n) _ => some n | _ => none) = _
    rw [attS_o, hb, at_marks]) (by rw [hd]; rfl) (by
    rw [lc_genX (jt := .lv d (.lk (.dT (es.map tE))) (es.map keyD)) (xs := es) (f := keyD) (g := fun e => Dt.str e.2.1) (p := fun _ => true) (s1 := s.set d (.lk (.dT (es.map tE)))) (by
      rw [evI_cons, ev_att, ev_var]
      simp only [List.getElem?_cons_zero, gl_some, bd_ok, attS_o, hb2]
      rw [at_marks]
      show iterS (.obj d) _ = _
      rw [it_lkT hd2, keys_tE]) rfl hd2 (by omega) (fun e he => ⟨[some (.obj b), some (.str e.1), some (.str e.2.1)], rfl, by simp (disch := first | assumption | omega | (simp only [sizeLine_eq, List.length_map, List.length_range, List.length_append, List.length_cons, List.length_nil, List.length_set, List.length_reverse, List.length_take, List.length_drop]; omega) | (first | rfl | exact frs_fqs _ | exact frs_ints _ | exact frs_nats _ | exact frs_oqs _) | decide) only [ev_cald, ev_new, ev_ome, ev_att, evI_rngd, ev_var, ev_con, ev_tup, ev_lst, ev_dic, ev_neg, ev_bin, ev_cmp, ev_chn, ev_isN, ev_isB, ev_and, ev_or, ev_not, ev_ite, ev_ix, ev_sl, ev_rev, ev_rev0, ev_sst, ev_sln, ev_bi, ev_isT, ev_mt, ev_call, ev_cali, ev_fz, ea_nil, ea_cons, eo_nil, eo_cons,  evI_rng1, evI_rng, evI_zip, evI_enu, evI_cons, iterS, bd_ok, bd_er, ot_ok, gl_some, wo_some, ai_int, br_bl, List.map_cons, List.map_nil, List.cons_append, List.nil_append, List.length_cons, List.length_nil, List.getElem?_cons_zero, List.getElem?_cons_succ, List.set_cons_zero, List.set_cons_succ, cd_t, cd_f, binS_add, binS_sub, mkL_t, mkL_f, fz_lst, fz_tup, le_sz, Nat.zero_add, Nat.reduceAdd, Nat.reduceLeDiff, if_true, st_nm, st_1, st_2, st_3, st_4, wi_nil, wi_cons, upds_nil, upds_cons, ix_fq0, ix_fq1, mthS_o, attS_o, sl_l, rev_l, add_l, bi_mx, bi_mn, bi_list, rcv_app, rcv_ins, rcv_rev, isLO_lst, mt_app, appO_lst, ix_l, ix_t, ix_o, ixO_l, ixO_f, atI_0, atI_1, atI_2, atI_3, atI_4, atI_5, len_l, len_t, len_o, lenO_l, lenO_f, cd_not, cd_and, cd_or, fz_o, fzO_l, fzO_f, cmp_eqI, cmp_neI, cmp_ltI, cmp_leI, cmp_gtI, cmp_geI, bi_intB, List.length_map, List.length_range, six_o, sixO_l], fun _ => by simp (disch := first | assumption | omega | (simp only [sizeLine_eq, List.length_map, List.length_range, List.length_append, List.length_cons, List.length_nil, List.length_set, List.length_reverse, List.length_take, List.length_drop]; omega) | (first | rfl | exact frs_fqs _ | exact frs_ints _ | exact frs_nats _ | exact frs_oqs _) | decide) only [ev_cald, ev_new, ev_ome, ev_att, evI_rngd, ev_var, ev_con, ev_tup, ev_lst, ev_dic, ev_neg, ev_bin, ev_cmp, ev_chn, ev_isN, ev_isB, ev_and, ev_or, ev_not, ev_ite, ev_ix, ev_sl, ev_rev, ev_rev0, ev_sst, ev_sln, ev_bi, ev_isT, ev_mt, ev_call, ev_cali, ev_fz, ea_nil, ea_cons, eo_nil, eo_cons,  evI_rng1, evI_rng, evI_zip, evI_enu, evI_cons, iterS, bd_ok, bd_er, ot_ok, gl_some, wo_some, ai_int, br_bl, List.map_cons, List.map_nil, List.cons_append, List.nil_append, List.length_cons, List.length_nil, List.getElem?_cons_zero, List.getElem?_cons_succ, List.set_cons_zero, List.set_cons_succ, cd_t, cd_f, binS_add, binS_sub, mkL_t, mkL_f, fz_lst, fz_tup, le_sz, Nat.zero_add, Nat.reduceAdd, Nat.reduceLeDiff, if_true, st_nm, st_1, st_2, st_3, st_4, wi_nil, wi_cons, upds_nil, upds_cons, ix_fq0, ix_fq1, mthS_o, attS_o, sl_l, rev_l, add_l, bi_mx, bi_mn, bi_list, rcv_app, rcv_ins, rcv_rev, isLO_lst, mt_app, appO_lst, ix_l, ix_t, ix_o, ixO_l, ixO_f, atI_0, atI_1, atI_2, atI_3, atI_4, atI_5, len_l, len_t, len_o, lenO_l, lenO_f, cd_not, cd_and, cd_or, fz_o, fzO_l, fzO_f, cmp_eqI, cmp_neI, cmp_ltI, cmp_leI, cmp_gtI, cmp_geI, bi_intB, List.length_map, List.length_range, six_o, sixO_l]⟩), show es.filter (fun _ => true) = es from List.filter_eq_self.mpr (fun _ _ => rfl), List.map_map]
    rfl) hd2, back]
  have e := sst_ss (l := es.map (·.2.1)) (by rw [List.length_map]; omega) true s
  unfold dSs at e
  simp (disch := first | assumption | omega | (simp only [sizeLine_eq, List.length_map, List.length_range, List.length_append, List.length_cons, List.length_nil, List.length_set, List.length_reverse, List.length_take, List.length_drop]; omega) | (first | rfl | exact frs_fqs _ | exact frs_ints _ | exact frs_nats _ | exact frs_oqs _) | decide) only [w_sat, w_set, w_ex, w_unp, w_ret, w_retN, w_par, w_six, ev_cald, ev_new, ev_ome, ev_att, evI_rngd, ev_var, ev_con, ev_tup, ev_lst, ev_dic, ev_neg, ev_bin, ev_cmp, ev_chn, ev_isN, ev_isB, ev_and, ev_or, ev_not, ev_ite, ev_ix, ev_sl, ev_rev, ev_rev0, ev_sst, ev_sln, ev_bi, ev_isT, ev_mt, ev_call, ev_cali, ev_fz, ea_nil, ea_cons, eo_nil, eo_cons,  evI_rng1, evI_rng, evI_zip, evI_enu, evI_cons, iterS, bd_ok, bd_er, ot_ok, gl_some, wo_some, ai_int, br_bl, List.map_cons, List.map_nil, List.cons_append, List.nil_append, List.length_cons, List.length_nil, List.getElem?_cons_zero, List.getElem?_cons_succ, List.set_cons_zero, List.set_cons_succ, cd_t, cd_f, binS_add, binS_sub, mkL_t, mkL_f, fz_lst, fz_tup, le_sz, Nat.zero_add, Nat.reduceAdd, Nat.reduceLeDiff, if_true, st_nm, st_1, st_2, st_3, st_4, wi_nil, wi_cons, upds_nil, upds_cons, ix_fq0, ix_fq1, mthS_o, attS_o, sl_l, rev_l, add_l, bi_mx, bi_mn, bi_list, rcv_app, rcv_ins, rcv_rev, isLO_lst, mt_app, appO_lst, ix_l, ix_t, ix_o, ixO_l, ixO_f, atI_0, atI_1, atI_2, atI_3, atI_4, atI_5, len_l, len_t, len_o, lenO_l, lenO_f, cd_not, cd_and, cd_or, fz_o, fzO_l, fzO_f, cmp_eqI, cmp_neI, cmp_ltI, cmp_leI, cmp_gtI, cmp_geI, bi_intB, List.length_map, List.length_range, six_o, sixO_l, e]
  exact ⟨rfl⟩
/-! ### _law_told -/
theorem hd_rows {rows : List Ip.Row} (h : ∀ r ∈ rows, PyData.strOk r.1 = true ∧ PyData.strOk r.2.1 = true) : Hd (.lst (rows.map rowD)) := ⟨2, by decide, hard_lst fun d hd => by
  obtain ⟨r, hr, rfl⟩ := List.mem_map.mp hd
  refine hard_tup fun d hd => ?_
  simp only [List.mem_cons, List.mem_nil_iff, or_false] at hd
  rcases hd with rfl | rfl | rfl
  · exact hard_str (h r hr).1
  · exact hard_str (h r hr).2
  · exact hard_int⟩
theorem ne_live {n : Nat} {l : List Dt} {s : Sto} (h : s[n]? = some (.lst l)) (hd : Hd (.lst l)) : cmpS .ne (.obj n) (.lst l) s = .ok (.bl false) s := by
  have hv : view s (.obj n) = .lst l := by
    unfold view
    dsimp only
    rw [h] <;> rfl
  exact cmp_neR (by rw [hv]; exact hd) (by rw [hv]; rfl)
theorem isT_live {n : Nat} {l : List Dt} {s : Sto} (h : s[n]? = some (.lst l)) : isTS .lst (.obj n) s = .ok (.bl true) s := by
  unfold isTS view
  dsimp only
  rw [h]
  rfl
def RowsOk (es : List Ip.Row) : Prop := ∀ r ∈ es, PyData.strOk r.1 = true ∧ PyData.strOk r.2.1 = true
/-- what the three words tell -/
def toldL (es : List Ip.Row) (w : Nat) : List Dt := if w = 0 then (srtR es).map rowD else if w = 1 then (cG (es.map (·.1))).map Dt.str else (cG (es.map (·.2.1))).map Dt.str
theorem toldL_hd {es : List Ip.Row} (h : RowsOk es) (w : Nat) : Hd (.lst (toldL es w)) := by
  unfold toldL
  split
  · exact hd_rows fun r hr => h r ((srtR_perm es).mem_iff.mp hr)
  · split
    · exact hd_strs fun x hx => by
        obtain ⟨r, hr, rfl⟩ := List.mem_map.mp (cG_mem.mp hx)
        exact (h r hr).1
    · exact hd_strs fun x hx => by
        obtain ⟨r, hr, rfl⟩ := List.mem_map.mp (cG_mem.mp hx)
        exact (h r hr).2
theorem cG_len (l : List Str) : (cG l).length ≤ l.length := by
  unfold cG
  rw [(List.mergeSort_perm _ _).length_eq]
  induction l with
  | nil => exact Nat.le_refl _
  | cons x r ih =>
    unfold nubS
    split
    · exact Nat.le_succ_of_le ih
    · exact Nat.succ_le_succ ih
theorem toldL_len (es : List Ip.Row) (w : Nat) : (toldL es w).length ≤ es.length := by
  unfold toldL
  split
  · rw [List.length_map, (srtR_perm es).length_eq]
    exact Nat.le_refl _
  · split
    · rw [List.length_map]
      exact Nat.le_trans (cG_len _) (by rw [List.length_map]; exact Nat.le_refl _)
    · rw [List.length_map]
      exact Nat.le_trans (cG_len _) (by rw [List.length_map]; exact Nat.le_refl _)
def wordS (w : Nat) : Str := if w = 0 then "rows" else if w = 1 then "works" else "hands"
theorem rn__law_told {k : Nat} (hk : 4 ≤ k) {es : List Ip.Row} (hn : ENd es) (hok : RowsOk es) (hl : es.length ≤ 1000) {most : Int} {b d e : Nat} (hbd : b ≠ d) {s : Sto} (hb : s[b]? = some (bkI most d)) (hd : s[d]? = some (.dT (es.map tE))) (he : s[e]? = some (.dT (es.map tE))) (t : Int) :
    ∃ (js : Sto) (n w : Nat), (s.length ≤ n ∧ (s ++ js)[n]? = some (.lst (toldL es w))) ∧ runF Pp k f__law_told [.obj b, .obj e, .int t] s = .ok (.obj n) (s ++ js) := by
  refine rq__law_told (k := k) (Q := fun o => ∃ (js : Sto) (n w : Nat), (s.length ≤ n ∧ (s ++ js)[n]? = some (.lst (toldL es w))) ∧ o = .ok (.obj n) (s ++ js)) (by omega) fun j hj => ?_
  unfold b__law_told
  simp (disch := first | assumption | omega | (simp only [sizeLine_eq, List.length_map, List.length_range, List.length_append, List.length_cons, List.length_nil, List.length_set, List.length_reverse, List.length_take, List.length_drop]; omega) | (first | rfl | exact frs_fqs _ | exact frs_ints _ | exact frs_nats _ | exact frs_oqs _) | decide) only [w_sat, w_set, w_ex, w_unp, w_ret, w_retN, w_par, w_six, ev_cald, ev_new, ev_ome, ev_att, evI_rngd, ev_var, ev_con, ev_tup, ev_lst, ev_dic, ev_neg, ev_bin, ev_cmp, ev_chn, ev_isN, ev_isB, ev_and, ev_or, ev_not, ev_ite, ev_ix, ev_sl, ev_rev, ev_rev0, ev_sst, ev_sln, ev_bi, ev_isT, ev_mt, ev_call, ev_cali, ev_fz, ea_nil, ea_cons, eo_nil, eo_cons,  evI_rng1, evI_rng, evI_zip, evI_enu, evI_cons, iterS, bd_ok, bd_er, ot_ok, gl_some, wo_some, ai_int, br_bl, List.map_cons, List.map_nil, List.cons_append, List.nil_append, List.length_cons, List.length_nil, List.getElem?_cons_zero, List.getElem?_cons_succ, List.set_cons_zero, List.set_cons_succ, cd_t, cd_f, binS_add, binS_sub, mkL_t, mkL_f, fz_lst, fz_tup, le_sz, Nat.zero_add, Nat.reduceAdd, Nat.reduceLeDiff, if_true, st_nm, st_1, st_2, st_3, st_4, wi_nil, wi_cons, upds_nil, upds_cons, ix_fq0, ix_fq1, mthS_o, attS_o, sl_l, rev_l, add_l, bi_mx, bi_mn, bi_list, rcv_app, rcv_ins, rcv_rev, isLO_lst, mt_app, appO_lst, ix_l, ix_t, ix_o, ixO_l, ixO_f, atI_0, atI_1, atI_2, atI_3, atI_4, atI_5, len_l, len_t, len_o, lenO_l, lenO_f, cd_not, cd_and, cd_or, fz_o, fzO_l, fzO_f, cmp_eqI, cmp_neI, cmp_ltI, cmp_leI, cmp_gtI, cmp_geI, bi_intB, List.length_map, List.length_range, six_o, sixO_l]
  rw [lcM (xs := srtR es) (f := keyD) (g := rowD) (by simp (disch := first | assumption | omega | (simp only [sizeLine_eq, List.length_map, List.length_range, List.length_append, List.length_cons, List.length_nil, List.length_set, List.length_reverse, List.length_take, List.length_drop]; omega) | (first | rfl | exact frs_fqs _ | exact frs_ints _ | exact frs_nats _ | exact frs_oqs _) | decide) only [ev_cald, ev_new, ev_ome, ev_att, evI_rngd, ev_var, ev_con, ev_tup, ev_lst, ev_dic, ev_neg, ev_bin, ev_cmp, ev_chn, ev_isN, ev_isB, ev_and, ev_or, ev_not, ev_ite, ev_ix, ev_sl, ev_rev, ev_rev0, ev_sst, ev_sln, ev_bi, ev_isT, ev_mt, ev_call, ev_cali, ev_fz, ea_nil, ea_cons, eo_nil, eo_cons,  evI_rng1, evI_rng, evI_zip, evI_enu, evI_cons, iterS, bd_ok, bd_er, ot_ok, gl_some, wo_some, ai_int, br_bl, List.map_cons, List.map_nil, List.cons_append, List.nil_append, List.length_cons, List.length_nil, List.getElem?_cons_zero, List.getElem?_cons_succ, List.set_cons_zero, List.set_cons_succ, cd_t, cd_f, binS_add, binS_sub, mkL_t, mkL_f, fz_lst, fz_tup, le_sz, Nat.zero_add, Nat.reduceAdd, Nat.reduceLeDiff, if_true, st_nm, st_1, st_2, st_3, st_4, wi_nil, wi_cons, upds_nil, upds_cons, ix_fq0, ix_fq1, mthS_o, attS_o, sl_l, rev_l, add_l, bi_mx, bi_mn, bi_list, rcv_app, rcv_ins, rcv_rev, isLO_lst, mt_app, appO_lst, ix_l, ix_t, ix_o, ixO_l, ixO_f, atI_0, atI_1, atI_2, atI_3, atI_4, atI_5, len_l, len_t, len_o, lenO_l, lenO_f, cd_not, cd_and, cd_or, fz_o, fzO_l, fzO_f, cmp_eqI, cmp_neI, cmp_ltI, cmp_leI, cmp_gtI, cmp_geI, bi_intB, List.length_map, List.length_range, six_o, sixO_l, srt_T he] <;> rfl) (by rw [(srtR_perm es).length_eq]; omega) (fun r hr => by
    have hm : r ∈ es := (srtR_perm es).mem_iff.mp hr
    have hk2 : lookK (es.map tE) (pk r.1 r.2.1) = some (.int r.2.2) := by rw [look_tE, at_mem hn hm]; rfl
    have hx2 : ixO s[e]? e (.tup [.str r.1, .str r.2.1]) s = .ok (.int r.2.2) s := (ix_o e _ s).symm.trans (ix_T he hk2)
    simp (disch := first | assumption | omega | (simp only [sizeLine_eq, List.length_map, List.length_range, List.length_append, List.length_cons, List.length_nil, List.length_set, List.length_reverse, List.length_take, List.length_drop]; omega) | (first | rfl | exact frs_fqs _ | exact frs_ints _ | exact frs_nats _ | exact frs_oqs _) | decide) only [ev_cald, ev_new, ev_ome, ev_att, evI_rngd, ev_var, ev_con, ev_tup, ev_lst, ev_dic, ev_neg, ev_bin, ev_cmp, ev_chn, ev_isN, ev_isB, ev_and, ev_or, ev_not, ev_ite, ev_ix, ev_sl, ev_rev, ev_rev0, ev_sst, ev_sln, ev_bi, ev_isT, ev_mt, ev_call, ev_cali, ev_fz, ea_nil, ea_cons, eo_nil, eo_cons,  evI_rng1, evI_rng, evI_zip, evI_enu, evI_cons, iterS, bd_ok, bd_er, ot_ok, gl_some, wo_some, ai_int, br_bl, List.map_cons, List.map_nil, List.cons_append, List.nil_append, List.length_cons, List.length_nil, List.getElem?_cons_zero, List.getElem?_cons_succ, List.set_cons_zero, List.set_cons_succ, cd_t, cd_f, binS_add, binS_sub, mkL_t, mkL_f, fz_lst, fz_tup, le_sz, Nat.zero_add, Nat.reduceAdd, Nat.reduceLeDiff, if_true, st_nm, st_1, st_2, st_3, st_4, wi_nil, wi_cons, upds_nil, upds_cons, ix_fq0, ix_fq1, mthS_o, attS_o, sl_l, rev_l, add_l, bi_mx, bi_mn, bi_list, rcv_app, rcv_ins, rcv_rev, isLO_lst, mt_app, appO_lst, ix_l, ix_t, ix_o, ixO_l, ixO_f, atI_0, atI_1, atI_2, atI_3, atI_4, atI_5, len_l, len_t, len_o, lenO_l, lenO_f, cd_not, cd_and, cd_or, fz_o, fzO_l, fzO_f, cmp_eqI, cmp_neI, cmp_ltI, cmp_leI, cmp_gtI, cmp_geI, bi_intB, List.length_map, List.length_range, six_o, sixO_l, keyD, hx2]
    rfl)]
  simp (disch := first | assumption | omega | (simp only [sizeLine_eq, List.length_map, List.length_range, List.length_append, List.length_cons, List.length_nil, List.length_set, List.length_reverse, List.length_take, List.length_drop]; omega) | (first | rfl | exact frs_fqs _ | exact frs_ints _ | exact frs_nats _ | exact frs_oqs _) | decide) only [w_sat, w_set, w_ex, w_unp, w_ret, w_retN, w_par, w_six, ev_cald, ev_new, ev_ome, ev_att, evI_rngd, ev_var, ev_con, ev_tup, ev_lst, ev_dic, ev_neg, ev_bin, ev_cmp, ev_chn, ev_isN, ev_isB, ev_and, ev_or, ev_not, ev_ite, ev_ix, ev_sl, ev_rev, ev_rev0, ev_sst, ev_sln, ev_bi, ev_isT, ev_mt, ev_call, ev_cali, ev_fz, ea_nil, ea_cons, eo_nil, eo_cons,  evI_rng1, evI_rng, evI_zip, evI_enu, evI_cons, iterS, bd_ok, bd_er, ot_ok, gl_some, wo_some, ai_int, br_bl, List.map_cons, List.map_nil, List.cons_append, List.nil_append, List.length_cons, List.length_nil, List.getElem?_cons_zero, List.getElem?_cons_succ, List.set_cons_zero, List.set_cons_succ, cd_t, cd_f, binS_add, binS_sub, mkL_t, mkL_f, fz_lst, fz_tup, le_sz, Nat.zero_add, Nat.reduceAdd, Nat.reduceLeDiff, if_true, st_nm, st_1, st_2, st_3, st_4, wi_nil, wi_cons, upds_nil, upds_cons, ix_fq0, ix_fq1, mthS_o, attS_o, sl_l, rev_l, add_l, bi_mx, bi_mn, bi_list, rcv_app, rcv_ins, rcv_rev, isLO_lst, mt_app, appO_lst, ix_l, ix_t, ix_o, ixO_l, ixO_f, atI_0, atI_1, atI_2, atI_3, atI_4, atI_5, len_l, len_t, len_o, lenO_l, lenO_f, cd_not, cd_and, cd_or, fz_o, fzO_l, fzO_f, cmp_eqI, cmp_neI, cmp_ltI, cmp_leI, cmp_gtI, cmp_geI, bi_intB, List.length_map, List.length_range, six_o, sixO_l, Bool.false_eq_true, if_false]
  obtain ⟨q, hq, eq⟩ : ∃ q : Nat, q < 3 ∧ t % 3 = (q : Int) := ⟨(t % 3).toNat, by omega, by omega⟩
  obtain ⟨ws, hws, e1, e2⟩ : ∃ ws : List Nat, ws ≠ [] ∧ (∀ w ∈ ws, w < 3) ∧ ([Dt.str "rows", .str "works", .str "hands"].drop q ++ [Dt.str "rows", .str "works", .str "hands"].take q) = ws.map fun w => Dt.str (wordS w) := by
    obtain rfl | rfl | rfl : q = 0 ∨ q = 1 ∨ q = 2 := by omega
    · exact ⟨[0, 1, 2], by simp, by simp, rfl⟩
    · exact ⟨[1, 2, 0], by simp, by simp, rfl⟩
    · exact ⟨[2, 0, 1], by simp, by simp, rfl⟩
  have wl : ws.length ≤ 3 := by
    have := congrArg List.length e2
    rw [List.length_map, List.length_append, List.length_drop, List.length_take] at this
    show ws.length ≤ 3
    have h3 : ([Dt.str "rows", .str "works", .str "hands"] : List Dt).length = 3 := rfl
    omega
  refine fi_forM (g := fun w => Dt.str (wordS w)) (xs := ws) (fun l0 s0 i l s' => ∃ (js : Sto) (s5 s6 s7 : Option Dt), s' = s ++ js ∧ (0 < i → ∃ (n w : Nat), s6 = some (.obj n) ∧ s.length ≤ n ∧ (s ++ js)[n]? = some (.lst (toldL es w))) ∧ l = upds l0 [(5, s5), (6, s6), (7, s7)]) (by simp (disch := first | assumption | omega | (simp only [sizeLine_eq, List.length_map, List.length_range, List.length_append, List.length_cons, List.length_nil, List.length_set, List.length_reverse, List.length_take, List.length_drop]; omega) | (first | rfl | exact frs_fqs _ | exact frs_ints _ | exact frs_nats _ | exact frs_oqs _) | decide) only [ev_cald, ev_new, ev_ome, ev_att, evI_rngd, ev_var, ev_con, ev_tup, ev_lst, ev_dic, ev_neg, ev_bin, ev_cmp, ev_chn, ev_isN, ev_isB, ev_and, ev_or, ev_not, ev_ite, ev_ix, ev_sl, ev_rev, ev_rev0, ev_sst, ev_sln, ev_bi, ev_isT, ev_mt, ev_call, ev_cali, ev_fz, ea_nil, ea_cons, eo_nil, eo_cons,  evI_rng1, evI_rng, evI_zip, evI_enu, evI_cons, iterS, bd_ok, bd_er, ot_ok, gl_some, wo_some, ai_int, br_bl, List.map_cons, List.map_nil, List.cons_append, List.nil_append, List.length_cons, List.length_nil, List.getElem?_cons_zero, List.getElem?_cons_succ, List.set_cons_zero, List.set_cons_succ, cd_t, cd_f, binS_add, binS_sub, mkL_t, mkL_f, fz_lst, fz_tup, le_sz, Nat.zero_add, Nat.reduceAdd, Nat.reduceLeDiff, if_true, st_nm, st_1, st_2, st_3, st_4, wi_nil, wi_cons, upds_nil, upds_cons, ix_fq0, ix_fq1, mthS_o, attS_o, sl_l, rev_l, add_l, bi_mx, bi_mn, bi_list, rcv_app, rcv_ins, rcv_rev, isLO_lst, mt_app, appO_lst, ix_l, ix_t, ix_o, ixO_l, ixO_f, atI_0, atI_1, atI_2, atI_3, atI_4, atI_5, len_l, len_t, len_o, lenO_l, lenO_f, cd_not, cd_and, cd_or, fz_o, fzO_l, fzO_f, cmp_eqI, cmp_neI, cmp_ltI, cmp_leI, cmp_gtI, cmp_geI, bi_intB, List.length_map, List.length_range, six_o, sixO_l, binS_modP (show (0 : Int) < 3 by decide), eq, cut_n0 (l := [Dt.str "rows", .str "works", .str "hands"]) (a := q) (by show q ≤ 3; omega), cut_0n (l := [Dt.str "rows", .str "works", .str "hands"]) (b := q) (by show q ≤ 3; omega)]; rw [e2]) ⟨[], _, _, _, (List.append_nil s).symm, fun h => absurd h (Nat.lt_irrefl 0), rfl⟩ ?_ ?_
  · rintro i hi l s' ⟨js, s5, s6, s7, rfl, h6, rfl⟩
    have hw := e1 ws[i] (List.getElem_mem hi)
    generalize ws[i] = w at *
    simp only [bodF, st_nm, st_1, st_2, st_3, st_4, wo_some, upds_nil, upds_cons, List.set_cons_zero, List.set_cons_succ]
    have gb : ∀ x : Sto, (s ++ x)[b]? = some (bkI most d) := fun x => by rw [List.getElem?_append_left (List.getElem?_eq_some_iff.mp hb).1]; exact hb
    have gd : ∀ x : Sto, (s ++ x)[d]? = some (.dT (es.map tE)) := fun x => by rw [List.getElem?_append_left (List.getElem?_eq_some_iff.mp hd).1]; exact hd
    have r0 := rn_Book_rows (k := j + 1) (by omega) hn hl (gb js) (gd js)
    have r1 := rn_Book_works (k := j + 1) (by omega) hl hbd (gb js) (gd js)
    have r2 := rn_Book_hands (k := j + 1) (by omega) hl hbd (gb js) (gd js)
    have glast : ∀ x : List Dt, (s ++ js ++ [Ob.lst x])[(s ++ js).length]? = some (.lst x) := fun x => by rw [List.getElem?_append_right (Nat.le_refl _), Nat.sub_self]; rfl
    have m1 : mthO Pp 12 (some (bkI most d)) = some f_Book_rows := rfl
    have m2 : mthO Pp 13 (some (bkI most d)) = some f_Book_works := rfl
    have m3 : mthO Pp 10 (some (bkI most d)) = some f_Book_hands := rfl
    have k1 : ∀ s, cmpS .eq (.str (wordS w)) (.str "rows") s = .ok (.bl (decide (w = 0))) s := fun s => by
      rw [cmp_eqS (by unfold wordS; split <;> first | decide +kernel | (split <;> decide +kernel)) (by decide +kernel)]
      congr 2
      obtain rfl | rfl | rfl : w = 0 ∨ w = 1 ∨ w = 2 := by omega
      all_goals decide +kernel
    have k2 : ∀ s, cmpS .eq (.str (wordS w)) (.str "works") s = .ok (.bl (decide (w = 1))) s := fun s => by
      rw [cmp_eqS (by unfold wordS; split <;> first | decide +kernel | (split <;> decide +kernel)) (by decide +kernel)]
      congr 2
      obtain rfl | rfl | rfl : w = 0 ∨ w = 1 ∨ w = 2 := by omega
      all_goals decide +kernel
    have cw : ∀ s, sstS false (.lst ((srtR es).map fun r => Dt.str r.1)) s = .ok (.lst ((cG (es.map (·.1))).map Dt.str)) s := fun s => by
      have := sst_ss (l := (srtR es).map (·.1)) (by rw [List.length_map, (srtR_perm es).length_eq]; omega) false s
      rw [cG_eq (b := es.map (·.1)) (fun x => ((srtR_perm es).map _).mem_iff)] at this
      unfold dSs at this
      rw [List.map_map] at this
      exact this
    have ch : ∀ s, sstS false (.lst ((srtR es).map fun r => Dt.str r.2.1)) s = .ok (.lst ((cG (es.map (·.2.1))).map Dt.str)) s := fun s => by
      have := sst_ss (l := (srtR es).map (·.2.1)) (by rw [List.length_map, (srtR_perm es).length_eq]; omega) false s
      rw [cG_eq (b := es.map (·.2.1)) (fun x => ((srtR_perm es).map _).mem_iff)] at this
      unfold dSs at this
      rw [List.map_map] at this
      exact this
    refine fi_ifL (k := decide (w = 0)) (s1 := s ++ js) (fun l0 s0 l s' => s' = s ++ js ++ [.lst (toldL es w)] ∧ l = upds l0 [(6, some (.obj (s ++ js).length)), (7, some (.lst (toldL es w)))]) (by simp (disch := first | assumption | omega | (simp only [sizeLine_eq, List.length_map, List.length_range, List.length_append, List.length_cons, List.length_nil, List.length_set, List.length_reverse, List.length_take, List.length_drop]; omega) | (first | rfl | exact frs_fqs _ | exact frs_ints _ | exact frs_nats _ | exact frs_oqs _) | decide) only [ev_cald, ev_new, ev_ome, ev_att, evI_rngd, ev_var, ev_con, ev_tup, ev_lst, ev_dic, ev_neg, ev_bin, ev_cmp, ev_chn, ev_isN, ev_isB, ev_and, ev_or, ev_not, ev_ite, ev_ix, ev_sl, ev_rev, ev_rev0, ev_sst, ev_sln, ev_bi, ev_isT, ev_mt, ev_call, ev_cali, ev_fz, ea_nil, ea_cons, eo_nil, eo_cons,  evI_rng1, evI_rng, evI_zip, evI_enu, evI_cons, iterS, bd_ok, bd_er, ot_ok, gl_some, wo_some, ai_int, br_bl, List.map_cons, List.map_nil, List.cons_append, List.nil_append, List.length_cons, List.length_nil, List.getElem?_cons_zero, List.getElem?_cons_succ, List.set_cons_zero, List.set_cons_succ, cd_t, cd_f, binS_add, binS_sub, mkL_t, mkL_f, fz_lst, fz_tup, le_sz, Nat.zero_add, Nat.reduceAdd, Nat.reduceLeDiff, if_true, st_nm, st_1, st_2, st_3, st_4, wi_nil, wi_cons, upds_nil, upds_cons, ix_fq0, ix_fq1, mthS_o, attS_o, sl_l, rev_l, add_l, bi_mx, bi_mn, bi_list, rcv_app, rcv_ins, rcv_rev, isLO_lst, mt_app, appO_lst, ix_l, ix_t, ix_o, ixO_l, ixO_f, atI_0, atI_1, atI_2, atI_3, atI_4, atI_5, len_l, len_t, len_o, lenO_l, lenO_f, cd_not, cd_and, cd_or, fz_o, fzO_l, fzO_f, cmp_eqI, cmp_neI, cmp_ltI, cmp_leI, cmp_gtI, cmp_geI, bi_intB, List.length_map, List.length_range, six_o, sixO_l, k1]) (fun z => ?_) (fun z => ?_) ?_
    · obtain rfl := of_decide_eq_true z
      simp (disch := first | assumption | omega | (simp only [sizeLine_eq, List.length_map, List.length_range, List.length_append, List.length_cons, List.length_nil, List.length_set, List.length_reverse, List.length_take, List.length_drop]; omega) | (first | rfl | exact frs_fqs _ | exact frs_ints _ | exact frs_nats _ | exact frs_oqs _) | decide) only [w_sat, w_set, w_ex, w_unp, w_ret, w_retN, w_par, w_six, ev_cald, ev_new, ev_ome, ev_att, evI_rngd, ev_var, ev_con, ev_tup, ev_lst, ev_dic, ev_neg, ev_bin, ev_cmp, ev_chn, ev_isN, ev_isB, ev_and, ev_or, ev_not, ev_ite, ev_ix, ev_sl, ev_rev, ev_rev0, ev_sst, ev_sln, ev_bi, ev_isT, ev_mt, ev_call, ev_cali, ev_fz, ea_nil, ea_cons, eo_nil, eo_cons,  evI_rng1, evI_rng, evI_zip, evI_enu, evI_cons, iterS, bd_ok, bd_er, ot_ok, gl_some, wo_some, ai_int, br_bl, List.map_cons, List.map_nil, List.cons_append, List.nil_append, List.length_cons, List.length_nil, List.getElem?_cons_zero, List.getElem?_cons_succ, List.set_cons_zero, List.set_cons_succ, cd_t, cd_f, binS_add, binS_sub, mkL_t, mkL_f, fz_lst, fz_tup, le_sz, Nat.zero_add, Nat.reduceAdd, Nat.reduceLeDiff, if_true, st_nm, st_1, st_2, st_3, st_4, wi_nil, wi_cons, upds_nil, upds_cons, ix_fq0, ix_fq1, mthS_o, attS_o, sl_l, rev_l, add_l, bi_mx, bi_mn, bi_list, rcv_app, rcv_ins, rcv_rev, isLO_lst, mt_app, appO_lst, ix_l, ix_t, ix_o, ixO_l, ixO_f, atI_0, atI_1, atI_2, atI_3, atI_4, atI_5, len_l, len_t, len_o, lenO_l, lenO_f, cd_not, cd_and, cd_or, fz_o, fzO_l, fzO_f, cmp_eqI, cmp_neI, cmp_ltI, cmp_leI, cmp_gtI, cmp_geI, bi_intB, List.length_map, List.length_range, six_o, sixO_l, gb, m1, r0]
      exact lp_nx ⟨rfl, rfl⟩
    · have z := of_decide_eq_false z
      refine fi_ifL (k := decide (w = 1)) (s1 := s ++ js) (fun l0 s0 l s' => s' = s ++ js ++ [.lst (toldL es w)] ∧ l = upds l0 [(6, some (.obj (s ++ js).length)), (7, some (.lst (toldL es w)))]) (by simp (disch := first | assumption | omega | (simp only [sizeLine_eq, List.length_map, List.length_range, List.length_append, List.length_cons, List.length_nil, List.length_set, List.length_reverse, List.length_take, List.length_drop]; omega) | (first | rfl | exact frs_fqs _ | exact frs_ints _ | exact frs_nats _ | exact frs_oqs _) | decide) only [ev_cald, ev_new, ev_ome, ev_att, evI_rngd, ev_var, ev_con, ev_tup, ev_lst, ev_dic, ev_neg, ev_bin, ev_cmp, ev_chn, ev_isN, ev_isB, ev_and, ev_or, ev_not, ev_ite, ev_ix, ev_sl, ev_rev, ev_rev0, ev_sst, ev_sln, ev_bi, ev_isT, ev_mt, ev_call, ev_cali, ev_fz, ea_nil, ea_cons, eo_nil, eo_cons,  evI_rng1, evI_rng, evI_zip, evI_enu, evI_cons, iterS, bd_ok, bd_er, ot_ok, gl_some, wo_some, ai_int, br_bl, List.map_cons, List.map_nil, List.cons_append, List.nil_append, List.length_cons, List.length_nil, List.getElem?_cons_zero, List.getElem?_cons_succ, List.set_cons_zero, List.set_cons_succ, cd_t, cd_f, binS_add, binS_sub, mkL_t, mkL_f, fz_lst, fz_tup, le_sz, Nat.zero_add, Nat.reduceAdd, Nat.reduceLeDiff, if_true, st_nm, st_1, st_2, st_3, st_4, wi_nil, wi_cons, upds_nil, upds_cons, ix_fq0, ix_fq1, mthS_o, attS_o, sl_l, rev_l, add_l, bi_mx, bi_mn, bi_list, rcv_app, rcv_ins, rcv_rev, isLO_lst, mt_app, appO_lst, ix_l, ix_t, ix_o, ixO_l, ixO_f, atI_0, atI_1, atI_2, atI_3, atI_4, atI_5, len_l, len_t, len_o, lenO_l, lenO_f, cd_not, cd_and, cd_or, fz_o, fzO_l, fzO_f, cmp_eqI, cmp_neI, cmp_ltI, cmp_leI, cmp_gtI, cmp_geI, bi_intB, List.length_map, List.length_range, six_o, sixO_l, k2]) (fun z => ?_) (fun z => ?_) ?_
      · obtain rfl := of_decide_eq_true z
        simp (disch := first | assumption | omega | (simp only [sizeLine_eq, List.length_map, List.length_range, List.length_append, List.length_cons, List.length_nil, List.length_set, List.length_reverse, List.length_take, List.length_drop]; omega) | (first | rfl | exact frs_fqs _ | exact frs_ints _ | exact frs_nats _ | exact frs_oqs _) | decide) only [w_sat, w_set, w_ex, w_unp, w_ret, w_retN, w_par, w_six, ev_cald, ev_new, ev_ome, ev_att, evI_rngd, ev_var, ev_con, ev_tup, ev_lst, ev_dic, ev_neg, ev_bin, ev_cmp, ev_chn, ev_isN, ev_isB, ev_and, ev_or, ev_not, ev_ite, ev_ix, ev_sl, ev_rev, ev_rev0, ev_sst, ev_sln, ev_bi, ev_isT, ev_mt, ev_call, ev_cali, ev_fz, ea_nil, ea_cons, eo_nil, eo_cons,  evI_rng1, evI_rng, evI_zip, evI_enu, evI_cons, iterS, bd_ok, bd_er, ot_ok, gl_some, wo_some, ai_int, br_bl, List.map_cons, List.map_nil, List.cons_append, List.nil_append, List.length_cons, List.length_nil, List.getElem?_cons_zero, List.getElem?_cons_succ, List.set_cons_zero, List.set_cons_succ, cd_t, cd_f, binS_add, binS_sub, mkL_t, mkL_f, fz_lst, fz_tup, le_sz, Nat.zero_add, Nat.reduceAdd, Nat.reduceLeDiff, if_true, st_nm, st_1, st_2, st_3, st_4, wi_nil, wi_cons, upds_nil, upds_cons, ix_fq0, ix_fq1, mthS_o, attS_o, sl_l, rev_l, add_l, bi_mx, bi_mn, bi_list, rcv_app, rcv_ins, rcv_rev, isLO_lst, mt_app, appO_lst, ix_l, ix_t, ix_o, ixO_l, ixO_f, atI_0, atI_1, atI_2, atI_3, atI_4, atI_5, len_l, len_t, len_o, lenO_l, lenO_f, cd_not, cd_and, cd_or, fz_o, fzO_l, fzO_f, cmp_eqI, cmp_neI, cmp_ltI, cmp_leI, cmp_gtI, cmp_geI, bi_intB, List.length_map, List.length_range, six_o, sixO_l, gb, m2, r1]
        rw [lcM (xs := srtR es) (f := rowD) (g := fun r => Dt.str r.1) (by simp (disch := first | assumption | omega | (simp only [sizeLine_eq, List.length_map, List.length_range, List.length_append, List.length_cons, List.length_nil, List.length_set, List.length_reverse, List.length_take, List.length_drop]; omega) | (first | rfl | exact frs_fqs _ | exact frs_ints _ | exact frs_nats _ | exact frs_oqs _) | decide) only [ev_cald, ev_new, ev_ome, ev_att, evI_rngd, ev_var, ev_con, ev_tup, ev_lst, ev_dic, ev_neg, ev_bin, ev_cmp, ev_chn, ev_isN, ev_isB, ev_and, ev_or, ev_not, ev_ite, ev_ix, ev_sl, ev_rev, ev_rev0, ev_sst, ev_sln, ev_bi, ev_isT, ev_mt, ev_call, ev_cali, ev_fz, ea_nil, ea_cons, eo_nil, eo_cons,  evI_rng1, evI_rng, evI_zip, evI_enu, evI_cons, iterS, bd_ok, bd_er, ot_ok, gl_some, wo_some, ai_int, br_bl, List.map_cons, List.map_nil, List.cons_append, List.nil_append, List.length_cons, List.length_nil, List.getElem?_cons_zero, List.getElem?_cons_succ, List.set_cons_zero, List.set_cons_succ, cd_t, cd_f, binS_add, binS_sub, mkL_t, mkL_f, fz_lst, fz_tup, le_sz, Nat.zero_add, Nat.reduceAdd, Nat.reduceLeDiff, if_true, st_nm, st_1, st_2, st_3, st_4, wi_nil, wi_cons, upds_nil, upds_cons, ix_fq0, ix_fq1, mthS_o, attS_o, sl_l, rev_l, add_l, bi_mx, bi_mn, bi_list, rcv_app, rcv_ins, rcv_rev, isLO_lst, mt_app, appO_lst, ix_l, ix_t, ix_o, ixO_l, ixO_f, atI_0, atI_1, atI_2, atI_3, atI_4, atI_5, len_l, len_t, len_o, lenO_l, lenO_f, cd_not, cd_and, cd_or, fz_o, fzO_l, fzO_f, cmp_eqI, cmp_neI, cmp_ltI, cmp_leI, cmp_gtI, cmp_geI, bi_intB, List.length_map, List.length_range, six_o, sixO_l] <;> rfl) (by rw [(srtR_perm es).length_eq]; omega) (fun r hr => by simp (disch := first | assumption | omega | (simp only [sizeLine_eq, List.length_map, List.length_range, List.length_append, List.length_cons, List.length_nil, List.length_set, List.length_reverse, List.length_take, List.length_drop]; omega) | (first | rfl | exact frs_fqs _ | exact frs_ints _ | exact frs_nats _ | exact frs_oqs _) | decide) only [ev_cald, ev_new, ev_ome, ev_att, evI_rngd, ev_var, ev_con, ev_tup, ev_lst, ev_dic, ev_neg, ev_bin, ev_cmp, ev_chn, ev_isN, ev_isB, ev_and, ev_or, ev_not, ev_ite, ev_ix, ev_sl, ev_rev, ev_rev0, ev_sst, ev_sln, ev_bi, ev_isT, ev_mt, ev_call, ev_cali, ev_fz, ea_nil, ea_cons, eo_nil, eo_cons,  evI_rng1, evI_rng, evI_zip, evI_enu, evI_cons, iterS, bd_ok, bd_er, ot_ok, gl_some, wo_some, ai_int, br_bl, List.map_cons, List.map_nil, List.cons_append, List.nil_append, List.length_cons, List.length_nil, List.getElem?_cons_zero, List.getElem?_cons_succ, List.set_cons_zero, List.set_cons_succ, cd_t, cd_f, binS_add, binS_sub, mkL_t, mkL_f, fz_lst, fz_tup, le_sz, Nat.zero_add, Nat.reduceAdd, Nat.reduceLeDiff, if_true, st_nm, st_1, st_2, st_3, st_4, wi_nil, wi_cons, upds_nil, upds_cons, ix_fq0, ix_fq1, mthS_o, attS_o, sl_l, rev_l, add_l, bi_mx, bi_mn, bi_list, rcv_app, rcv_ins, rcv_rev, isLO_lst, mt_app, appO_lst, ix_l, ix_t, ix_o, ixO_l, ixO_f, atI_0, atI_1, atI_2, atI_3, atI_4, atI_5, len_l, len_t, len_o, lenO_l, lenO_f, cd_not, cd_and, cd_or, fz_o, fzO_l, fzO_f, cmp_eqI, cmp_neI, cmp_ltI, cmp_leI, cmp_gtI, cmp_geI, bi_intB, List.length_map, List.length_range, six_o, sixO_l, rowD])]
        simp (disch := first | assumption | omega | (simp only [sizeLine_eq, List.length_map, List.length_range, List.length_append, List.length_cons, List.length_nil, List.length_set, List.length_reverse, List.length_take, List.length_drop]; omega) | (first | rfl | exact frs_fqs _ | exact frs_ints _ | exact frs_nats _ | exact frs_oqs _) | decide) only [w_sat, w_set, w_ex, w_unp, w_ret, w_retN, w_par, w_six, ev_cald, ev_new, ev_ome, ev_att, evI_rngd, ev_var, ev_con, ev_tup, ev_lst, ev_dic, ev_neg, ev_bin, ev_cmp, ev_chn, ev_isN, ev_isB, ev_and, ev_or, ev_not, ev_ite, ev_ix, ev_sl, ev_rev, ev_rev0, ev_sst, ev_sln, ev_bi, ev_isT, ev_mt, ev_call, ev_cali, ev_fz, ea_nil, ea_cons, eo_nil, eo_cons,  evI_rng1, evI_rng, evI_zip, evI_enu, evI_cons, iterS, bd_ok, bd_er, ot_ok, gl_some, wo_some, ai_int, br_bl, List.map_cons, List.map_nil, List.cons_append, List.nil_append, List.length_cons, List.length_nil, List.getElem?_cons_zero, List.getElem?_cons_succ, List.set_cons_zero, List.set_cons_succ, cd_t, cd_f, binS_add, binS_sub, mkL_t, mkL_f, fz_lst, fz_tup, le_sz, Nat.zero_add, Nat.reduceAdd, Nat.reduceLeDiff, if_true, st_nm, st_1, st_2, st_3, st_4, wi_nil, wi_cons, upds_nil, upds_cons, ix_fq0, ix_fq1, mthS_o, attS_o, sl_l, rev_l, add_l, bi_mx, bi_mn, bi_list, rcv_app, rcv_ins, rcv_rev, isLO_lst, mt_app, appO_lst, ix_l, ix_t, ix_o, ixO_l, ixO_f, atI_0, atI_1, atI_2, atI_3, atI_4, atI_5, len_l, len_t, len_o, lenO_l, lenO_f, cd_not, cd_and, cd_or, fz_o, fzO_l, fzO_f, cmp_eqI, cmp_neI, cmp_ltI, cmp_leI, cmp_gtI, cmp_geI, bi_intB, List.length_map, List.length_range, six_o, sixO_l, cw]
        exact lp_nx ⟨rfl, rfl⟩
      · obtain rfl : w = 2 := by have := of_decide_eq_false z; omega
        simp (disch := first | assumption | omega | (simp only [sizeLine_eq, List.length_map, List.length_range, List.length_append, List.length_cons, List.length_nil, List.length_set, List.length_reverse, List.length_take, List.length_drop]; omega) | (first | rfl | exact frs_fqs _ | exact frs_ints _ | exact frs_nats _ | exact frs_oqs _) | decide) only [w_sat, w_set, w_ex, w_unp, w_ret, w_retN, w_par, w_six, ev_cald, ev_new, ev_ome, ev_att, evI_rngd, ev_var, ev_con, ev_tup, ev_lst, ev_dic, ev_neg, ev_bin, ev_cmp, ev_chn, ev_isN, ev_isB, ev_and, ev_or, ev_not, ev_ite, ev_ix, ev_sl, ev_rev, ev_rev0, ev_sst, ev_sln, ev_bi, ev_isT, ev_mt, ev_call, ev_cali, ev_fz, ea_nil, ea_cons, eo_nil, eo_cons,  evI_rng1, evI_rng, evI_zip, evI_enu, evI_cons, iterS, bd_ok, bd_er, ot_ok, gl_some, wo_some, ai_int, br_bl, List.map_cons, List.map_nil, List.cons_append, List.nil_append, List.length_cons, List.length_nil, List.getElem?_cons_zero, List.getElem?_cons_succ, List.set_cons_zero, List.set_cons_succ, cd_t, cd_f, binS_add, binS_sub, mkL_t, mkL_f, fz_lst, fz_tup, le_sz, Nat.zero_add, Nat.reduceAdd, Nat.reduceLeDiff, if_true, st_nm, st_1, st_2, st_3, st_4, wi_nil, wi_cons, upds_nil, upds_cons, ix_fq0, ix_fq1, mthS_o, attS_o, sl_l, rev_l, add_l, bi_mx, bi_mn, bi_list, rcv_app, rcv_ins, rcv_rev, isLO_lst, mt_app, appO_lst, ix_l, ix_t, ix_o, ixO_l, ixO_f, atI_0, atI_1, atI_2, atI_3, atI_4, atI_5, len_l, len_t, len_o, lenO_l, lenO_f, cd_not, cd_and, cd_or, fz_o, fzO_l, fzO_f, cmp_eqI, cmp_neI, cmp_ltI, cmp_leI, cmp_gtI, cmp_geI, bi_intB, List.length_map, List.length_range, six_o, sixO_l, gb, m3, r2]
        rw [lcM (xs := srtR es) (f := rowD) (g := fun r => Dt.str r.2.1) (by simp (disch := first | assumption | omega | (simp only [sizeLine_eq, List.length_map, List.length_range, List.length_append, List.length_cons, List.length_nil, List.length_set, List.length_reverse, List.length_take, List.length_drop]; omega) | (first | rfl | exact frs_fqs _ | exact frs_ints _ | exact frs_nats _ | exact frs_oqs _) | decide) only [ev_cald, ev_new, ev_ome, ev_att, evI_rngd, ev_var, ev_con, ev_tup, ev_lst, ev_dic, ev_neg, ev_bin, ev_cmp, ev_chn, ev_isN, ev_isB, ev_and, ev_or, ev_not, ev_ite, ev_ix, ev_sl, ev_rev, ev_rev0, ev_sst, ev_sln, ev_bi, ev_isT, ev_mt, ev_call, ev_cali, ev_fz, ea_nil, ea_cons, eo_nil, eo_cons,  evI_rng1, evI_rng, evI_zip, evI_enu, evI_cons, iterS, bd_ok, bd_er, ot_ok, gl_some, wo_some, ai_int, br_bl, List.map_cons, List.map_nil, List.cons_append, List.nil_append, List.length_cons, List.length_nil, List.getElem?_cons_zero, List.getElem?_cons_succ, List.set_cons_zero, List.set_cons_succ, cd_t, cd_f, binS_add, binS_sub, mkL_t, mkL_f, fz_lst, fz_tup, le_sz, Nat.zero_add, Nat.reduceAdd, Nat.reduceLeDiff, if_true, st_nm, st_1, st_2, st_3, st_4, wi_nil, wi_cons, upds_nil, upds_cons, ix_fq0, ix_fq1, mthS_o, attS_o, sl_l, rev_l, add_l, bi_mx, bi_mn, bi_list, rcv_app, rcv_ins, rcv_rev, isLO_lst, mt_app, appO_lst, ix_l, ix_t, ix_o, ixO_l, ixO_f, atI_0, atI_1, atI_2, atI_3, atI_4, atI_5, len_l, len_t, len_o, lenO_l, lenO_f, cd_not, cd_and, cd_or, fz_o, fzO_l, fzO_f, cmp_eqI, cmp_neI, cmp_ltI, cmp_leI, cmp_gtI, cmp_geI, bi_intB, List.length_map, List.length_range, six_o, sixO_l] <;> rfl) (by rw [(srtR_perm es).length_eq]; omega) (fun r hr => by simp (disch := first | assumption | omega | (simp only [sizeLine_eq, List.length_map, List.length_range, List.length_append, List.length_cons, List.length_nil, List.length_set, List.length_reverse, List.length_take, List.length_drop]; omega) | (first | rfl | exact frs_fqs _ | exact frs_ints _ | exact frs_nats _ | exact frs_oqs _) | decide) only [ev_cald, ev_new, ev_ome, ev_att, evI_rngd, ev_var, ev_con, ev_tup, ev_lst, ev_dic, ev_neg, ev_bin, ev_cmp, ev_chn, ev_isN, ev_isB, ev_and, ev_or, ev_not, ev_ite, ev_ix, ev_sl, ev_rev, ev_rev0, ev_sst, ev_sln, ev_bi, ev_isT, ev_mt, ev_call, ev_cali, ev_fz, ea_nil, ea_cons, eo_nil, eo_cons,  evI_rng1, evI_rng, evI_zip, evI_enu, evI_cons, iterS, bd_ok, bd_er, ot_ok, gl_some, wo_some, ai_int, br_bl, List.map_cons, List.map_nil, List.cons_append, List.nil_append, List.length_cons, List.length_nil, List.getElem?_cons_zero, List.getElem?_cons_succ, List.set_cons_zero, List.set_cons_succ, cd_t, cd_f, binS_add, binS_sub, mkL_t, mkL_f, fz_lst, fz_tup, le_sz, Nat.zero_add, Nat.reduceAdd, Nat.reduceLeDiff, if_true, st_nm, st_1, st_2, st_3, st_4, wi_nil, wi_cons, upds_nil, upds_cons, ix_fq0, ix_fq1, mthS_o, attS_o, sl_l, rev_l, add_l, bi_mx, bi_mn, bi_list, rcv_app, rcv_ins, rcv_rev, isLO_lst, mt_app, appO_lst, ix_l, ix_t, ix_o, ixO_l, ixO_f, atI_0, atI_1, atI_2, atI_3, atI_4, atI_5, len_l, len_t, len_o, lenO_l, lenO_f, cd_not, cd_and, cd_or, fz_o, fzO_l, fzO_f, cmp_eqI, cmp_neI, cmp_ltI, cmp_leI, cmp_gtI, cmp_geI, bi_intB, List.length_map, List.length_range, six_o, sixO_l, rowD])]
        simp (disch := first | assumption | omega | (simp only [sizeLine_eq, List.length_map, List.length_range, List.length_append, List.length_cons, List.length_nil, List.length_set, List.length_reverse, List.length_take, List.length_drop]; omega) | (first | rfl | exact frs_fqs _ | exact frs_ints _ | exact frs_nats _ | exact frs_oqs _) | decide) only [w_sat, w_set, w_ex, w_unp, w_ret, w_retN, w_par, w_six, ev_cald, ev_new, ev_ome, ev_att, evI_rngd, ev_var, ev_con, ev_tup, ev_lst, ev_dic, ev_neg, ev_bin, ev_cmp, ev_chn, ev_isN, ev_isB, ev_and, ev_or, ev_not, ev_ite, ev_ix, ev_sl, ev_rev, ev_rev0, ev_sst, ev_sln, ev_bi, ev_isT, ev_mt, ev_call, ev_cali, ev_fz, ea_nil, ea_cons, eo_nil, eo_cons,  evI_rng1, evI_rng, evI_zip, evI_enu, evI_cons, iterS, bd_ok, bd_er, ot_ok, gl_some, wo_some, ai_int, br_bl, List.map_cons, List.map_nil, List.cons_append, List.nil_append, List.length_cons, List.length_nil, List.getElem?_cons_zero, List.getElem?_cons_succ, List.set_cons_zero, List.set_cons_succ, cd_t, cd_f, binS_add, binS_sub, mkL_t, mkL_f, fz_lst, fz_tup, le_sz, Nat.zero_add, Nat.reduceAdd, Nat.reduceLeDiff, if_true, st_nm, st_1, st_2, st_3, st_4, wi_nil, wi_cons, upds_nil, upds_cons, ix_fq0, ix_fq1, mthS_o, attS_o, sl_l, rev_l, add_l, bi_mx, bi_mn, bi_list, rcv_app, rcv_ins, rcv_rev, isLO_lst, mt_app, appO_lst, ix_l, ix_t, ix_o, ixO_l, ixO_f, atI_0, atI_1, atI_2, atI_3, atI_4, atI_5, len_l, len_t, len_o, lenO_l, lenO_f, cd_not, cd_and, cd_or, fz_o, fzO_l, fzO_f, cmp_eqI, cmp_neI, cmp_ltI, cmp_leI, cmp_gtI, cmp_geI, bi_intB, List.length_map, List.length_range, six_o, sixO_l, ch]
        exact lp_nx ⟨rfl, rfl⟩
      · rintro l s' ⟨rfl, rfl⟩
        exact lp_end ⟨rfl, rfl⟩
    · rintro l s' ⟨rfl, rfl⟩
      try simp only [upds_nil, upds_cons, List.set_cons_zero, List.set_cons_succ]
      have hg := glast (toldL es w)
      refine fi_ifN (s1 := s ++ js ++ [.lst (toldL es w)]) (by simp (disch := first | assumption | omega | (simp only [sizeLine_eq, List.length_map, List.length_range, List.length_append, List.length_cons, List.length_nil, List.length_set, List.length_reverse, List.length_take, List.length_drop]; omega) | (first | rfl | exact frs_fqs _ | exact frs_ints _ | exact frs_nats _ | exact frs_oqs _) | decide) only [ev_cald, ev_new, ev_ome, ev_att, evI_rngd, ev_var, ev_con, ev_tup, ev_lst, ev_dic, ev_neg, ev_bin, ev_cmp, ev_chn, ev_isN, ev_isB, ev_and, ev_or, ev_not, ev_ite, ev_ix, ev_sl, ev_rev, ev_rev0, ev_sst, ev_sln, ev_bi, ev_isT, ev_mt, ev_call, ev_cali, ev_fz, ea_nil, ea_cons, eo_nil, eo_cons,  evI_rng1, evI_rng, evI_zip, evI_enu, evI_cons, iterS, bd_ok, bd_er, ot_ok, gl_some, wo_some, ai_int, br_bl, List.map_cons, List.map_nil, List.cons_append, List.nil_append, List.length_cons, List.length_nil, List.getElem?_cons_zero, List.getElem?_cons_succ, List.set_cons_zero, List.set_cons_succ, cd_t, cd_f, binS_add, binS_sub, mkL_t, mkL_f, fz_lst, fz_tup, le_sz, Nat.zero_add, Nat.reduceAdd, Nat.reduceLeDiff, if_true, st_nm, st_1, st_2, st_3, st_4, wi_nil, wi_cons, upds_nil, upds_cons, ix_fq0, ix_fq1, mthS_o, attS_o, sl_l, rev_l, add_l, bi_mx, bi_mn, bi_list, rcv_app, rcv_ins, rcv_rev, isLO_lst, mt_app, appO_lst, ix_l, ix_t, ix_o, ixO_l, ixO_f, atI_0, atI_1, atI_2, atI_3, atI_4, atI_5, len_l, len_t, len_o, lenO_l, lenO_f, cd_not, cd_and, cd_or, fz_o, fzO_l, fzO_f, cmp_eqI, cmp_neI, cmp_ltI, cmp_leI, cmp_gtI, cmp_geI, bi_intB, List.length_map, List.length_range, six_o, sixO_l, isT_live hg, ne_live hg (toldL_hd hok w), Bool.not_true]) (fi_skip ?_)
      refine lp_end ⟨js ++ [.lst (toldL es w)], _, _, _, by rw [List.append_assoc], fun _ => ⟨_, w, rfl, by rw [List.length_append]; omega, by rw [← List.append_assoc]; exact hg⟩, rfl⟩
  · rintro l s' ⟨js, s5, s6, s7, rfl, h6, rfl⟩
    obtain ⟨n, w, rfl, h1, h2⟩ := h6 (List.length_pos_iff.mpr hws)
    try simp only [upds_nil, upds_cons, List.set_cons_zero, List.set_cons_succ]
    simp (disch := first | assumption | omega | (simp only [sizeLine_eq, List.length_map, List.length_range, List.length_append, List.length_cons, List.length_nil, List.length_set, List.length_reverse, List.length_take, List.length_drop]; omega) | (first | rfl | exact frs_fqs _ | exact frs_ints _ | exact frs_nats _ | exact frs_oqs _) | decide) only [w_sat, w_set, w_ex, w_unp, w_ret, w_retN, w_par, w_six, ev_cald, ev_new, ev_ome, ev_att, evI_rngd, ev_var, ev_con, ev_tup, ev_lst, ev_dic, ev_neg, ev_bin, ev_cmp, ev_chn, ev_isN, ev_isB, ev_and, ev_or, ev_not, ev_ite, ev_ix, ev_sl, ev_rev, ev_rev0, ev_sst, ev_sln, ev_bi, ev_isT, ev_mt, ev_call, ev_cali, ev_fz, ea_nil, ea_cons, eo_nil, eo_cons,  evI_rng1, evI_rng, evI_zip, evI_enu, evI_cons, iterS, bd_ok, bd_er, ot_ok, gl_some, wo_some, ai_int, br_bl, List.map_cons, List.map_nil, List.cons_append, List.nil_append, List.length_cons, List.length_nil, List.getElem?_cons_zero, List.getElem?_cons_succ, List.set_cons_zero, List.set_cons_succ, cd_t, cd_f, binS_add, binS_sub, mkL_t, mkL_f, fz_lst, fz_tup, le_sz, Nat.zero_add, Nat.reduceAdd, Nat.reduceLeDiff, if_true, st_nm, st_1, st_2, st_3, st_4, wi_nil, wi_cons, upds_nil, upds_cons, ix_fq0, ix_fq1, mthS_o, attS_o, sl_l, rev_l, add_l, bi_mx, bi_mn, bi_list, rcv_app, rcv_ins, rcv_rev, isLO_lst, mt_app, appO_lst, ix_l, ix_t, ix_o, ixO_l, ixO_f, atI_0, atI_1, atI_2, atI_3, atI_4, atI_5, len_l, len_t, len_o, lenO_l, lenO_f, cd_not, cd_and, cd_or, fz_o, fzO_l, fzO_f, cmp_eqI, cmp_neI, cmp_ltI, cmp_leI, cmp_gtI, cmp_geI, bi_intB, List.length_map, List.length_range, six_o, sixO_l]
    exact ⟨js, n, w, ⟨h1, h2⟩, rfl⟩
/-! ### _law_kinds -/
theorem rn__law_kinds {k : Nat} (hk : 2 ≤ k) {rows : List Ip.Row} {n : Nat} {s : Sto} (hs : s[n]? = some (.lst (rows.map rowD))) : runF Pp k f__law_kinds [.obj n] s = .ok (.bl true) s := by
  refine rq__law_kinds (k := k) (Q := fun o => o = .ok (.bl true) s) (by omega) fun j hj => ?_
  unfold b__law_kinds
  refine fi_forVM (m := n) (g := rowD) (xs := rows) (fun l0 s0 i l s' => s' = s ∧ ∃ s1, l = upds l0 [(1, s1)]) (by simp (disch := first | assumption | omega | (simp only [sizeLine_eq, List.length_map, List.length_range, List.length_append, List.length_cons, List.length_nil, List.length_set, List.length_reverse, List.length_take, List.length_drop]; omega) | (first | rfl | exact frs_fqs _ | exact frs_ints _ | exact frs_nats _ | exact frs_oqs _) | decide) only [ev_cald, ev_new, ev_ome, ev_att, evI_rngd, ev_var, ev_con, ev_tup, ev_lst, ev_dic, ev_neg, ev_bin, ev_cmp, ev_chn, ev_isN, ev_isB, ev_and, ev_or, ev_not, ev_ite, ev_ix, ev_sl, ev_rev, ev_rev0, ev_sst, ev_sln, ev_bi, ev_isT, ev_mt, ev_call, ev_cali, ev_fz, ea_nil, ea_cons, eo_nil, eo_cons,  evI_rng1, evI_rng, evI_zip, evI_enu, evI_cons, iterS, bd_ok, bd_er, ot_ok, gl_some, wo_some, ai_int, br_bl, List.map_cons, List.map_nil, List.cons_append, List.nil_append, List.length_cons, List.length_nil, List.getElem?_cons_zero, List.getElem?_cons_succ, List.set_cons_zero, List.set_cons_succ, cd_t, cd_f, binS_add, binS_sub, mkL_t, mkL_f, fz_lst, fz_tup, le_sz, Nat.zero_add, Nat.reduceAdd, Nat.reduceLeDiff, if_true, st_nm, st_1, st_2, st_3, st_4, wi_nil, wi_cons, upds_nil, upds_cons, ix_fq0, ix_fq1, mthS_o, attS_o, sl_l, rev_l, add_l, bi_mx, bi_mn, bi_list, rcv_app, rcv_ins, rcv_rev, isLO_lst, mt_app, appO_lst, ix_l, ix_t, ix_o, ixO_l, ixO_f, atI_0, atI_1, atI_2, atI_3, atI_4, atI_5, len_l, len_t, len_o, lenO_l, lenO_f, cd_not, cd_and, cd_or, fz_o, fzO_l, fzO_f, cmp_eqI, cmp_neI, cmp_ltI, cmp_leI, cmp_gtI, cmp_geI, bi_intB, List.length_map, List.length_range, six_o, sixO_l, hs] <;> rfl) ⟨rfl, _, rfl⟩ ?_ ?_
  · rintro i hi l s' ⟨rfl, s1, rfl⟩
    simp only [bodF, st_nm, st_1, st_2, st_3, st_4, wo_some, upds_nil, upds_cons, List.set_cons_zero, List.set_cons_succ]
    generalize rows[i] = r
    have t1 : isTS .tup (rowD r) s' = .ok (.bl true) s' := rfl
    have t2 : isTS .bool (.int r.2.2) s' = .ok (.bl false) s' := rfl
    have t3 : isTS .int (.int r.2.2) s' = .ok (.bl true) s' := rfl
    have ix : ixS (rowD r) (.int 2) s' = .ok (.int r.2.2) s' := rfl
    refine fi_ifN (s1 := s') (by simp (disch := first | assumption | omega | (simp only [sizeLine_eq, List.length_map, List.length_range, List.length_append, List.length_cons, List.length_nil, List.length_set, List.length_reverse, List.length_take, List.length_drop]; omega) | (first | rfl | exact frs_fqs _ | exact frs_ints _ | exact frs_nats _ | exact frs_oqs _) | decide) only [ev_cald, ev_new, ev_ome, ev_att, evI_rngd, ev_var, ev_con, ev_tup, ev_lst, ev_dic, ev_neg, ev_bin, ev_cmp, ev_chn, ev_isN, ev_isB, ev_and, ev_or, ev_not, ev_ite, ev_ix, ev_sl, ev_rev, ev_rev0, ev_sst, ev_sln, ev_bi, ev_isT, ev_mt, ev_call, ev_cali, ev_fz, ea_nil, ea_cons, eo_nil, eo_cons,  evI_rng1, evI_rng, evI_zip, evI_enu, evI_cons, iterS, bd_ok, bd_er, ot_ok, gl_some, wo_some, ai_int, br_bl, List.map_cons, List.map_nil, List.cons_append, List.nil_append, List.length_cons, List.length_nil, List.getElem?_cons_zero, List.getElem?_cons_succ, List.set_cons_zero, List.set_cons_succ, cd_t, cd_f, binS_add, binS_sub, mkL_t, mkL_f, fz_lst, fz_tup, le_sz, Nat.zero_add, Nat.reduceAdd, Nat.reduceLeDiff, if_true, st_nm, st_1, st_2, st_3, st_4, wi_nil, wi_cons, upds_nil, upds_cons, ix_fq0, ix_fq1, mthS_o, attS_o, sl_l, rev_l, add_l, bi_mx, bi_mn, bi_list, rcv_app, rcv_ins, rcv_rev, isLO_lst, mt_app, appO_lst, ix_l, ix_t, ix_o, ixO_l, ixO_f, atI_0, atI_1, atI_2, atI_3, atI_4, atI_5, len_l, len_t, len_o, lenO_l, lenO_f, cd_not, cd_and, cd_or, fz_o, fzO_l, fzO_f, cmp_eqI, cmp_neI, cmp_ltI, cmp_leI, cmp_gtI, cmp_geI, bi_intB, List.length_map, List.length_range, six_o, sixO_l, t1, ix, t2, t3, Bool.not_true]) (fi_skip ?_)
    exact lp_end ⟨⟨rfl, _, rfl⟩, hs⟩
  · rintro l s' ⟨rfl, s1, rfl⟩
    try simp only [upds_nil, upds_cons, List.set_cons_zero, List.set_cons_succ]
    simp (disch := first | assumption | omega | (simp only [sizeLine_eq, List.length_map, List.length_range, List.length_append, List.length_cons, List.length_nil, List.length_set, List.length_reverse, List.length_take, List.length_drop]; omega) | (first | rfl | exact frs_fqs _ | exact frs_ints _ | exact frs_nats _ | exact frs_oqs _) | decide) only [w_sat, w_set, w_ex, w_unp, w_ret, w_retN, w_par, w_six, ev_cald, ev_new, ev_ome, ev_att, evI_rngd, ev_var, ev_con, ev_tup, ev_lst, ev_dic, ev_neg, ev_bin, ev_cmp, ev_chn, ev_isN, ev_isB, ev_and, ev_or, ev_not, ev_ite, ev_ix, ev_sl, ev_rev, ev_rev0, ev_sst, ev_sln, ev_bi, ev_isT, ev_mt, ev_call, ev_cali, ev_fz, ea_nil, ea_cons, eo_nil, eo_cons,  evI_rng1, evI_rng, evI_zip, evI_enu, evI_cons, iterS, bd_ok, bd_er, ot_ok, gl_some, wo_some, ai_int, br_bl, List.map_cons, List.map_nil, List.cons_append, List.nil_append, List.length_cons, List.length_nil, List.getElem?_cons_zero, List.getElem?_cons_succ, List.set_cons_zero, List.set_cons_succ, cd_t, cd_f, binS_add, binS_sub, mkL_t, mkL_f, fz_lst, fz_tup, le_sz, Nat.zero_add, Nat.reduceAdd, Nat.reduceLeDiff, if_true, st_nm, st_1, st_2, st_3, st_4, wi_nil, wi_cons, upds_nil, upds_cons, ix_fq0, ix_fq1, mthS_o, attS_o, sl_l, rev_l, add_l, bi_mx, bi_mn, bi_list, rcv_app, rcv_ins, rcv_rev, isLO_lst, mt_app, appO_lst, ix_l, ix_t, ix_o, ixO_l, ixO_f, atI_0, atI_1, atI_2, atI_3, atI_4, atI_5, len_l, len_t, len_o, lenO_l, lenO_f, cd_not, cd_and, cd_or, fz_o, fzO_l, fzO_f, cmp_eqI, cmp_neI, cmp_ltI, cmp_leI, cmp_gtI, cmp_geI, bi_intB, List.length_map, List.length_range, six_o, sixO_l]
    exact ⟨rfl⟩
/-! ### Book.__init__ -/
theorem rn_Book {k : Nat} (hk : 4 ≤ k) (most : Int) (s : Sto) : runF Pp k (nwI n_Book) [.int most] s = .ok (.obj s.length) (s ++ [bkI most (s.length + 1), .dT []]) := by
  rw [rn_new (P := Pp) (by omega) rfl rfl rfl]
  have key : runF Pp (k - 1) f_Book___init__ [.obj s.length, .int most] (s ++ [.ins n_Book []]) = .ok .non (s ++ [bkI most (s.length + 1), .dT []]) := by
    refine rq_Book___init__ (k := k - 1) (Q := fun o => o = .ok .non (s ++ [bkI most (s.length + 1), .dT []])) (by omega) fun j hj => ?_
    unfold b_Book___init__
    have g0 : ∀ o : Ob, (s ++ [o])[s.length]? = some o := fun o => by rw [List.getElem?_append_right (Nat.le_refl _), Nat.sub_self]; rfl
    have g1 : ∀ o p : Ob, (s ++ [o] ++ [p])[s.length]? = some o := fun o p => by rw [List.getElem?_append_left (by simp), g0]
    have st : ∀ o o' : Ob, (s ++ [o]).set s.length o' = s ++ [o'] := fun o o' => by rw [List.set_append_right _ _ (Nat.le_refl _), Nat.sub_self]; rfl
    have st2 : ∀ o p o' : Ob, (s ++ [o] ++ [p]).set s.length o' = s ++ [o'] ++ [p] := fun o p o' => by rw [List.set_append_left _ _ (by simp), st]
    have ln : ∀ o : Ob, (s ++ [o]).length = s.length + 1 := fun o => by simp
    simp (disch := first | assumption | omega | (simp only [sizeLine_eq, List.length_map, List.length_range, List.length_append, List.length_cons, List.length_nil, List.length_set, List.length_reverse, List.length_take, List.length_drop]; omega) | (first | rfl | exact frs_fqs _ | exact frs_ints _ | exact frs_nats _ | exact frs_oqs _) | decide) only [w_sat, w_set, w_ex, w_unp, w_ret, w_retN, w_par, w_six, ev_cald, ev_new, ev_ome, ev_att, evI_rngd, ev_var, ev_con, ev_tup, ev_lst, ev_dic, ev_neg, ev_bin, ev_cmp, ev_chn, ev_isN, ev_isB, ev_and, ev_or, ev_not, ev_ite, ev_ix, ev_sl, ev_rev, ev_rev0, ev_sst, ev_sln, ev_bi, ev_isT, ev_mt, ev_call, ev_cali, ev_fz, ea_nil, ea_cons, eo_nil, eo_cons,  evI_rng1, evI_rng, evI_zip, evI_enu, evI_cons, iterS, bd_ok, bd_er, ot_ok, gl_some, wo_some, ai_int, br_bl, List.map_cons, List.map_nil, List.cons_append, List.nil_append, List.length_cons, List.length_nil, List.getElem?_cons_zero, List.getElem?_cons_succ, List.set_cons_zero, List.set_cons_succ, cd_t, cd_f, binS_add, binS_sub, mkL_t, mkL_f, fz_lst, fz_tup, le_sz, Nat.zero_add, Nat.reduceAdd, Nat.reduceLeDiff, if_true, st_nm, st_1, st_2, st_3, st_4, wi_nil, wi_cons, upds_nil, upds_cons, ix_fq0, ix_fq1, mthS_o, attS_o, sl_l, rev_l, add_l, bi_mx, bi_mn, bi_list, rcv_app, rcv_ins, rcv_rev, isLO_lst, mt_app, appO_lst, ix_l, ix_t, ix_o, ixO_l, ixO_f, atI_0, atI_1, atI_2, atI_3, atI_4, atI_5, len_l, len_t, len_o, lenO_l, lenO_f, cd_not, cd_and, cd_or, fz_o, fzO_l, fzO_f, cmp_eqI, cmp_neI, cmp_ltI, cmp_leI, cmp_gtI, cmp_geI, bi_intB, List.length_map, List.length_range, six_o, sixO_l, satS_i (P := Pp) (f := x_most) (c := n_Book) (fs := []) (n := s.length) (g0 _) rfl (by decide), st]
    have e1 : putN x_most (Dt.int most) [] = [(x_most, .int most)] := rfl
    rw [e1]
    simp (disch := first | assumption | omega | (simp only [sizeLine_eq, List.length_map, List.length_range, List.length_append, List.length_cons, List.length_nil, List.length_set, List.length_reverse, List.length_take, List.length_drop]; omega) | (first | rfl | exact frs_fqs _ | exact frs_ints _ | exact frs_nats _ | exact frs_oqs _) | decide) only [w_sat, w_set, w_ex, w_unp, w_ret, w_retN, w_par, w_six, ev_cald, ev_new, ev_ome, ev_att, evI_rngd, ev_var, ev_con, ev_tup, ev_lst, ev_dic, ev_neg, ev_bin, ev_cmp, ev_chn, ev_isN, ev_isB, ev_and, ev_or, ev_not, ev_ite, ev_ix, ev_sl, ev_rev, ev_rev0, ev_sst, ev_sln, ev_bi, ev_isT, ev_mt, ev_call, ev_cali, ev_fz, ea_nil, ea_cons, eo_nil, eo_cons,  evI_rng1, evI_rng, evI_zip, evI_enu, evI_cons, iterS, bd_ok, bd_er, ot_ok, gl_some, wo_some, ai_int, br_bl, List.map_cons, List.map_nil, List.cons_append, List.nil_append, List.length_cons, List.length_nil, List.getElem?_cons_zero, List.getElem?_cons_succ, List.set_cons_zero, List.set_cons_succ, cd_t, cd_f, binS_add, binS_sub, mkL_t, mkL_f, fz_lst, fz_tup, le_sz, Nat.zero_add, Nat.reduceAdd, Nat.reduceLeDiff, if_true, st_nm, st_1, st_2, st_3, st_4, wi_nil, wi_cons, upds_nil, upds_cons, ix_fq0, ix_fq1, mthS_o, attS_o, sl_l, rev_l, add_l, bi_mx, bi_mn, bi_list, rcv_app, rcv_ins, rcv_rev, isLO_lst, mt_app, appO_lst, ix_l, ix_t, ix_o, ixO_l, ixO_f, atI_0, atI_1, atI_2, atI_3, atI_4, atI_5, len_l, len_t, len_o, lenO_l, lenO_f, cd_not, cd_and, cd_or, fz_o, fzO_l, fzO_f, cmp_eqI, cmp_neI, cmp_ltI, cmp_leI, cmp_gtI, cmp_geI, bi_intB, List.length_map, List.length_range, six_o, sixO_l, if_true, satS_i (P := Pp) (f := x_marks) (c := n_Book) (fs := [(x_most, .int most)]) (n := s.length) (g1 _ _) rfl (by show 1 < 1000; decide), st2, ln]
    refine ⟨?_⟩
    show R.ok Dt.non _ = _
    congr 1
    rw [List.append_assoc]
    rfl
  rw [key]
  rfl
/-! ### Book.drop -/
theorem rn_Book_drop {k : Nat} (hk : 4 ≤ k) {es : List Ip.Row} {w h : Str} {nw nh : Nat} (hw : NmOk nw w) (hnw : nw ≤ 8) (hh : NmOk nh h) (hnh : nh ≤ 8) {e : Ip.Row} (ha : atE es w h = some e) {most : Int} {b d : Nat} {s : Sto} (hb : s[b]? = some (bkI most d)) (hd : s[d]? = some (.dT (es.map tE))) : runF Pp k f_Book_drop [.obj b, .str w, .str h] s = .ok .non (s.set d (.dT ((delE es w h).map tE))) := by
  refine rq_Book_drop (k := k) (Q := fun o => o = .ok .non (s.set d (.dT ((delE es w h).map tE)))) (by omega) fun j hj => ?_
  unfold b_Book_drop
  have c1 := cp_is_name (k := j + 1) (by omega) hw hnw
  have c2 := cp_is_name (k := j + 1) (by omega) hh hnh
  have hi := nin_T hd w h
  have hlk := look_tE es w h
  rw [ha] at hlk
  rw [hlk] at hi
  have hp := pop_T hd hlk
  rw [del_tE] at hp
  refine fi_ifN (s1 := s) (by simp (disch := first | assumption | omega | (simp only [sizeLine_eq, List.length_map, List.length_range, List.length_append, List.length_cons, List.length_nil, List.length_set, List.length_reverse, List.length_take, List.length_drop]; omega) | (first | rfl | exact frs_fqs _ | exact frs_ints _ | exact frs_nats _ | exact frs_oqs _) | decide) only [ev_cald, ev_new, ev_ome, ev_att, evI_rngd, ev_var, ev_con, ev_tup, ev_lst, ev_dic, ev_neg, ev_bin, ev_cmp, ev_chn, ev_isN, ev_isB, ev_and, ev_or, ev_not, ev_ite, ev_ix, ev_sl, ev_rev, ev_rev0, ev_sst, ev_sln, ev_bi, ev_isT, ev_mt, ev_call, ev_cali, ev_fz, ea_nil, ea_cons, eo_nil, eo_cons,  evI_rng1, evI_rng, evI_zip, evI_enu, evI_cons, iterS, bd_ok, bd_er, ot_ok, gl_some, wo_some, ai_int, br_bl, List.map_cons, List.map_nil, List.cons_append, List.nil_append, List.length_cons, List.length_nil, List.getElem?_cons_zero, List.getElem?_cons_succ, List.set_cons_zero, List.set_cons_succ, cd_t, cd_f, binS_add, binS_sub, mkL_t, mkL_f, fz_lst, fz_tup, le_sz, Nat.zero_add, Nat.reduceAdd, Nat.reduceLeDiff, if_true, st_nm, st_1, st_2, st_3, st_4, wi_nil, wi_cons, upds_nil, upds_cons, ix_fq0, ix_fq1, mthS_o, attS_o, sl_l, rev_l, add_l, bi_mx, bi_mn, bi_list, rcv_app, rcv_ins, rcv_rev, isLO_lst, mt_app, appO_lst, ix_l, ix_t, ix_o, ixO_l, ixO_f, atI_0, atI_1, atI_2, atI_3, atI_4, atI_5, len_l, len_t, len_o, lenO_l, lenO_f, cd_not, cd_and, cd_or, fz_o, fzO_l, fzO_f, cmp_eqI, cmp_neI, cmp_ltI, cmp_leI, cmp_gtI, cmp_geI, bi_intB, List.length_map, List.length_range, six_o, sixO_l, c1, c2, hb, at_marks, hi, Bool.not_true]; rfl) (fi_skip ?_)
  simp (disch := first | assumption | omega | (simp only [sizeLine_eq, List.length_map, List.length_range, List.length_append, List.length_cons, List.length_nil, List.length_set, List.length_reverse, List.length_take, List.length_drop]; omega) | (first | rfl | exact frs_fqs _ | exact frs_ints _ | exact frs_nats _ | exact frs_oqs _) | decide) only [w_sat, w_set, w_ex, w_unp, w_ret, w_retN, w_par, w_six, ev_cald, ev_new, ev_ome, ev_att, evI_rngd, ev_var, ev_con, ev_tup, ev_lst, ev_dic, ev_neg, ev_bin, ev_cmp, ev_chn, ev_isN, ev_isB, ev_and, ev_or, ev_not, ev_ite, ev_ix, ev_sl, ev_rev, ev_rev0, ev_sst, ev_sln, ev_bi, ev_isT, ev_mt, ev_call, ev_cali, ev_fz, ea_nil, ea_cons, eo_nil, eo_cons,  evI_rng1, evI_rng, evI_zip, evI_enu, evI_cons, iterS, bd_ok, bd_er, ot_ok, gl_some, wo_some, ai_int, br_bl, List.map_cons, List.map_nil, List.cons_append, List.nil_append, List.length_cons, List.length_nil, List.getElem?_cons_zero, List.getElem?_cons_succ, List.set_cons_zero, List.set_cons_succ, cd_t, cd_f, binS_add, binS_sub, mkL_t, mkL_f, fz_lst, fz_tup, le_sz, Nat.zero_add, Nat.reduceAdd, Nat.reduceLeDiff, if_true, st_nm, st_1, st_2, st_3, st_4, wi_nil, wi_cons, upds_nil, upds_cons, ix_fq0, ix_fq1, mthS_o, attS_o, sl_l, rev_l, add_l, bi_mx, bi_mn, bi_list, rcv_app, rcv_ins, rcv_rev, isLO_lst, mt_app, appO_lst, ix_l, ix_t, ix_o, ixO_l, ixO_f, atI_0, atI_1, atI_2, atI_3, atI_4, atI_5, len_l, len_t, len_o, lenO_l, lenO_f, cd_not, cd_and, cd_or, fz_o, fzO_l, fzO_f, cmp_eqI, cmp_neI, cmp_ltI, cmp_leI, cmp_gtI, cmp_geI, bi_intB, List.length_map, List.length_range, six_o, sixO_l, hb, at_marks, rcv_pop, hd, isDO_dT, hp]
  exact ⟨rfl⟩
/-! ### Book.put -/
theorem rn_Book_put {k : Nat} (hk : 4 ≤ k) {es : List Ip.Row} (hl : es.length ≤ 1000) {w h : Str} {nw nh : Nat} (hw : NmOk nw w) (hnw : nw ≤ 8) (hh : NmOk nh h) (hnh : nh ≤ 8) {m most : Int} (h0 : 0 ≤ m) (h1 : m ≤ most) (ha : atE es w h = none) {b d : Nat} {s : Sto} (hb : s[b]? = some (bkI most d)) (hd : s[d]? = some (.dT (es.map tE))) : runF Pp k f_Book_put [.obj b, .str w, .str h, .int m] s = .ok .non (s.set d (.dT ((es ++ [(w, h, m)]).map tE))) := by
  refine rq_Book_put (k := k) (Q := fun o => o = .ok .non (s.set d (.dT ((es ++ [(w, h, m)]).map tE)))) (by omega) fun j hj => ?_
  unfold b_Book_put
  have c1 := cp_is_name (k := j + 1) (by omega) hw hnw
  have c2 := cp_is_name (k := j + 1) (by omega) hh hnh
  have t1 : isTS .bool (.int m) s = .ok (.bl false) s := rfl
  have t2 : isTS .int (.int m) s = .ok (.bl true) s := rfl
  have hi := inn_T hd w h
  rw [look_tE, ha] at hi
  have hx := six_T hd (by rw [List.length_map, sizeLine_eq]; omega) w h (.int m)
  rw [set_tE ha] at hx
  have hx2 : sixO s[d]? d (.tup [.str w, .str h]) (.int m) s = some (s.set d (.dT ((es ++ [(w, h, m)]).map tE))) := hx
  refine fi_ifN (s1 := s) (by simp (disch := first | assumption | omega | (simp only [sizeLine_eq, List.length_map, List.length_range, List.length_append, List.length_cons, List.length_nil, List.length_set, List.length_reverse, List.length_take, List.length_drop]; omega) | (first | rfl | exact frs_fqs _ | exact frs_ints _ | exact frs_nats _ | exact frs_oqs _) | decide) only [ev_cald, ev_new, ev_ome, ev_att, evI_rngd, ev_var, ev_con, ev_tup, ev_lst, ev_dic, ev_neg, ev_bin, ev_cmp, ev_chn, ev_isN, ev_isB, ev_and, ev_or, ev_not, ev_ite, ev_ix, ev_sl, ev_rev, ev_rev0, ev_sst, ev_sln, ev_bi, ev_isT, ev_mt, ev_call, ev_cali, ev_fz, ea_nil, ea_cons, eo_nil, eo_cons,  evI_rng1, evI_rng, evI_zip, evI_enu, evI_cons, iterS, bd_ok, bd_er, ot_ok, gl_some, wo_some, ai_int, br_bl, List.map_cons, List.map_nil, List.cons_append, List.nil_append, List.length_cons, List.length_nil, List.getElem?_cons_zero, List.getElem?_cons_succ, List.set_cons_zero, List.set_cons_succ, cd_t, cd_f, binS_add, binS_sub, mkL_t, mkL_f, fz_lst, fz_tup, le_sz, Nat.zero_add, Nat.reduceAdd, Nat.reduceLeDiff, if_true, st_nm, st_1, st_2, st_3, st_4, wi_nil, wi_cons, upds_nil, upds_cons, ix_fq0, ix_fq1, mthS_o, attS_o, sl_l, rev_l, add_l, bi_mx, bi_mn, bi_list, rcv_app, rcv_ins, rcv_rev, isLO_lst, mt_app, appO_lst, ix_l, ix_t, ix_o, ixO_l, ixO_f, atI_0, atI_1, atI_2, atI_3, atI_4, atI_5, len_l, len_t, len_o, lenO_l, lenO_f, cd_not, cd_and, cd_or, fz_o, fzO_l, fzO_f, cmp_eqI, cmp_neI, cmp_ltI, cmp_leI, cmp_gtI, cmp_geI, bi_intB, List.length_map, List.length_range, six_o, sixO_l, c1, c2, Bool.not_true]) (fi_skip ?_)
  refine fi_ifN (s1 := s) (by simp (disch := first | assumption | omega | (simp only [sizeLine_eq, List.length_map, List.length_range, List.length_append, List.length_cons, List.length_nil, List.length_set, List.length_reverse, List.length_take, List.length_drop]; omega) | (first | rfl | exact frs_fqs _ | exact frs_ints _ | exact frs_nats _ | exact frs_oqs _) | decide) only [ev_cald, ev_new, ev_ome, ev_att, evI_rngd, ev_var, ev_con, ev_tup, ev_lst, ev_dic, ev_neg, ev_bin, ev_cmp, ev_chn, ev_isN, ev_isB, ev_and, ev_or, ev_not, ev_ite, ev_ix, ev_sl, ev_rev, ev_rev0, ev_sst, ev_sln, ev_bi, ev_isT, ev_mt, ev_call, ev_cali, ev_fz, ea_nil, ea_cons, eo_nil, eo_cons,  evI_rng1, evI_rng, evI_zip, evI_enu, evI_cons, iterS, bd_ok, bd_er, ot_ok, gl_some, wo_some, ai_int, br_bl, List.map_cons, List.map_nil, List.cons_append, List.nil_append, List.length_cons, List.length_nil, List.getElem?_cons_zero, List.getElem?_cons_succ, List.set_cons_zero, List.set_cons_succ, cd_t, cd_f, binS_add, binS_sub, mkL_t, mkL_f, fz_lst, fz_tup, le_sz, Nat.zero_add, Nat.reduceAdd, Nat.reduceLeDiff, if_true, st_nm, st_1, st_2, st_3, st_4, wi_nil, wi_cons, upds_nil, upds_cons, ix_fq0, ix_fq1, mthS_o, attS_o, sl_l, rev_l, add_l, bi_mx, bi_mn, bi_list, rcv_app, rcv_ins, rcv_rev, isLO_lst, mt_app, appO_lst, ix_l, ix_t, ix_o, ixO_l, ixO_f, atI_0, atI_1, atI_2, atI_3, atI_4, atI_5, len_l, len_t, len_o, lenO_l, lenO_f, cd_not, cd_and, cd_or, fz_o, fzO_l, fzO_f, cmp_eqI, cmp_neI, cmp_ltI, cmp_leI, cmp_gtI, cmp_geI, bi_intB, List.length_map, List.length_range, six_o, sixO_l, t1, t2, hb, at_most, decide_eq_true h0, decide_eq_true h1, Bool.and_self, Bool.not_true]) (fi_skip ?_)
  refine fi_ifN (s1 := s) (by simp (disch := first | assumption | omega | (simp only [sizeLine_eq, List.length_map, List.length_range, List.length_append, List.length_cons, List.length_nil, List.length_set, List.length_reverse, List.length_take, List.length_drop]; omega) | (first | rfl | exact frs_fqs _ | exact frs_ints _ | exact frs_nats _ | exact frs_oqs _) | decide) only [ev_cald, ev_new, ev_ome, ev_att, evI_rngd, ev_var, ev_con, ev_tup, ev_lst, ev_dic, ev_neg, ev_bin, ev_cmp, ev_chn, ev_isN, ev_isB, ev_and, ev_or, ev_not, ev_ite, ev_ix, ev_sl, ev_rev, ev_rev0, ev_sst, ev_sln, ev_bi, ev_isT, ev_mt, ev_call, ev_cali, ev_fz, ea_nil, ea_cons, eo_nil, eo_cons,  evI_rng1, evI_rng, evI_zip, evI_enu, evI_cons, iterS, bd_ok, bd_er, ot_ok, gl_some, wo_some, ai_int, br_bl, List.map_cons, List.map_nil, List.cons_append, List.nil_append, List.length_cons, List.length_nil, List.getElem?_cons_zero, List.getElem?_cons_succ, List.set_cons_zero, List.set_cons_succ, cd_t, cd_f, binS_add, binS_sub, mkL_t, mkL_f, fz_lst, fz_tup, le_sz, Nat.zero_add, Nat.reduceAdd, Nat.reduceLeDiff, if_true, st_nm, st_1, st_2, st_3, st_4, wi_nil, wi_cons, upds_nil, upds_cons, ix_fq0, ix_fq1, mthS_o, attS_o, sl_l, rev_l, add_l, bi_mx, bi_mn, bi_list, rcv_app, rcv_ins, rcv_rev, isLO_lst, mt_app, appO_lst, ix_l, ix_t, ix_o, ixO_l, ixO_f, atI_0, atI_1, atI_2, atI_3, atI_4, atI_5, len_l, len_t, len_o, lenO_l, lenO_f, cd_not, cd_and, cd_or, fz_o, fzO_l, fzO_f, cmp_eqI, cmp_neI, cmp_ltI, cmp_leI, cmp_gtI, cmp_geI, bi_intB, List.length_map, List.length_range, six_o, sixO_l, hb, at_marks, hi]; rfl) (fi_skip ?_)
  simp (disch := first | assumption | omega | (simp only [sizeLine_eq, List.length_map, List.length_range, List.length_append, List.length_cons, List.length_nil, List.length_set, List.length_reverse, List.length_take, List.length_drop]; omega) | (first | rfl | exact frs_fqs _ | exact frs_ints _ | exact frs_nats _ | exact frs_oqs _) | decide) only [w_sat, w_set, w_ex, w_unp, w_ret, w_retN, w_par, w_six, ev_cald, ev_new, ev_ome, ev_att, evI_rngd, ev_var, ev_con, ev_tup, ev_lst, ev_dic, ev_neg, ev_bin, ev_cmp, ev_chn, ev_isN, ev_isB, ev_and, ev_or, ev_not, ev_ite, ev_ix, ev_sl, ev_rev, ev_rev0, ev_sst, ev_sln, ev_bi, ev_isT, ev_mt, ev_call, ev_cali, ev_fz, ea_nil, ea_cons, eo_nil, eo_cons,  evI_rng1, evI_rng, evI_zip, evI_enu, evI_cons, iterS, bd_ok, bd_er, ot_ok, gl_some, wo_some, ai_int, br_bl, List.map_cons, List.map_nil, List.cons_append, List.nil_append, List.length_cons, List.length_nil, List.getElem?_cons_zero, List.getElem?_cons_succ, List.set_cons_zero, List.set_cons_succ, cd_t, cd_f, binS_add, binS_sub, mkL_t, mkL_f, fz_lst, fz_tup, le_sz, Nat.zero_add, Nat.reduceAdd, Nat.reduceLeDiff, if_true, st_nm, st_1, st_2, st_3, st_4, wi_nil, wi_cons, upds_nil, upds_cons, ix_fq0, ix_fq1, mthS_o, attS_o, sl_l, rev_l, add_l, bi_mx, bi_mn, bi_list, rcv_app, rcv_ins, rcv_rev, isLO_lst, mt_app, appO_lst, ix_l, ix_t, ix_o, ixO_l, ixO_f, atI_0, atI_1, atI_2, atI_3, atI_4, atI_5, len_l, len_t, len_o, lenO_l, lenO_f, cd_not, cd_and, cd_or, fz_o, fzO_l, fzO_f, cmp_eqI, cmp_neI, cmp_ltI, cmp_leI, cmp_gtI, cmp_geI, bi_intB, List.length_map, List.length_range, six_o, sixO_l, hb, at_marks, hx2]
  exact ⟨rfl⟩
/-! ### law -/
theorem p59 (s : Sto) : binS .pow (.int 10) (.int 59) s = .ok (.int 100000000000000000000000000000000000000000000000000000000000) s := by
  unfold binS
  dsimp only
  rw [if_pos (show cPow 10 59 = true by decide +kernel), show (10 : Int) ^ Int.toNat 59 = 100000000000000000000000000000000000000000000000000000000000 by decide +kernel]
def hD (p : Nat × List Dt) : Dt := .tup [.obj p.1, .lst p.2]
theorem bi_listO {n : Nat} {l : List Dt} {s : Sto} (h : s[n]? = some (.lst l)) : biS .list false [.obj n] s = .ok (.lst l) s := by
  have hv : view s (.obj n) = .lst l := by
    unfold view
    dsimp only
    rw [h] <;> rfl
  unfold biS
  dsimp only
  rw [hv] <;> rfl
theorem rcv_clr (n : Nat) (s : Sto) : rcv .clear (.obj n) s = isLO s[n]? := rcv_app n s
theorem mt_clr {n : Nat} {l : List Dt} {s : Sto} (h : s[n]? = some (.lst l)) : mtS .clear (.obj n) [] s = .ok .non (s.set n (.lst [])) := by
  unfold mtS
  dsimp only
  rw [h]
theorem atE_snoc {es : List Ip.Row} {w h : Str} (ha : atE es w h = none) (m : Int) : atE (es ++ [(w, h, m)]) w h = some (w, h, m) := by
  unfold atE at *
  rw [List.find?_append, ha, Option.none_or, List.find?_cons, decide_eq_true (show w = w ∧ h = h from ⟨rfl, rfl⟩)]
theorem end_snoc {es : List Ip.Row} {w h : Str} (hn : ENd es) (ha : atE es w h = none) (m : Int) : ENd (es ++ [(w, h, m)]) := by
  unfold ENd at *
  rw [List.map_append]
  refine List.nodup_append.mpr ⟨hn, List.pairwise_singleton _ _, fun a ha1 b hb e => ?_⟩
  obtain ⟨q, hq, rfl⟩ := List.mem_map.mp ha1
  rw [List.mem_singleton.mp hb] at e
  have e : (q.1, q.2.1) = (w, h) := e
  obtain ⟨e1, e2⟩ := Prod.mk.inj e
  exact atE_none.mp ha q hq ⟨e1, e2⟩
theorem law_ok (ns : List Int) (hl : ns.length ≤ 63) : ∃ s', runF Pp lawLevel f_law [.lst (ns.map Dt.int)] [] = .ok (.bl true) s' := by
  refine rq_law (Q := fun r => ∃ s', r = .ok (.bl true) s') (by decide) fun j hj => ?_
  obtain rfl : j = 14 := by have h : 16 = j + 2 := hj; omega
  show Fin LawE _
  unfold b_law
  have hns : ns.length ≤ 1000 := by omega
  have cc : ∀ (i : Nat), i < 10000 → ∀ s, callP (runF Pp 15) f__law_cell [.lst (ns.map Dt.int), .int (i : Nat)] s = .ok (.int (cellV ns i)) s := fun i hi s => cp__law_cell (show 2 ≤ 15 by omega) ns i (by omega) hns s
  have c0 : ∀ s, callP (runF Pp 15) f__law_cell [.lst (ns.map Dt.int), .int 0] s = .ok (.int (cellV ns 0)) s := cc 0 (by decide)
  have c1 : ∀ s, callP (runF Pp 15) f__law_cell [.lst (ns.map Dt.int), .int 1] s = .ok (.int (cellV ns 1)) s := cc 1 (by decide)
  have c2 : ∀ s, callP (runF Pp 15) f__law_cell [.lst (ns.map Dt.int), .int 2] s = .ok (.int (cellV ns 2)) s := cc 2 (by decide)
  have d10 : ∀ i s, binS .div (.int i) (.int 10) s = .ok (.int (i / 10)) s := fun i s => binS_divP (by decide) (by decide)
  have d30 : ∀ i s, binS .div (.int i) (.int 30) s = .ok (.int (i / 30)) s := fun i s => binS_divP (by decide) (by decide)
  have m3 : ∀ i s, binS .mod (.int i) (.int 3) s = .ok (.int (i % 3)) s := fun i s => binS_modP (by decide)
  have m5 : ∀ i s, binS .mod (.int i) (.int 5) s = .ok (.int (i % 5)) s := fun i s => binS_modP (by decide)
  simp (disch := first | assumption | omega | (simp only [sizeLine_eq, List.length_map, List.length_range, List.length_append, List.length_cons, List.length_nil, List.length_set, List.length_reverse, List.length_take, List.length_drop]; omega) | (first | rfl | exact frs_fqs _ | exact frs_ints _ | exact frs_nats _ | exact frs_oqs _) | decide) only [w_sat, w_set, w_ex, w_unp, w_ret, w_retN, w_par, w_six, ev_cald, ev_new, ev_ome, ev_att, evI_rngd, ev_var, ev_con, ev_tup, ev_lst, ev_dic, ev_neg, ev_bin, ev_cmp, ev_chn, ev_isN, ev_isB, ev_and, ev_or, ev_not, ev_ite, ev_ix, ev_sl, ev_rev, ev_rev0, ev_sst, ev_sln, ev_bi, ev_isT, ev_mt, ev_call, ev_cali, ev_fz, ea_nil, ea_cons, eo_nil, eo_cons,  evI_rng1, evI_rng, evI_zip, evI_enu, evI_cons, iterS, bd_ok, bd_er, ot_ok, gl_some, wo_some, ai_int, br_bl, List.map_cons, List.map_nil, List.cons_append, List.nil_append, List.length_cons, List.length_nil, List.getElem?_cons_zero, List.getElem?_cons_succ, List.set_cons_zero, List.set_cons_succ, cd_t, cd_f, binS_add, binS_sub, mkL_t, mkL_f, fz_lst, fz_tup, le_sz, Nat.zero_add, Nat.reduceAdd, Nat.reduceLeDiff, if_true, st_nm, st_1, st_2, st_3, st_4, wi_nil, wi_cons, upds_nil, upds_cons, ix_fq0, ix_fq1, mthS_o, attS_o, sl_l, rev_l, add_l, bi_mx, bi_mn, bi_list, rcv_app, rcv_ins, rcv_rev, isLO_lst, mt_app, appO_lst, ix_l, ix_t, ix_o, ixO_l, ixO_f, atI_0, atI_1, atI_2, atI_3, atI_4, atI_5, len_l, len_t, len_o, lenO_l, lenO_f, cd_not, cd_and, cd_or, fz_o, fzO_l, fzO_f, cmp_eqI, cmp_neI, cmp_ltI, cmp_leI, cmp_gtI, cmp_geI, bi_intB, List.length_map, List.length_range, six_o, sixO_l, c0, binS_modP (show (0 : Int) < 10 by decide)]
  refine fi_ifL (k := decide (cellV ns 0 / 10 % 3 = 1)) (s1 := []) (fun l0 s0 l s => s = [] ∧ ∃ most : Int, 0 ≤ most ∧ l = upds l0 [(1, some (.int most))]) (by simp (disch := first | assumption | omega | (simp only [sizeLine_eq, List.length_map, List.length_range, List.length_append, List.length_cons, List.length_nil, List.length_set, List.length_reverse, List.length_take, List.length_drop]; omega) | (first | rfl | exact frs_fqs _ | exact frs_ints _ | exact frs_nats _ | exact frs_oqs _) | decide) only [ev_cald, ev_new, ev_ome, ev_att, evI_rngd, ev_var, ev_con, ev_tup, ev_lst, ev_dic, ev_neg, ev_bin, ev_cmp, ev_chn, ev_isN, ev_isB, ev_and, ev_or, ev_not, ev_ite, ev_ix, ev_sl, ev_rev, ev_rev0, ev_sst, ev_sln, ev_bi, ev_isT, ev_mt, ev_call, ev_cali, ev_fz, ea_nil, ea_cons, eo_nil, eo_cons,  evI_rng1, evI_rng, evI_zip, evI_enu, evI_cons, iterS, bd_ok, bd_er, ot_ok, gl_some, wo_some, ai_int, br_bl, List.map_cons, List.map_nil, List.cons_append, List.nil_append, List.length_cons, List.length_nil, List.getElem?_cons_zero, List.getElem?_cons_succ, List.set_cons_zero, List.set_cons_succ, cd_t, cd_f, binS_add, binS_sub, mkL_t, mkL_f, fz_lst, fz_tup, le_sz, Nat.zero_add, Nat.reduceAdd, Nat.reduceLeDiff, if_true, st_nm, st_1, st_2, st_3, st_4, wi_nil, wi_cons, upds_nil, upds_cons, ix_fq0, ix_fq1, mthS_o, attS_o, sl_l, rev_l, add_l, bi_mx, bi_mn, bi_list, rcv_app, rcv_ins, rcv_rev, isLO_lst, mt_app, appO_lst, ix_l, ix_t, ix_o, ixO_l, ixO_f, atI_0, atI_1, atI_2, atI_3, atI_4, atI_5, len_l, len_t, len_o, lenO_l, lenO_f, cd_not, cd_and, cd_or, fz_o, fzO_l, fzO_f, cmp_eqI, cmp_neI, cmp_ltI, cmp_leI, cmp_gtI, cmp_geI, bi_intB, List.length_map, List.length_range, six_o, sixO_l, c0, d10, m3]) (fun z => ?_) (fun z => lp_end ⟨rfl, cellV ns 0 % 10, by omega, rfl⟩) ?_
  · simp (disch := first | assumption | omega | (simp only [sizeLine_eq, List.length_map, List.length_range, List.length_append, List.length_cons, List.length_nil, List.length_set, List.length_reverse, List.length_take, List.length_drop]; omega) | (first | rfl | exact frs_fqs _ | exact frs_ints _ | exact frs_nats _ | exact frs_oqs _) | decide) only [w_sat, w_set, w_ex, w_unp, w_ret, w_retN, w_par, w_six, ev_cald, ev_new, ev_ome, ev_att, evI_rngd, ev_var, ev_con, ev_tup, ev_lst, ev_dic, ev_neg, ev_bin, ev_cmp, ev_chn, ev_isN, ev_isB, ev_and, ev_or, ev_not, ev_ite, ev_ix, ev_sl, ev_rev, ev_rev0, ev_sst, ev_sln, ev_bi, ev_isT, ev_mt, ev_call, ev_cali, ev_fz, ea_nil, ea_cons, eo_nil, eo_cons,  evI_rng1, evI_rng, evI_zip, evI_enu, evI_cons, iterS, bd_ok, bd_er, ot_ok, gl_some, wo_some, ai_int, br_bl, List.map_cons, List.map_nil, List.cons_append, List.nil_append, List.length_cons, List.length_nil, List.getElem?_cons_zero, List.getElem?_cons_succ, List.set_cons_zero, List.set_cons_succ, cd_t, cd_f, binS_add, binS_sub, mkL_t, mkL_f, fz_lst, fz_tup, le_sz, Nat.zero_add, Nat.reduceAdd, Nat.reduceLeDiff, if_true, st_nm, st_1, st_2, st_3, st_4, wi_nil, wi_cons, upds_nil, upds_cons, ix_fq0, ix_fq1, mthS_o, attS_o, sl_l, rev_l, add_l, bi_mx, bi_mn, bi_list, rcv_app, rcv_ins, rcv_rev, isLO_lst, mt_app, appO_lst, ix_l, ix_t, ix_o, ixO_l, ixO_f, atI_0, atI_1, atI_2, atI_3, atI_4, atI_5, len_l, len_t, len_o, lenO_l, lenO_f, cd_not, cd_and, cd_or, fz_o, fzO_l, fzO_f, cmp_eqI, cmp_neI, cmp_ltI, cmp_leI, cmp_gtI, cmp_geI, bi_intB, List.length_map, List.length_range, six_o, sixO_l, c0, d30, p59, binS_modP (show (0 : Int) < 100000000000000000000000000000000000000000000000000000000000 by decide)]
    exact lp_nx ⟨rfl, _, Int.emod_nonneg _ (by decide), rfl⟩
  rintro l s ⟨rfl, most, hmost, rfl⟩
  try simp only [upds_nil, upds_cons, List.set_cons_zero, List.set_cons_succ]
  obtain ⟨W, ⟨hWl, hW⟩, eW⟩ := cp__law_names (k := 15) (by decide) (cellV ns 1) (show 5 ≤ 8 by decide)
  obtain ⟨H, ⟨hHl, hH⟩, eH⟩ := cp__law_names (k := 15) (by decide) (cellV ns 2) (show 5 ≤ 8 by decide)
  have eW' : ∀ s, callP (runF Pp 15) f__law_names [.int (cellV ns 1), .int 5] s = .ok (.lst (W.map Dt.str)) s := eW
  have eH' : ∀ s, callP (runF Pp 15) f__law_names [.int (cellV ns 2), .int 5] s = .ok (.lst (H.map Dt.str)) s := eH
  have nb : runF Pp 15 (nwI 6) [.int most] [] = .ok (.obj 0) [bkI most 1, .dT []] := rn_Book (by decide) most []
  simp (disch := first | assumption | omega | (simp only [sizeLine_eq, List.length_map, List.length_range, List.length_append, List.length_cons, List.length_nil, List.length_set, List.length_reverse, List.length_take, List.length_drop]; omega) | (first | rfl | exact frs_fqs _ | exact frs_ints _ | exact frs_nats _ | exact frs_oqs _) | decide) only [w_sat, w_set, w_ex, w_unp, w_ret, w_retN, w_par, w_six, ev_cald, ev_new, ev_ome, ev_att, evI_rngd, ev_var, ev_con, ev_tup, ev_lst, ev_dic, ev_neg, ev_bin, ev_cmp, ev_chn, ev_isN, ev_isB, ev_and, ev_or, ev_not, ev_ite, ev_ix, ev_sl, ev_rev, ev_rev0, ev_sst, ev_sln, ev_bi, ev_isT, ev_mt, ev_call, ev_cali, ev_fz, ea_nil, ea_cons, eo_nil, eo_cons,  evI_rng1, evI_rng, evI_zip, evI_enu, evI_cons, iterS, bd_ok, bd_er, ot_ok, gl_some, wo_some, ai_int, br_bl, List.map_cons, List.map_nil, List.cons_append, List.nil_append, List.length_cons, List.length_nil, List.getElem?_cons_zero, List.getElem?_cons_succ, List.set_cons_zero, List.set_cons_succ, cd_t, cd_f, binS_add, binS_sub, mkL_t, mkL_f, fz_lst, fz_tup, le_sz, Nat.zero_add, Nat.reduceAdd, Nat.reduceLeDiff, if_true, st_nm, st_1, st_2, st_3, st_4, wi_nil, wi_cons, upds_nil, upds_cons, ix_fq0, ix_fq1, mthS_o, attS_o, sl_l, rev_l, add_l, bi_mx, bi_mn, bi_list, rcv_app, rcv_ins, rcv_rev, isLO_lst, mt_app, appO_lst, ix_l, ix_t, ix_o, ixO_l, ixO_f, atI_0, atI_1, atI_2, atI_3, atI_4, atI_5, len_l, len_t, len_o, lenO_l, lenO_f, cd_not, cd_and, cd_or, fz_o, fzO_l, fzO_f, cmp_eqI, cmp_neI, cmp_ltI, cmp_leI, cmp_gtI, cmp_geI, bi_intB, List.length_map, List.length_range, six_o, sixO_l, c1, c2, eW', eH', nb, if_true]
  obtain ⟨N, hN, eN⟩ : ∃ N : Nat, N ≤ 50 ∧ max (11 : Int) (min 53 (ns.length : Int)) = ((N + 3 : Nat) : Int) := ⟨(max (11 : Int) (min 53 (ns.length : Int))).toNat - 3, by omega, by omega⟩
  have rg : ∀ s, rngS2 (.int 3) (.int ((N + 3 : Nat) : Int)) s = .ok (.pl (dRange 3 N)) s := fun s => by
    unfold rngS2
    rw [asI_int, asI_int, if_pos ⟨by omega, by omega, by omega, by omega⟩, show (((N + 3 : Nat) : Int) - 3).toNat = N by omega]
  refine fi_forRg (lo := 3) (n := N) (fun l0 s0 i l s => ∃ (es : List Ip.Row) (held : List (Nat × List Dt)) (js : Sto) (s7 s8 s9 s10 s11 : Option Dt), (ENd es ∧ RowsOk es ∧ es.length ≤ i ∧ held.length ≤ i) ∧ (∀ p ∈ held, s[p.1]? = some (.lst p.2) ∧ 4 ≤ p.1 ∧ Hd (.lst p.2)) ∧ s = bkI most 1 :: .dT (es.map tE) :: .dT (es.map tE) :: .lst (held.map hD) :: js ∧ l = upds l0 [(7, s7), (8, s8), (9, s9), (10, s10), (11, s11)]) (by simp (disch := first | assumption | omega | (simp only [sizeLine_eq, List.length_map, List.length_range, List.length_append, List.length_cons, List.length_nil, List.length_set, List.length_reverse, List.length_take, List.length_drop]; omega) | (first | rfl | exact frs_fqs _ | exact frs_ints _ | exact frs_nats _ | exact frs_oqs _) | decide) only [ev_cald, ev_new, ev_ome, ev_att, evI_rngd, ev_var, ev_con, ev_tup, ev_lst, ev_dic, ev_neg, ev_bin, ev_cmp, ev_chn, ev_isN, ev_isB, ev_and, ev_or, ev_not, ev_ite, ev_ix, ev_sl, ev_rev, ev_rev0, ev_sst, ev_sln, ev_bi, ev_isT, ev_mt, ev_call, ev_cali, ev_fz, ea_nil, ea_cons, eo_nil, eo_cons,  evI_rng1, evI_rng, evI_zip, evI_enu, evI_cons, iterS, bd_ok, bd_er, ot_ok, gl_some, wo_some, ai_int, br_bl, List.map_cons, List.map_nil, List.cons_append, List.nil_append, List.length_cons, List.length_nil, List.getElem?_cons_zero, List.getElem?_cons_succ, List.set_cons_zero, List.set_cons_succ, cd_t, cd_f, binS_add, binS_sub, mkL_t, mkL_f, fz_lst, fz_tup, le_sz, Nat.zero_add, Nat.reduceAdd, Nat.reduceLeDiff, if_true, st_nm, st_1, st_2, st_3, st_4, wi_nil, wi_cons, upds_nil, upds_cons, ix_fq0, ix_fq1, mthS_o, attS_o, sl_l, rev_l, add_l, bi_mx, bi_mn, bi_list, rcv_app, rcv_ins, rcv_rev, isLO_lst, mt_app, appO_lst, ix_l, ix_t, ix_o, ixO_l, ixO_f, atI_0, atI_1, atI_2, atI_3, atI_4, atI_5, len_l, len_t, len_o, lenO_l, lenO_f, cd_not, cd_and, cd_or, fz_o, fzO_l, fzO_f, cmp_eqI, cmp_neI, cmp_ltI, cmp_leI, cmp_gtI, cmp_geI, bi_intB, List.length_map, List.length_range, six_o, sixO_l, eN, rg] <;> rfl) ⟨[], [], [], _, _, _, _, _, ⟨List.nodup_nil, fun _ h => (by cases h), Nat.le_refl _, Nat.le_refl _⟩, fun _ h => (by cases h), rfl, rfl⟩ ?_ ?_
  · rintro i hi l s ⟨es, held, js, s7, s8, s9, s10, s11, ⟨hn, hok, hel, hhl⟩, hheld, rfl, rfl⟩
    simp only [bodF, st_nm, st_1, st_2, st_3, st_4, wo_some, upds_nil, upds_cons, List.set_cons_zero, List.set_cons_succ]
    rw [show (3 : Int) + (i : Nat) = ((3 + i : Nat) : Int) by omega]
    have hst : ∀ s, callP (runF Pp 15) f__law_stream [.int (cellV ns (3 + i)), .int 6] s = .ok (.lst ((strm (cellV ns (3 + i)) 6).map Dt.int)) s := cp__law_stream (k := 15) (by decide) (cellV ns (3 + i)) 6 (by decide)
    obtain ⟨x0, x1, x2, x3, x4, x5, ex⟩ : ∃ x0 x1 x2 x3 x4 x5, strm (cellV ns (3 + i)) 6 = [x0, x1, x2, x3, x4, x5] := ⟨_, _, _, _, _, _, rfl⟩
    rw [ex] at hst
    obtain ⟨r0, hr0, er0⟩ : ∃ r : Nat, r < 5 ∧ x0 % 5 = (r : Int) := ⟨(x0 % 5).toNat, by omega, by omega⟩
    obtain ⟨r1, hr1, er1⟩ : ∃ r : Nat, r < 5 ∧ x1 % 5 = (r : Int) := ⟨(x1 % 5).toNat, by omega, by omega⟩
    have hwl : r0 < W.length := by omega
    have hhl2 : r1 < H.length := by omega
    have aw : ∀ s, withO (atI (W.map Dt.str) (r0 : Nat)) Ip.R.no (fun d => Ip.R.ok d s) = .ok (.str W[r0]) s := fun s => by rw [atI_map hwl]; rfl
    have ah : ∀ s, withO (atI (H.map Dt.str) (r1 : Nat)) Ip.R.no (fun d => Ip.R.ok d s) = .ok (.str H[r1]) s := fun s => by rw [atI_map hhl2]; rfl
    have hw := hW W[r0] (List.getElem_mem hwl)
    have hh := hH H[r1] (List.getElem_mem hhl2)
    generalize W[r0] = w at *
    generalize H[r1] = h at *
    simp (disch := first | assumption | omega | (simp only [sizeLine_eq, List.length_map, List.length_range, List.length_append, List.length_cons, List.length_nil, List.length_set, List.length_reverse, List.length_take, List.length_drop]; omega) | (first | rfl | exact frs_fqs _ | exact frs_ints _ | exact frs_nats _ | exact frs_oqs _) | decide) only [w_sat, w_set, w_ex, w_unp, w_ret, w_retN, w_par, w_six, ev_cald, ev_new, ev_ome, ev_att, evI_rngd, ev_var, ev_con, ev_tup, ev_lst, ev_dic, ev_neg, ev_bin, ev_cmp, ev_chn, ev_isN, ev_isB, ev_and, ev_or, ev_not, ev_ite, ev_ix, ev_sl, ev_rev, ev_rev0, ev_sst, ev_sln, ev_bi, ev_isT, ev_mt, ev_call, ev_cali, ev_fz, ea_nil, ea_cons, eo_nil, eo_cons,  evI_rng1, evI_rng, evI_zip, evI_enu, evI_cons, iterS, bd_ok, bd_er, ot_ok, gl_some, wo_some, ai_int, br_bl, List.map_cons, List.map_nil, List.cons_append, List.nil_append, List.length_cons, List.length_nil, List.getElem?_cons_zero, List.getElem?_cons_succ, List.set_cons_zero, List.set_cons_succ, cd_t, cd_f, binS_add, binS_sub, mkL_t, mkL_f, fz_lst, fz_tup, le_sz, Nat.zero_add, Nat.reduceAdd, Nat.reduceLeDiff, if_true, st_nm, st_1, st_2, st_3, st_4, wi_nil, wi_cons, upds_nil, upds_cons, ix_fq0, ix_fq1, mthS_o, attS_o, sl_l, rev_l, add_l, bi_mx, bi_mn, bi_list, rcv_app, rcv_ins, rcv_rev, isLO_lst, mt_app, appO_lst, ix_l, ix_t, ix_o, ixO_l, ixO_f, atI_0, atI_1, atI_2, atI_3, atI_4, atI_5, len_l, len_t, len_o, lenO_l, lenO_f, cd_not, cd_and, cd_or, fz_o, fzO_l, fzO_f, cmp_eqI, cmp_neI, cmp_ltI, cmp_leI, cmp_gtI, cmp_geI, bi_intB, List.length_map, List.length_range, six_o, sixO_l, cc (3 + i) (by omega), hst, m5, er0, er1, aw, ah]
    obtain ⟨mk, hmk0, hmk1, emk⟩ := cp__law_mark (k := 15) (by decide) x2 most hmost
    have mp : mthO Pp 11 (some (bkI most 1)) = some f_Book_put := rfl
    have md : mthO Pp 9 (some (bkI most 1)) = some f_Book_drop := rfl
    have mr : mthO Pp 12 (some (bkI most 1)) = some f_Book_rows := rfl
    have hi2 := inn_T (n := 2) (l := es.map tE) (s := bkI most 1 :: .dT (es.map tE) :: .dT (es.map tE) :: .lst (held.map hD) :: js) rfl w h
    rw [look_tE] at hi2
    have hgt : ∀ p ∈ held, (bkI most 1 :: Ob.dT (es.map tE) :: .dT (es.map tE) :: .lst (held.map hD) :: js)[p.1]? = some (.lst p.2) := fun p hp => (hheld p hp).1
    refine fi_ifL (k := (Option.map (fun e : Ip.Row => Dt.int e.2.2) (atE es w h)).isSome) (s1 := bkI most 1 :: .dT (es.map tE) :: .dT (es.map tE) :: .lst (held.map hD) :: js) (fun l0 s0 l s => ∃ es' : List Ip.Row, (ENd es' ∧ RowsOk es' ∧ es'.length ≤ i + 1) ∧ s = bkI most 1 :: .dT (es'.map tE) :: .dT (es'.map tE) :: .lst (held.map hD) :: js ∧ l = upds l0 [(10, some .non)]) (by simp (disch := first | assumption | omega | (simp only [sizeLine_eq, List.length_map, List.length_range, List.length_append, List.length_cons, List.length_nil, List.length_set, List.length_reverse, List.length_take, List.length_drop]; omega) | (first | rfl | exact frs_fqs _ | exact frs_ints _ | exact frs_nats _ | exact frs_oqs _) | decide) only [ev_cald, ev_new, ev_ome, ev_att, evI_rngd, ev_var, ev_con, ev_tup, ev_lst, ev_dic, ev_neg, ev_bin, ev_cmp, ev_chn, ev_isN, ev_isB, ev_and, ev_or, ev_not, ev_ite, ev_ix, ev_sl, ev_rev, ev_rev0, ev_sst, ev_sln, ev_bi, ev_isT, ev_mt, ev_call, ev_cali, ev_fz, ea_nil, ea_cons, eo_nil, eo_cons,  evI_rng1, evI_rng, evI_zip, evI_enu, evI_cons, iterS, bd_ok, bd_er, ot_ok, gl_some, wo_some, ai_int, br_bl, List.map_cons, List.map_nil, List.cons_append, List.nil_append, List.length_cons, List.length_nil, List.getElem?_cons_zero, List.getElem?_cons_succ, List.set_cons_zero, List.set_cons_succ, cd_t, cd_f, binS_add, binS_sub, mkL_t, mkL_f, fz_lst, fz_tup, le_sz, Nat.zero_add, Nat.reduceAdd, Nat.reduceLeDiff, if_true, st_nm, st_1, st_2, st_3, st_4, wi_nil, wi_cons, upds_nil, upds_cons, ix_fq0, ix_fq1, mthS_o, attS_o, sl_l, rev_l, add_l, bi_mx, bi_mn, bi_list, rcv_app, rcv_ins, rcv_rev, isLO_lst, mt_app, appO_lst, ix_l, ix_t, ix_o, ixO_l, ixO_f, atI_0, atI_1, atI_2, atI_3, atI_4, atI_5, len_l, len_t, len_o, lenO_l, lenO_f, cd_not, cd_and, cd_or, fz_o, fzO_l, fzO_f, cmp_eqI, cmp_neI, cmp_ltI, cmp_leI, cmp_gtI, cmp_geI, bi_intB, List.length_map, List.length_range, six_o, sixO_l, hi2]) (fun z => ?_) (fun z => ?_) ?_
    · cases ea : atE es w h with
      | none => rw [ea] at z; cases z
      | some e =>
        have hp := pop_T (n := 2) (l := es.map tE) (s := bkI most 1 :: .dT (es.map tE) :: .dT (es.map tE) :: .lst (held.map hD) :: js) rfl (by rw [look_tE, ea]; rfl : lookK (es.map tE) (pk w h) = some (.int e.2.2))
        rw [del_tE] at hp
        have hd := rn_Book_drop (k := 15) (by decide) hw (by decide) hh (by decide) ea (most := most) (b := 0) (d := 1) (s := bkI most 1 :: .dT (es.map tE) :: .dT ((delE es w h).map tE) :: .lst (held.map hD) :: js) rfl rfl
        simp (disch := first | assumption | omega | (simp only [sizeLine_eq, List.length_map, List.length_range, List.length_append, List.length_cons, List.length_nil, List.length_set, List.length_reverse, List.length_take, List.length_drop]; omega) | (first | rfl | exact frs_fqs _ | exact frs_ints _ | exact frs_nats _ | exact frs_oqs _) | decide) only [w_sat, w_set, w_ex, w_unp, w_ret, w_retN, w_par, w_six, ev_cald, ev_new, ev_ome, ev_att, evI_rngd, ev_var, ev_con, ev_tup, ev_lst, ev_dic, ev_neg, ev_bin, ev_cmp, ev_chn, ev_isN, ev_isB, ev_and, ev_or, ev_not, ev_ite, ev_ix, ev_sl, ev_rev, ev_rev0, ev_sst, ev_sln, ev_bi, ev_isT, ev_mt, ev_call, ev_cali, ev_fz, ea_nil, ea_cons, eo_nil, eo_cons,  evI_rng1, evI_rng, evI_zip, evI_enu, evI_cons, iterS, bd_ok, bd_er, ot_ok, gl_some, wo_some, ai_int, br_bl, List.map_cons, List.map_nil, List.cons_append, List.nil_append, List.length_cons, List.length_nil, List.getElem?_cons_zero, List.getElem?_cons_succ, List.set_cons_zero, List.set_cons_succ, cd_t, cd_f, binS_add, binS_sub, mkL_t, mkL_f, fz_lst, fz_tup, le_sz, Nat.zero_add, Nat.reduceAdd, Nat.reduceLeDiff, if_true, st_nm, st_1, st_2, st_3, st_4, wi_nil, wi_cons, upds_nil, upds_cons, ix_fq0, ix_fq1, mthS_o, attS_o, sl_l, rev_l, add_l, bi_mx, bi_mn, bi_list, rcv_app, rcv_ins, rcv_rev, isLO_lst, mt_app, appO_lst, ix_l, ix_t, ix_o, ixO_l, ixO_f, atI_0, atI_1, atI_2, atI_3, atI_4, atI_5, len_l, len_t, len_o, lenO_l, lenO_f, cd_not, cd_and, cd_or, fz_o, fzO_l, fzO_f, cmp_eqI, cmp_neI, cmp_ltI, cmp_leI, cmp_gtI, cmp_geI, bi_intB, List.length_map, List.length_range, six_o, sixO_l, rcv_pop, isDO_dT, hp, md, hd]
        refine lp_nx ⟨delE es w h, ⟨hn.sublist (List.filter_sublist.map _), fun r hr => hok r (List.mem_filter.mp hr).1, ?_⟩, rfl, rfl⟩
        have := List.length_filter_le (fun e : Ip.Row => !decide (e.1 = w ∧ e.2.1 = h)) es
        unfold delE
        omega
    · cases ea : atE es w h with
      | some e => rw [ea] at z; cases z
      | none =>
        have hx := six_T (n := 2) (l := es.map tE) (s := bkI most 1 :: .dT (es.map tE) :: .dT (es.map tE) :: .lst (held.map hD) :: js) rfl (by rw [List.length_map, sizeLine_eq]; omega) w h (.int mk)
        rw [set_tE ea] at hx
        have hx2 : sixO (some (Ob.dT (es.map tE))) 2 (.tup [.str w, .str h]) (.int mk) (bkI most 1 :: .dT (es.map tE) :: .dT (es.map tE) :: .lst (held.map hD) :: js) = some (bkI most 1 :: .dT (es.map tE) :: .dT ((es ++ [(w, h, mk)]).map tE) :: .lst (held.map hD) :: js) := hx
        have hg : ixO (some (Ob.dT ((es ++ [(w, h, mk)]).map tE))) 2 (.tup [.str w, .str h]) (bkI most 1 :: .dT (es.map tE) :: .dT ((es ++ [(w, h, mk)]).map tE) :: .lst (held.map hD) :: js) = .ok (.int mk) (bkI most 1 :: .dT (es.map tE) :: .dT ((es ++ [(w, h, mk)]).map tE) :: .lst (held.map hD) :: js) :=
          (ix_o 2 _ _).symm.trans (ix_T (n := 2) (l := (es ++ [(w, h, mk)]).map tE) (s := bkI most 1 :: .dT (es.map tE) :: .dT ((es ++ [(w, h, mk)]).map tE) :: .lst (held.map hD) :: js) rfl (by rw [look_tE, atE_snoc ea]; rfl))
        have hp := rn_Book_put (k := 15) (by decide) (show es.length ≤ 1000 by omega) hw (by decide) hh (by decide) hmk0 hmk1 ea (b := 0) (d := 1) (s := bkI most 1 :: .dT (es.map tE) :: .dT ((es ++ [(w, h, mk)]).map tE) :: .lst (held.map hD) :: js) rfl rfl
        simp (disch := first | assumption | omega | (simp only [sizeLine_eq, List.length_map, List.length_range, List.length_append, List.length_cons, List.length_nil, List.length_set, List.length_reverse, List.length_take, List.length_drop]; omega) | (first | rfl | exact frs_fqs _ | exact frs_ints _ | exact frs_nats _ | exact frs_oqs _) | decide) only [w_sat, w_set, w_ex, w_unp, w_ret, w_retN, w_par, w_six, ev_cald, ev_new, ev_ome, ev_att, evI_rngd, ev_var, ev_con, ev_tup, ev_lst, ev_dic, ev_neg, ev_bin, ev_cmp, ev_chn, ev_isN, ev_isB, ev_and, ev_or, ev_not, ev_ite, ev_ix, ev_sl, ev_rev, ev_rev0, ev_sst, ev_sln, ev_bi, ev_isT, ev_mt, ev_call, ev_cali, ev_fz, ea_nil, ea_cons, eo_nil, eo_cons,  evI_rng1, evI_rng, evI_zip, evI_enu, evI_cons, iterS, bd_ok, bd_er, ot_ok, gl_some, wo_some, ai_int, br_bl, List.map_cons, List.map_nil, List.cons_append, List.nil_append, List.length_cons, List.length_nil, List.getElem?_cons_zero, List.getElem?_cons_succ, List.set_cons_zero, List.set_cons_succ, cd_t, cd_f, binS_add, binS_sub, mkL_t, mkL_f, fz_lst, fz_tup, le_sz, Nat.zero_add, Nat.reduceAdd, Nat.reduceLeDiff, if_true, st_nm, st_1, st_2, st_3, st_4, wi_nil, wi_cons, upds_nil, upds_cons, ix_fq0, ix_fq1, mthS_o, attS_o, sl_l, rev_l, add_l, bi_mx, bi_mn, bi_list, rcv_app, rcv_ins, rcv_rev, isLO_lst, mt_app, appO_lst, ix_l, ix_t, ix_o, ixO_l, ixO_f, atI_0, atI_1, atI_2, atI_3, atI_4, atI_5, len_l, len_t, len_o, lenO_l, lenO_f, cd_not, cd_and, cd_or, fz_o, fzO_l, fzO_f, cmp_eqI, cmp_neI, cmp_ltI, cmp_leI, cmp_gtI, cmp_geI, bi_intB, List.length_map, List.length_range, six_o, sixO_l, emk, hx2, hg, mp, hp]
        refine lp_nx ⟨es ++ [(w, h, mk)], ⟨end_snoc hn ea mk, fun r hr => ?_, by rw [List.length_append]; show es.length + 1 ≤ _; omega⟩, rfl, rfl⟩
        rcases List.mem_append.mp hr with q | q
        · exact hok r q
        · rw [List.mem_singleton.mp q]
          exact ⟨hw.ok, hh.ok⟩
    rintro l s ⟨es', ⟨hn', hok', hel'⟩, rfl, rfl⟩
    try simp only [upds_nil, upds_cons, List.set_cons_zero, List.set_cons_succ]
    obtain ⟨js2, n, wd, ⟨hn4, hg⟩, et⟩ := rn__law_told (k := 15) (by decide) hn' hok' (by omega) (b := 0) (d := 1) (e := 2) (by decide) (s := bkI most 1 :: .dT (es'.map tE) :: .dT (es'.map tE) :: .lst (held.map hD) :: js) rfl rfl rfl x3
    have hr := rn_Book_rows (k := 15) (by decide) hn' (by omega) (b := 0) (d := 1) (s := bkI most 1 :: .dT (es'.map tE) :: .dT (es'.map tE) :: .lst (held.map hD) :: (js ++ js2)) rfl rfl
    have hkd := rn__law_kinds (k := 15) (by decide) (rows := srtR es') (n := (bkI most 1 :: Ob.dT (es'.map tE) :: .dT (es'.map tE) :: .lst (held.map hD) :: (js ++ js2)).length) (s := (bkI most 1 :: .dT (es'.map tE) :: .dT (es'.map tE) :: .lst (held.map hD) :: (js ++ js2)) ++ [.lst ((srtR es').map rowD)]) (by rw [List.getElem?_append_right (Nat.le_refl _), Nat.sub_self]; rfl)
    have et2 : runF Pp 15 f__law_told [.obj 0, .obj 2, .int x3] (bkI most 1 :: .dT (es'.map tE) :: .dT (es'.map tE) :: .lst (held.map hD) :: js) = .ok (.obj n) (bkI most 1 :: .dT (es'.map tE) :: .dT (es'.map tE) :: .lst (held.map hD) :: (js ++ js2)) := et
    obtain ⟨m, rfl⟩ : ∃ m, n = m + 4 := ⟨n - 4, by have : (bkI most 1 :: Ob.dT (es'.map tE) :: .dT (es'.map tE) :: .lst (held.map hD) :: js).length = js.length + 4 := rfl; omega⟩
    have hg2 : (js ++ js2 ++ [Ob.lst ((srtR es').map rowD)])[m]? = some (.lst (toldL es' wd)) := by
      have hg : (js ++ js2)[m]? = some (.lst (toldL es' wd)) := hg
      rw [List.getElem?_append_left (List.getElem?_eq_some_iff.mp hg).1]
      exact hg
    have tl := toldL_len es' wd
    have hdt := toldL_hd hok' wd
    obtain ⟨nn, hr2, hkd2⟩ : ∃ nn, runF Pp 15 f_Book_rows [.obj 0] (bkI most 1 :: .dT (es'.map tE) :: .dT (es'.map tE) :: .lst (held.map hD) :: (js ++ js2)) = .ok (.obj nn) (bkI most 1 :: .dT (es'.map tE) :: .dT (es'.map tE) :: .lst (held.map hD) :: (js ++ js2 ++ [.lst ((srtR es').map rowD)])) ∧
        runF Pp 15 f__law_kinds [.obj nn] (bkI most 1 :: .dT (es'.map tE) :: .dT (es'.map tE) :: .lst (held.map hD) :: (js ++ js2 ++ [.lst ((srtR es').map rowD)])) = .ok (.bl true) (bkI most 1 :: .dT (es'.map tE) :: .dT (es'.map tE) :: .lst (held.map hD) :: (js ++ js2 ++ [.lst ((srtR es').map rowD)])) := ⟨_, hr, hkd⟩
    have hheld2 : ∀ p ∈ held, (js ++ js2 ++ [Ob.lst ((srtR es').map rowD)])[p.1 - 4]? = some (.lst p.2) ∧ p.1 - 4 < js.length := fun p hp => by
      obtain ⟨h1, h2, h3⟩ := hheld p hp
      have e4 : p.1 = p.1 - 4 + 4 := by omega
      generalize p.1 - 4 = q at *
      rw [e4] at h1
      have h1 : js[q]? = some (.lst p.2) := h1
      have hq := (List.getElem?_eq_some_iff.mp h1).1
      refine ⟨?_, hq⟩
      rw [List.append_assoc, List.getElem?_append_left hq]
      exact h1
    have hmj : js.length ≤ m := by
      have : (bkI most 1 :: Ob.dT (es'.map tE) :: .dT (es'.map tE) :: .lst (held.map hD) :: js).length = js.length + 4 := rfl
      omega
    simp (disch := first | assumption | omega | (simp only [sizeLine_eq, List.length_map, List.length_range, List.length_append, List.length_cons, List.length_nil, List.length_set, List.length_reverse, List.length_take, List.length_drop]; omega) | (first | rfl | exact frs_fqs _ | exact frs_ints _ | exact frs_nats _ | exact frs_oqs _) | decide) only [w_sat, w_set, w_ex, w_unp, w_ret, w_retN, w_par, w_six, ev_cald, ev_new, ev_ome, ev_att, evI_rngd, ev_var, ev_con, ev_tup, ev_lst, ev_dic, ev_neg, ev_bin, ev_cmp, ev_chn, ev_isN, ev_isB, ev_and, ev_or, ev_not, ev_ite, ev_ix, ev_sl, ev_rev, ev_rev0, ev_sst, ev_sln, ev_bi, ev_isT, ev_mt, ev_call, ev_cali, ev_fz, ea_nil, ea_cons, eo_nil, eo_cons,  evI_rng1, evI_rng, evI_zip, evI_enu, evI_cons, iterS, bd_ok, bd_er, ot_ok, gl_some, wo_some, ai_int, br_bl, List.map_cons, List.map_nil, List.cons_append, List.nil_append, List.length_cons, List.length_nil, List.getElem?_cons_zero, List.getElem?_cons_succ, List.set_cons_zero, List.set_cons_succ, cd_t, cd_f, binS_add, binS_sub, mkL_t, mkL_f, fz_lst, fz_tup, le_sz, Nat.zero_add, Nat.reduceAdd, Nat.reduceLeDiff, if_true, st_nm, st_1, st_2, st_3, st_4, wi_nil, wi_cons, upds_nil, upds_cons, ix_fq0, ix_fq1, mthS_o, attS_o, sl_l, rev_l, add_l, bi_mx, bi_mn, bi_list, rcv_app, rcv_ins, rcv_rev, isLO_lst, mt_app, appO_lst, ix_l, ix_t, ix_o, ixO_l, ixO_f, atI_0, atI_1, atI_2, atI_3, atI_4, atI_5, len_l, len_t, len_o, lenO_l, lenO_f, cd_not, cd_and, cd_or, fz_o, fzO_l, fzO_f, cmp_eqI, cmp_neI, cmp_ltI, cmp_leI, cmp_gtI, cmp_geI, bi_intB, List.length_map, List.length_range, six_o, sixO_l, et2]
    refine fi_ifN (s1 := bkI most 1 :: .dT (es'.map tE) :: .dT (es'.map tE) :: .lst (held.map hD) :: (js ++ js2 ++ [.lst ((srtR es').map rowD)])) (by
      simp (disch := first | assumption | omega | (simp only [sizeLine_eq, List.length_map, List.length_range, List.length_append, List.length_cons, List.length_nil, List.length_set, List.length_reverse, List.length_take, List.length_drop]; omega) | (first | rfl | exact frs_fqs _ | exact frs_ints _ | exact frs_nats _ | exact frs_oqs _) | decide) only [ev_cald, ev_new, ev_ome, ev_att, evI_rngd, ev_var, ev_con, ev_tup, ev_lst, ev_dic, ev_neg, ev_bin, ev_cmp, ev_chn, ev_isN, ev_isB, ev_and, ev_or, ev_not, ev_ite, ev_ix, ev_sl, ev_rev, ev_rev0, ev_sst, ev_sln, ev_bi, ev_isT, ev_mt, ev_call, ev_cali, ev_fz, ea_nil, ea_cons, eo_nil, eo_cons,  evI_rng1, evI_rng, evI_zip, evI_enu, evI_cons, iterS, bd_ok, bd_er, ot_ok, gl_some, wo_some, ai_int, br_bl, List.map_cons, List.map_nil, List.cons_append, List.nil_append, List.length_cons, List.length_nil, List.getElem?_cons_zero, List.getElem?_cons_succ, List.set_cons_zero, List.set_cons_succ, cd_t, cd_f, binS_add, binS_sub, mkL_t, mkL_f, fz_lst, fz_tup, le_sz, Nat.zero_add, Nat.reduceAdd, Nat.reduceLeDiff, if_true, st_nm, st_1, st_2, st_3, st_4, wi_nil, wi_cons, upds_nil, upds_cons, ix_fq0, ix_fq1, mthS_o, attS_o, sl_l, rev_l, add_l, bi_mx, bi_mn, bi_list, rcv_app, rcv_ins, rcv_rev, isLO_lst, mt_app, appO_lst, ix_l, ix_t, ix_o, ixO_l, ixO_f, atI_0, atI_1, atI_2, atI_3, atI_4, atI_5, len_l, len_t, len_o, lenO_l, lenO_f, cd_not, cd_and, cd_or, fz_o, fzO_l, fzO_f, cmp_eqI, cmp_neI, cmp_ltI, cmp_leI, cmp_gtI, cmp_geI, bi_intB, List.length_map, List.length_range, six_o, sixO_l, mr, hr2, hkd2, Bool.not_true]
      rfl) (fi_skip ?_)
    generalize js ++ js2 ++ [Ob.lst ((srtR es').map rowD)] = J at *
    have keep : ∀ x : Ob, ∀ p ∈ held, (bkI most 1 :: Ob.dT (es'.map tE) :: .dT (es'.map tE) :: .lst (held.map hD) :: J.set m x)[p.1]? = some (.lst p.2) ∧ 4 ≤ p.1 ∧ Hd (.lst p.2) := fun x p hp => by
      obtain ⟨h1, h2, h3⟩ := hheld p hp
      obtain ⟨g1, g2⟩ := hheld2 p hp
      refine ⟨?_, h2, h3⟩
      have e4 : p.1 = p.1 - 4 + 4 := by omega
      rw [e4]
      show (J.set m x)[p.1 - 4]? = _
      rw [List.getElem?_set_ne (by omega)]
      exact g1
    have m3' : ∀ s, binS .mod (.int x4) (.int 3) s = .ok (.int (x4 % 3)) s := m3 x4
    refine fi_ifL (k := decide (x4 % 3 = 0)) (s1 := bkI most 1 :: .dT (es'.map tE) :: .dT (es'.map tE) :: .lst (held.map hD) :: J) (fun l0 s0 l s => l = l0 ∧ ∃ (held' : List (Nat × List Dt)) (J' : Sto), held'.length ≤ i + 1 ∧ s = bkI most 1 :: .dT (es'.map tE) :: .dT (es'.map tE) :: .lst (held'.map hD) :: J' ∧ ∀ p ∈ held', s[p.1]? = some (.lst p.2) ∧ 4 ≤ p.1 ∧ Hd (.lst p.2)) (by simp (disch := first | assumption | omega | (simp only [sizeLine_eq, List.length_map, List.length_range, List.length_append, List.length_cons, List.length_nil, List.length_set, List.length_reverse, List.length_take, List.length_drop]; omega) | (first | rfl | exact frs_fqs _ | exact frs_ints _ | exact frs_nats _ | exact frs_oqs _) | decide) only [ev_cald, ev_new, ev_ome, ev_att, evI_rngd, ev_var, ev_con, ev_tup, ev_lst, ev_dic, ev_neg, ev_bin, ev_cmp, ev_chn, ev_isN, ev_isB, ev_and, ev_or, ev_not, ev_ite, ev_ix, ev_sl, ev_rev, ev_rev0, ev_sst, ev_sln, ev_bi, ev_isT, ev_mt, ev_call, ev_cali, ev_fz, ea_nil, ea_cons, eo_nil, eo_cons,  evI_rng1, evI_rng, evI_zip, evI_enu, evI_cons, iterS, bd_ok, bd_er, ot_ok, gl_some, wo_some, ai_int, br_bl, List.map_cons, List.map_nil, List.cons_append, List.nil_append, List.length_cons, List.length_nil, List.getElem?_cons_zero, List.getElem?_cons_succ, List.set_cons_zero, List.set_cons_succ, cd_t, cd_f, binS_add, binS_sub, mkL_t, mkL_f, fz_lst, fz_tup, le_sz, Nat.zero_add, Nat.reduceAdd, Nat.reduceLeDiff, if_true, st_nm, st_1, st_2, st_3, st_4, wi_nil, wi_cons, upds_nil, upds_cons, ix_fq0, ix_fq1, mthS_o, attS_o, sl_l, rev_l, add_l, bi_mx, bi_mn, bi_list, rcv_app, rcv_ins, rcv_rev, isLO_lst, mt_app, appO_lst, ix_l, ix_t, ix_o, ixO_l, ixO_f, atI_0, atI_1, atI_2, atI_3, atI_4, atI_5, len_l, len_t, len_o, lenO_l, lenO_f, cd_not, cd_and, cd_or, fz_o, fzO_l, fzO_f, cmp_eqI, cmp_neI, cmp_ltI, cmp_leI, cmp_gtI, cmp_geI, bi_intB, List.length_map, List.length_range, six_o, sixO_l, m3']) (fun z => ?_) (fun z => ?_) ?_
    · have bl := bi_listO (n := m + 4) (l := toldL es' wd) (s := bkI most 1 :: .dT (es'.map tE) :: .dT (es'.map tE) :: .lst (held.map hD) :: J) hg2
      simp (disch := first | assumption | omega | (simp only [sizeLine_eq, List.length_map, List.length_range, List.length_append, List.length_cons, List.length_nil, List.length_set, List.length_reverse, List.length_take, List.length_drop]; omega) | (first | rfl | exact frs_fqs _ | exact frs_ints _ | exact frs_nats _ | exact frs_oqs _) | decide) only [w_sat, w_set, w_ex, w_unp, w_ret, w_retN, w_par, w_six, ev_cald, ev_new, ev_ome, ev_att, evI_rngd, ev_var, ev_con, ev_tup, ev_lst, ev_dic, ev_neg, ev_bin, ev_cmp, ev_chn, ev_isN, ev_isB, ev_and, ev_or, ev_not, ev_ite, ev_ix, ev_sl, ev_rev, ev_rev0, ev_sst, ev_sln, ev_bi, ev_isT, ev_mt, ev_call, ev_cali, ev_fz, ea_nil, ea_cons, eo_nil, eo_cons,  evI_rng1, evI_rng, evI_zip, evI_enu, evI_cons, iterS, bd_ok, bd_er, ot_ok, gl_some, wo_some, ai_int, br_bl, List.map_cons, List.map_nil, List.cons_append, List.nil_append, List.length_cons, List.length_nil, List.getElem?_cons_zero, List.getElem?_cons_succ, List.set_cons_zero, List.set_cons_succ, cd_t, cd_f, binS_add, binS_sub, mkL_t, mkL_f, fz_lst, fz_tup, le_sz, Nat.zero_add, Nat.reduceAdd, Nat.reduceLeDiff, if_true, st_nm, st_1, st_2, st_3, st_4, wi_nil, wi_cons, upds_nil, upds_cons, ix_fq0, ix_fq1, mthS_o, attS_o, sl_l, rev_l, add_l, bi_mx, bi_mn, bi_list, rcv_app, rcv_ins, rcv_rev, isLO_lst, mt_app, appO_lst, ix_l, ix_t, ix_o, ixO_l, ixO_f, atI_0, atI_1, atI_2, atI_3, atI_4, atI_5, len_l, len_t, len_o, lenO_l, lenO_f, cd_not, cd_and, cd_or, fz_o, fzO_l, fzO_f, cmp_eqI, cmp_neI, cmp_ltI, cmp_leI, cmp_gtI, cmp_geI, bi_intB, List.length_map, List.length_range, six_o, sixO_l, bl, appO_lst (show (held.map hD).length < sizeLine by rw [List.length_map, sizeLine_eq]; omega)]
      refine lp_nx ⟨rfl, held ++ [(m + 4, toldL es' wd)], J, by rw [List.length_append]; show held.length + 1 ≤ _; omega, by rw [List.map_append]; rfl, fun p hp => ?_⟩
      rcases List.mem_append.mp hp with q | q
      · obtain ⟨h1, h2, h3⟩ := hheld p q
        obtain ⟨g1, g2⟩ := hheld2 p q
        refine ⟨?_, h2, h3⟩
        have e4 : p.1 = p.1 - 4 + 4 := by omega
        rw [e4]
        exact g1
      · rw [List.mem_singleton.mp q]
        exact ⟨hg2, by omega, hdt⟩
    · refine fi_ifL (k := decide (x4 % 3 = 1)) (s1 := bkI most 1 :: .dT (es'.map tE) :: .dT (es'.map tE) :: .lst (held.map hD) :: J) (fun l0 s0 l s => l = l0 ∧ ∃ x : Ob, s = bkI most 1 :: .dT (es'.map tE) :: .dT (es'.map tE) :: .lst (held.map hD) :: J.set m x) (by simp (disch := first | assumption | omega | (simp only [sizeLine_eq, List.length_map, List.length_range, List.length_append, List.length_cons, List.length_nil, List.length_set, List.length_reverse, List.length_take, List.length_drop]; omega) | (first | rfl | exact frs_fqs _ | exact frs_ints _ | exact frs_nats _ | exact frs_oqs _) | decide) only [ev_cald, ev_new, ev_ome, ev_att, evI_rngd, ev_var, ev_con, ev_tup, ev_lst, ev_dic, ev_neg, ev_bin, ev_cmp, ev_chn, ev_isN, ev_isB, ev_and, ev_or, ev_not, ev_ite, ev_ix, ev_sl, ev_rev, ev_rev0, ev_sst, ev_sln, ev_bi, ev_isT, ev_mt, ev_call, ev_cali, ev_fz, ea_nil, ea_cons, eo_nil, eo_cons,  evI_rng1, evI_rng, evI_zip, evI_enu, evI_cons, iterS, bd_ok, bd_er, ot_ok, gl_some, wo_some, ai_int, br_bl, List.map_cons, List.map_nil, List.cons_append, List.nil_append, List.length_cons, List.length_nil, List.getElem?_cons_zero, List.getElem?_cons_succ, List.set_cons_zero, List.set_cons_succ, cd_t, cd_f, binS_add, binS_sub, mkL_t, mkL_f, fz_lst, fz_tup, le_sz, Nat.zero_add, Nat.reduceAdd, Nat.reduceLeDiff, if_true, st_nm, st_1, st_2, st_3, st_4, wi_nil, wi_cons, upds_nil, upds_cons, ix_fq0, ix_fq1, mthS_o, attS_o, sl_l, rev_l, add_l, bi_mx, bi_mn, bi_list, rcv_app, rcv_ins, rcv_rev, isLO_lst, mt_app, appO_lst, ix_l, ix_t, ix_o, ixO_l, ixO_f, atI_0, atI_1, atI_2, atI_3, atI_4, atI_5, len_l, len_t, len_o, lenO_l, lenO_f, cd_not, cd_and, cd_or, fz_o, fzO_l, fzO_f, cmp_eqI, cmp_neI, cmp_ltI, cmp_leI, cmp_gtI, cmp_geI, bi_intB, List.length_map, List.length_range, six_o, sixO_l, m3']) (fun z => ?_) (fun z => ?_) ?_
      · have ck := mt_clr (n := m + 4) (l := toldL es' wd) (s := bkI most 1 :: .dT (es'.map tE) :: .dT (es'.map tE) :: .lst (held.map hD) :: J) hg2
        simp (disch := first | assumption | omega | (simp only [sizeLine_eq, List.length_map, List.length_range, List.length_append, List.length_cons, List.length_nil, List.length_set, List.length_reverse, List.length_take, List.length_drop]; omega) | (first | rfl | exact frs_fqs _ | exact frs_ints _ | exact frs_nats _ | exact frs_oqs _) | decide) only [w_sat, w_set, w_ex, w_unp, w_ret, w_retN, w_par, w_six, ev_cald, ev_new, ev_ome, ev_att, evI_rngd, ev_var, ev_con, ev_tup, ev_lst, ev_dic, ev_neg, ev_bin, ev_cmp, ev_chn, ev_isN, ev_isB, ev_and, ev_or, ev_not, ev_ite, ev_ix, ev_sl, ev_rev, ev_rev0, ev_sst, ev_sln, ev_bi, ev_isT, ev_mt, ev_call, ev_cali, ev_fz, ea_nil, ea_cons, eo_nil, eo_cons,  evI_rng1, evI_rng, evI_zip, evI_enu, evI_cons, iterS, bd_ok, bd_er, ot_ok, gl_some, wo_some, ai_int, br_bl, List.map_cons, List.map_nil, List.cons_append, List.nil_append, List.length_cons, List.length_nil, List.getElem?_cons_zero, List.getElem?_cons_succ, List.set_cons_zero, List.set_cons_succ, cd_t, cd_f, binS_add, binS_sub, mkL_t, mkL_f, fz_lst, fz_tup, le_sz, Nat.zero_add, Nat.reduceAdd, Nat.reduceLeDiff, if_true, st_nm, st_1, st_2, st_3, st_4, wi_nil, wi_cons, upds_nil, upds_cons, ix_fq0, ix_fq1, mthS_o, attS_o, sl_l, rev_l, add_l, bi_mx, bi_mn, bi_list, rcv_app, rcv_ins, rcv_rev, isLO_lst, mt_app, appO_lst, ix_l, ix_t, ix_o, ixO_l, ixO_f, atI_0, atI_1, atI_2, atI_3, atI_4, atI_5, len_l, len_t, len_o, lenO_l, lenO_f, cd_not, cd_and, cd_or, fz_o, fzO_l, fzO_f, cmp_eqI, cmp_neI, cmp_ltI, cmp_leI, cmp_gtI, cmp_geI, bi_intB, List.length_map, List.length_range, six_o, sixO_l, rcv_clr, hg2, ck]
        exact lp_nx ⟨rfl, _, rfl⟩
      · simp (disch := first | assumption | omega | (simp only [sizeLine_eq, List.length_map, List.length_range, List.length_append, List.length_cons, List.length_nil, List.length_set, List.length_reverse, List.length_take, List.length_drop]; omega) | (first | rfl | exact frs_fqs _ | exact frs_ints _ | exact frs_nats _ | exact frs_oqs _) | decide) only [w_sat, w_set, w_ex, w_unp, w_ret, w_retN, w_par, w_six, ev_cald, ev_new, ev_ome, ev_att, evI_rngd, ev_var, ev_con, ev_tup, ev_lst, ev_dic, ev_neg, ev_bin, ev_cmp, ev_chn, ev_isN, ev_isB, ev_and, ev_or, ev_not, ev_ite, ev_ix, ev_sl, ev_rev, ev_rev0, ev_sst, ev_sln, ev_bi, ev_isT, ev_mt, ev_call, ev_cali, ev_fz, ea_nil, ea_cons, eo_nil, eo_cons,  evI_rng1, evI_rng, evI_zip, evI_enu, evI_cons, iterS, bd_ok, bd_er, ot_ok, gl_some, wo_some, ai_int, br_bl, List.map_cons, List.map_nil, List.cons_append, List.nil_append, List.length_cons, List.length_nil, List.getElem?_cons_zero, List.getElem?_cons_succ, List.set_cons_zero, List.set_cons_succ, cd_t, cd_f, binS_add, binS_sub, mkL_t, mkL_f, fz_lst, fz_tup, le_sz, Nat.zero_add, Nat.reduceAdd, Nat.reduceLeDiff, if_true, st_nm, st_1, st_2, st_3, st_4, wi_nil, wi_cons, upds_nil, upds_cons, ix_fq0, ix_fq1, mthS_o, attS_o, sl_l, rev_l, add_l, bi_mx, bi_mn, bi_list, rcv_app, rcv_ins, rcv_rev, isLO_lst, mt_app, appO_lst, ix_l, ix_t, ix_o, ixO_l, ixO_f, atI_0, atI_1, atI_2, atI_3, atI_4, atI_5, len_l, len_t, len_o, lenO_l, lenO_f, cd_not, cd_and, cd_or, fz_o, fzO_l, fzO_f, cmp_eqI, cmp_neI, cmp_ltI, cmp_leI, cmp_gtI, cmp_geI, bi_intB, List.length_map, List.length_range, six_o, sixO_l, hg2, appO_lst (show (toldL es' wd).length < sizeLine by rw [sizeLine_eq]; omega)]
        exact lp_nx ⟨rfl, _, rfl⟩
      · rintro l s ⟨rfl, x, rfl⟩
        exact lp_end ⟨rfl, held, J.set m x, by omega, rfl, keep x⟩
    · rintro l s ⟨rfl, held', J', hl', rfl, hh'⟩
      exact lp_end ⟨es', held', J', _, _, _, _, _, ⟨hn', hok', hel', hl'⟩, hh', rfl, rfl⟩
  · rintro l s ⟨es, held, js, s7, s8, s9, s10, s11, ⟨hn, hok, hel, hhl⟩, hheld, rfl, rfl⟩
    try simp only [upds_nil, upds_cons, List.set_cons_zero, List.set_cons_succ]
    generalize hS : (bkI most 1 :: Ob.dT (es.map tE) :: .dT (es.map tE) :: .lst (held.map hD) :: js) = S at *
    have g3 : S[3]? = some (.lst (held.map hD)) := by rw [← hS]; rfl
    refine fi_forVM (m := 3) (g := hD) (xs := held) (fun l0 s0 i l s' => s' = S ∧ ∃ s11 s12, l = upds l0 [(11, s11), (12, s12)]) (by simp (disch := first | assumption | omega | (simp only [sizeLine_eq, List.length_map, List.length_range, List.length_append, List.length_cons, List.length_nil, List.length_set, List.length_reverse, List.length_take, List.length_drop]; omega) | (first | rfl | exact frs_fqs _ | exact frs_ints _ | exact frs_nats _ | exact frs_oqs _) | decide) only [ev_cald, ev_new, ev_ome, ev_att, evI_rngd, ev_var, ev_con, ev_tup, ev_lst, ev_dic, ev_neg, ev_bin, ev_cmp, ev_chn, ev_isN, ev_isB, ev_and, ev_or, ev_not, ev_ite, ev_ix, ev_sl, ev_rev, ev_rev0, ev_sst, ev_sln, ev_bi, ev_isT, ev_mt, ev_call, ev_cali, ev_fz, ea_nil, ea_cons, eo_nil, eo_cons,  evI_rng1, evI_rng, evI_zip, evI_enu, evI_cons, iterS, bd_ok, bd_er, ot_ok, gl_some, wo_some, ai_int, br_bl, List.map_cons, List.map_nil, List.cons_append, List.nil_append, List.length_cons, List.length_nil, List.getElem?_cons_zero, List.getElem?_cons_succ, List.set_cons_zero, List.set_cons_succ, cd_t, cd_f, binS_add, binS_sub, mkL_t, mkL_f, fz_lst, fz_tup, le_sz, Nat.zero_add, Nat.reduceAdd, Nat.reduceLeDiff, if_true, st_nm, st_1, st_2, st_3, st_4, wi_nil, wi_cons, upds_nil, upds_cons, ix_fq0, ix_fq1, mthS_o, attS_o, sl_l, rev_l, add_l, bi_mx, bi_mn, bi_list, rcv_app, rcv_ins, rcv_rev, isLO_lst, mt_app, appO_lst, ix_l, ix_t, ix_o, ixO_l, ixO_f, atI_0, atI_1, atI_2, atI_3, atI_4, atI_5, len_l, len_t, len_o, lenO_l, lenO_f, cd_not, cd_and, cd_or, fz_o, fzO_l, fzO_f, cmp_eqI, cmp_neI, cmp_ltI, cmp_leI, cmp_gtI, cmp_geI, bi_intB, List.length_map, List.length_range, six_o, sixO_l, g3] <;> rfl) ⟨rfl, _, _, rfl⟩ ?_ ?_
    · rintro i hi l s' ⟨rfl, s11, s12, rfl⟩
      obtain ⟨h1, h2, h3⟩ := hheld held[i] (List.getElem_mem hi)
      generalize held[i] = p at *
      rw [show hD p = .tup [.obj p.1, .lst p.2] from rfl]
      simp only [bodF, st_nm, st_1, st_2, st_3, st_4, wo_some, upds_nil, upds_cons, List.set_cons_zero, List.set_cons_succ]
      refine fi_ifN (s1 := s') (by simp (disch := first | assumption | omega | (simp only [sizeLine_eq, List.length_map, List.length_range, List.length_append, List.length_cons, List.length_nil, List.length_set, List.length_reverse, List.length_take, List.length_drop]; omega) | (first | rfl | exact frs_fqs _ | exact frs_ints _ | exact frs_nats _ | exact frs_oqs _) | decide) only [ev_cald, ev_new, ev_ome, ev_att, evI_rngd, ev_var, ev_con, ev_tup, ev_lst, ev_dic, ev_neg, ev_bin, ev_cmp, ev_chn, ev_isN, ev_isB, ev_and, ev_or, ev_not, ev_ite, ev_ix, ev_sl, ev_rev, ev_rev0, ev_sst, ev_sln, ev_bi, ev_isT, ev_mt, ev_call, ev_cali, ev_fz, ea_nil, ea_cons, eo_nil, eo_cons,  evI_rng1, evI_rng, evI_zip, evI_enu, evI_cons, iterS, bd_ok, bd_er, ot_ok, gl_some, wo_some, ai_int, br_bl, List.map_cons, List.map_nil, List.cons_append, List.nil_append, List.length_cons, List.length_nil, List.getElem?_cons_zero, List.getElem?_cons_succ, List.set_cons_zero, List.set_cons_succ, cd_t, cd_f, binS_add, binS_sub, mkL_t, mkL_f, fz_lst, fz_tup, le_sz, Nat.zero_add, Nat.reduceAdd, Nat.reduceLeDiff, if_true, st_nm, st_1, st_2, st_3, st_4, wi_nil, wi_cons, upds_nil, upds_cons, ix_fq0, ix_fq1, mthS_o, attS_o, sl_l, rev_l, add_l, bi_mx, bi_mn, bi_list, rcv_app, rcv_ins, rcv_rev, isLO_lst, mt_app, appO_lst, ix_l, ix_t, ix_o, ixO_l, ixO_f, atI_0, atI_1, atI_2, atI_3, atI_4, atI_5, len_l, len_t, len_o, lenO_l, lenO_f, cd_not, cd_and, cd_or, fz_o, fzO_l, fzO_f, cmp_eqI, cmp_neI, cmp_ltI, cmp_leI, cmp_gtI, cmp_geI, bi_intB, List.length_map, List.length_range, six_o, sixO_l, ne_live h1 h3]) (fi_skip ?_)
      exact lp_end ⟨⟨rfl, _, _, rfl⟩, g3⟩
    · rintro l s' ⟨rfl, s11, s12, rfl⟩
      try simp only [upds_nil, upds_cons, List.set_cons_zero, List.set_cons_succ]
      obtain ⟨js2, n, wd, ⟨hn4, hg⟩, et⟩ := rn__law_told (k := 15) (by decide) hn hok (by omega) (b := 0) (d := 1) (e := 2) (by decide) (s := s') (by rw [← hS]; rfl) (by rw [← hS]; rfl) (by rw [← hS]; rfl) 0
      simp (disch := first | assumption | omega | (simp only [sizeLine_eq, List.length_map, List.length_range, List.length_append, List.length_cons, List.length_nil, List.length_set, List.length_reverse, List.length_take, List.length_drop]; omega) | (first | rfl | exact frs_fqs _ | exact frs_ints _ | exact frs_nats _ | exact frs_oqs _) | decide) only [w_sat, w_set, w_ex, w_unp, w_ret, w_retN, w_par, w_six, ev_cald, ev_new, ev_ome, ev_att, evI_rngd, ev_var, ev_con, ev_tup, ev_lst, ev_dic, ev_neg, ev_bin, ev_cmp, ev_chn, ev_isN, ev_isB, ev_and, ev_or, ev_not, ev_ite, ev_ix, ev_sl, ev_rev, ev_rev0, ev_sst, ev_sln, ev_bi, ev_isT, ev_mt, ev_call, ev_cali, ev_fz, ea_nil, ea_cons, eo_nil, eo_cons,  evI_rng1, evI_rng, evI_zip, evI_enu, evI_cons, iterS, bd_ok, bd_er, ot_ok, gl_some, wo_some, ai_int, br_bl, List.map_cons, List.map_nil, List.cons_append, List.nil_append, List.length_cons, List.length_nil, List.getElem?_cons_zero, List.getElem?_cons_succ, List.set_cons_zero, List.set_cons_succ, cd_t, cd_f, binS_add, binS_sub, mkL_t, mkL_f, fz_lst, fz_tup, le_sz, Nat.zero_add, Nat.reduceAdd, Nat.reduceLeDiff, if_true, st_nm, st_1, st_2, st_3, st_4, wi_nil, wi_cons, upds_nil, upds_cons, ix_fq0, ix_fq1, mthS_o, attS_o, sl_l, rev_l, add_l, bi_mx, bi_mn, bi_list, rcv_app, rcv_ins, rcv_rev, isLO_lst, mt_app, appO_lst, ix_l, ix_t, ix_o, ixO_l, ixO_f, atI_0, atI_1, atI_2, atI_3, atI_4, atI_5, len_l, len_t, len_o, lenO_l, lenO_f, cd_not, cd_and, cd_or, fz_o, fzO_l, fzO_f, cmp_eqI, cmp_neI, cmp_ltI, cmp_leI, cmp_gtI, cmp_geI, bi_intB, List.length_map, List.length_range, six_o, sixO_l, et]
      exact ⟨_, rfl⟩
def d_is_name : He.DefD := ⟨("is_name", none), "is_name", "is_name", defArgs s_is_name, defBody s_is_name, defScope s_is_name, [], []⟩
def d__law_cell : He.DefD := ⟨("_law_cell", none), "_law_cell", "_law_cell", defArgs s__law_cell, defBody s__law_cell, defScope s__law_cell, [], []⟩
def d__law_stream : He.DefD := ⟨("_law_stream", none), "_law_stream", "_law_stream", defArgs s__law_stream, defBody s__law_stream, defScope s__law_stream, [], []⟩
def d__law_names : He.DefD := ⟨("_law_names", none), "_law_names", "_law_names", defArgs s__law_names, defBody s__law_names, defScope s__law_names, [], []⟩
def d__law_mark : He.DefD := ⟨("_law_mark", none), "_law_mark", "_law_mark", defArgs s__law_mark, defBody s__law_mark, defScope s__law_mark, [], []⟩
def d__law_told : He.DefD := ⟨("_law_told", none), "_law_told", "_law_told", defArgs s__law_told, defBody s__law_told, defScope s__law_told, [], []⟩
def d__law_kinds : He.DefD := ⟨("_law_kinds", none), "_law_kinds", "_law_kinds", defArgs s__law_kinds, defBody s__law_kinds, defScope s__law_kinds, [], []⟩
def d_law : He.DefD := ⟨("law", none), "law", "law", defArgs s_law, defBody s_law, defScope s_law, [], []⟩
def d_Book___init__ : He.DefD := ⟨("Book", some "__init__"), "__init__", "Book.__init__", defArgs s_Book___init__, defBody s_Book___init__, defScope s_Book___init__, [], []⟩
def d_Book_drop : He.DefD := ⟨("Book", some "drop"), "drop", "Book.drop", defArgs s_Book_drop, defBody s_Book_drop, defScope s_Book_drop, [], []⟩
def d_Book_hands : He.DefD := ⟨("Book", some "hands"), "hands", "Book.hands", defArgs s_Book_hands, defBody s_Book_hands, defScope s_Book_hands, [], []⟩
def d_Book_put : He.DefD := ⟨("Book", some "put"), "put", "Book.put", defArgs s_Book_put, defBody s_Book_put, defScope s_Book_put, [], []⟩
def d_Book_rows : He.DefD := ⟨("Book", some "rows"), "rows", "Book.rows", defArgs s_Book_rows, defBody s_Book_rows, defScope s_Book_rows, [], []⟩
def d_Book_works : He.DefD := ⟨("Book", some "works"), "works", "Book.works", defArgs s_Book_works, defBody s_Book_works, defScope s_Book_works, [], []⟩
def fa0 : List He.Fa := [.free "len", .free "isinstance", .free "range", .free "sorted", .free "list", .free "set", .free "int", .free "bool", .free "str", .free "tuple", .free "max", .free "min", .free "ValueError", .str "LETTERS" "abcdefghijklmnopqrstuvwxyz", .int "LONGEST" 8, .glo "HallError", .exc "HallError", .glo "NoName", .exc "NoName", .glo "NoMark", .exc "NoMark", .glo "Twice", .exc "Twice", .glo "Missing", .exc "Missing", .glo "Book", .cls "Book", .noat "Book" "most", .noat "Book" "marks", .meth "Book" "__init__"]
def fa1 : List He.Fa := [.meth "Book" "drop", .meth "Book" "hands", .meth "Book" "put", .meth "Book" "rows", .meth "Book" "works", .mkr "Book", .glo "is_name", .glo "_law_cell", .glo "_law_stream", .glo "_law_names", .glo "_law_mark", .glo "_law_told", .glo "_law_kinds", .glo "law", .free "in_order"]
def fa : List He.Fa := fa0 ++ fa1
def fn0 : List He.DefD := [d_is_name, d__law_cell, d__law_stream, d__law_names, d__law_mark, d__law_told, d__law_kinds, d_law, d_Book___init__, d_Book_drop, d_Book_hands, d_Book_put, d_Book_rows, d_Book_works]
def fn : List He.DefD := fn0
def exF0 (K : PySem.W.Frag) : List Bool := [excCB K "NoName", excCB K "NoMark", excCB K "Twice", excCB K "Missing"]
def exF (K : PySem.W.Frag) : List Bool := exF0 K
theorem exF_at {K : PySem.W.Frag} (h : (exF K).all id = true) {b : Bool} (i : Nat) (e : (exF K)[i]? = some b) : b = true := List.all_eq_true.mp h _ (List.mem_of_getElem? e)
abbrev Rw : PySem.W.OpenRow := PySem.W.OpenLaw.row PySem.Challenge.rw_hall_k11_book
def hk : PySem.W.Hook := He.hookX 5 fa fn [] [] fun K => (exF K).all id
def ob (s : PySem.W.SharedT) : He.AlX := He.obsX 5 fa fn [] [] (fun K => (exF K).all id) (HandSHeadRun.getT s)
theorem ob_eq (s : PySem.W.SharedT) : ob s = hk.obs s.abs := He.obsX_eq (HandSHeadRun.getT_eq s)
def loose0 : List Str := ["HallError", "NoName", "NoMark", "Twice", "Missing", "LETTERS", "LONGEST", "is_name", "Book", "_law_cell", "_law_stream", "_law_names", "_law_mark", "_law_told", "_law_kinds"]
def loose : List Str := loose0
theorem run (w : World) : HandSHeadRun.RunEq Rw (PySem.W.view Rw.prog [18]) hk ob 3000 loose w := by
  intro os
  kernel_rfl
set_option maxHeartbeats 0 in
theorem facts {K : PySem.W.Frag} {h : Heap} {mg : Str → Option Value} {f : Addr} (X : K.In h) (G : h.Ns mainGlobals mg) (hfa : mg ("law" : Str) = some (.ref f)) (c : He.SaysD fa fn K) (hx : (exF K).all id = true) :
    ∃ fd : FuncData, (∀ (s : Shared) (v : Value), BindsTo s fd ⟨[v], []⟩ [("_law_script", v)]) ∧ FunD K "law" "law" (defArgs s_law) (defBody s_law) (defScope s_law) [] [] f fd ∧ ∀ base : Heap, Sf Gg Pp K mg base := by
  obtain ⟨fd_is_name, F_is_name⟩ := c.def_ 0 (d := d_is_name) rfl
  obtain ⟨fd__law_cell, F__law_cell⟩ := c.def_ 1 (d := d__law_cell) rfl
  obtain ⟨fd__law_stream, F__law_stream⟩ := c.def_ 2 (d := d__law_stream) rfl
  obtain ⟨fd__law_names, F__law_names⟩ := c.def_ 3 (d := d__law_names) rfl
  obtain ⟨fd__law_mark, F__law_mark⟩ := c.def_ 4 (d := d__law_mark) rfl
  obtain ⟨fd__law_told, F__law_told⟩ := c.def_ 5 (d := d__law_told) rfl
  obtain ⟨fd__law_kinds, F__law_kinds⟩ := c.def_ 6 (d := d__law_kinds) rfl
  obtain ⟨fd_law, F_law⟩ := c.def_ 7 (d := d_law) rfl
  obtain ⟨fd_Book___init__, F_Book___init__⟩ := c.def_ 8 (d := d_Book___init__) rfl
  obtain ⟨fd_Book_drop, F_Book_drop⟩ := c.def_ 9 (d := d_Book_drop) rfl
  obtain ⟨fd_Book_hands, F_Book_hands⟩ := c.def_ 10 (d := d_Book_hands) rfl
  obtain ⟨fd_Book_put, F_Book_put⟩ := c.def_ 11 (d := d_Book_put) rfl
  obtain ⟨fd_Book_rows, F_Book_rows⟩ := c.def_ 12 (d := d_Book_rows) rfl
  obtain ⟨fd_Book_works, F_Book_works⟩ := c.def_ 13 (d := d_Book_works) rfl
  have e := hfa.symm.trans (He.glo_ok X G (c.fact 43 (f := .glo "law") rfl))
  cases e
  refine ⟨fd_law, fun s v => (FunD.bindsA (ps := ["_law_script"]) F_law fun _ _ _ _ _ _ us hl => match us, hl with | [_], _ => rfl) s [v] rfl, F_law, fun base => ⟨?_, ?_, ?_, ?_, ?_, ?_, by decide +kernel, ?_, ?_, ?_, ?_, ?_, ?_, ?_, by decide +kernel, ?_, ?_, by decide +kernel, ?_, ?_⟩⟩
  · intro x hm
    unfold Gg at hm
    dsimp only at hm
    simp only [List.mem_cons, List.mem_nil_iff, or_false, Prod.mk.injEq, List.not_mem_nil] at hm
    rcases hm with hm | hm | hm | hm | hm | hm | hm | hm | hm | hm | hm | hm | hm
    · subst hm; exact He.free_ok X G (c.fact 0 (f := .free "len") rfl)
    · subst hm; exact He.free_ok X G (c.fact 1 (f := .free "isinstance") rfl)
    · subst hm; exact He.free_ok X G (c.fact 2 (f := .free "range") rfl)
    · subst hm; exact He.free_ok X G (c.fact 3 (f := .free "sorted") rfl)
    · subst hm; exact He.free_ok X G (c.fact 4 (f := .free "list") rfl)
    · subst hm; exact He.free_ok X G (c.fact 5 (f := .free "set") rfl)
    · subst hm; exact He.free_ok X G (c.fact 6 (f := .free "int") rfl)
    · subst hm; exact He.free_ok X G (c.fact 7 (f := .free "bool") rfl)
    · subst hm; exact He.free_ok X G (c.fact 8 (f := .free "str") rfl)
    · subst hm; exact He.free_ok X G (c.fact 9 (f := .free "tuple") rfl)
    · subst hm; exact He.free_ok X G (c.fact 10 (f := .free "max") rfl)
    · subst hm; exact He.free_ok X G (c.fact 11 (f := .free "min") rfl)
    · subst hm; exact He.free_ok X G (c.fact 12 (f := .free "ValueError") rfl)
  · intro x i hm
    unfold Gg at hm
    dsimp only at hm
    simp only [List.mem_cons, List.mem_nil_iff, or_false, Prod.mk.injEq, List.not_mem_nil] at hm
    · obtain ⟨rfl, rfl⟩ := hm; exact He.int_ok X G (c.fact 14 (f := .int "LONGEST" 8) rfl)
  · intro x i hm
    unfold Gg at hm
    dsimp only at hm
    simp only [List.mem_cons, List.mem_nil_iff, or_false, Prod.mk.injEq, List.not_mem_nil] at hm
    · obtain ⟨rfl, rfl⟩ := hm; exact He.str_ok X G (c.fact 13 (f := .str "LETTERS" "abcdefghijklmnopqrstuvwxyz") rfl)
  · intro x f n hm
    unfold Gg at hm
    dsimp only at hm
    simp only [List.mem_cons, List.mem_nil_iff, or_false, Prod.mk.injEq, List.not_mem_nil] at hm
    rcases hm with hm | hm | hm | hm | hm | hm | hm | hm
    · obtain ⟨rfl, rfl, rfl⟩ := hm; exact ⟨_, fd_is_name, ["thing"], ["thing", "sign"], _, _, _, false, _, He.glo_ok X G (c.fact 36 (f := .glo "is_name") rfl), F_is_name, F_is_name.bindsN (fun _ _ _ _ _ _ us hl => match us, hl with | [_], _ => rfl), rfl, dc_is_name, fun z => (by cases z)⟩
    · obtain ⟨rfl, rfl, rfl⟩ := hm; exact ⟨_, fd__law_cell, ["_law_script", "_law_k"], ["_law_script", "_law_k", "_law_number"], _, _, _, false, _, He.glo_ok X G (c.fact 37 (f := .glo "_law_cell") rfl), F__law_cell, F__law_cell.bindsN (fun _ _ _ _ _ _ us hl => match us, hl with | [_, _], _ => rfl), rfl, dc__law_cell, fun z => (by cases z)⟩
    · obtain ⟨rfl, rfl, rfl⟩ := hm; exact ⟨_, fd__law_stream, ["_law_cell_here", "_law_many"], ["_law_cell_here", "_law_many", "_law_xs", "_law_number", "_law_k"], _, _, _, false, _, He.glo_ok X G (c.fact 38 (f := .glo "_law_stream") rfl), F__law_stream, F__law_stream.bindsN (fun _ _ _ _ _ _ us hl => match us, hl with | [_, _], _ => rfl), rfl, dc__law_stream, fun z => (by cases z)⟩
    · obtain ⟨rfl, rfl, rfl⟩ := hm; exact ⟨_, fd__law_names, ["_law_cell_here", "_law_many"], ["_law_cell_here", "_law_many", "_law_some", "_law_size", "_law_at", "_law_k", "_law_base", "_law_names_here", "_law_name", "_law_j", "_law_one"], _, _, _, false, _, He.glo_ok X G (c.fact 39 (f := .glo "_law_names") rfl), F__law_names, F__law_names.bindsN (fun _ _ _ _ _ _ us hl => match us, hl with | [_, _], _ => rfl), rfl, dc__law_names, fun z => (by cases z)⟩
    · obtain ⟨rfl, rfl, rfl⟩ := hm; exact ⟨_, fd__law_mark, ["_law_x", "_law_most"], ["_law_x", "_law_most"], _, _, _, false, _, He.glo_ok X G (c.fact 40 (f := .glo "_law_mark") rfl), F__law_mark, F__law_mark.bindsN (fun _ _ _ _ _ _ us hl => match us, hl with | [_, _], _ => rfl), rfl, dc__law_mark, fun z => (by cases z)⟩
    · obtain ⟨rfl, rfl, rfl⟩ := hm; exact ⟨_, fd__law_told, ["_law_book", "_law_kept", "_law_turn"], ["_law_book", "_law_kept", "_law_turn", "_law_asked", "_law_rows", "_law_word", "_law_told_here", "_law_due", "_law_work", "_law_hand", "_law_row"], _, _, _, false, _, He.glo_ok X G (c.fact 41 (f := .glo "_law_told") rfl), F__law_told, F__law_told.bindsN (fun _ _ _ _ _ _ us hl => match us, hl with | [_, _, _], _ => rfl), rfl, dc__law_told, fun z => (by cases z)⟩
    · obtain ⟨rfl, rfl, rfl⟩ := hm; exact ⟨_, fd__law_kinds, ["_law_rows"], ["_law_rows", "_law_row"], _, _, _, false, _, He.glo_ok X G (c.fact 42 (f := .glo "_law_kinds") rfl), F__law_kinds, F__law_kinds.bindsN (fun _ _ _ _ _ _ us hl => match us, hl with | [_], _ => rfl), rfl, dc__law_kinds, fun z => (by cases z)⟩
    · obtain ⟨rfl, rfl, rfl⟩ := hm; exact ⟨_, fd_law, ["_law_script"], ["_law_script", "_law_most", "_law_works", "_law_hands", "_law_book", "_law_kept", "_law_held", "_law_k", "_law_xs", "_law_key", "_law_answer", "_law_told_here", "_law_copy"], _, _, _, false, _, He.glo_ok X G (c.fact 43 (f := .glo "law") rfl), F_law, F_law.bindsN (fun _ _ _ _ _ _ us hl => match us, hl with | [_], _ => rfl), rfl, dc_law, fun z => (by cases z)⟩
  · intro x e hm
    unfold Gg at hm
    dsimp only at hm
    simp only [List.mem_cons, List.mem_nil_iff, or_false, Prod.mk.injEq, List.not_mem_nil] at hm
    rcases hm with hm | hm | hm | hm
    · obtain ⟨rfl, rfl⟩ := hm; exact ⟨excT_ok X G (c.fact 17 (f := .glo "NoName") rfl) (c.fact 18 (f := .exc "NoName") rfl), rfl⟩
    · obtain ⟨rfl, rfl⟩ := hm; exact ⟨excT_ok X G (c.fact 19 (f := .glo "NoMark") rfl) (c.fact 20 (f := .exc "NoMark") rfl), rfl⟩
    · obtain ⟨rfl, rfl⟩ := hm; exact ⟨excT_ok X G (c.fact 21 (f := .glo "Twice") rfl) (c.fact 22 (f := .exc "Twice") rfl), rfl⟩
    · obtain ⟨rfl, rfl⟩ := hm; exact ⟨excT_ok X G (c.fact 23 (f := .glo "Missing") rfl) (c.fact 24 (f := .exc "Missing") rfl), rfl⟩
  · intro y i hm
    unfold Gg at hm
    dsimp only at hm
    simp only [List.mem_cons, List.mem_nil_iff, or_false, Prod.mk.injEq, List.not_mem_nil] at hm
  · intro P w z x fs hm
    unfold Gg at hm
    dsimp only at hm
    simp only [List.mem_cons, List.mem_nil_iff, or_false, Prod.mk.injEq, List.not_mem_nil] at hm
  · intro n f hm
    unfold Gg at hm
    dsimp only at hm
    simp only [List.mem_cons, List.mem_nil_iff, or_false, Prod.mk.injEq, List.not_mem_nil] at hm
  · intro n f hm
    unfold Gg at hm
    dsimp only at hm
    simp only [List.mem_cons, List.mem_nil_iff, or_false, Prod.mk.injEq, List.not_mem_nil] at hm
  · intro y i hm
    unfold Gg at hm
    dsimp only at hm
    simp only [List.mem_cons, List.mem_nil_iff, or_false, Prod.mk.injEq, List.not_mem_nil] at hm
  · intro z c2 b hm
    unfold Gg at hm
    dsimp only at hm
    simp only [List.mem_cons, List.mem_nil_iff, or_false, Prod.mk.injEq, List.not_mem_nil] at hm
    · obtain ⟨rfl, rfl, rfl⟩ := hm; exact ⟨rfl, He.glo_ok X G (c.fact 25 (f := .glo "Book") rfl), rfl, ⟨_, rfl, rfl, _, fd_Book___init__, ["self", "most"], ["self", "most"], _, _, _, _, He.mkr_ok (c.fact 35 (f := .mkr "Book") rfl), F_Book___init__, F_Book___init__.bindsN (fun _ _ _ _ _ _ us hl => match us, hl with | [_, _], _ => rfl), dc_Book___init__⟩⟩
  · intro x f hm
    unfold Gg at hm
    dsimp only at hm
    simp only [List.mem_cons, List.mem_nil_iff, or_false, Prod.mk.injEq, List.not_mem_nil] at hm
    rcases hm with hm | hm
    · obtain ⟨rfl, rfl⟩ := hm; rfl
    · obtain ⟨rfl, rfl⟩ := hm; rfl
  · intro c2 f hm
    unfold Gg at hm
    dsimp only at hm
    simp only [List.mem_cons, List.mem_nil_iff, or_false, Prod.mk.injEq, List.not_mem_nil] at hm
    rcases hm with hm | hm
    · obtain ⟨rfl, rfl⟩ := hm; exact ⟨_, _, rfl, rfl, He.cls_ok (c.fact 26 (f := .cls "Book") rfl), He.noat_ok (c.fact 27 (f := .noat "Book" "most") rfl)⟩
    · obtain ⟨rfl, rfl⟩ := hm; exact ⟨_, _, rfl, rfl, He.cls_ok (c.fact 26 (f := .cls "Book") rfl), He.noat_ok (c.fact 28 (f := .noat "Book" "marks") rfl)⟩
  · intro x m hm
    unfold Gg at hm
    dsimp only at hm
    simp only [List.mem_cons, List.mem_nil_iff, or_false, Prod.mk.injEq, List.not_mem_nil] at hm
    rcases hm with hm | hm | hm | hm | hm
    · obtain ⟨rfl, rfl⟩ := hm; rfl
    · obtain ⟨rfl, rfl⟩ := hm; rfl
    · obtain ⟨rfl, rfl⟩ := hm; rfl
    · obtain ⟨rfl, rfl⟩ := hm; rfl
    · obtain ⟨rfl, rfl⟩ := hm; rfl
  · intro c2 m f hm
    unfold Gg at hm
    dsimp only at hm
    simp only [List.mem_cons, List.mem_nil_iff, or_false, Prod.mk.injEq, List.not_mem_nil] at hm
    rcases hm with hm | hm | hm | hm | hm
    · obtain ⟨rfl, rfl, rfl⟩ := hm; exact ⟨_, _, _, fd_Book_drop, ["self", "work", "hand"], ["self", "work", "hand"], _, _, _, _, rfl, rfl, He.cls_ok (c.fact 26 (f := .cls "Book") rfl), He.meth_ok (c.fact 30 (f := .meth "Book" "drop") rfl), F_Book_drop, F_Book_drop.bindsN (fun _ _ _ _ _ _ us hl => match us, hl with | [_, _, _], _ => rfl), dc_Book_drop⟩
    · obtain ⟨rfl, rfl, rfl⟩ := hm; exact ⟨_, _, _, fd_Book_hands, ["self"], ["self", "work", "hand"], _, _, _, _, rfl, rfl, He.cls_ok (c.fact 26 (f := .cls "Book") rfl), He.meth_ok (c.fact 31 (f := .meth "Book" "hands") rfl), F_Book_hands, F_Book_hands.bindsN (fun _ _ _ _ _ _ us hl => match us, hl with | [_], _ => rfl), dc_Book_hands⟩
    · obtain ⟨rfl, rfl, rfl⟩ := hm; exact ⟨_, _, _, fd_Book_put, ["self", "work", "hand", "mark"], ["self", "work", "hand", "mark"], _, _, _, _, rfl, rfl, He.cls_ok (c.fact 26 (f := .cls "Book") rfl), He.meth_ok (c.fact 32 (f := .meth "Book" "put") rfl), F_Book_put, F_Book_put.bindsN (fun _ _ _ _ _ _ us hl => match us, hl with | [_, _, _, _], _ => rfl), dc_Book_put⟩
    · obtain ⟨rfl, rfl, rfl⟩ := hm; exact ⟨_, _, _, fd_Book_rows, ["self"], ["self", "work", "hand"], _, _, _, _, rfl, rfl, He.cls_ok (c.fact 26 (f := .cls "Book") rfl), He.meth_ok (c.fact 33 (f := .meth "Book" "rows") rfl), F_Book_rows, F_Book_rows.bindsN (fun _ _ _ _ _ _ us hl => match us, hl with | [_], _ => rfl), dc_Book_rows⟩
    · obtain ⟨rfl, rfl, rfl⟩ := hm; exact ⟨_, _, _, fd_Book_works, ["self"], ["self", "work", "hand"], _, _, _, _, rfl, rfl, He.cls_ok (c.fact 26 (f := .cls "Book") rfl), He.meth_ok (c.fact 34 (f := .meth "Book" "works") rfl), F_Book_works, F_Book_works.bindsN (fun _ _ _ _ _ _ us hl => match us, hl with | [_], _ => rfl), dc_Book_works⟩
  · intro x f ds hm
    unfold Gg at hm
    dsimp only at hm
    simp only [List.mem_cons, List.mem_nil_iff, or_false, Prod.mk.injEq, List.not_mem_nil] at hm
  · intro y i hm
    unfold Gg at hm
    dsimp only at hm
    simp only [List.mem_cons, List.mem_nil_iff, or_false, Prod.mk.injEq, List.not_mem_nil] at hm
end Pf
open PySem PySem.W PySem.Calls PyProof.Rows
set_option maxHeartbeats 0 in
theorem PySem.Challenge.cw_hall_k11_book_holds : PySem.Challenge.rw_hall_k11_book.Holds := by
  w_on; o_law
  refine HandSHeadRun.head_any (r := Pf.Rw) (q := view Pf.Rw.prog [18]) (H := Pf.hk) (ob := Pf.ob) (M := 3000) (loose := Pf.loose) (d := HandSHeadRun.topDef Pf.Rw.prog 18) (kwd := []) Pf.ob_eq
    (by kernel_rfl) (fun s => by kernel_rfl) Pf.run (by kernel_rfl) (by kernel_rfl) (by kernel_rfl) (by rfl) (by first | assumption | decide +kernel) (by decide +kernel) ⟨rfl, rfl, rfl, rfl, rfl, by decide +kernel⟩ ?hw ?hc
  case hw => w_witness2
  case hc =>
    refine L2.walk_ofE (l := PySem.Challenge.rw_hall_k11_book) (n := 63) (k := Pf.lawLevel + 2) (x := "_law_script") (CX := L2.CX0) rfl (by decide) (by kernel_rfl) ⟨rfl, by decide, by decide⟩ ?F (fun _ _ _ _ z => z)
    intro w mg fa h Y G hmg0
    obtain ⟨K, KX, c⟩ := Y
    have hmg : mg ("law" : PySem.Str) = some (.ref fa) := by
      have e : (HandSHeadRun.topDef Pf.Rw.prog 18).name = ("law" : PySem.Str) := by kernel_rfl
      rw [← e]
      exact hmg0
    obtain ⟨fd, hb, F, hF⟩ := Pf.facts KX G hmg c.t.d c.more
    exact ⟨K, fd, fun vs H Q _ => Ip.spI K Pf.Gg.tb (Ip.runF Pf.Pp Pf.lawLevel) Pf.f_law 1 vs H Q fun _ _ _ => False, KX, hb, fun H a ns hl _ hS => by
      obtain ⟨s', e⟩ := Pf.law_ok ns hl
      exact Ip.law_sp (Ip.tabK_none (c.t.d.fact 44 (f := He.Fa.free "in_order") rfl)) hS e, fun base h1 h2 => Ip.fn_calm (Ip.fn_def (k := 17) F Pf.dc_law (by decide) (Ip.ge_all (hF base) 15))⟩
#print axioms PySem.Challenge.cw_hall_k11_book_holds
