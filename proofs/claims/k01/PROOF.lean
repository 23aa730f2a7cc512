import PyProof.Rows.All
import Wide.All
import OpenK.AllK
import Wide.FinOn
import HandS.ForMost
import HandS.Exc
import HandS.ExcInit
import HandS.ExcField
import HandS.More
import HandS.WordsExc
import HandS.IsInst
import HandS.Star
import HandS.Conv
import HandS.Zip
import HandS.Evl
import HandS.Wide
import HandS.CallSlots
import HandS.ExcOwn
import KE.KTupSum
import HandS.SortInts
import HandS.Defaults
import HandS.Codes
import HandS.Deep
import KE.GoesNew
import KE.GoesMore
import KE.GoesEnum
import HandS.TupAny
import HandS.TupSets
import KE.DataEq
import KE.KStateDown
import HandS.Head0
import HandS.Head1
import HandS.Head2
import HandS.HeadEnd
import HandS.HeadHook1
import HandS.HeadHook2
import HandS.HeadHook3
import HandS.HeadHook4
import PySem.Challenge.RW_allteams_k01_choices_kinds_and_dues
set_option Elab.async false
set_option linter.all false
set_option maxRecDepth 100000
set_option maxHeartbeats 1000000
namespace DL
open PySem L2 Evl
variable {m m' m1 m2 : Nat}

/-! ### data -/
inductive D where
  | non | bl (b : Bool) | int (i : Int) | str (x : Str)
  | lst (xs : List D) | tup (xs : List D)
  | dic (kvs : List (Key × D)) | dit (kvs : List (List Key × D))
  | scr (ns : List Int)

mutual
inductive Rp (K : PySem.W.Frag) (G : Hp) : V → D → Prop
  | non : Rp K G .non .non
  | bl (b : Bool) : Rp K G (.bl b) (.bl b)
  | int (i : Int) : Rp K G (.int i) (.int i)
  | str (x : Str) : Rp K G (.str x) (.str x)
  | lst {a : Addr} {xs : List V} {ds : List D} : G a = some (.lst xs) → RpL K G xs ds → Rp K G (.ref a) (.lst ds)
  | tup {a : Addr} {xs : List V} {ds : List D} : G a = some (.tup xs) → RpL K G xs ds → Rp K G (.ref a) (.tup ds)
  | dic {a : Addr} {kvs : List (Key × V)} {ds : List (Key × D)} : Rd G a (.dK kvs) → kvs.map (·.1) = ds.map (·.1) → RpL K G (kvs.map (·.2)) (ds.map (·.2)) → Rp K G (.ref a) (.dic ds)
  | dit {a : Addr} {kvs : List (List Key × V)} {ds : List (List Key × D)} : Rd G a (.dT kvs) → kvs.map (·.1) = ds.map (·.1) → RpL K G (kvs.map (·.2)) (ds.map (·.2)) → Rp K G (.ref a) (.dit ds)
  | scr {a : Addr} {ns : List Int} : SqL K G a (ns.map V.int) → Rp K G (.ref a) (.scr ns)
inductive RpL (K : PySem.W.Frag) (G : Hp) : List V → List D → Prop
  | nil : RpL K G [] []
  | cons {v : V} {vs : List V} {d : D} {ds : List D} : Rp K G v d → RpL K G vs ds → RpL K G (v :: vs) (d :: ds)
end

mutual
theorem Rp.mono {K : PySem.W.Frag} {G G' : Hp} (e : Ex G G') : ∀ {v : V} {d : D}, Rp K G v d → Rp K G' v d
  | _, _, .non => .non
  | _, _, .bl b => .bl b
  | _, _, .int i => .int i
  | _, _, .str x => .str x
  | _, _, .lst h r => .lst (e _ _ h) (RpL.mono e r)
  | _, _, .tup h r => .tup (e _ _ h) (RpL.mono e r)
  | _, _, .dic h k r => .dic (ex_rd e h) k (RpL.mono e r)
  | _, _, .dit h k r => .dit (ex_rd e h) k (RpL.mono e r)
  | _, _, .scr h => .scr (ex_l e h)
theorem RpL.mono {K : PySem.W.Frag} {G G' : Hp} (e : Ex G G') : ∀ {vs : List V} {ds : List D}, RpL K G vs ds → RpL K G' vs ds
  | _, _, .nil => .nil
  | _, _, .cons h r => .cons (Rp.mono e h) (RpL.mono e r)
end
theorem RpL.length {K : PySem.W.Frag} {G : Hp} : ∀ {vs : List V} {ds : List D}, RpL K G vs ds → vs.length = ds.length
  | _, _, .nil => rfl
  | _, _, .cons _ r => by simp [RpL.length r]
theorem RpL.get {K : PySem.W.Frag} {G : Hp} : ∀ {vs : List V} {ds : List D}, RpL K G vs ds → ∀ {i : Nat} {v : V}, vs[i]? = some v → ∃ d, ds[i]? = some d ∧ Rp K G v d
  | _, _, .nil, i, v, h => by simp at h
  | _, _, .cons h r, 0, v, e => by simp at e; subst e; exact ⟨_, rfl, h⟩
  | _, _, .cons h r, i + 1, v, e => by
    obtain ⟨d, h1, h2⟩ := RpL.get r (i := i) (v := v) (by simpa using e)
    exact ⟨d, by simpa using h1, h2⟩
theorem RpL.getD {K : PySem.W.Frag} {G : Hp} : ∀ {vs : List V} {ds : List D}, RpL K G vs ds → ∀ {i : Nat} {d : D}, ds[i]? = some d → ∃ v, vs[i]? = some v ∧ Rp K G v d
  | _, _, .nil, i, v, h => by simp at h
  | _, _, .cons h r, 0, v, e => by simp at e; subst e; exact ⟨_, rfl, h⟩
  | _, _, .cons h r, i + 1, v, e => by
    obtain ⟨d, h1, h2⟩ := RpL.getD r (i := i) (d := v) (by simpa using e)
    exact ⟨d, by simpa using h1, h2⟩
theorem RpL.append {K : PySem.W.Frag} {G : Hp} : ∀ {vs ws : List V} {ds es : List D}, RpL K G vs ds → RpL K G ws es → RpL K G (vs ++ ws) (ds ++ es)
  | _, _, _, _, .nil, s => s
  | _, _, _, _, .cons h r, s => .cons h (RpL.append r s)
theorem RpL.one {K : PySem.W.Frag} {G : Hp} {v : V} {d : D} (h : Rp K G v d) : RpL K G [v] [d] := .cons h .nil
theorem RpL.ints {K : PySem.W.Frag} {G : Hp} : ∀ {vs : List V} {ns : List Int}, RpL K G vs (ns.map D.int) → vs = ns.map V.int
  | _, [], .nil => rfl
  | _, n :: ns, .cons h r => by
    cases h
    rw [RpL.ints r]
    rfl
theorem RpL.ofInts {K : PySem.W.Frag} {G : Hp} : ∀ (ns : List Int), RpL K G (ns.map V.int) (ns.map D.int)
  | [] => .nil
  | n :: ns => .cons (.int n) (RpL.ofInts ns)
theorem RpL.bools {K : PySem.W.Frag} {G : Hp} : ∀ {vs : List V} {ns : List Bool}, RpL K G vs (ns.map D.bl) → vs = ns.map V.bl
  | _, [], .nil => rfl
  | _, n :: ns, .cons h r => by
    cases h
    rw [RpL.bools r]
    rfl
theorem RpL.set {K : PySem.W.Frag} {G : Hp} {v : V} {d : D} (h : Rp K G v d) : ∀ {vs : List V} {ds : List D} (i : Nat), RpL K G vs ds → RpL K G (vs.set i v) (ds.set i d)
  | _, _, _, .nil => .nil
  | _, _, 0, .cons _ r => .cons h r
  | _, _, i + 1, .cons a r => .cons a (RpL.set h i r)
theorem RpL.drop {K : PySem.W.Frag} {G : Hp} : ∀ {vs : List V} {ds : List D} (n : Nat), RpL K G vs ds → RpL K G (vs.drop n) (ds.drop n)
  | _, _, 0, r => r
  | _, _, _ + 1, .nil => .nil
  | _, _, n + 1, .cons _ r => RpL.drop n r
theorem RpL.take {K : PySem.W.Frag} {G : Hp} : ∀ {vs : List V} {ds : List D} (n : Nat), RpL K G vs ds → RpL K G (vs.take n) (ds.take n)
  | _, _, 0, _ => .nil
  | _, _, _ + 1, .nil => .nil
  | _, _, n + 1, .cons h r => .cons h (RpL.take n r)

/-! ### what may change beside the data -/
structure Wd where
  M : Addr → Prop
  L : Addr → Prop
  I : Nat → Hp → Prop
  dep : ∀ (m : Nat) (H H' : Hp), (∀ a, M a → H' a = H a) → I m H → I m H'
  has : ∀ m H a, I m H → M a → H a ≠ none
def W0 : Wd := ⟨fun _ => False, fun _ => False, fun _ _ => True, fun _ _ _ _ _ => trivial, fun _ _ _ _ h => h.elim⟩
structure Ok (W : Wd) (m : Nat) (G H : Hp) : Prop where
  ex : Ex G H
  inv : W.I m H
  off : ∀ a, W.M a → G a = none
  lk : ∀ a o u, G a = some (.frz o u) → (∀ xs, u ≠ .lst xs) → W.L a
structure Grow (W : Wd) (G H : Hp) (m : Nat) (G' H' : Hp) : Prop where
  ex : Ex G G'
  sub : Ex G' H'
  fresh : ∀ a, H a ≠ none → G a = none → G' a = none
  keep : ∀ a o, ¬ W.M a → H a = some o → H' a = some o
  inv : W.I m H'
  lk : ∀ a o u, G' a = some (.frz o u) → G a = some (.frz o u)
section
variable {W : Wd} {G H G' H' G1 H1 G2 H2 : Hp}
theorem Ok.refl (h : Ok W m G H) : Grow W G H m G H := ⟨Ex.refl G, h.ex, fun _ _ q => q, fun _ _ _ q => q, h.inv, fun _ _ _ q => q⟩
theorem Grow.ok (g : Grow W G H m' G' H') (h : Ok W m G H) : Ok W m' G' H' := ⟨g.sub, g.inv, fun a m => g.fresh a (W.has _ _ _ h.inv m) (h.off a m), fun a o u q n => h.lk a o u (g.lk a o u q) n⟩
theorem Grow.there (g : Grow W G H m' G' H') {a : Addr} (h : H a ≠ none) : H' a ≠ none := by
  by_cases m : W.M a
  · exact W.has _ _ _ g.inv m
  · cases e : H a with
    | none => exact absurd e h
    | some o => rw [g.keep a o m e]; exact fun z => by cases z
theorem Grow.back (g : Grow W G H m' G' H') {a : Addr} (h : H' a = none) : H a = none := by
  cases e : H a with
  | none => rfl
  | some o => exact absurd h (g.there (by rw [e]; exact fun z => by cases z))
theorem Grow.trans (a : Grow W G H m1 G1 H1) (b : Grow W G1 H1 m2 G2 H2) : Grow W G H m2 G2 H2 :=
  ⟨a.ex.trans b.ex, b.sub, fun c h n => b.fresh c (a.there h) (a.fresh c h n), fun c o m h => b.keep c o m (a.keep c o m h), b.inv, fun c o u q => a.lk c o u (b.lk c o u q)⟩
/-- something new, not data -/
theorem Grow.new (h : Ok W m G H) {p : Addr} {o : HO} (hp : H p = none) : Grow W G H m G (upd H p o) :=
  ⟨Ex.refl G, h.ex.trans (Ex.new hp), fun _ _ q => q, fun a u _ e => by rw [upd_ne (ne_of_none e hp)]; exact e,
    W.dep _ _ _ (fun a m => upd_ne fun z => W.has _ _ _ h.inv m (by rw [z]; exact hp)) h.inv, fun _ _ _ q => q⟩
/-- something new, data -/
theorem Grow.newD (h : Ok W m G H) {p : Addr} {o : HO} (hp : H p = none) (nf : ∀ x u, o ≠ .frz x u) : Grow W G H m (upd G p o) (upd H p o) :=
  have gp : G p = none := fresh_back h.ex hp
  ⟨Ex.new gp, fun a u e => by
    by_cases z : a = p
    · subst z; rw [upd_same] at e ⊢; exact e
    · rw [upd_ne z] at e ⊢; exact h.ex a u e, fun a q n => by
    have z : a ≠ p := fun z => q (by rw [z]; exact hp)
    rw [upd_ne z]; exact n, fun a u _ e => by rw [upd_ne (ne_of_none e hp)]; exact e,
    W.dep _ _ _ (fun a m => upd_ne fun z => W.has _ _ _ h.inv m (by rw [z]; exact hp)) h.inv, fun a x u q => by
    by_cases z : a = p
    · subst z; rw [upd_same] at q; exact absurd (Option.some.inj q) (nf x u)
    · rw [upd_ne z] at q; exact q⟩
end

/-! ### objects of one's own -/
inductive O where
  | lst (ds : List D) | dK (kvs : List (Key × D)) | dT (kvs : List (List Key × D))
def O.frz : O → D
  | .lst ds => .lst ds
  | .dK kvs => .dic kvs
  | .dT kvs => .dit kvs
def ObjRp (K : PySem.W.Frag) (G H : Hp) (p : Addr) : O → Prop
  | .lst ds => ∃ xs, H p = some (.lst xs) ∧ RpL K G xs ds
  | .dK ds => ∃ kvs, H p = some (.dK kvs) ∧ kvs.map (·.1) = ds.map (·.1) ∧ RpL K G (kvs.map (·.2)) (ds.map (·.2))
  | .dT ds => ∃ kvs, H p = some (.dT kvs) ∧ kvs.map (·.1) = ds.map (·.1) ∧ RpL K G (kvs.map (·.2)) (ds.map (·.2))
theorem ObjRp.there {K : PySem.W.Frag} {G H : Hp} {p : Addr} {o : O} (h : ObjRp K G H p o) : H p ≠ none := by
  cases o with
  | lst ds => obtain ⟨_, e, _⟩ := h; rw [e]; exact fun z => by cases z
  | dK ds => obtain ⟨_, e, _⟩ := h; rw [e]; exact fun z => by cases z
  | dT ds => obtain ⟨_, e, _⟩ := h; rw [e]; exact fun z => by cases z
theorem ObjRp.noxd {K : PySem.W.Frag} {G H : Hp} {p : Addr} {o : O} {fv : List (Str × V)} (h : ObjRp K G H p o) : H p ≠ some (.xd fv) := by
  cases o with
  | lst ds => obtain ⟨_, e, _⟩ := h; rw [e]; exact fun z => by cases z
  | dK ds => obtain ⟨_, e, _⟩ := h; rw [e]; exact fun z => by cases z
  | dT ds => obtain ⟨_, e, _⟩ := h; rw [e]; exact fun z => by cases z
theorem ObjRp.mono {K : PySem.W.Frag} {G G' H H' : Hp} {p : Addr} {o : O} (e : Ex G G') (hp : H' p = H p) (h : ObjRp K G H p o) : ObjRp K G' H' p o := by
  cases o with
  | lst ds => obtain ⟨xs, a, b⟩ := h; exact ⟨xs, hp.trans a, b.mono e⟩
  | dK ds => obtain ⟨xs, a, k, b⟩ := h; exact ⟨xs, hp.trans a, k, b.mono e⟩
  | dT ds => obtain ⟨xs, a, k, b⟩ := h; exact ⟨xs, hp.trans a, k, b.mono e⟩

/-! ### what a name, a value is -/
inductive S where
  | no | dat (d : D) | own (o : O) | vw (o : O) | at_ (p : Addr) | xc (C a d : Addr) (fs : List (Str × D))
def S.frz : S → S
  | .own o => .dat o.frz
  | s => s
def RelS (K : PySem.W.Frag) (W : Wd) (H0 G H : Hp) (v : V) : S → Prop
  | .no => True
  | .dat d => Rp K G v d
  | .own o => ∃ p, v = .ref p ∧ H0 p = none ∧ G p = none ∧ ¬ W.M p ∧ ObjRp K G H p o
  | .vw o => ∃ p, v = .ref p ∧ G p = none ∧ ¬ W.M p ∧ ObjRp K G H p o
  | .at_ p => v = .ref p
  | .xc _ a d fs => v = .ref a ∧ G d = none ∧ ¬ W.M d ∧ ∃ fv, H d = some (.xd fv) ∧ fv.map (·.1) = fs.map (·.1) ∧ RpL K G (fv.map (·.2)) (fs.map (·.2))
section
variable {K : PySem.W.Frag} {W : Wd} {H0 G H G' H' G1 H1 G2 H2 : Hp} {v : V} {s : S}
theorem grow_at (g : Grow W G H m' G' H') {p : Addr} (m : ¬ W.M p) (h : H p ≠ none) : H' p = H p := by
  cases e : H p with
  | none => exact absurd e h
  | some o => exact g.keep p o m e
theorem RelS.grow (g : Grow W G H m' G' H') (r : RelS K W H0 G H v s) : RelS K W H0 G' H' v s := by
  cases s with
  | no => trivial
  | dat d => exact Rp.mono g.ex r
  | own o =>
    obtain ⟨p, rfl, h0, n, m, ob⟩ := r
    exact ⟨p, rfl, h0, g.fresh p ob.there n, m, ob.mono g.ex (grow_at g m ob.there)⟩
  | vw o =>
    obtain ⟨p, rfl, n, m, ob⟩ := r
    exact ⟨p, rfl, g.fresh p ob.there n, m, ob.mono g.ex (grow_at g m ob.there)⟩
  | at_ p => exact r
  | xc C a d fs =>
    obtain ⟨e, n, m, fv, h, k, b⟩ := r
    exact ⟨e, g.fresh d (by rw [h]; exact fun z => by cases z) n, m, fv, g.keep d _ m h, k, b.mono g.ex⟩
theorem RelS.back (g : Grow W G H m1 G1 H1) (r : RelS K W H1 G2 H2 v s) : RelS K W H G2 H2 v s := by
  cases s with
  | own o =>
    obtain ⟨p, rfl, h0, n, m, ob⟩ := r
    exact ⟨p, rfl, g.back h0, n, m, ob⟩
  | no => trivial
  | dat d => exact r
  | vw o => exact r
  | at_ p => exact r
  | xc C a d fs => exact r
/-- an own thing becomes data -/
theorem RelS.freezeX (g : Grow W G H m1 G1 H1) (r : RelS K W H G1 H1 v s) : ∃ G2, Grow W G H m1 G2 H1 ∧ RelS K W H G2 H1 v s.frz ∧ Ex G1 G2 ∧ ∀ q, G1 q = none → v ≠ .ref q → G2 q = none := by
  cases s with
  | own o =>
    obtain ⟨p, rfl, h0, n, m, ob⟩ := r
    have mk : ∀ u, H1 p = some u → (∀ x y, u ≠ .frz x y) → Grow W G H m1 (upd G1 p u) H1 ∧ Ex G1 (upd G1 p u) := fun u e nf => by
      refine ⟨⟨g.ex.trans (Ex.new n), fun a w q => ?_, fun a q w => ?_, g.keep, g.inv, fun a x y q => ?_⟩, Ex.new n⟩
      · by_cases z : a = p
        · subst z; rw [upd_same] at q; rw [e]; exact q
        · rw [upd_ne z] at q; exact g.sub a w q
      · have z : a ≠ p := fun z => q (by rw [z]; exact h0)
        rw [upd_ne z]; exact g.fresh a q w
      · by_cases z : a = p
        · subst z; rw [upd_same] at q; exact absurd (Option.some.inj q) (nf x y)
        · rw [upd_ne z] at q; exact g.lk a x y q
    cases o with
    | lst ds =>
      obtain ⟨xs, e, b⟩ := ob
      obtain ⟨g2, x⟩ := mk _ e (fun _ _ z => by cases z)
      exact ⟨_, g2, Rp.lst upd_same (b.mono x), x, fun q hq hv => by rw [upd_ne fun z => hv (by rw [z])]; exact hq⟩
    | dK ds =>
      obtain ⟨xs, e, k, b⟩ := ob
      obtain ⟨g2, x⟩ := mk _ e (fun _ _ z => by cases z)
      exact ⟨_, g2, Rp.dic (.inl upd_same) k (b.mono x), x, fun q hq hv => by rw [upd_ne fun z => hv (by rw [z])]; exact hq⟩
    | dT ds =>
      obtain ⟨xs, e, k, b⟩ := ob
      obtain ⟨g2, x⟩ := mk _ e (fun _ _ z => by cases z)
      exact ⟨_, g2, Rp.dit (.inl upd_same) k (b.mono x), x, fun q hq hv => by rw [upd_ne fun z => hv (by rw [z])]; exact hq⟩
  | no => exact ⟨G1, g, trivial, Ex.refl _, fun _ q _ => q⟩
  | dat d => exact ⟨G1, g, r, Ex.refl _, fun _ q _ => q⟩
  | vw o => exact ⟨G1, g, r, Ex.refl _, fun _ q _ => q⟩
  | at_ p => exact ⟨G1, g, r, Ex.refl _, fun _ q _ => q⟩
  | xc C a d fs => exact ⟨G1, g, r, Ex.refl _, fun _ q _ => q⟩
theorem RelS.freeze (g : Grow W G H m1 G1 H1) (r : RelS K W H G1 H1 v s) : ∃ G2, Grow W G H m1 G2 H1 ∧ RelS K W H G2 H1 v s.frz := by
  obtain ⟨G2, a, b, _⟩ := r.freezeX g
  exact ⟨G2, a, b⟩
end

/-! ### where one stands -/
abbrev Xp := Nat → Addr → List (Str × D) → Prop
def ExcQ (K : PySem.W.Frag) (W : Wd) (G H : Hp) (Ξ : Xp) (E : XK) : Prop := ∀ (C d : Addr) (fv : List (Str × V)) (fs : List (Str × D)) (m' : Nat) (G' H' : Hp), Grow W G H m' G' H' → G' d = none → ¬ W.M d → H' d = some (.xd fv) → fv.map (·.1) = fs.map (·.1) → RpL K G' (fv.map (·.2)) (fs.map (·.2)) → Ξ m' C fs → E (.ref C) (some d) H'
theorem ExcQ.grow {K : PySem.W.Frag} {W : Wd} {G H G' H' : Hp} {Ξ : Xp} {E : XK} (g : Grow W G H m' G' H') (h : ExcQ K W G H Ξ E) : ExcQ K W G' H' Ξ E :=
  fun C d fv fs m2 G2 H2 g2 => h C d fv fs m2 G2 H2 (g.trans g2)
structure Cc where
  K : PySem.W.Frag
  W : Wd
  E : XK
  Ξ : Xp
  m0 : Nat
  G0 : Hp
  H0 : Hp
structure EnvOk (c : Cc) (m : Nat) (G H : Hp) (σ : L2.St) (ρ : List S) : Prop where
  ok0 : Ok c.W c.m0 c.G0 c.H0
  gr : Grow c.W c.G0 c.H0 m G H
  exc : ExcQ c.K c.W c.G0 c.H0 c.Ξ c.E
  len : σ.length = ρ.length
  at_ : ∀ (i : Nat) (s : S), ρ[i]? = some s → (s = .no ∨ ∃ v, σ[i]? = some (some v) ∧ RelS c.K c.W c.H0 G H v s)
  sep : ∀ (i j : Nat) (o o' : O) (p q : Addr), i ≠ j → ρ[i]? = some (.own o) → ρ[j]? = some (.own o') → σ[i]? = some (some (.ref p)) → σ[j]? = some (some (.ref q)) → p ≠ q
section
variable {c : Cc} {G H G' H' : Hp} {σ : L2.St} {ρ : List S}
theorem EnvOk.ok (e : EnvOk c m G H σ ρ) : Ok c.W m G H := e.gr.ok e.ok0
theorem EnvOk.refl (e : EnvOk c m G H σ ρ) : Grow c.W G H m G H := e.ok.refl
theorem EnvOk.grow (g : Grow c.W G H m' G' H') (e : EnvOk c m G H σ ρ) : EnvOk c m' G' H' σ ρ :=
  ⟨e.ok0, e.gr.trans g, e.exc, e.len, fun i s h => (e.at_ i s h).imp_right fun ⟨v, a, r⟩ => ⟨v, a, r.grow g⟩, e.sep⟩
theorem EnvOk.excq (e : EnvOk c m G H σ ρ) : ExcQ c.K c.W G H c.Ξ c.E := e.exc.grow e.gr
end

/-! ### judgements -/
def De (c : Cc) (m : Nat) (te : TE) (ρ : List S) (Φ : Nat → S → Prop) : Prop := ∀ σ G H, EnvOk c m G H σ ρ → ∀ Q : VK, (∀ v s m' G' H', Grow c.W G H m' G' H' → RelS c.K c.W H G' H' v s → Φ m' s → Q v H') → te σ H Q
def DT (c : Cc) (m : Nat) (tt : TT) (ρ : List S) (Φ : Nat → Bool → Prop) : Prop := ∀ σ G H, EnvOk c m G H σ ρ → ∀ Q : Bool → Hp → Prop, (∀ b m' G' H', Grow c.W G H m' G' H' → Φ m' b → Q b H') → tt σ H Q
inductive RelSs (K : PySem.W.Frag) (W : Wd) (H0 G H : Hp) : List V → List S → Prop
  | nil : RelSs K W H0 G H [] []
  | cons {v : V} {vs : List V} {s : S} {ss : List S} : RelS K W H0 G H v s → RelSs K W H0 G H vs ss → RelSs K W H0 G H (v :: vs) (s :: ss)
theorem RelSs.grow {K : PySem.W.Frag} {W : Wd} {H0 G H G' H' : Hp} (g : Grow W G H m' G' H') : ∀ {vs : List V} {ss : List S}, RelSs K W H0 G H vs ss → RelSs K W H0 G' H' vs ss
  | _, _, .nil => .nil
  | _, _, .cons h r => .cons (h.grow g) (r.grow g)
theorem RelSs.back {K : PySem.W.Frag} {W : Wd} {G H G1 H1 G2 H2 : Hp} (g : Grow W G H m1 G1 H1) : ∀ {vs : List V} {ss : List S}, RelSs K W H1 G2 H2 vs ss → RelSs K W H G2 H2 vs ss
  | _, _, .nil => .nil
  | _, _, .cons h r => .cons (h.back g) (r.back g)
theorem RelSs.length {K : PySem.W.Frag} {W : Wd} {H0 G H : Hp} : ∀ {vs : List V} {ss : List S}, RelSs K W H0 G H vs ss → vs.length = ss.length
  | _, _, .nil => rfl
  | _, _, .cons _ r => by simp [RelSs.length r]
def DA (c : Cc) (m : Nat) (ta : TA) (ρ : List S) (Φ : Nat → List S → Prop) : Prop := ∀ σ G H, EnvOk c m G H σ ρ → ∀ Q : List V → Hp → Prop, (∀ vs ss m' G' H', Grow c.W G H m' G' H' → RelSs c.K c.W H G' H' vs ss → Φ m' ss → Q vs H') → ta σ H Q
def Ds (c : Cc) (m : Nat) (ts : TS) (ρ : List S) (N : Nat → List S → Prop) (R : Nat → S → Prop) (B C : Nat → List S → Prop) : Prop := ∀ (D : Ends) σ G H, EnvOk c m G H σ ρ →
  (∀ ρ' σ' m' G' H', N m' ρ' → Ex G G' → EnvOk c m' G' H' σ' ρ' → D.nx σ' H') →
  (∀ s v m' G' H', R m' s → Grow c.W c.G0 c.H0 m' G' H' → RelS c.K c.W c.H0 G' H' v s → D.rt v H') →
  (∀ ρ' σ' m' G' H', B m' ρ' → Ex G G' → EnvOk c m' G' H' σ' ρ' → D.bk σ' H') →
  (∀ ρ' σ' m' G' H', C m' ρ' → Ex G G' → EnvOk c m' G' H' σ' ρ' → D.ct σ' H') → ts D σ H

section
variable {c : Cc} {ρ : List S} {Φ : Nat → S → Prop} {te ta tb : TE}
theorem De.imp {Ψ : Nat → S → Prop} (h : De c m te ρ Φ) (i : ∀ m s, Φ m s → Ψ m s) : De c m te ρ Ψ := fun σ G H e Q q => h σ G H e Q fun v s m' G' H' g r p => q v s m' G' H' g r (i m' s p)
theorem de_frz (h : De c m te ρ fun m s => Φ m s.frz) : De c m te ρ Φ := fun σ G H e Q q => h σ G H e Q fun v s m1 G1 H1 g r p => by
  obtain ⟨G2, g2, r2⟩ := r.freeze g
  exact q v _ m1 G2 H1 g2 r2 p
/-- a name -/
def rdS : S → S
  | .own o => .vw o
  | s => s
theorem de_var {i : Nat} {s : S} (hs : ρ[i]? = some s) (hn : s ≠ .no) (h : Φ m (rdS s)) : De c m (tVar i) ρ Φ := fun σ G H e Q q => by
  obtain hz | ⟨v, a, r⟩ := e.at_ i s hs
  · exact absurd hz hn
  · refine ⟨v, a, q v _ m G H e.refl ?_ h⟩
    cases s with
    | no => exact absurd rfl hn
    | dat d => exact r
    | own o => obtain ⟨p, e1, _, e2, e3, e4⟩ := r; exact ⟨p, e1, e2, e3, e4⟩
    | vw o => exact r
    | at_ p => exact r
    | xc C a d fs => exact r
theorem de_int {i : Int} (h : Φ m (.dat (.int i))) : De c m (tC (.int i)) ρ Φ := fun σ G H e Q q => q _ (.dat (.int i)) m G H e.refl (Rp.int i) h
theorem de_bl {b : Bool} (h : Φ m (.dat (.bl b))) : De c m (tC (.bl b)) ρ Φ := fun σ G H e Q q => q _ (.dat (.bl b)) m G H e.refl (Rp.bl b) h
theorem de_str {x : Str} (h : Φ m (.dat (.str x))) : De c m (tC (.str x)) ρ Φ := fun σ G H e Q q => q _ (.dat (.str x)) m G H e.refl (Rp.str x) h
theorem de_non (h : Φ m (.dat .non)) : De c m (tC .non) ρ Φ := fun σ G H e Q q => q _ (.dat .non) m G H e.refl Rp.non h

/-! operations on values -/
def OpS (K : PySem.W.Frag) (W : Wd) (m : Nat) (r : R2) (s1 s2 : S) (Φ : Nat → S → Prop) : Prop := ∀ H0 G H v1 v2, Ok W m G H → RelS K W H0 G H v1 s1 → RelS K W H0 G H v2 s2 → ∀ Q : VK, (∀ v s m' G' H', Grow W G H m' G' H' → RelS K W H G' H' v s → Φ m' s → Q v H') → r v1 v2 H Q
theorem de_op {r : R2} (h : De c m ta ρ fun m s1 => De c m tb ρ fun m s2 => OpS c.K c.W m r s1 s2 Φ) : De c m (tOp r ta tb) ρ Φ := fun σ G H e Q q =>
  h σ G H e _ fun v1 s1 m1 G1 H1 g1 r1 h1 => h1 σ G1 H1 (e.grow g1) _ fun v2 s2 m2 G2 H2 g2 r2 h2 =>
    h2 H G2 H2 v1 v2 ((e.grow g1).grow g2).ok (r1.grow g2) (r2.back g1) Q fun v s m3 G3 H3 g3 r3 p => q v s m3 G3 H3 ((g1.trans g2).trans g3) ((r3.back g2).back g1) p
theorem de_un {r : V → Hp → VK → Prop} (h : De c m ta ρ fun m s1 => ∀ H0 G H v1, Ok c.W m G H → RelS c.K c.W H0 G H v1 s1 → ∀ Q : VK, (∀ v s m' G' H', Grow c.W G H m' G' H' → RelS c.K c.W H G' H' v s → Φ m' s → Q v H') → r v1 H Q) : De c m (tUn r ta) ρ Φ := fun σ G H e Q q =>
  h σ G H e _ fun v1 s1 m1 G1 H1 g1 r1 h1 => h1 H G1 H1 v1 (e.grow g1).ok r1 Q fun v s m3 G3 H3 g3 r3 p => q v s m3 G3 H3 (g1.trans g3) (r3.back g1) p
theorem de_neg (h : De c m ta ρ fun m s => ∃ i, s = .dat (.int i) ∧ Φ m (.dat (.int (-i)))) : De c m (tUn (rU fun i => .int (-i)) ta) ρ Φ := de_un (h.imp fun m s ⟨i, e, p⟩ H0 G H v1 ok r Q q => by
  subst e
  cases r
  exact ⟨i, rfl, q _ (.dat (.int (-i))) m G H ok.refl (Rp.int (-i)) p⟩)
end
end DL
set_option Elab.async false
set_option linter.all false
set_option maxRecDepth 100000
set_option maxHeartbeats 1000000
namespace DL
open PySem L2 Evl
variable {m : Nat}
section
variable {K : PySem.W.Frag} {W : Wd} {Φ : Nat → S → Prop}
theorem ops_l {r r' : R2} {s1 s2 : S} (h : OpS K W m r s1 s2 Φ) : OpS K W m (fun x y H Q => r x y H Q ∨ r' x y H Q) s1 s2 Φ := fun H0 G H v1 v2 ok r1 r2 Q q => .inl (h H0 G H v1 v2 ok r1 r2 Q q)
theorem ops_r {r r' : R2} {s1 s2 : S} (h : OpS K W m r' s1 s2 Φ) : OpS K W m (fun x y H Q => r x y H Q ∨ r' x y H Q) s1 s2 Φ := fun H0 G H v1 v2 ok r1 r2 Q q => .inr (h H0 G H v1 v2 ok r1 r2 Q q)
theorem ops_int {f : Int → Int → Int} {i j : Int} (h : Φ m (.dat (.int (f i j)))) : OpS K W m (rI0 fun i j => .int (f i j)) (.dat (.int i)) (.dat (.int j)) Φ := fun H0 G H v1 v2 ok r1 r2 Q q => by
  cases r1; cases r2
  exact ⟨i, j, rfl, rfl, q _ (.dat (.int (f i j))) m G H ok.refl (Rp.int _) h⟩
theorem ops_bool {f : Int → Int → Bool} {i j : Int} (h : Φ m (.dat (.bl (f i j)))) : OpS K W m (rI0 fun i j => .bl (f i j)) (.dat (.int i)) (.dat (.int j)) Φ := fun H0 G H v1 v2 ok r1 r2 Q q => by
  cases r1; cases r2
  exact ⟨i, j, rfl, rfl, q _ (.dat (.bl (f i j))) m G H ok.refl (Rp.bl _) h⟩
theorem ops_intC {C : Int → Int → Prop} {f : Int → Int → Int} {i j : Int} (hc : C i j) (h : Φ m (.dat (.int (f i j)))) : OpS K W m (rI C fun i j => .int (f i j)) (.dat (.int i)) (.dat (.int j)) Φ := fun H0 G H v1 v2 ok r1 r2 Q q => by
  cases r1; cases r2
  exact ⟨i, j, rfl, rfl, hc, q _ (.dat (.int (f i j))) m G H ok.refl (Rp.int _) h⟩

/-! ### == of data -/
mutual
def D.py : D → Option PyData
  | .non => some .none
  | .bl b => some (.bool b)
  | .int i => some (.int i)
  | .str x => some (.str x)
  | .lst ds => (D.pys ds).map .list
  | .tup ds => (D.pys ds).map .tuple
  | .scr ns => some (.list (ns.map .int))
  | _ => none
def D.pys : List D → Option (List PyData)
  | [] => some []
  | d :: ds => (D.py d).bind fun x => (D.pys ds).map fun xs => x :: xs
end
theorem dp_ints {K : PySem.W.Frag} {H : Hp} : ∀ ns : List Int, DpAll K H (ns.map V.int) (ns.map PyData.int)
  | [] => .nil
  | n :: ns => .cons (.int n) (dp_ints ns)
mutual
theorem Rp.dp {K : PySem.W.Frag} {G H : Hp} (e : Ex G H) : ∀ {v : V} {d : D} {x : PyData}, Rp K G v d → d.py = some x → Dp K H v x
  | _, _, x, .non, q => by unfold D.py at q; cases q; exact .non
  | _, _, x, .bl b, q => by unfold D.py at q; cases q; exact .bl b
  | _, _, x, .int i, q => by unfold D.py at q; cases q; exact .int i
  | _, _, x, .str s, q => by unfold D.py at q; cases q; exact .str s
  | _, _, x, .lst (ds := ds) h r, q => by
    unfold D.py at q
    cases z : D.pys ds with
    | none => rw [z] at q; cases q
    | some xs => rw [z] at q; cases q; exact .lst (SqL.of (e _ _ h)) (RpL.dp e r z)
  | _, _, x, .tup (ds := ds) h r, q => by
    unfold D.py at q
    cases z : D.pys ds with
    | none => rw [z] at q; cases q
    | some xs => rw [z] at q; cases q; exact .tup (SqT.of (e _ _ h)) (RpL.dp e r z)
  | _, _, x, .dic _ _ _, q => by unfold D.py at q; cases q
  | _, _, x, .dit _ _ _, q => by unfold D.py at q; cases q
  | _, _, x, .scr h, q => by unfold D.py at q; cases q; exact .lst (ex_l e h) (dp_ints _)
theorem RpL.dp {K : PySem.W.Frag} {G H : Hp} (e : Ex G H) : ∀ {vs : List V} {ds : List D} {xs : List PyData}, RpL K G vs ds → D.pys ds = some xs → DpAll K H vs xs
  | _, _, xs, .nil, q => by unfold D.pys at q; cases q; exact .nil
  | _, _, xs, .cons (d := d) (ds := ds) h r, q => by
    unfold D.pys at q
    cases z : d.py with
    | none => rw [z] at q; cases q
    | some y =>
      rw [z] at q
      cases z2 : D.pys ds with
      | none => rw [z2] at q; cases q
      | some ys => rw [z2] at q; cases q; exact .cons (Rp.dp e h z) (RpL.dp e r z2)
end
/-- data of a value that is read -/
def S.view : S → Option D
  | .dat d => some d
  | .own o => some o.frz
  | .vw o => some o.frz
  | _ => none
theorem RelS.dp {H0 G H : Hp} {v : V} {s : S} {d : D} {x : PyData} (ok : Ok W m G H) (r : RelS K W H0 G H v s) (hs : s.view = some d) (hx : d.py = some x) : Dp K H v x := by
  have key : ∀ p o, ObjRp K G H p o → o.frz = d → Dp K H (.ref p) x := fun p o ob e => by
    subst e
    cases o with
    | lst ds =>
      obtain ⟨xs, h1, h2⟩ := ob
      unfold O.frz D.py at hx
      cases z : D.pys ds with
      | none => rw [z] at hx; cases hx
      | some ys => rw [z] at hx; cases hx; exact .lst (SqL.of h1) (RpL.dp ok.ex h2 z)
    | dK ds => unfold O.frz D.py at hx; cases hx
    | dT ds => unfold O.frz D.py at hx; cases hx
  cases s with
  | dat d' => cases hs; exact Rp.dp ok.ex r hx
  | own o => obtain ⟨p, rfl, _, _, _, ob⟩ := r; exact key p o ob (Option.some.inj hs)
  | vw o => obtain ⟨p, rfl, _, _, ob⟩ := r; exact key p o ob (Option.some.inj hs)
  | no => cases hs
  | at_ p => cases hs
  | xc _ _ _ _ => cases hs
theorem ops_eqD {s1 s2 : S} {d1 d2 : D} {x1 x2 : PyData} (h1 : s1.view = some d1) (h2 : s2.view = some d2) (e1 : d1.py = some x1) (e2 : d2.py = some x2) (c1 : SeqAt.shaped x1 = true) (c2 : SeqAt.shaped x2 = true) (h : Φ m (.dat (.bl (PyData.eqv x1 x2)))) :
    OpS K W m (rEqD K) s1 s2 Φ := fun H0 G H v1 v2 ok r1 r2 Q q => ⟨x1, x2, r1.dp ok h1 e1, r2.dp ok h2 e2, c1, c2, q _ (.dat (.bl _)) m G H ok.refl (Rp.bl _) h⟩
theorem ops_neD {s1 s2 : S} {d1 d2 : D} {x1 x2 : PyData} (h1 : s1.view = some d1) (h2 : s2.view = some d2) (e1 : d1.py = some x1) (e2 : d2.py = some x2) (c1 : SeqAt.shaped x1 = true) (c2 : SeqAt.shaped x2 = true) (h : Φ m (.dat (.bl (!PyData.eqv x1 x2)))) :
    OpS K W m (rNeD K) s1 s2 Φ := fun H0 G H v1 v2 ok r1 r2 Q q => ⟨x1, x2, r1.dp ok h1 e1, r2.dp ok h2 e2, c1, c2, q _ (.dat (.bl _)) m G H ok.refl (Rp.bl _) h⟩

/-! ### sequences -/
/-- a list that is read: its items -/
def S.lst? : S → Option (List D)
  | .dat (.lst ds) => some ds
  | .dat (.scr ns) => some (ns.map .int)
  | .own (.lst ds) => some ds
  | .vw (.lst ds) => some ds
  | _ => none
def S.tup? : S → Option (List D)
  | .dat (.tup ds) => some ds
  | _ => none
theorem RelS.lstV {H0 G H : Hp} {v : V} {s : S} {ds : List D} (ok : Ok W m G H) (r : RelS K W H0 G H v s) (h : s.lst? = some ds) : ∃ p xs, v = .ref p ∧ SqL K H p xs ∧ RpL K G xs ds := by
  cases s with
  | no => cases h
  | at_ p => cases h
  | xc _ _ _ _ => cases h
  | dat d =>
    cases d <;> first | cases h | skip
    · have r : Rp K G v _ := r
      cases r with
      | lst a b => exact ⟨_, _, rfl, SqL.of (ok.ex _ _ a), b⟩
    · have r : Rp K G v _ := r
      cases r with
      | scr a => exact ⟨_, _, rfl, ex_l ok.ex a, RpL.ofInts _⟩
  | own o =>
    cases o <;> first | cases h | skip
    obtain ⟨p, rfl, _, _, _, xs, a, b⟩ := r
    exact ⟨p, xs, rfl, SqL.of a, b⟩
  | vw o =>
    cases o <;> first | cases h | skip
    obtain ⟨p, rfl, _, _, xs, a, b⟩ := r
    exact ⟨p, xs, rfl, SqL.of a, b⟩
theorem RelS.tupV {H0 G H : Hp} {v : V} {s : S} {ds : List D} (ok : Ok W m G H) (r : RelS K W H0 G H v s) (h : s.tup? = some ds) : ∃ p xs, v = .ref p ∧ SqT K H p xs ∧ RpL K G xs ds := by
  cases s with
  | dat d =>
    cases d <;> first | cases h | skip
    have r : Rp K G v _ := r
    cases r with
    | tup a b => exact ⟨_, _, rfl, SqT.of (ok.ex _ _ a), b⟩
  | no => cases h
  | at_ p => cases h
  | xc _ _ _ _ => cases h
  | own o => cases h
  | vw o => cases h
/-- a plain list (tracked) -/
def S.raw? : S → Option (List D)
  | .dat (.lst ds) => some ds
  | .own (.lst ds) => some ds
  | .vw (.lst ds) => some ds
  | _ => none
theorem RelS.rawV {H0 G H : Hp} {v : V} {s : S} {ds : List D} (ok : Ok W m G H) (r : RelS K W H0 G H v s) (h : s.raw? = some ds) : ∃ p xs, v = .ref p ∧ H p = some (.lst xs) ∧ RpL K G xs ds := by
  cases s with
  | no => cases h
  | at_ p => cases h
  | xc _ _ _ _ => cases h
  | dat d =>
    cases d <;> first | cases h | skip
    have r : Rp K G v _ := r
    cases r with
    | lst a b => exact ⟨_, _, rfl, ok.ex _ _ a, b⟩
  | own o =>
    cases o <;> first | cases h | skip
    obtain ⟨p, rfl, _, _, _, xs, a, b⟩ := r
    exact ⟨p, xs, rfl, a, b⟩
  | vw o =>
    cases o <;> first | cases h | skip
    obtain ⟨p, rfl, _, _, xs, a, b⟩ := r
    exact ⟨p, xs, rfl, a, b⟩
theorem sz {n : Nat} (h : n ≤ 1000000) : n ≤ sizeLine := Nat.le_trans h (by decide)
theorem szl {n : Nat} (h : n < 1000000) : n < sizeLine := Nat.lt_of_lt_of_le h (by decide)
/-- a new list, one's own -/
theorem new_lst {H0 G H : Hp} {xs : List V} {ds : List D} {Q : VK} (ok : Ok W m G H) (r : RpL K G xs ds) (h : Φ m (.own (.lst ds))) (q : ∀ v s m' G' H', Grow W G H m' G' H' → RelS K W H G' H' v s → Φ m' s → Q v H') (p : Addr) (hp : H p = none) : Q (.ref p) (upd H p (.lst xs)) :=
  q (.ref p) (.own (.lst ds)) m G _ (Grow.new ok hp) ⟨p, rfl, hp, fresh_back ok.ex hp, fun m => W.has _ _ _ ok.inv m hp, xs, upd_same, r⟩ h
/-- a new tuple -/
theorem new_tup {H0 G H : Hp} {xs : List V} {ds : List D} {Q : VK} (ok : Ok W m G H) (r : RpL K G xs ds) (h : Φ m (.dat (.tup ds))) (q : ∀ v s m' G' H', Grow W G H m' G' H' → RelS K W H G' H' v s → Φ m' s → Q v H') (p : Addr) (hp : H p = none) : Q (.ref p) (upd H p (.tup xs)) :=
  q (.ref p) (.dat (.tup ds)) m (upd G p (.tup xs)) _ (Grow.newD ok hp fun _ _ z => by cases z) (Rp.tup upd_same (r.mono (Ex.new (fresh_back ok.ex hp)))) h
theorem ops_cat {s1 s2 : S} {ds es : List D} (h1 : s1.raw? = some ds) (h2 : s2.raw? = some es) (hl : ds.length + es.length ≤ 1000000) (h : Φ m (.own (.lst (ds ++ es)))) : OpS K W m rCat s1 s2 Φ := fun H0 G H v1 v2 ok r1 r2 Q q => by
  obtain ⟨p, xs, rfl, a1, b1⟩ := r1.rawV ok h1
  obtain ⟨p2, ys, rfl, a2, b2⟩ := r2.rawV ok h2
  exact ⟨p, p2, xs, ys, rfl, rfl, a1, a2, by rw [b1.length, b2.length]; exact sz hl, new_lst (H0 := H0) ok (b1.append b2) h q⟩
theorem ops_catT {s1 s2 : S} {ds es : List D} (h1 : s1 = .dat (.tup ds)) (h2 : s2 = .dat (.tup es)) (h0 : ds ≠ []) (hl : ds.length + es.length ≤ 1000000) (h : Φ m (.dat (.tup (ds ++ es)))) : OpS K W m (rCatT K) s1 s2 Φ := fun H0 G H v1 v2 ok r1 r2 Q q => by
  subst h1; subst h2
  obtain ⟨p, xs, rfl, a1, b1⟩ := r1.tupV ok rfl
  obtain ⟨p2, ys, rfl, a2, b2⟩ := r2.tupV ok rfl
  refine ⟨p, p2, xs, ys, rfl, rfl, a1, a2, fun z => h0 ?_, by rw [b1.length, b2.length]; exact sz hl, fun z => ?_, fun _ => new_tup (H0 := H0) ok (b1.append b2) h q⟩
  · subst z; cases b1; rfl
  · subst z
    cases b2
    rw [List.append_nil] at h
    exact q _ (.dat (.tup ds)) m G H ok.refl r1 h
theorem atI_rp {G : Hp} {xs : List V} {ds : List D} {i : Int} {d : D} (r : RpL K G xs ds) (h : atI ds i = some d) : ∃ v, atI xs i = some v ∧ Rp K G v d := by
  unfold atI at h ⊢
  rw [r.length]
  cases e : ixN ds.length i with
  | none => rw [e] at h; cases h
  | some j =>
    rw [e] at h
    exact r.getD h
theorem ops_ixL {s1 : S} {ds : List D} {i : Int} {d : D} (h1 : s1.lst? = some ds) (hi : atI ds i = some d) (h : Φ m (.dat d)) : OpS K W m (rIxL K) s1 (.dat (.int i)) Φ := fun H0 G H v1 v2 ok r1 r2 Q q => by
  obtain ⟨p, xs, rfl, a1, b1⟩ := r1.lstV ok h1
  cases r2
  obtain ⟨v, e, r⟩ := atI_rp b1 hi
  exact ⟨p, xs, i, v, rfl, rfl, a1, e, q v (.dat d) m G H ok.refl r h⟩
theorem ops_ixT {ds : List D} {i : Int} {d : D} (hi : atI ds i = some d) (h : Φ m (.dat d)) : OpS K W m (rIxT K) (.dat (.tup ds)) (.dat (.int i)) Φ := fun H0 G H v1 v2 ok r1 r2 Q q => by
  obtain ⟨p, xs, rfl, a1, b1⟩ := r1.tupV ok rfl
  cases r2
  obtain ⟨v, e, r⟩ := atI_rp b1 hi
  exact ⟨p, xs, i, v, rfl, rfl, a1, e, q v (.dat d) m G H ok.refl r h⟩
end

section
variable {c : Cc} {ρ : List S} {Φ : Nat → S → Prop} {te ta tb : TE}
/-! ### tests -/
theorem de_andV (h : De c m ta ρ fun m s => (s = .dat (.bl true) ∧ De c m tb ρ Φ) ∨ (s = .dat (.bl false) ∧ Φ m (.dat (.bl false)))) : De c m (tAndV ta tb) ρ Φ := fun σ G H e Q q =>
  h σ G H e _ fun v s m1 G1 H1 g1 r1 h1 => by
    rcases h1 with ⟨rfl, h1⟩ | ⟨rfl, h1⟩
    · cases r1
      exact ⟨true, rfl, by rw [if_pos rfl]; exact h1 σ G1 H1 (e.grow g1) Q fun v s m' G' H' g r p => q v s m' G' H' (g1.trans g) (r.back g1) p⟩
    · cases r1
      exact ⟨false, rfl, by rw [if_neg Bool.false_ne_true]; exact q _ (.dat (.bl false)) m1 G1 H1 g1 (Rp.bl false) h1⟩
theorem de_orV (h : De c m ta ρ fun m s => (s = .dat (.bl false) ∧ De c m tb ρ Φ) ∨ (s = .dat (.bl true) ∧ Φ m (.dat (.bl true)))) : De c m (tOrV ta tb) ρ Φ := fun σ G H e Q q =>
  h σ G H e _ fun v s m1 G1 H1 g1 r1 h1 => by
    rcases h1 with ⟨rfl, h1⟩ | ⟨rfl, h1⟩
    · cases r1
      exact ⟨false, rfl, by rw [if_neg Bool.false_ne_true]; exact h1 σ G1 H1 (e.grow g1) Q fun v s m' G' H' g r p => q v s m' G' H' (g1.trans g) (r.back g1) p⟩
    · cases r1
      exact ⟨true, rfl, by rw [if_pos rfl]; exact q _ (.dat (.bl true)) m1 G1 H1 g1 (Rp.bl true) h1⟩
/-- by cases on a known bool -/
theorem de_andB (h : De c m ta ρ fun m s => ∃ b, s = .dat (.bl b) ∧ (b = true → De c m tb ρ Φ) ∧ (b = false → Φ m (.dat (.bl false)))) : De c m (tAndV ta tb) ρ Φ := de_andV (h.imp fun m s ⟨b, e, h1, h2⟩ => by
  cases b with
  | true => exact .inl ⟨e, h1 rfl⟩
  | false => exact .inr ⟨e, h2 rfl⟩)
theorem de_orB (h : De c m ta ρ fun m s => ∃ b, s = .dat (.bl b) ∧ (b = false → De c m tb ρ Φ) ∧ (b = true → Φ m (.dat (.bl true)))) : De c m (tOrV ta tb) ρ Φ := de_orV (h.imp fun m s ⟨b, e, h1, h2⟩ => by
  cases b with
  | true => exact .inr ⟨e, h2 rfl⟩
  | false => exact .inl ⟨e, h1 rfl⟩)
theorem de_notV (h : De c m ta ρ fun m s => ∃ b, s = .dat (.bl b) ∧ Φ m (.dat (.bl (!b)))) : De c m (tNotV ta) ρ Φ := fun σ G H e Q q =>
  h σ G H e _ fun v s m1 G1 H1 g1 r1 ⟨b, e1, h1⟩ => by
    subst e1
    cases r1
    exact ⟨b, rfl, q _ (.dat (.bl (!b))) m1 G1 H1 g1 (Rp.bl _) h1⟩
variable {tt tu : TT} {Ψ : Nat → Bool → Prop}
theorem DT.imp {Ψ' : Nat → Bool → Prop} (h : DT c m tt ρ Ψ) (i : ∀ m b, Ψ m b → Ψ' m b) : DT c m tt ρ Ψ' := fun σ G H e Q q => h σ G H e Q fun b m' G' H' g p => q b m' G' H' g (i m' b p)
theorem dt_test (h : De c m te ρ fun m s => ∃ b, s = .dat (.bl b) ∧ Ψ m b) : DT c m (tTest te) ρ Ψ := fun σ G H e Q q => h σ G H e _ fun v s m1 G1 H1 g1 r1 ⟨b, e1, h1⟩ => by
  subst e1
  cases r1
  exact ⟨b, rfl, q b m1 G1 H1 g1 h1⟩
theorem dt_B (h : De c m te ρ fun m s => ∃ b, s = .dat (.bl b) ∧ Ψ m b) : DT c m (tB te) ρ Ψ := dt_test h
theorem dt_not (h : DT c m tt ρ fun m b => Ψ m (!b)) : DT c m (tNot tt) ρ Ψ := fun σ G H e Q q => h σ G H e _ fun b m1 G1 H1 g1 h1 => q (!b) m1 G1 H1 g1 h1
theorem dt_and (h : DT c m tt ρ fun m b => (b = true → DT c m tu ρ Ψ) ∧ (b = false → Ψ m false)) : DT c m (tAnd tt tu) ρ Ψ := fun σ G H e Q q => h σ G H e _ fun b m1 G1 H1 g1 ⟨h1, h2⟩ => by
  cases b with
  | true => rw [if_pos rfl]; exact h1 rfl σ G1 H1 (e.grow g1) Q fun b m' G' H' g p => q b m' G' H' (g1.trans g) p
  | false => rw [if_neg Bool.false_ne_true]; exact q false m1 G1 H1 g1 (h2 rfl)
theorem dt_or (h : DT c m tt ρ fun m b => (b = false → DT c m tu ρ Ψ) ∧ (b = true → Ψ m true)) : DT c m (tOr tt tu) ρ Ψ := fun σ G H e Q q => h σ G H e _ fun b m1 G1 H1 g1 ⟨h1, h2⟩ => by
  cases b with
  | false => rw [if_neg Bool.false_ne_true]; exact h1 rfl σ G1 H1 (e.grow g1) Q fun b m' G' H' g p => q b m' G' H' (g1.trans g) p
  | true => rw [if_pos rfl]; exact q true m1 G1 H1 g1 (h2 rfl)
theorem dt_yes (h : Ψ m true) : DT c m tYes ρ Ψ := fun σ G H e Q q => q true m G H e.refl h
theorem de_ifE (h : DT c m tt ρ fun m b => (b = true → De c m ta ρ Φ) ∧ (b = false → De c m tb ρ Φ)) : De c m (tIf tt ta tb) ρ Φ := fun σ G H e Q q => h σ G H e _ fun b m1 G1 H1 g1 ⟨h1, h2⟩ => by
  cases b with
  | true => rw [if_pos rfl]; exact h1 rfl σ G1 H1 (e.grow g1) Q fun v s m' G' H' g r p => q v s m' G' H' (g1.trans g) (r.back g1) p
  | false => rw [if_neg Bool.false_ne_true]; exact h2 rfl σ G1 H1 (e.grow g1) Q fun v s m' G' H' g r p => q v s m' G' H' (g1.trans g) (r.back g1) p
theorem de_chain {r r' : R2} {tc : TE} (h : De c m ta ρ fun m s1 => De c m tb ρ fun m s2 => OpS c.K c.W m r s1 s2 fun m s => ∃ k, s = .dat (.bl k) ∧ (k = true → De c m tc ρ fun m s3 => OpS c.K c.W m r' s2 s3 Φ) ∧ (k = false → Φ m (.dat (.bl false)))) : De c m (tChain r r' ta tb tc) ρ Φ := fun σ G H e Q q =>
  h σ G H e _ fun v1 s1 m1 G1 H1 g1 r1 h1 => h1 σ G1 H1 (e.grow g1) _ fun v2 s2 m2 G2 H2 g2 r2 h2 =>
    h2 H G2 H2 v1 v2 ((e.grow g1).grow g2).ok (r1.grow g2) (r2.back g1) _ fun v s m3 G3 H3 g3 r3 ⟨k, ek, h3, h4⟩ => by
      subst ek
      cases r3
      refine ⟨k, rfl, ?_⟩
      cases k with
      | true =>
        rw [if_pos rfl]
        exact h3 rfl σ G3 H3 (((e.grow g1).grow g2).grow g3) _ fun v3 s3 m4 G4 H4 g4 r4 h5 => h5 H G4 H4 v2 v3 ((((e.grow g1).grow g2).grow g3).grow g4).ok ((((r2.back g1).grow g3)).grow g4) (((r4.back g3).back g2).back g1) Q fun v s m5 G5 H5 g5 r5 p =>
          q v s m5 G5 H5 ((((g1.trans g2).trans g3).trans g4).trans g5) ((((r5.back g4).back g3).back g2).back g1) p
      | false =>
        rw [if_neg Bool.false_ne_true]
        exact q _ (.dat (.bl false)) m3 G3 H3 ((g1.trans g2).trans g3) (Rp.bl false) (h4 rfl)

/-! ### argument lists, displays -/
variable {tr : TA} {Θ : Nat → List S → Prop}
theorem da_nil (h : Θ m []) : DA c m tNil ρ Θ := fun σ G H e Q q => q [] [] m G H e.refl .nil h
theorem da_cons (h : De c m ta ρ fun m s => DA c m tr ρ fun m ss => Θ m (s :: ss)) : DA c m (tCons ta tr) ρ Θ := fun σ G H e Q q =>
  h σ G H e _ fun v s m1 G1 H1 g1 r1 h1 => h1 σ G1 H1 (e.grow g1) _ fun vs ss m2 G2 H2 g2 r2 h2 => q (v :: vs) (s :: ss) m2 G2 H2 (g1.trans g2) (.cons (r1.grow g2) (r2.back g1)) h2
theorem relss_dat {K : PySem.W.Frag} {W : Wd} {H0 G H : Hp} : ∀ {vs : List V} {ds : List D}, RelSs K W H0 G H vs (ds.map S.dat) → RpL K G vs ds
  | _, [], .nil => .nil
  | _, _ :: _, .cons h r => .cons h (relss_dat r)
theorem de_tup (h : DA c m tr ρ fun m ss => ∃ ds : List D, ss = ds.map S.dat ∧ ds.length ≤ 1000000 ∧ Φ m (.dat (.tup ds))) : De c m (tTup tr) ρ Φ := fun σ G H e Q q => h σ G H e _ fun vs ss m1 G1 H1 g1 r1 ⟨ds, es, hl, p⟩ => by
  subst es
  have r2 := relss_dat r1
  exact ⟨by rw [r2.length]; exact sz hl, new_tup (H0 := H) (e.grow g1).ok r2 p fun v s m' G' H' g r p => q v s m' G' H' (g1.trans g) (r.back g1) p⟩
theorem de_lst (h : DA c m tr ρ fun m ss => ∃ ds : List D, ss = ds.map S.dat ∧ ds.length ≤ 1000000 ∧ Φ m (.own (.lst ds))) : De c m (tLst tr) ρ Φ := fun σ G H e Q q => h σ G H e _ fun vs ss m1 G1 H1 g1 r1 ⟨ds, es, hl, p⟩ => by
  subst es
  have r2 := relss_dat r1
  exact ⟨by rw [r2.length]; exact sz hl, new_lst (H0 := H) (e.grow g1).ok r2 p fun v s m' G' H' g r p => q v s m' G' H' (g1.trans g) (r.back g1) p⟩
theorem da_star (h : De c m ta ρ fun m s => ∃ ds, (s.tup? = some ds ∨ s.lst? = some ds) ∧ DA c m tr ρ fun m ss => Θ m (ds.map S.dat ++ ss)) : DA c m (StX.tStar c.K ta tr) ρ Θ := fun σ G H e Q q =>
  h σ G H e _ fun v s m1 G1 H1 g1 r1 ⟨ds, hs, h1⟩ => by
    have key : ∃ p xs, v = .ref p ∧ (SqT c.K H1 p xs ∨ SqL c.K H1 p xs) ∧ RpL c.K G1 xs ds := by
      rcases hs with hs | hs
      · obtain ⟨p, xs, a, b, d⟩ := r1.tupV (e.grow g1).ok hs
        exact ⟨p, xs, a, .inl b, d⟩
      · obtain ⟨p, xs, a, b, d⟩ := r1.lstV (e.grow g1).ok hs
        exact ⟨p, xs, a, .inr b, d⟩
    obtain ⟨p, xs, ev, hx, r⟩ := key
    refine ⟨p, xs, ev, hx, h1 σ G1 H1 (e.grow g1) _ fun vs ss m2 G2 H2 g2 r2 h2 => q (xs ++ vs) _ m2 G2 H2 (g1.trans g2) ?_ h2⟩
    have app : ∀ {xs : List V} {ds : List D}, RpL c.K G1 xs ds → RelSs c.K c.W H G2 H2 (xs ++ vs) (ds.map S.dat ++ ss) := by
      intro xs ds r
      induction xs generalizing ds with
      | nil => cases r; exact r2.back g1
      | cons x xs ih =>
        cases r with
        | cons a b => exact .cons (Rp.mono g2.ex a) (ih b)
    exact app r

/-! ### calls of defs -/
abbrev Fc := Wd → Nat → List S → (Nat → S → Prop) → Xp → Prop
def RelA (K : PySem.W.Frag) (G : Hp) (v : V) : S → Prop
  | .dat d => Rp K G v d
  | .at_ p => v = .ref p
  | _ => False
def argS : S → Bool
  | .dat _ => true
  | .at_ _ => true
  | _ => false
def spF (K : PySem.W.Frag) (C : Fc) : Sp := fun vs H Q E => ∃ (W : Wd) (m : Nat) (G : Hp) (ss : List S) (Φ : Nat → S → Prop) (Ξ : Xp), Ok W m G H ∧ RelSs K W H G H vs ss ∧ ss.all argS = true ∧ C W m ss Φ Ξ ∧ (∀ v s m' G' H', Grow W G H m' G' H' → RelS K W H G' H' v s → Φ m' s → Q v H') ∧ ExcQ K W G H Ξ E
theorem relss_arg {K : PySem.W.Frag} {W : Wd} {H0 H1 G H : Hp} : ∀ {vs : List V} {ss : List S}, RelSs K W H0 G H vs ss → ss.all argS = true → RelSs K W H1 G H vs ss
  | _, _, .nil, _ => .nil
  | _, s :: ss, .cons h r, q => by
    rw [List.all_cons] at q
    obtain ⟨q1, q2⟩ := Bool.and_eq_true_iff.mp q
    refine .cons ?_ (relss_arg r q2)
    cases s <;> first | exact h | cases q1
theorem de_call {C : Fc} (h : DA c m tr ρ fun m ss => ss.all argS = true ∧ C c.W m ss Φ c.Ξ) : De c m (tCall (spF c.K C) [] c.E tr) ρ Φ := fun σ G H e Q q => h σ G H e _ fun vs ss m1 G1 H1 g1 r1 ⟨ha, hc⟩ => by
  rw [List.append_nil]
  exact ⟨c.W, m1, G1, ss, Φ, c.Ξ, (e.grow g1).ok, relss_arg r1 ha, ha, hc, fun v s m' G' H' g r p => q v s m' G' H' (g1.trans g) (r.back g1) p, (e.grow g1).excq⟩
/-- a call that raises nothing -/
theorem de_call0 {C : Fc} (h : DA c m tr ρ fun m ss => ss.all argS = true ∧ C c.W m ss Φ fun _ _ _ => False) : De c m (tCall (spF c.K C) [] E0 tr) ρ Φ := fun σ G H e Q q => h σ G H e _ fun vs ss m1 G1 H1 g1 r1 ⟨ha, hc⟩ => by
  rw [List.append_nil]
  exact ⟨c.W, m1, G1, ss, Φ, _, (e.grow g1).ok, relss_arg r1 ha, ha, hc, fun v s m' G' H' g r p => q v s m' G' H' (g1.trans g) (r.back g1) p, fun _ _ _ _ _ _ _ _ _ _ _ _ _ z => z.elim⟩
/-! ### calls of built-ins -/
def CbS (K : PySem.W.Frag) (W : Wd) (m : Nat) (r : List V → Hp → VK → Prop) (ss : List S) (Φ : Nat → S → Prop) : Prop := ∀ H0 G H vs, Ok W m G H → RelSs K W H0 G H vs ss → ∀ Q : VK, (∀ v s m' G' H', Grow W G H m' G' H' → RelS K W H G' H' v s → Φ m' s → Q v H') → r vs H Q
theorem de_cb {r : List V → Hp → VK → Prop} (h : DA c m tr ρ fun m ss => CbS c.K c.W m r ss Φ) : De c m (tCB r tr) ρ Φ := fun σ G H e Q q => h σ G H e _ fun vs ss m1 G1 H1 g1 r1 h1 => h1 H G1 H1 vs (e.grow g1).ok r1 Q fun v s m' G' H' g r p => q v s m' G' H' (g1.trans g) (r.back g1) p
end
end DL
set_option Elab.async false
set_option linter.all false
set_option maxRecDepth 100000
set_option maxHeartbeats 1000000
namespace DL
open PySem L2 Evl
variable {m : Nat}
/-! ### what is walked -/
def ItD (K : PySem.W.Frag) (W : Wd) (G1 : Hp) (J : It) (ds : List D) : Prop := ∀ m G H, Ex G1 G → Ok W m G H → ∀ i : Nat, (∀ d, ds[i]? = some d → J.go i H ∧ ∀ x H', J.yld i H x H' → ∃ G', Grow W G H m G' H' ∧ Rp K G' x d) ∧ (i = ds.length → J.stop i H)
def DI (c : Cc) (m : Nat) (wi : TI) (ρ : List S) (Φ : Nat → List D → Prop) : Prop := ∀ σ G H, EnvOk c m G H σ ρ → ∀ R : It → Hp → Prop, (∀ J ds m' G' H', Grow c.W G H m' G' H' → ItD c.K c.W G' J ds → Φ m' ds → R J H') → wi σ H R
section
variable {c : Cc} {ρ : List S} {te ta tb : TE} {tr : TA} {Φ : Nat → List D → Prop}
theorem itd_list' {K : PySem.W.Frag} {W : Wd} {G1 : Hp} {a : Addr} {xs : List V} {ds : List D} (h : SqL K G1 a xs) (r : RpL K G1 xs ds) : ItD K W G1 (Itl K a) ds := fun m G H e ok i => by
  have hx : SqL K H a xs := ex_l (e.trans ok.ex) h
  refine ⟨fun d hd => ?_, fun hl => ⟨xs, hx, by rw [r.length]; exact Nat.le_of_eq hl.symm⟩⟩
  obtain ⟨v, hv, rv⟩ := r.getD hd
  refine ⟨⟨xs, v, hx, hv⟩, fun x H' y => ?_⟩
  obtain ⟨eh, y⟩ := y
  have z := y xs hx
  rw [hv] at z
  cases z
  subst eh
  exact ⟨G, ok.refl, rv.mono e⟩
theorem itd_tup {K : PySem.W.Frag} {W : Wd} {G1 : Hp} {a : Addr} {xs : List V} {ds : List D} (h : SqT K G1 a xs) (r : RpL K G1 xs ds) : ItD K W G1 (Itt K a) ds := fun m G H e ok i => by
  have hx : SqT K H a xs := ex_t (e.trans ok.ex) h
  refine ⟨fun d hd => ?_, fun hl => ⟨xs, hx, by rw [r.length]; exact Nat.le_of_eq hl.symm⟩⟩
  obtain ⟨v, hv, rv⟩ := r.getD hd
  refine ⟨⟨xs, v, hx, hv⟩, fun x H' y => ?_⟩
  obtain ⟨eh, y⟩ := y
  have z := y xs hx
  rw [hv] at z
  cases z
  subst eh
  exact ⟨G, ok.refl, rv.mono e⟩
/-- a list that is data -/
def S.dlst? : S → Option (List D)
  | .dat (.lst ds) => some ds
  | .dat (.scr ns) => some (ns.map .int)
  | _ => none
theorem RelS.dlst {K : PySem.W.Frag} {W : Wd} {H0 G H : Hp} {v : V} {s : S} {ds : List D} (r : RelS K W H0 G H v s) (h : s.dlst? = some ds) : ∃ p xs, v = .ref p ∧ SqL K G p xs ∧ RpL K G xs ds := by
  cases s with
  | dat d =>
    cases d <;> first | cases h | skip
    · have r : Rp K G v _ := r
      cases r with
      | lst a b => exact ⟨_, _, rfl, SqL.of a, b⟩
    · have r : Rp K G v _ := r
      cases r with
      | scr a => exact ⟨_, _, rfl, a, RpL.ofInts _⟩
  | no => cases h
  | at_ p => cases h
  | xc _ _ _ _ => cases h
  | own o => cases h
  | vw o => cases h
theorem di_list (h : De c m te ρ fun m s => ∃ ds, s.frz.dlst? = some ds ∧ Φ m ds) : DI c m (iList c.K te) ρ Φ := fun σ G H e R q => h σ G H e _ fun v s m1 G1 H1 g1 r1 ⟨ds, hs, p⟩ => by
  obtain ⟨G2, g2, r2⟩ := r1.freeze g1
  obtain ⟨a, xs, rfl, hx, rx⟩ := r2.dlst hs
  exact ⟨a, rfl, ⟨xs, ex_l g2.sub hx⟩, q _ ds m1 G2 H1 g2 (itd_list' hx rx) p⟩
theorem di_tup (h : De c m te ρ fun m s => ∃ ds, s = .dat (.tup ds) ∧ Φ m ds) : DI c m (iTup c.K te) ρ Φ := fun σ G H e R q => h σ G H e _ fun v s m1 G1 H1 g1 r1 ⟨ds, hs, p⟩ => by
  subst hs
  have r1 : Rp c.K G1 v _ := r1
  cases r1 with
  | tup hx rx => exact ⟨_, rfl, ⟨_, SqT.of (g1.sub _ _ hx)⟩, q _ ds m1 G1 H1 g1 (itd_tup (SqT.of hx) rx) p⟩
def rngD (lo : Int) (n : Nat) : List D := (List.range n).map fun i => .int (lo + (i : Nat))
theorem itd_rng {K : PySem.W.Frag} {W : Wd} {G1 : Hp} {lo : Int} {n : Nat} : ItD K W G1 (Itr lo n) (rngD lo n) := fun m G H e ok i => by
  refine ⟨fun d hd => ?_, fun hl => by
    have hl' : n ≤ i := by rw [hl]; simp [rngD]
    exact hl'⟩
  have hi : i < n := by
    have := (List.getElem?_eq_some_iff.mp hd).1
    simpa [rngD] using this
  refine ⟨hi, fun x H' y => ?_⟩
  obtain ⟨eh, ex⟩ := y
  subst eh ex
  have : d = .int (lo + (i : Nat)) := by
    unfold rngD at hd
    rw [List.getElem?_map, List.getElem?_range hi] at hd
    exact (Option.some.inj hd).symm
  subst this
  exact ⟨G, ok.refl, .int _⟩
theorem di_rng1 (h : DA c m tr ρ fun m ss => ∃ n : Int, ss = [.dat (.int n)] ∧ -(2 ^ 62) ≤ n ∧ n < 2 ^ 62 ∧ Φ m (rngD 0 n.toNat)) : DI c m (iRng1 tr) ρ Φ := fun σ G H e R q => h σ G H e _ fun vs ss m1 G1 H1 g1 r1 ⟨n, es, h1, h2, p⟩ => by
  subst es
  cases r1 with
  | cons a b =>
    cases b
    cases a
    exact ⟨n, rfl, h1, h2, q _ _ m1 G1 H1 g1 itd_rng p⟩
theorem di_rng2 (h : DA c m tr ρ fun m ss => ∃ l n : Int, ss = [.dat (.int l), .dat (.int n)] ∧ (-(2 ^ 62) ≤ l ∧ l < 2 ^ 62 ∧ -(2 ^ 62) ≤ n ∧ n < 2 ^ 62) ∧ Φ m (rngD l (n - l).toNat)) : DI c m (iRng2 tr) ρ Φ := fun σ G H e R q => h σ G H e _ fun vs ss m1 G1 H1 g1 r1 ⟨m, n, es, h1, p⟩ => by
  subst es
  cases r1 with
  | cons a b =>
    cases b with
    | cons b d =>
      cases d
      cases a
      cases b
      exact ⟨m, n, rfl, h1, q _ _ m1 G1 H1 g1 itd_rng p⟩
end

/-! ### slots -/
def wipeS (ρ : List S) : List Nat → List S
  | [] => ρ
  | v :: vs => (wipeS ρ vs).set v .no
theorem wipe_get (σ : L2.St) : ∀ (vs : List Nat) (i : Nat), (wipe σ vs)[i]? = if i ∈ vs then (σ[i]?).map (fun _ => none) else σ[i]?
  | [], i => by simp [wipe]
  | v :: vs, i => by
    have ih := wipe_get σ vs i
    unfold wipe
    by_cases hi : v = i
    · subst hi
      rw [if_pos List.mem_cons_self, List.getElem?_set_self', wipe_get σ vs v]
      by_cases hm : v ∈ vs
      · rw [if_pos hm]; cases σ[v]? <;> rfl
      · rw [if_neg hm]
        cases σ[v]? <;> rfl
    · rw [List.getElem?_set_ne hi, ih]
      have : (i ∈ v :: vs) ↔ i ∈ vs := by simp [Ne.symm hi]
      simp only [this]
theorem wipe_wipe (σ : L2.St) (vs : List Nat) : wipe (wipe σ vs) vs = wipe σ vs := by
  apply List.ext_getElem?
  intro i
  rw [wipe_get, wipe_get]
  by_cases h : i ∈ vs
  · rw [if_pos h, if_pos h]; cases σ[i]? <;> rfl
  · rw [if_neg h, if_neg h]
section
variable {c : Cc} {G H G' H' : Hp} {σ : L2.St} {ρ : List S}
theorem EnvOk.set {i : Nat} {v : V} {s : S} (e : EnvOk c m G H σ ρ) (r : RelS c.K c.W c.H0 G H v s) (hs : ∀ o p, s = .own o → v = .ref p → ∀ j o' q, j ≠ i → ρ[j]? = some (.own o') → σ[j]? = some (some (.ref q)) → p ≠ q) : EnvOk c m G H (σ.set i (some v)) (ρ.set i s) := by
  refine ⟨e.ok0, e.gr, e.exc, by rw [List.length_set, List.length_set]; exact e.len, fun j t ht => ?_, fun j k o o' p q hjk hj hk pj pk => ?_⟩
  · by_cases hi : i = j
    · subst hi
      rw [List.getElem?_set] at ht
      rw [List.getElem?_set]
      simp only [if_true] at ht ⊢
      split at ht
      · rename_i hl
        cases ht
        rw [if_pos (by rw [e.len]; exact hl)]
        exact .inr ⟨v, rfl, r⟩
      · cases ht
    · rw [List.getElem?_set_ne hi] at ht ⊢
      exact e.at_ j t ht
  · have key : ∀ {a b : Nat} {o o' : O} {p q : Addr}, a = i → b ≠ i → (ρ.set i s)[a]? = some (.own o) → (ρ.set i s)[b]? = some (.own o') → (σ.set i (some v))[a]? = some (some (.ref p)) → (σ.set i (some v))[b]? = some (some (.ref q)) → p ≠ q := by
      intro a b o o' p q ha hb h1 h2 h3 h4
      subst ha
      rw [List.getElem?_set_ne (Ne.symm hb)] at h2 h4
      have s1 : s = .own o := by
        rw [List.getElem?_set] at h1
        simp only [if_true] at h1
        split at h1
        · exact Option.some.inj h1
        · cases h1
      have v1 : v = .ref p := by
        rw [List.getElem?_set] at h3
        simp only [if_true] at h3
        split at h3
        · exact Option.some.inj (Option.some.inj h3)
        · cases h3
      exact hs o p s1 v1 b o' q hb h2 h4
    by_cases h1 : j = i
    · exact key h1 (fun z => hjk (h1.trans z.symm)) hj hk pj pk
    · by_cases h2 : k = i
      · exact Ne.symm (key h2 h1 hk hj pk pj)
      · rw [List.getElem?_set_ne (Ne.symm h1)] at hj pj
        rw [List.getElem?_set_ne (Ne.symm h2)] at hk pk
        exact e.sep j k o o' p q hjk hj hk pj pk
theorem EnvOk.setD {i : Nat} {v : V} {d : D} (e : EnvOk c m G H σ ρ) (r : Rp c.K G v d) : EnvOk c m G H (σ.set i (some v)) (ρ.set i (.dat d)) := e.set (s := .dat d) r fun o p z => by cases z
/-- a fresh own thing into a slot -/
theorem EnvOk.setF {i : Nat} {v : V} {s : S} (e : EnvOk c m G H σ ρ) (g : Grow c.W G H m' G' H') (r : RelS c.K c.W H G' H' v s) (hv : ∀ o, s ≠ .vw o) : EnvOk c m' G' H' (σ.set i (some v)) (ρ.set i s) := by
  refine (e.grow g).set (r.back e.gr) fun o p es ev j o' q hj hs hσ => ?_
  subst es ev
  obtain ⟨p', e1, h0, _⟩ := r
  cases e1
  rcases e.at_ j _ hs with z | ⟨w, a, rw'⟩
  · cases z
  · rw [hσ] at a
    cases a
    obtain ⟨q', e2, _, _, _, ob⟩ := rw'
    cases e2
    exact fun z => ob.there (by rw [← z]; exact h0)
theorem EnvOk.wipe (e : EnvOk c m G H σ ρ) : ∀ vs : List Nat, EnvOk c m G H (wipe σ vs) (wipeS ρ vs)
  | [] => e
  | v :: vs => by
    have e := EnvOk.wipe e vs
    unfold L2.wipe wipeS
    refine ⟨e.ok0, e.gr, e.exc, by rw [List.length_set, List.length_set]; exact e.len, fun j t ht => ?_, fun j k o o' p q hjk hj hk pj pk => ?_⟩
    · by_cases hi : v = j
      · subst hi
        rw [List.getElem?_set] at ht
        simp only [if_true] at ht
        split at ht
        · cases ht; exact .inl rfl
        · cases ht
      · rw [List.getElem?_set_ne hi] at ht ⊢
        exact e.at_ j t ht
    · have no : ∀ {a : Nat} {o : O}, ((wipeS ρ vs).set v .no)[a]? = some (.own o) → v ≠ a := by
        intro a o h z
        subst z
        rw [List.getElem?_set] at h
        simp only [if_true] at h
        split at h <;> cases h
      have nj := no hj
      have nk := no hk
      rw [List.getElem?_set_ne nj] at hj pj
      rw [List.getElem?_set_ne nk] at hk pk
      exact e.sep j k o o' p q hjk hj hk pj pk
/-- a slot is forgotten -/
theorem EnvOk.unset {i : Nat} (e : EnvOk c m G H σ ρ) (x : Option V) : EnvOk c m G H (σ.set i x) (ρ.set i .no) := by
  refine ⟨e.ok0, e.gr, e.exc, by rw [List.length_set, List.length_set]; exact e.len, fun j t ht => ?_, fun j k o o' p q hjk hj hk pj pk => ?_⟩
  · by_cases hi : i = j
    · subst hi
      rw [List.getElem?_set] at ht
      simp only [if_true] at ht
      split at ht
      · cases ht; exact .inl rfl
      · cases ht
    · rw [List.getElem?_set_ne hi] at ht ⊢
      exact e.at_ j t ht
  · have no : ∀ {a : Nat} {o : O}, (ρ.set i .no)[a]? = some (.own o) → i ≠ a := by
      intro a o h z
      subst z
      rw [List.getElem?_set] at h
      simp only [if_true] at h
      split at h <;> cases h
    have nj := no hj
    have nk := no hk
    rw [List.getElem?_set_ne nj] at hj pj
    rw [List.getElem?_set_ne nk] at hk pk
    exact e.sep j k o o' p q hjk hj hk pj pk
end
/-! ### targets -/
def DG (c : Cc) (m : Nat) (g : TG) (vs : List Nat) (d : D) (ρ ρ' : List S) : Prop := ∀ v σ G H, EnvOk c m G H σ ρ → Rp c.K G v d → ∀ Q : L2.St → Hp → Prop, (∀ σ', (∀ m' G' H', Ex G G' → EnvOk c m' G' H' σ ρ → EnvOk c m' G' H' σ' ρ') → wipe σ' vs = wipe σ vs → Q σ' H) → g v σ H Q
theorem wipe_set {σ : L2.St} {vs : List Nat} {i : Nat} {x : Option V} (h : i ∈ vs) : wipe (σ.set i x) vs = wipe σ vs := by
  apply List.ext_getElem?
  intro j
  rw [wipe_get, wipe_get]
  by_cases hj : j ∈ vs
  · rw [if_pos hj, if_pos hj, List.getElem?_set]
    split
    · rename_i z
      subst z
      split
      · rename_i hl
        rw [List.getElem?_eq_getElem hl]
        rfl
      · rename_i hl
        rw [List.getElem?_eq_none (by omega)]
    · rfl
  · rw [if_neg hj, if_neg hj, List.getElem?_set_ne fun z => hj (by rw [← z]; exact h)]
theorem dg_name {c : Cc} {j : Nat} {vs : List Nat} {d : D} {ρ : List S} (hj : j ∈ vs) : DG c m (gName j) vs d ρ (ρ.set j (.dat d)) := fun v σ G H e r Q q => q _ (fun _ _ _ x e => e.setD (r.mono x)) (wipe_set hj)
theorem dg_tup2 {c : Cc} {i j : Nat} {vs : List Nat} {d1 d2 : D} {ρ : List S} (hi : i ∈ vs) (hj : j ∈ vs) : DG c m (gTup c.K 2 (gCons (gName i) (gCons (gName j) gNil))) vs (.tup [d1, d2]) ρ ((ρ.set i (.dat d1)).set j (.dat d2)) := fun v σ G H e r Q q => by
  cases r with
  | tup h r =>
    cases r with
    | cons a r =>
      cases r with
      | cons b r =>
        cases r
        exact ⟨_, _, rfl, SqT.of (e.ok.ex _ _ h), rfl, _, _, rfl, _, _, rfl, rfl, q _ (fun _ _ _ x e => (e.setD (Rp.mono x a)).setD (Rp.mono x b)) ((wipe_set hj).trans (wipe_set hi))⟩
/-! ### comprehensions -/
section
variable {c : Cc} {ρ : List S} {Φ : Nat → S → Prop} {te : TE} {tt : TT} {wi : TI} {g : TG} {vs : List Nat}
theorem lc_run {σ : L2.St} {m1 : Nat} {G H G1 H1 : Hp} {I : It} {ds : List D} {Q : VK} (e1 : EnvOk c m1 G1 H1 σ ρ) (g1 : Grow c.W G H m1 G1 H1) (it : ItD c.K c.W G1 I ds) (q : ∀ v s m' G' H', Grow c.W G H m' G' H' → RelS c.K c.W H G' H' v s → Φ m' s → Q v H')
    (hl : ds.length < 1000000) (J : Nat → Nat → List D → Prop) (j0 : J 0 m1 [])
    (jt : ∀ i d m acc, ds[i]? = some d → J i m acc → ∃ ρ', DG c m g vs d (wipeS ρ vs) ρ' ∧ DT c m tt ρ' fun m b => (b = true → De c m te ρ' fun m s => ∃ d', s.frz = .dat d' ∧ J (i + 1) m (acc ++ [d'])) ∧ (b = false → J (i + 1) m acc))
    (jd : ∀ m acc, J ds.length m acc → Φ m (.own (.lst acc))) (Dd : Addr) (hD : H1 Dd = none) :
    ∃ W : Nat → Nat → Hp → Prop, (∃ m, W 0 m (upd H1 Dd (.lst []))) ∧ ∀ i m H, W i m H →
      (I.stop i H ∧ Q (.ref Dd) H) ∨ (I.go i H ∧ ∃ Nx : Hp → Prop, (∀ H', Nx H' → ∃ m', m' < m ∧ W (i + 1) m' H') ∧ ∀ x H', I.yld i H x H' → g x (wipe σ vs) H' fun σ2 H2 => wipe σ2 vs = wipe σ vs ∧ tt σ2 H2 fun b H3 =>
        if b = true then te σ2 H3 fun y H4 => ∃ acc, H4 Dd = some (.lst acc) ∧ acc.length < sizeLine ∧ Nx (upd H4 Dd (.lst (acc ++ [y]))) else Nx H3) := by
  let W : Nat → Nat → Hp → Prop := fun i m H2 => m = ds.length - i ∧ i ≤ ds.length ∧ ∃ m2 G2 xs acc, Grow c.W G1 H1 m2 G2 H2 ∧ H2 Dd = some (.lst xs) ∧ G2 Dd = none ∧ RpL c.K G2 xs acc ∧ acc.length ≤ i ∧ J i m2 acc
  have mD : ¬ c.W.M Dd := fun m => c.W.has _ _ _ e1.ok.inv m hD
  have up : ∀ {m2 : Nat} {G2 H2 : Hp} {ys : List V}, Grow c.W G1 H1 m2 G2 H2 → G2 Dd = none → Grow c.W G1 H1 m2 G2 (upd H2 Dd (.lst ys)) := fun {m2 G2 H2 ys} g2 n =>
    ⟨g2.ex, g2.sub.mut n, g2.fresh, fun a o m q => by rw [upd_ne (ne_of_none q hD)]; exact g2.keep a o m q, c.W.dep _ _ _ (fun a m => upd_ne fun z => mD (by rw [← z]; exact m)) g2.inv, g2.lk⟩
  refine ⟨W, ⟨ds.length, by simp, Nat.zero_le _, m1, G1, [], [], up e1.refl (fresh_back e1.ok.ex hD), upd_same, fresh_back e1.ok.ex hD, .nil, Nat.le_refl _, j0⟩, ?_⟩
  rintro i m H2 ⟨em, hi, m2, G2, xs, acc, g2, hx, hn, rx, ha, j⟩
  have e2 := e1.grow g2
  obtain ⟨ih1, ih2⟩ := it m2 G2 H2 g2.ex e2.ok i
  by_cases hlt : i < ds.length
  · right
    have hd : ds[i]? = some ds[i] := by simp [hlt]
    obtain ⟨go, yl⟩ := ih1 _ hd
    refine ⟨go, W (i + 1) (m - 1), fun H' w => ⟨m - 1, by omega, w⟩, fun x H' y => ?_⟩
    obtain ⟨G3, g3, r3⟩ := yl x H' y
    obtain ⟨ρ', dg, ht⟩ := jt i _ m2 acc hd j
    have e3 := (e2.grow g3).wipe vs
    have keepD : ∀ {m4 : Nat} {G4 H4 : Hp}, Grow c.W G2 H2 m4 G4 H4 → H4 Dd = some (.lst xs) ∧ G4 Dd = none := fun g4 => ⟨g4.keep _ _ mD hx, g4.fresh _ (by rw [hx]; exact fun z => by cases z) hn⟩
    refine dg x _ G3 H' e3 r3 _ fun σ' f4 hw => ⟨hw.trans (wipe_wipe σ vs), ?_⟩
    have e4 := f4 _ _ _ (Ex.refl _) e3
    refine ht σ' G3 H' e4 _ fun b m4 G4 H4 g4 ⟨hb1, hb2⟩ => ?_
    cases b with
    | true =>
      rw [if_pos rfl]
      refine hb1 rfl σ' G4 H4 (e4.grow g4) _ fun v s m5 G5 H5 g5 r5 ⟨d', es, j'⟩ => ?_
      obtain ⟨G6, g6, r6⟩ := r5.freeze g5
      rw [es] at r6
      obtain ⟨k1, k2⟩ := keepD ((g3.trans g4).trans g6)
      refine ⟨xs, k1, szl (by rw [rx.length]; omega), by omega, hlt, m5, G6, xs ++ [v], acc ++ [d'], up (((g2.trans g3).trans g4).trans g6) k2, upd_same, k2, (rx.mono ((g3.trans g4).trans g6).ex).append (.one r6), by rw [List.length_append]; show acc.length + 1 ≤ i + 1; omega, j'⟩
    | false =>
      rw [if_neg Bool.false_ne_true]
      obtain ⟨k1, k2⟩ := keepD (g3.trans g4)
      exact ⟨by omega, hlt, m4, G4, xs, acc, (g2.trans g3).trans g4, k1, k2, rx.mono (g3.trans g4).ex, by omega, hb2 rfl⟩
  · left
    have hl2 : i = ds.length := by omega
    refine ⟨ih2 hl2, ?_⟩
    subst hl2
    exact q (.ref Dd) (.own (.lst acc)) m2 G2 H2 (g1.trans g2) ⟨Dd, rfl, g1.back hD, hn, mD, xs, hx, rx⟩ (jd m2 acc j)
theorem de_lc (h : DI c m wi ρ fun m ds => ds.length < 1000000 ∧ ∃ J : Nat → Nat → List D → Prop, J 0 m [] ∧
    (∀ i d m acc, ds[i]? = some d → J i m acc → ∃ ρ', DG c m g vs d (wipeS ρ vs) ρ' ∧ DT c m tt ρ' fun m b => (b = true → De c m te ρ' fun m s => ∃ d', s.frz = .dat d' ∧ J (i + 1) m (acc ++ [d'])) ∧ (b = false → J (i + 1) m acc)) ∧
    ∀ m acc, J ds.length m acc → Φ m (.own (.lst acc))) : De c m (tLc wi g tt te vs) ρ Φ := fun σ G H e Q q => h σ G H e _ fun I ds m1 G1 H1 g1 it ⟨hl, J, j0, jt, jd⟩ => fun Dd hD => lc_run (e.grow g1) g1 it q hl J j0 jt jd Dd hD
/-- [f x for x in ..] -/
theorem de_lcMap {f : D → D} (h : DI c m wi ρ fun m ds => ds.length < 1000000 ∧ (∀ d ∈ ds, ∃ ρ', DG c m g vs d (wipeS ρ vs) ρ' ∧ De c m te ρ' fun m' s => m' = m ∧ s.frz = .dat (f d)) ∧ Φ m (.own (.lst (ds.map f)))) : De c m (tLc wi g tYes te vs) ρ Φ :=
  de_lc fun σ G H e R q => h σ G H e R fun J ds m' G' H' gg it ⟨hl, h1, h2⟩ => q J ds m' G' H' gg it ⟨hl, fun i m2 acc => m2 = m' ∧ acc = (ds.take i).map f, by simp, fun i d m2 acc hd ⟨em, ha⟩ => by
    subst em
    obtain ⟨ρ', h3, h4⟩ := h1 d (List.mem_of_getElem? hd)
    refine ⟨ρ', h3, dt_yes ⟨fun _ => h4.imp fun m3 s ⟨em, hs⟩ => ⟨f d, hs, em, ?_⟩, fun z => by cases z⟩⟩
    show acc ++ [f d] = (ds.take (i + 1)).map f
    rw [ha, List.take_add_one, hd]
    simp, fun m2 acc ⟨em, ha⟩ => by rw [em, ha, List.take_length]; exact h2⟩
/-- [f x for x in .. if t x] -/
theorem de_lcIf {f : D → D} {t : D → Bool} (h : DI c m wi ρ fun m ds => ds.length < 1000000 ∧ (∀ d ∈ ds, ∃ ρ', DG c m g vs d (wipeS ρ vs) ρ' ∧ DT c m tt ρ' fun m' b => m' = m ∧ b = t d ∧ (t d = true → De c m te ρ' fun m' s => m' = m ∧ s.frz = .dat (f d))) ∧ Φ m (.own (.lst ((ds.filter t).map f)))) : De c m (tLc wi g tt te vs) ρ Φ :=
  de_lc fun σ G H e R q => h σ G H e R fun J ds m' G' H' gg it ⟨hl, h1, h2⟩ => q J ds m' G' H' gg it ⟨hl, fun i m2 acc => m2 = m' ∧ acc = ((ds.take i).filter t).map f, by simp, fun i d m2 acc hd ⟨em, ha⟩ => by
    subst em
    obtain ⟨ρ', h3, h4⟩ := h1 d (List.mem_of_getElem? hd)
    refine ⟨ρ', h3, h4.imp fun m3 b ⟨em3, eb, h5⟩ => ?_⟩
    subst em3
    refine ⟨fun ht => (h5 (by rw [← eb]; exact ht)).imp fun m4 s ⟨em, hs⟩ => ⟨f d, hs, em, ?_⟩, fun hf => ⟨rfl, ?_⟩⟩
    · show acc ++ [f d] = ((ds.take (i + 1)).filter t).map f
      rw [ha, List.take_add_one, hd]
      have : t d = true := by rw [← eb]; exact ht
      simp [List.filter_append, this]
    · show acc = ((ds.take (i + 1)).filter t).map f
      rw [ha, List.take_add_one, hd]
      have : t d = false := by rw [← eb]; exact hf
      simp [List.filter_append, this], fun m2 acc ⟨em, ha⟩ => by rw [em, ha, List.take_length]; exact h2⟩
end
end DL
set_option Elab.async false
set_option linter.all false
set_option maxRecDepth 100000
set_option maxHeartbeats 1000000
namespace DL
open PySem L2 Evl
variable {m : Nat}
/-! ### statements -/
def S.ok : S → Bool
  | .vw _ => false
  | .no => false
  | _ => true
section
variable {c : Cc} {ρ : List S} {te ta tb : TE} {t u : TS} {tt : TT} {N B C : Nat → List S → Prop} {R : Nat → S → Prop} {wi : TI} {g : TG}
theorem Ds.imp {N' : Nat → List S → Prop} {R' : Nat → S → Prop} {B' C' : Nat → List S → Prop} (h : Ds c m t ρ N R B C) (hn : ∀ m ρ, N m ρ → N' m ρ) (hr : ∀ m s, R m s → R' m s) (hb : ∀ m ρ, B m ρ → B' m ρ) (hc : ∀ m ρ, C m ρ → C' m ρ) : Ds c m t ρ N' R' B' C' := fun D σ G H e k1 k2 k3 k4 =>
  h D σ G H e (fun ρ' σ' m' G' H' n => k1 ρ' σ' m' G' H' (hn _ _ n)) (fun s v m' G' H' r => k2 s v m' G' H' (hr _ _ r)) (fun ρ' σ' m' G' H' n => k3 ρ' σ' m' G' H' (hb _ _ n)) (fun ρ' σ' m' G' H' n => k4 ρ' σ' m' G' H' (hc _ _ n))
theorem ds_seq (h : Ds c m t ρ (fun m ρ' => Ds c m u ρ' N R B C) R B C) : Ds c m (tSeq t u) ρ N R B C := fun D σ G H e k1 k2 k3 k4 =>
  h { D with nx := u D } σ G H e (fun ρ' σ' m' G' H' n x e' => n D σ' G' H' e' (fun a b m c' d n y z => k1 a b m c' d n (x.trans y) z) k2 (fun a b m c' d n y z => k3 a b m c' d n (x.trans y) z) (fun a b m c' d n y z => k4 a b m c' d n (x.trans y) z)) k2 k3 k4
theorem ds_next (h : N m ρ) : Ds c m tNext ρ N R B C := fun D σ G H e k1 _ _ _ => k1 ρ σ m G H h (Ex.refl G) e
theorem ds_break (h : B m ρ) : Ds c m tBreak ρ N R B C := fun D σ G H e _ _ k3 _ => k3 ρ σ m G H h (Ex.refl G) e
theorem ds_cont (h : C m ρ) : Ds c m tCont ρ N R B C := fun D σ G H e _ _ _ k4 => k4 ρ σ m G H h (Ex.refl G) e
theorem ds_ret (h : De c m te ρ fun m s => s.ok = true ∧ R m s) : Ds c m (tRet te) ρ N R B C := fun D σ G H e _ k2 _ _ => h σ G H e _ fun v s m' G' H' g r ⟨_, p⟩ => k2 s v m' G' H' p (e.gr.trans g) (r.back e.gr)
theorem ds_retN (h : R m (.dat .non)) : Ds c m tRetN ρ N R B C := fun D σ G H e _ k2 _ _ => k2 (.dat .non) .non m G H h e.gr Rp.non
theorem ds_retVar {i : Nat} {o : O} (hi : ρ[i]? = some (.own o)) (h : R m (.own o)) : Ds c m (tRet (tVar i)) ρ N R B C := fun D σ G H e _ k2 _ _ => by
  rcases e.at_ i _ hi with z | ⟨v, a, r⟩
  · cases z
  · exact ⟨v, a, k2 _ v m G H h e.gr r⟩
theorem ds_asg {i : Nat} (h : De c m te ρ fun m s => s.ok = true ∧ N m (ρ.set i s)) : Ds c m (tAsg te (gName i)) ρ N R B C := fun D σ G H e k1 _ _ _ => h σ G H e _ fun v s m' G' H' g r ⟨hs, p⟩ =>
  k1 _ _ m' G' H' p g.ex (e.setF g r fun o z => by rw [z] at hs; cases hs)
theorem ds_drop (h : De c m te ρ fun m _ => N m ρ) : Ds c m (tDrop te) ρ N R B C := fun D σ G H e k1 _ _ _ => h σ G H e _ fun v s m' G' H' g r p => k1 ρ σ m' G' H' p g.ex (e.grow g)
theorem ds_if (h : DT c m tt ρ fun m b => (b = true → Ds c m t ρ N R B C) ∧ (b = false → Ds c m u ρ N R B C)) : Ds c m (tIfS tt t u) ρ N R B C := fun D σ G H e k1 k2 k3 k4 => h σ G H e _ fun b m' G' H' g ⟨h1, h2⟩ => by
  cases b with
  | true => rw [if_pos rfl]; exact h1 rfl D σ G' H' (e.grow g) (fun a b m c' d n y z => k1 a b m c' d n (g.ex.trans y) z) k2 (fun a b m c' d n y z => k3 a b m c' d n (g.ex.trans y) z) (fun a b m c' d n y z => k4 a b m c' d n (g.ex.trans y) z)
  | false => rw [if_neg Bool.false_ne_true]; exact h2 rfl D σ G' H' (e.grow g) (fun a b m c' d n y z => k1 a b m c' d n (g.ex.trans y) z) k2 (fun a b m c' d n y z => k3 a b m c' d n (g.ex.trans y) z) (fun a b m c' d n y z => k4 a b m c' d n (g.ex.trans y) z)
def noVw (ρ : List S) : Bool := ρ.all fun s => match s with
  | .vw _ => false
  | _ => true
theorem noVw_ok {ρ : List S} (h : noVw ρ = true) (j : Nat) (w : O) : ρ[j]? ≠ some (S.vw w) := fun z => by
  have := List.all_eq_true.mp h _ (List.mem_of_getElem? z)
  cases this
/-- an own list or dict is from here on data -/
theorem ds_frz {i : Nat} {o : O} (hi : ρ[i]? = some (.own o)) (nv : noVw ρ = true) (h : Ds c m t (ρ.set i (.dat o.frz)) N R B C) : Ds c m t ρ N R B C := fun D σ G H e k1 k2 k3 k4 => by
  rcases e.at_ i _ hi with z | ⟨v, a, r⟩
  · cases z
  · obtain ⟨G2, g2, r2, x, nq⟩ := r.freezeX e.gr
    have e2 : EnvOk c m G2 H σ (ρ.set i (.dat o.frz)) := by
      refine ⟨e.ok0, g2, e.exc, by rw [List.length_set]; exact e.len, fun j s hs => ?_, fun j k o1 o2 p1 p2 hjk hj hk => ?_⟩
      · by_cases hj : i = j
        · subst hj
          rw [List.getElem?_set] at hs
          simp only [if_true] at hs
          split at hs
          · cases hs; exact .inr ⟨_, a, r2⟩
          · cases hs
        · rw [List.getElem?_set_ne hj] at hs
          rcases e.at_ j s hs with z | ⟨w, aw, rw'⟩
          · exact .inl z
          · refine .inr ⟨w, aw, ?_⟩
            cases s with
            | no => trivial
            | dat d => exact Rp.mono x rw'
            | at_ q => exact rw'
            | own o' =>
              obtain ⟨q, rfl, z0, zn, zm, zo⟩ := rw'
              obtain ⟨p, rfl, _⟩ := id r
              have ne : p ≠ q := e.sep i j o o' p q hj hi hs a aw
              exact ⟨q, rfl, z0, nq q zn fun z => ne (by cases z; rfl), zm, zo.mono x rfl⟩
            | vw o' => exact absurd hs (noVw_ok nv j o')
            | xc C a d fs => obtain ⟨e1, e2, e3, fv, e4, e5, e6⟩ := rw'; obtain ⟨p, ev, _, _, _, ob⟩ := id r; exact ⟨e1, nq d e2 (fun z => by rw [ev] at z; cases z; exact ob.noxd e4), e3, fv, e4, e5, e6.mono x⟩
      · have no : ∀ {b : Nat} {o' : O}, (ρ.set i (.dat o.frz))[b]? = some (.own o') → i ≠ b := by
          intro b o' h z
          subst z
          rw [List.getElem?_set] at h
          simp only [if_true] at h
          split at h <;> cases h
        have nj := no hj
        have nk := no hk
        rw [List.getElem?_set_ne nj] at hj
        rw [List.getElem?_set_ne nk] at hk
        exact e.sep j k o1 o2 p1 p2 hjk hj hk
    exact h D σ G2 H e2 (fun a b m c' d n y z => k1 a b m c' d n (x.trans y) z) k2 (fun a b m c' d n y z => k3 a b m c' d n (x.trans y) z) (fun a b m c' d n y z => k4 a b m c' d n (x.trans y) z)
/-! ### loops -/
theorem ds_for {vs : List Nat} (h : DI c m wi ρ fun m ds => ∃ J : Nat → Nat → List S → Prop, J 0 m ρ ∧ (∀ i d m ρ', ds[i]? = some d → J i m ρ' → ∃ ρ2, DG c m g vs d ρ' ρ2 ∧ Ds c m t ρ2 (J (i + 1)) R N (J (i + 1))) ∧ ∀ m ρ', J ds.length m ρ' → N m ρ') : Ds c m (tFor wi g t) ρ N R B C := fun D σ G H e k1 k2 k3 k4 =>
  h σ G H e _ fun I ds m1 G1 H1 g1 it ⟨J, j0, jt, jd⟩ => by
    refine ⟨fun i m σ2 H2 => m = ds.length - i ∧ i ≤ ds.length ∧ ∃ m2 ρ2 G2, Ex G1 G2 ∧ EnvOk c m2 G2 H2 σ2 ρ2 ∧ J i m2 ρ2, ⟨ds.length, by simp, Nat.zero_le _, m1, ρ, G1, Ex.refl _, e.grow g1, j0⟩, ?_⟩
    rintro i m σ2 H2 ⟨em, hi, m2, ρ2, G2, x2, e2, j⟩
    obtain ⟨ih1, ih2⟩ := it m2 G2 H2 x2 e2.ok i
    by_cases hlt : i < ds.length
    · right
      have hd : ds[i]? = some ds[i] := by simp [hlt]
      obtain ⟨go, yl⟩ := ih1 _ hd
      refine ⟨go, fun σ' H' => ∃ m3 ρ3 G3, Ex G1 G3 ∧ EnvOk c m3 G3 H' σ' ρ3 ∧ J (i + 1) m3 ρ3, fun σ' H' ⟨m3, ρ3, G3, x3, e3, j3⟩ => ⟨m - 1, by omega, by omega, hlt, m3, ρ3, G3, x3, e3, j3⟩, fun v H' y => ?_⟩
      obtain ⟨G3, g3, r3⟩ := yl v H' y
      obtain ⟨ρ3, dg, hb⟩ := jt i _ m2 ρ2 hd j
      refine dg v σ2 G3 H' (e2.grow g3) r3 _ fun σ' f4 _ => ?_
      have e4 := f4 _ _ _ (Ex.refl _) (e2.grow g3)
      refine hb _ σ' G3 H' e4 (fun ρ' σ'' m' G' H'' n y z => ⟨_, ρ', G', (x2.trans g3.ex).trans y, z, n⟩) k2 (fun ρ' σ'' m' G' H'' n y z => k1 ρ' σ'' m' G' H'' n (((g1.ex.trans x2).trans g3.ex).trans y) z) (fun ρ' σ'' m' G' H'' n y z => ⟨_, ρ', G', (x2.trans g3.ex).trans y, z, n⟩)
    · left
      have hl2 : i = ds.length := by omega
      subst hl2
      exact ⟨ih2 rfl, k1 ρ2 σ2 m2 G2 H2 (jd m2 ρ2 j) (g1.ex.trans x2) e2⟩
theorem ds_while (J : Nat → Nat → List S → Prop) (n0 : Nat) (h0 : J n0 m ρ) (h : ∀ n m ρ', J n m ρ' → DT c m tt ρ' fun m b => (b = true → Ds c m t ρ' (fun m ρ2 => ∃ n', n' < n ∧ J n' m ρ2) R N (fun m ρ2 => ∃ n', n' < n ∧ J n' m ρ2)) ∧ (b = false → N m ρ')) : Ds c m (tWhile tt t) ρ N R B C := fun D σ G H e k1 k2 k3 k4 => by
  refine ⟨fun n σ2 H2 => ∃ m2 ρ2 G2, Ex G G2 ∧ EnvOk c m2 G2 H2 σ2 ρ2 ∧ J n m2 ρ2, ⟨n0, m, ρ, G, Ex.refl _, e, h0⟩, ?_⟩
  rintro n σ2 H2 ⟨m2, ρ2, G2, x2, e2, j⟩
  refine h n m2 ρ2 j σ2 G2 H2 e2 _ fun b m3 G3 H3 g3 ⟨h1, h2⟩ => ?_
  cases b with
  | true =>
    rw [if_pos rfl]
    refine ⟨fun σ' H' => ∃ n', n' < n ∧ ∃ m3 ρ3 G3, Ex G G3 ∧ EnvOk c m3 G3 H' σ' ρ3 ∧ J n' m3 ρ3, fun σ' H' z => z, ?_⟩
    exact h1 rfl _ σ2 G3 H3 (e2.grow g3) (fun ρ' σ'' m' G' H'' ⟨n', hm, n⟩ y z => ⟨n', hm, _, ρ', G', (x2.trans g3.ex).trans y, z, n⟩) k2 (fun ρ' σ'' m' G' H'' n y z => k1 ρ' σ'' m' G' H'' n ((x2.trans g3.ex).trans y) z) (fun ρ' σ'' m' G' H'' ⟨n', hm, n⟩ y z => ⟨n', hm, _, ρ', G', (x2.trans g3.ex).trans y, z, n⟩)
  | false =>
    rw [if_neg Bool.false_ne_true]
    exact k1 ρ2 σ2 m3 G3 H3 (h2 rfl) (x2.trans g3.ex) (e2.grow g3)
/-- x += e, x an int -/
theorem ds_augI {i : Nat} {f : Int → Int → Int} {a : Int} (hi : ρ[i]? = some (.dat (.int a))) (h : De c m te ρ fun m s => ∃ b, s = .dat (.int b) ∧ N m (ρ.set i (.dat (.int (f a b))))) : Ds c m (tAug i te (ipI f)) ρ N R B C := fun D σ G H e k1 _ _ _ => by
  rcases e.at_ i _ hi with z | ⟨v, ha, r⟩
  · cases z
  · have r : Rp c.K G v (.int a) := r
    cases r
    refine ⟨_, ha, h σ G H e _ fun v s m' G' H' g r ⟨b, es, p⟩ => ?_⟩
    subst es
    cases r
    exact ⟨a, b, rfl, rfl, k1 _ _ m' G' H' p g.ex ((e.grow g).setD (.int _))⟩
/-- a, b = e -/
theorem ds_asgU {vs : List Nat} {d : D} (h : De c m te ρ fun m s => ∃ d ρ', s.frz = .dat d ∧ DG c m g vs d ρ ρ' ∧ N m ρ') : Ds c m (tAsg te g) ρ N R B C := fun D σ G H e k1 _ _ _ => h σ G H e _ fun v s m' G' H' gg r ⟨d, ρ', es, dg, p⟩ => by
  obtain ⟨G2, g2, r2⟩ := r.freeze gg
  rw [es] at r2
  exact dg v σ G2 H' (e.grow g2) r2 _ fun σ' f' _ => k1 ρ' σ' _ G2 H' p g2.ex (f' _ _ _ (Ex.refl _) (e.grow g2))

/-! ### an own list changes -/
theorem EnvOk.mut {G H : Hp} {σ : L2.St} {i : Nat} {o o' : O} {p : Addr} {u : HO} (e : EnvOk c m G H σ ρ) (hi : ρ[i]? = some (.own o)) (hp : σ[i]? = some (some (.ref p))) (nv : ∀ (j : Nat) (w : O), ρ[j]? ≠ some (S.vw w)) (hu : ObjRp c.K G (upd H p u) p o') : EnvOk c m G (upd H p u) σ (ρ.set i (.own o')) := by
  rcases e.at_ i _ hi with z | ⟨v, a, r⟩
  · cases z
  · rw [hp] at a
    cases a
    obtain ⟨p', ep, h0, n, m, ob⟩ := r
    cases ep
    refine ⟨e.ok0, ⟨e.gr.ex, e.gr.sub.mut n, e.gr.fresh, fun b w mb q => by rw [upd_ne (ne_of_none q h0)]; exact e.gr.keep b w mb q, c.W.dep _ _ _ (fun b mb => upd_ne fun z => m (by rw [← z]; exact mb)) e.gr.inv, e.gr.lk⟩, e.exc, by rw [List.length_set]; exact e.len, fun j s hs => ?_, fun j k o1 o2 p1 p2 hjk hj hk pj pk => ?_⟩
    · by_cases hj : i = j
      · subst hj
        rw [List.getElem?_set] at hs
        simp only [if_true] at hs
        split at hs
        · cases hs; exact .inr ⟨_, hp, p, rfl, h0, n, m, hu⟩
        · cases hs
      · rw [List.getElem?_set_ne hj] at hs
        rcases e.at_ j s hs with z | ⟨w, aw, rw'⟩
        · exact .inl z
        · refine .inr ⟨w, aw, ?_⟩
          cases s with
          | no => trivial
          | dat d => exact rw'
          | at_ q => exact rw'
          | own o2 =>
            obtain ⟨q, rfl, z0, zn, zm, zo⟩ := rw'
            have ne : p ≠ q := e.sep i j o o2 p q hj hi hs hp aw
            exact ⟨q, rfl, z0, zn, zm, zo.mono (Ex.refl G) (upd_ne (Ne.symm ne))⟩
          | vw w => exact absurd hs (nv j w)
          | xc C a d fs => obtain ⟨e1, e2, e3, fv, e4, e5, e6⟩ := rw'; exact ⟨e1, e2, e3, fv, (upd_ne (fun z => by subst z; exact ob.noxd e4)).trans e4, e5, e6⟩
    · have get : ∀ {b : Nat} {o' : O}, (ρ.set i (.own o'))[b]? = some (.own o') → True := fun _ => trivial
      have ow : ∀ {b : Nat} {o3 : O}, (ρ.set i (.own o'))[b]? = some (.own o3) → ∃ o4, ρ[b]? = some (.own o4) := by
        intro b o3 h
        by_cases hb : i = b
        · subst hb; exact ⟨o, hi⟩
        · rw [List.getElem?_set_ne hb] at h; exact ⟨o3, h⟩
      obtain ⟨o4, h4⟩ := ow hj
      obtain ⟨o5, h5⟩ := ow hk
      exact e.sep j k o4 o5 p1 p2 hjk h4 h5 pj pk
/-- xs.append(e) -/
theorem ds_app {i : Nat} {ds : List D} (hi : ρ[i]? = some (.own (.lst ds))) (nv : noVw ρ = true) (hl : ds.length < 1000000) (h : De c m te ρ fun m s => ∃ d, s.frz = .dat d ∧ N m (ρ.set i (.own (.lst (ds ++ [d]))))) : Ds c m (tDrop (tBM c.K "list" rAppend (tVar i) (tCons te tNil))) ρ N R B C := fun D σ G H e k1 _ _ _ => by
  rcases e.at_ i _ hi with z | ⟨v, a, r⟩
  · cases z
  · obtain ⟨p, rfl, h0, n, m, xs, hx, rx⟩ := id r
    refine ⟨_, a, .inl ⟨rfl, xs, SqL.of hx⟩, h σ G H e _ fun v s m' G' H' g r ⟨d, es, hn⟩ => ?_⟩
    obtain ⟨G2, g2, r2⟩ := r.freeze g
    rw [es] at r2
    have e2 := e.grow g2
    have hx2 := g2.keep _ _ m hx
    refine ⟨p, xs, v, rfl, rfl, hx2, szl (by rw [rx.length]; exact hl), k1 _ σ _ G2 _ hn g2.ex (e2.mut hi a (noVw_ok nv) ⟨_, upd_same, (rx.mono g2.ex).append (.one r2)⟩)⟩
/-- xs.extend(e) -/
theorem ds_ext {i : Nat} {ds : List D} (hi : ρ[i]? = some (.own (.lst ds))) (nv : noVw ρ = true) (h : De c m te ρ fun m s => ∃ es, s.frz = .dat (.lst es) ∧ ds.length + es.length ≤ 1000000 ∧ N m (ρ.set i (.own (.lst (ds ++ es))))) : Ds c m (tDrop (tBM c.K "list" rExtend (tVar i) (tCons te tNil))) ρ N R B C := fun D σ G H e k1 _ _ _ => by
  rcases e.at_ i _ hi with z | ⟨v, a, r⟩
  · cases z
  · obtain ⟨p, rfl, h0, n, m, xs, hx, rx⟩ := id r
    refine ⟨_, a, .inl ⟨rfl, xs, SqL.of hx⟩, h σ G H e _ fun v s m' G' H' g r ⟨ds2, es, hl, hn⟩ => ?_⟩
    obtain ⟨G2, g2, r2⟩ := r.freeze g
    rw [es] at r2
    have r2 : Rp c.K G2 v (.lst ds2) := r2
    cases r2 with
    | lst hy ry =>
      have e2 := e.grow g2
      have hx2 := g2.keep _ _ m hx
      refine ⟨p, _, xs, _, rfl, rfl, hx2, g2.sub _ _ hy, sz (by rw [rx.length, ry.length]; exact hl), k1 _ σ _ G2 _ hn g2.ex (e2.mut hi a (noVw_ok nv) ⟨_, upd_same, (rx.mono g2.ex).append ry⟩)⟩
/-- f(..).clear() -/
theorem de_clear (h : De c m te ρ fun m s => (∃ ds, s = .own (.lst ds)) ∧ Φ' m (.dat .non)) : De c m (tBM0 c.K "list" rClear te) ρ Φ' := fun σ G H e Q q => h σ G H e _ fun v s m1 G1 H1 g1 r1 ⟨⟨ds, es⟩, p⟩ => by
  subst es
  obtain ⟨p1, rfl, h0, n, m, xs, hx, rx⟩ := r1
  refine ⟨.inl ⟨rfl, xs, SqL.of hx⟩, p1, xs, rfl, rfl, hx, q _ (.dat .non) m1 G1 _ ⟨g1.ex, g1.sub.mut n, g1.fresh, fun b w mb q => by rw [upd_ne (ne_of_none q h0)]; exact g1.keep b w mb q, c.W.dep _ _ _ (fun b mb => upd_ne fun z => m (by rw [← z]; exact mb)) g1.inv, g1.lk⟩ Rp.non p⟩
/-! ### a def's body -/
theorem relss_get {K : PySem.W.Frag} {W : Wd} {H0 G H : Hp} : ∀ {vs : List V} {ss : List S}, RelSs K W H0 G H vs ss → ∀ {i : Nat} {s : S}, ss[i]? = some s → ∃ v, vs[i]? = some v ∧ RelS K W H0 G H v s
  | _, _, .nil, i, s, h => by simp at h
  | _, _, .cons h r, 0, s, e => by simp at e; subst e; exact ⟨_, rfl, h⟩
  | _, _, .cons h r, i + 1, s, e => by
    obtain ⟨v, h1, h2⟩ := relss_get r (i := i) (s := s) (by simpa using e)
    exact ⟨v, by simpa using h1, h2⟩
theorem run_fn {K : PySem.W.Frag} {F : Fc} {Nm : List Str} {t : TS} {vs : List V} {H : Hp} {Q : VK} {E : XK} (hl : vs.length ≤ Nm.length) (h : spF K F vs H Q E)
    (body : ∀ W m ss Φ Ξ G, F W m ss Φ Ξ → Ds ⟨K, W, E, Ξ, m, G, H⟩ m t (ss ++ List.replicate (Nm.length - ss.length) .no) (fun m _ => Φ m (.dat .non)) Φ (fun _ _ => False) (fun _ _ => False)) :
    t { nx := fun _ H' => Q .non H', rt := Q } (L2.start Nm vs) H := by
  obtain ⟨W, m, G, ss, Φ, Ξ, ok, rs, ha, hf, hq, he⟩ := h
  have hlen := rs.length
  refine body W m ss Φ Ξ G hf _ (L2.start Nm vs) G H ?_ (fun ρ' σ' m' G' H' n x e' => hq .non (.dat .non) m' G' H' e'.gr Rp.non n) (fun s v m' G' H' r g rr => hq v s m' G' H' g rr r) (fun _ _ _ _ _ z => z.elim) (fun _ _ _ _ _ z => z.elim)
  have arg : ∀ {i : Nat} {s : S}, ss[i]? = some s → argS s = true := fun h => List.all_eq_true.mp ha _ (List.mem_of_getElem? h)
  have noown : ∀ {i : Nat} {o : O}, (ss ++ List.replicate (Nm.length - ss.length) S.no)[i]? ≠ some (.own o) := by
    intro i o z
    by_cases hi : i < ss.length
    · rw [List.getElem?_append_left hi] at z
      have := arg z
      cases this
    · rw [List.getElem?_append_right (by omega), List.getElem?_replicate] at z
      split at z <;> cases z
  refine ⟨ok, ok.refl, he, ?_, fun i s hs => ?_, fun i j o o' p q _ hi => absurd hi noown⟩
  · unfold L2.start
    rw [List.length_append, List.length_append, List.length_map, List.length_replicate, List.length_replicate, hlen]
  · by_cases hi : i < ss.length
    · rw [List.getElem?_append_left hi] at hs
      obtain ⟨v, hv, r⟩ := relss_get rs hs
      refine .inr ⟨v, ?_, r⟩
      unfold L2.start
      rw [List.getElem?_append_left (by rw [List.length_map, hlen]; exact hi), List.getElem?_map, hv]
      rfl
    · rw [List.getElem?_append_right (by omega), List.getElem?_replicate] at hs
      split at hs
      · cases hs; exact .inl rfl
      · cases hs
end
end DL
set_option Elab.async false
set_option linter.all false
set_option maxRecDepth 100000
set_option maxHeartbeats 1000000
namespace DL
open PySem L2 Evl
variable {m : Nat}
/-! ### dicts -/
section
variable {κ : Type} [DecidableEq κ]
def valD (kvs : List (κ × D)) (k : κ) : Option D := (kvs.find? fun kv => decide (kv.1 = k)).map (·.2)
def putD (kvs : List (κ × D)) (k : κ) (v : D) : List (κ × D) :=
  if (kvs.any fun kv => decide (kv.1 = k)) = true then kvs.map (fun kv => if kv.1 = k then (kv.1, v) else kv) else kvs ++ [(k, v)]
theorem rpk_val {K : PySem.W.Frag} {G : Hp} : ∀ {kvs : List (κ × V)} {ds : List (κ × D)} (k : κ), kvs.map (·.1) = ds.map (·.1) → RpL K G (kvs.map (·.2)) (ds.map (·.2)) → (valV kvs k = none ∧ valD ds k = none) ∨ ∃ v d, valV kvs k = some v ∧ valD ds k = some d ∧ Rp K G v d
  | [], [], k, _, _ => .inl ⟨rfl, rfl⟩
  | [], _ :: _, k, h, _ => by cases h
  | _ :: _, [], k, h, _ => by cases h
  | (a, v) :: kvs, (b, d) :: ds, k, h, r => by
    rw [List.map_cons, List.map_cons] at h r
    obtain ⟨h1, h2⟩ := List.cons.inj h
    cases r with
    | cons r1 r2 =>
      have h1 : a = b := h1
      subst h1
      by_cases e : a = k
      · exact .inr ⟨v, d, by simp [valV, e], by simp [valD, e], r1⟩
      · have ih := rpk_val k h2 r2
        have e1 : valV ((a, v) :: kvs) k = valV kvs k := by simp [valV, e]
        have e2 : valD ((a, d) :: ds) k = valD ds k := by simp [valD, e]
        rw [e1, e2]
        exact ih
theorem rpk_any {κ : Type} [DecidableEq κ] : ∀ {kvs : List (κ × V)} {ds : List (κ × D)} (k : κ), kvs.map (·.1) = ds.map (·.1) → (kvs.any fun kv => decide (kv.1 = k)) = (ds.any fun kv => decide (kv.1 = k))
  | [], [], k, _ => rfl
  | [], _ :: _, k, h => by cases h
  | _ :: _, [], k, h => by cases h
  | (a, v) :: kvs, (b, d) :: ds, k, h => by
    rw [List.map_cons, List.map_cons] at h
    obtain ⟨h1, h2⟩ := List.cons.inj h
    have h1 : a = b := h1
    subst h1
    rw [List.any_cons, List.any_cons, rpk_any k h2]
theorem rpk_put {K : PySem.W.Frag} {G : Hp} {kvs : List (κ × V)} {ds : List (κ × D)} {k : κ} {v : V} {d : D} (h : kvs.map (·.1) = ds.map (·.1)) (r : RpL K G (kvs.map (·.2)) (ds.map (·.2))) (rv : Rp K G v d) :
    (putK kvs k v).map (·.1) = (putD ds k d).map (·.1) ∧ RpL K G ((putK kvs k v).map (·.2)) ((putD ds k d).map (·.2)) := by
  unfold putK putD
  rw [rpk_any k h]
  split
  · constructor
    · have key : ∀ {α : Type} (l : List (κ × α)) (x : α), (l.map fun kv => if kv.1 = k then (kv.1, x) else kv).map (·.1) = l.map (·.1) := by
        intro α l x
        rw [List.map_map]
        apply List.map_congr_left
        intro a _
        show (if a.1 = k then (a.1, x) else a).1 = a.1
        split <;> rfl
      rw [key, key]
      exact h
    · rename_i hx
      clear hx
      induction kvs generalizing ds with
      | nil =>
        cases ds with
        | nil => exact .nil
        | cons _ _ => cases h
      | cons p kvs ih =>
        cases ds with
        | nil => cases h
        | cons q ds =>
          rw [List.map_cons, List.map_cons] at h r
          obtain ⟨h1, h2⟩ := List.cons.inj h
          cases r with
          | cons r1 r2 =>
            rw [List.map_cons, List.map_cons, List.map_cons, List.map_cons]
            refine .cons ?_ (ih h2 r2)
            have h1 : p.1 = q.1 := h1
            rw [h1]
            split
            · exact rv
            · exact r1
  · rw [List.map_append, List.map_append, List.map_append, List.map_append, h]
    exact ⟨rfl, r.append (.one rv)⟩
end
theorem nodup_frz {o : Obj} {kvs : List (Key × V)} {u : HO} (h : HO.dK kvs = .frz o u) : False := by cases h
mutual
/-- data stays data while a dict is locked, and behind it -/
theorem Rp.swap {K : PySem.W.Frag} {G G' : Hp} {a : Addr} {kvs : List (Key × V)} (ne : ∀ b, b ≠ a → G' b = G b) (h : Rd G a (.dK kvs)) (h' : Rd G' a (.dK kvs)) : ∀ {v : V} {d : D}, Rp K G v d → Rp K G' v d
  | _, _, .non => .non
  | _, _, .bl b => .bl b
  | _, _, .int i => .int i
  | _, _, .str x => .str x
  | _, _, .lst (a := b) e r => .lst (by
      rw [ne b]; exact e
      intro z; subst z
      rcases h with h | ⟨o, h⟩ <;> (rw [h] at e; cases e)) (RpL.swap ne h h' r)
  | _, _, .tup (a := b) e r => .tup (by
      rw [ne b]; exact e
      intro z; subst z
      rcases h with h | ⟨o, h⟩ <;> (rw [h] at e; cases e)) (RpL.swap ne h h' r)
  | _, _, .dic (a := b) (kvs := ks) e k r => .dic (by
      by_cases z : b = a
      · subst z
        have ek : ks = kvs := by
          rcases h with h | ⟨o, h⟩
          · rcases e with e | ⟨o', e⟩
            · rw [h] at e; cases e; rfl
            · rw [h] at e; cases e
          · rcases e with e | ⟨o', e⟩
            · rw [h] at e; cases e
            · rw [h] at e; cases e; rfl
        rw [ek]; exact h'
      · unfold Rd; rw [ne b z]; exact e) k (RpL.swap ne h h' r)
  | _, _, .dit (a := b) (kvs := ks) e k r => .dit (by
      have z : b ≠ a := by
        intro z; subst z
        rcases h with h | ⟨o, h⟩
        · rcases e with e | ⟨o', e⟩ <;> (rw [h] at e; cases e)
        · rcases e with e | ⟨o', e⟩ <;> (rw [h] at e; cases e)
      unfold Rd; rw [ne b z]; exact e) k (RpL.swap ne h h' r)
  | _, _, .scr (a := b) e => .scr (by
      rcases e with e | e
      · have z : b ≠ a := by
          intro z; subst z
          rcases h with h | ⟨o, h⟩
          · rcases e with e | ⟨o', e⟩ <;> (rw [h] at e; cases e)
          · rcases e with e | ⟨o', e⟩ <;> (rw [h] at e; cases e)
        left; unfold Rd; rw [ne b z]; exact e
      · exact .inr e)
theorem RpL.swap {K : PySem.W.Frag} {G G' : Hp} {a : Addr} {kvs : List (Key × V)} (ne : ∀ b, b ≠ a → G' b = G b) (h : Rd G a (.dK kvs)) (h' : Rd G' a (.dK kvs)) : ∀ {vs : List V} {ds : List D}, RpL K G vs ds → RpL K G' vs ds
  | _, _, .nil => .nil
  | _, _, .cons x r => .cons (Rp.swap ne h h' x) (RpL.swap ne h h' r)
end
def keyD : Key → D
  | .inl i => .int i
  | .inr x => .str x
theorem rp_key {K : PySem.W.Frag} {G : Hp} : ∀ k : Key, Rp K G (kV k) (keyD k)
  | .inl i => .int i
  | .inr x => .str x
def lockW (W : Wd) (d : Addr) : Wd := { W with L := fun a => W.L a ∨ a = d }
/-- the slots while a dict is locked -/
def rdAll (ρ : List S) : List S := ρ.map rdS
section
variable {c : Cc} {ρ : List S} {Φ : Nat → S → Prop} {te : TE}
theorem RelS.swap {K : PySem.W.Frag} {W W' : Wd} {H0 H0' G H G' H' : Hp} {v : V} {s : S} {a : Addr} {kvs : List (Key × V)} (hM : W'.M = W.M) (ne : ∀ b, b ≠ a → G' b = G b) (neH : ∀ b, b ≠ a → H' b = H b) (h : Rd G a (.dK kvs)) (h' : Rd G' a (.dK kvs)) (z0 : ∀ b, H0 b = none → H0' b = none)
    (r : RelS K W H0 G H v s) : RelS K W' H0' G' H' v s := by
  have na : ∀ p, G p = none → p ≠ a := fun p n z => by
    subst z
    rcases h with h | ⟨o, h⟩ <;> (rw [n] at h; cases h)
  have ob : ∀ p o, G p = none → ObjRp K G H p o → ObjRp K G' H' p o := fun p o n b => by
    have e := neH p (na p n)
    cases o with
    | lst ds => obtain ⟨xs, x, y⟩ := b; exact ⟨xs, e.trans x, y.swap ne h h'⟩
    | dK ds => obtain ⟨xs, x, k, y⟩ := b; exact ⟨xs, e.trans x, k, y.swap ne h h'⟩
    | dT ds => obtain ⟨xs, x, k, y⟩ := b; exact ⟨xs, e.trans x, k, y.swap ne h h'⟩
  cases s with
  | no => trivial
  | dat d => exact Rp.swap ne h h' r
  | own o => obtain ⟨p, rfl, q0, n, m, b⟩ := r; exact ⟨p, rfl, z0 p q0, by rw [ne p (na p n)]; exact n, by rw [hM]; exact m, ob p o n b⟩
  | xc C x d fs => obtain ⟨e1, n, m, fv, hf, k, b⟩ := r; exact ⟨e1, by rw [ne d (na d n)]; exact n, by rw [hM]; exact m, fv, (neH d (na d n)).trans hf, k, b.swap ne h h'⟩
  | vw o => obtain ⟨p, rfl, n, m, b⟩ := r; exact ⟨p, rfl, by rw [ne p (na p n)]; exact n, by rw [hM]; exact m, ob p o n b⟩
  | at_ p => exact r
theorem rdS_rel {K : PySem.W.Frag} {W : Wd} {H0 H1 G H : Hp} {v : V} {s : S} (r : RelS K W H0 G H v s) : RelS K W H1 G H v (rdS s) := by
  cases s with
  | own o => obtain ⟨p, e, _, n, m, b⟩ := r; exact ⟨p, e, n, m, b⟩
  | no => trivial
  | dat d => exact r
  | vw o => exact r
  | at_ p => exact r
  | xc _ _ _ _ => exact r
/-- an expression that is read while a dict of the data is locked -/
theorem de_lock {i : Nat} {ds : List (Key × D)} (hi : ρ[i]? = some (.dat (.dic ds))) (hL : ∀ a, ¬ c.W.L a)
    (h : ∀ (G1 H1 : Hp) (d : Addr) (o : Obj) (kvs : List (Key × V)), kvs.map (·.1) = ds.map (·.1) → G1 d = some (.frz o (.dK kvs)) →
      ∀ σ, EnvOk ⟨c.K, lockW c.W d, fun _ _ _ => True, fun _ _ _ => True, m, G1, H1⟩ m G1 H1 σ (rdAll ρ) → σ[i]? = some (some (.ref d)) →
      ∀ Q : VK, (∀ v s m' G' H', Grow (lockW c.W d) G1 H1 m' G' H' → RelS c.K (lockW c.W d) H1 G' H' v s → Φ m' s → Q v H') → te σ H1 Q) : De c m (tLockE te) ρ Φ := fun σ G H e Q q => by
  rcases e.at_ i _ hi with z | ⟨v, a, r⟩
  · cases z
  have r : Rp c.K G v (.dic ds) := r
  cases r with
  | @dic d kvs _ hd hk rv =>
    have hd' : G d = some (.dK kvs) := by
      rcases hd with hd | ⟨o, hd⟩
      · exact hd
      · exact absurd (e.ok.lk d o _ hd fun xs z => by cases z) (hL d)
    have hH := e.ok.ex d _ hd'
    refine ⟨d, .dK kvs, hH, trivial, fun od => ?_⟩
    have mD : ¬ c.W.M d := fun m => by rw [e.ok.off d m] at hd'; cases hd'
    have sw1 : ∀ {s : S} {v : V} {H0 : Hp}, RelS c.K c.W H0 G H v s → ∀ {H0' : Hp}, (∀ b, H0 b = none → H0' b = none) → RelS c.K (lockW c.W d) H0' (upd G d (.frz od (.dK kvs))) (upd H d (.frz od (.dK kvs))) v s := fun r _ z0 =>
      r.swap (a := d) (kvs := kvs) rfl (fun b hb => upd_ne hb) (fun b hb => upd_ne hb) (.inl hd') (.inr ⟨od, upd_same⟩) z0
    have okL : Ok (lockW c.W d) m (upd G d (.frz od (.dK kvs))) (upd H d (.frz od (.dK kvs))) := ⟨fun b u q => by
        by_cases z : b = d
        · subst z; rw [upd_same] at q ⊢; exact q
        · rw [upd_ne z] at q ⊢; exact e.ok.ex b u q,
      c.W.dep _ _ _ (fun b m => upd_ne fun z => mD (by rw [← z]; exact m)) e.ok.inv,
      fun b m => by rw [upd_ne fun z => mD (by rw [← z]; exact m)]; exact e.ok.off b m,
      fun b o u q n => by
        by_cases z : b = d
        · exact .inr z
        · rw [upd_ne z] at q; exact .inl (e.ok.lk b o u q n)⟩
    refine h (upd G d (.frz od (.dK kvs))) (upd H d (.frz od (.dK kvs))) d od kvs hk upd_same σ ?_ a _ fun v s m' G' H' g r p => ?_
    · refine ⟨okL, okL.refl, fun _ _ _ _ _ _ _ _ _ _ _ _ _ _ => trivial, by rw [e.len]; simp [rdAll], fun j s hs => ?_, fun j k o o' p q _ hj => ?_⟩
      · rw [rdAll, List.getElem?_map] at hs
        cases hj : ρ[j]? with
        | none => rw [hj] at hs; cases hs
        | some s0 =>
          rw [hj] at hs
          cases hs
          rcases e.at_ j s0 hj with z | ⟨w, aw, rw'⟩
          · subst z; exact .inl rfl
          · exact .inr ⟨w, aw, rdS_rel (sw1 rw' fun _ z => z)⟩
      · rw [rdAll, List.getElem?_map] at hj
        cases hz : ρ[j]? with
        | none => rw [hz] at hj; cases hj
        | some s0 =>
          rw [hz] at hj
          cases s0 <;> cases hj
    · have hd2 : G' d = some (.frz od (.dK kvs)) := g.ex d _ upd_same
      have hH2 : H' d = some (.frz od (.dK kvs)) := g.sub d _ hd2
      refine ⟨hH2, ?_⟩
      have gr : Grow c.W G H m' (upd G' d (.dK kvs)) (upd H' d (.dK kvs)) := by
        refine ⟨fun b u q => ?_, fun b u q => ?_, fun b q n => ?_, fun b u m q => ?_, ?_, fun b o u q => ?_⟩
        · by_cases z : b = d
          · subst z; rw [upd_same]; rw [hd'] at q; exact q
          · rw [upd_ne z]; exact g.ex b u (by rw [upd_ne z]; exact q)
        · by_cases z : b = d
          · subst z; rw [upd_same] at q ⊢; exact q
          · rw [upd_ne z] at q ⊢; exact g.sub b u q
        · have z : b ≠ d := fun z => by subst z; rw [hd'] at n; cases n
          rw [upd_ne z]
          exact g.fresh b (by rw [upd_ne z]; exact q) (by rw [upd_ne z]; exact n)
        · by_cases z : b = d
          · subst z; rw [upd_same]; rw [hH] at q; exact q
          · rw [upd_ne z]; exact g.keep b u m (by rw [upd_ne z]; exact q)
        · exact c.W.dep _ _ _ (fun b m => upd_ne fun z => mD (by rw [← z]; exact m)) g.inv
        · by_cases z : b = d
          · subst z; rw [upd_same] at q; cases q
          · rw [upd_ne z] at q
            have := g.lk b o u q
            rw [upd_ne z] at this
            exact this
      refine q v s _ _ _ gr ?_ p
      refine r.swap (W' := c.W) (a := d) (kvs := kvs) rfl (fun b hb => upd_ne hb) (fun b hb => upd_ne hb) (.inr ⟨od, hd2⟩) (.inl upd_same) fun b z => ?_
      by_cases zb : b = d
      · subst zb; rw [upd_same] at z; cases z
      · rw [upd_ne zb] at z; exact z
/-- the walk over the locked dict -/
theorem di_keys {W : Wd} {G1 H1 : Hp} {i : Nat} {d : Addr} {o : Obj} {kvs : List (Key × V)} {σ : L2.St} {ds : List (Key × D)} (hk : kvs.map (·.1) = ds.map (·.1)) (hd : G1 d = some (.frz o (.dK kvs))) (hH : H1 d = some (.frz o (.dK kvs))) (hσ : σ[i]? = some (some (.ref d)))
    {R : It → Hp → Prop} {K : PySem.W.Frag} (q : ∀ J, ItD K W G1 J (ds.map fun p => keyD p.1) → R J H1) : iKeys (tVar i) σ H1 R := by
  refine ⟨.ref d, hσ, d, o, rfl, .inl ⟨kvs, hH, q _ ?_⟩⟩
  intro m G H e ok j
  have hh : H d = some (.frz o (.dK kvs)) := ok.ex _ _ (e _ _ hd)
  have hlen : kvs.length = ds.length := by
    have := congrArg List.length hk
    rwa [List.length_map, List.length_map] at this
  refine ⟨fun x hx => ?_, fun hl => ⟨hh, by rw [hlen, hl, List.length_map]; exact Nat.le_refl _⟩⟩
  rw [List.getElem?_map] at hx
  cases hj : ds[j]? with
  | none => rw [hj] at hx; cases hx
  | some p =>
    rw [hj] at hx
    cases hx
    have hjl : j < kvs.length := by rw [hlen]; exact (List.getElem?_eq_some_iff.mp hj).1
    refine ⟨⟨hh, hjl⟩, fun y H' z => ?_⟩
    obtain ⟨eh, k, v, hv, ey⟩ := z
    subst eh ey
    have ek : k = p.1 := by
      have h1 : (kvs.map (·.1))[j]? = some k := by rw [List.getElem?_map, hv]; rfl
      rw [hk, List.getElem?_map, hj] at h1
      exact (Option.some.inj h1).symm
    rw [ek]
    exact ⟨G, ok.refl, rp_key _⟩
end
end DL
set_option Elab.async false
set_option linter.all false
set_option maxRecDepth 100000
set_option maxHeartbeats 1000000
namespace DL
open PySem PySem.Spec PyProof.Rows L2 Evl
variable {m : Nat}
/-! ### a def that is called by its name -/
structure Cl (P : Program) (w : World) (K : PySem.W.Frag) (mg : Str → Option Value) (base : Heap) (CX : CXT) (k : Nat) (x : Str) (ps : List Str) (C : Fc) : Prop where
  ex : ∃ (f : Addr) (fd : FuncData), FnOk P w K mg base CX k f fd ps (spF K C) ∧ mg x = some (.ref f) ∧ PySem.W.keepIn K (.ref f) = true ∧ Binds K fd ps []
section
variable {X : Cx} {k j : Nat} {x : Str} {ps : List Str} {C : Fc} {p pos : Pos} {e : Expr} {es : List Expr} {t : TA}
theorem pcl {CX : CXT} {E : XK} (c : Cl X.prog X.w X.K X.mg X.base CX k x ps C) (hr : Room j X.A) (hx : Passes CX X E) (ha : PA X (e :: es) t) (hk : k ≤ j := by decide) (hg : Gl X x := by rfl) (hdb : (x == ("__debug__" : Str)) = false := by decide)
    (he : starEach (e :: es) X.env = (false, eval e X.env) :: starEach es X.env := by rfl) (hpl : (backTo pos (starEach es X.env)).any (·.1) = false := by rfl) :
    PE X (.Call (.Name x p) (e :: es) [] pos) (tCall (spF X.K C) [] E t) := by
  obtain ⟨f, fd, F, hm, kp, hb⟩ := c.ex
  exact pe_call F (hr.mono hk) hg hm kp hb .nil hx ha hdb he hpl
theorem pclS {W : WX} (c : Cl X.prog X.w X.K X.mg X.base (L2.CX X.prog X.w) k x ps C) (hr : Room j X.A) (tk : Takes X W) (ha : PA X (e :: es) t) (hk : k ≤ j := by decide) (hg : Gl X x := by rfl) (hdb : (x == ("__debug__" : Str)) = false := by decide)
    (he : starEach (e :: es) X.env = (false, eval e X.env) :: starEach es X.env := by rfl) (hpl : (backTo pos (starEach es X.env)).any (·.1) = false := by rfl) :
    PE X (.Call (.Name x p) (e :: es) [] pos) (tCallS (spF X.K C) (WE W) t) := by
  obtain ⟨f, fd, F, hm, kp, hb⟩ := c.ex
  exact pe_callS F (hr.mono hk) hg hm kp hb (fun σ => passAt tk σ) ha hdb he hpl
end
/-! ### built-ins, wider -/
section
variable {X : Cx}
def rLenA (K : PySem.W.Frag) : List V → Hp → VK → Prop := fun xs H Q => (∃ p ys, xs = [V.ref p] ∧ (SqL K H p ys ∨ SqT K H p ys) ∧ Q (.int ys.length) H) ∨ ∃ (a : Addr) (kvs : List (Key × V)), xs = [V.ref a] ∧ Rd H a (.dK kvs) ∧ Q (.int kvs.length) H
theorem call_lenA : CallR X (.builtin "len") (rLenA X.K) := call_len_seq.or fun pins s σ H xs us Q I r h => by
  obtain ⟨a, kvs, rfl, ha, q⟩ := h
  obtain ⟨u, rfl, ru⟩ := vals1 r
  cases ru
  exact d_len I ha fun t s' I' => ⟨.int kvs.length, H, I', ⟨t, rfl⟩, q⟩
def rSumA (K : PySem.W.Frag) : List V → Hp → VK → Prop := fun vs H Q => ∃ (a : Addr) (ns : List Int), vs = [V.ref a] ∧ (SqL K H a (ns.map V.int) ∨ SqT K H a (ns.map V.int)) ∧ Q (.int ns.sum) H
theorem call_sumA (hc : X.calm = true) : CallR X (.builtin "sum") (rSumA X.K) := fun pins s σ H vs us Q I r h => by
  obtain ⟨a, ns, rfl, hs, q⟩ := h
  rcases hs with hs | hs
  · exact cr_sum hc pins s σ H _ us Q I r ⟨a, ns, rfl, hs, q⟩
  · obtain ⟨its, rv, hl, _⟩ := I.tuple hs
    rw [Vals.ref1 r]
    have hi := rv.ints
    obtain ⟨xs, ex⟩ := hi.allInts.items
    have hn : numsOf (intItems xs).toList = ns := by rw [← ex]; exact hi.numsOf
    rw [nums_intItems] at hn
    have hl2 : s.heap.IsTuple a (intItems xs) := by rw [← ex]; exact hl
    refine PySem.W.ktm_sumG (I.ok.hd hc) hl2 fun h' tk t' hk => ?_
    rw [preSum_eq, List.take_of_length_le (by simp), hn]
    exact ⟨.int ns.sum, H, I.kept hk, ⟨_, rfl⟩, q⟩
end
/-! ### their readings over data -/
def S.dic? : S → Option (List (Key × D))
  | .dat (.dic ds) => some ds
  | .own (.dK ds) => some ds
  | .vw (.dK ds) => some ds
  | _ => none
section
variable {K : PySem.W.Frag} {W : Wd} {Φ : Nat → S → Prop} {H0 G H : Hp} {v : V} {s : S}
theorem RelS.dicV {ds : List (Key × D)} (ok : Ok W m G H) (r : RelS K W H0 G H v s) (h : s.dic? = some ds) : ∃ a kvs, v = .ref a ∧ Rd H a (.dK kvs) ∧ kvs.map (·.1) = ds.map (·.1) ∧ RpL K G (kvs.map (·.2)) (ds.map (·.2)) := by
  cases s with
  | no => cases h
  | at_ p => cases h
  | xc _ _ _ _ => cases h
  | dat d =>
    cases d <;> first | cases h | skip
    have r : Rp K G v _ := r
    cases r with
    | dic a k b => exact ⟨_, _, rfl, ex_rd ok.ex a, k, b⟩
  | own o =>
    cases o <;> first | cases h | skip
    obtain ⟨p, rfl, _, _, _, xs, a, k, b⟩ := r
    exact ⟨p, xs, rfl, .inl a, k, b⟩
  | vw o =>
    cases o <;> first | cases h | skip
    obtain ⟨p, rfl, _, _, xs, a, k, b⟩ := r
    exact ⟨p, xs, rfl, .inl a, k, b⟩
theorem relss1 {vs : List V} {s : S} (r : RelSs K W H0 G H vs [s]) : ∃ v, vs = [v] ∧ RelS K W H0 G H v s := by
  cases r with
  | cons a b => cases b; exact ⟨_, rfl, a⟩
theorem relss2 {vs : List V} {s s2 : S} (r : RelSs K W H0 G H vs [s, s2]) : ∃ v v2, vs = [v, v2] ∧ RelS K W H0 G H v s ∧ RelS K W H0 G H v2 s2 := by
  cases r with
  | cons a b =>
    cases b with
    | cons b d => cases d; exact ⟨_, _, rfl, a, b⟩
theorem cb_lenL {s : S} {ds : List D} (h1 : s.lst? = some ds) (h : Φ m (.dat (.int ds.length))) : CbS K W m (rLenA K) [s] Φ := fun H0 G H vs ok rr Q q => by
  obtain ⟨v, rfl, r⟩ := relss1 rr
  obtain ⟨p, xs, rfl, a, b⟩ := r.lstV ok h1
  exact .inl ⟨p, xs, rfl, .inl a, by rw [b.length]; exact q _ (.dat (.int _)) m G H ok.refl (Rp.int _) h⟩
theorem cb_lenT {s : S} {ds : List D} (h1 : s.tup? = some ds) (h : Φ m (.dat (.int ds.length))) : CbS K W m (rLenA K) [s] Φ := fun H0 G H vs ok rr Q q => by
  obtain ⟨v, rfl, r⟩ := relss1 rr
  obtain ⟨p, xs, rfl, a, b⟩ := r.tupV ok h1
  exact .inl ⟨p, xs, rfl, .inr a, by rw [b.length]; exact q _ (.dat (.int _)) m G H ok.refl (Rp.int _) h⟩
theorem cb_lenK {s : S} {ds : List (Key × D)} (h1 : s.dic? = some ds) (h : Φ m (.dat (.int ds.length))) : CbS K W m (rLenA K) [s] Φ := fun H0 G H vs ok rr Q q => by
  obtain ⟨v, rfl, r⟩ := relss1 rr
  obtain ⟨p, kvs, rfl, a, k, b⟩ := r.dicV ok h1
  have e : kvs.length = ds.length := by
    have := congrArg List.length k
    rwa [List.length_map, List.length_map] at this
  exact .inr ⟨p, kvs, rfl, a, by rw [e]; exact q _ (.dat (.int _)) m G H ok.refl (Rp.int _) h⟩
theorem cb_sum {s : S} {ns : List Int} (h1 : s.lst? = some (ns.map D.int) ∨ s.tup? = some (ns.map D.int)) (h : Φ m (.dat (.int ns.sum))) : CbS K W m (rSumA K) [s] Φ := fun H0 G H vs ok rr Q q => by
  obtain ⟨v, rfl, r⟩ := relss1 rr
  rcases h1 with h1 | h1
  · obtain ⟨p, xs, rfl, a, b⟩ := r.lstV ok h1
    exact ⟨p, ns, rfl, .inl (by rw [← b.ints]; exact a), q _ (.dat (.int _)) m G H ok.refl (Rp.int _) h⟩
  · obtain ⟨p, xs, rfl, a, b⟩ := r.tupV ok h1
    exact ⟨p, ns, rfl, .inr (by rw [← b.ints]; exact a), q _ (.dat (.int _)) m G H ok.refl (Rp.int _) h⟩
theorem cb_all {s : S} {bs : List Bool} (h1 : s.lst? = some (bs.map D.bl)) (h : Φ m (.dat (.bl (bs.all id)))) : CbS K W m (rAll K) [s] Φ := fun H0 G H vs ok rr Q q => by
  obtain ⟨v, rfl, r⟩ := relss1 rr
  obtain ⟨p, xs, rfl, a, b⟩ := r.lstV ok h1
  exact ⟨p, bs, rfl, by rw [← b.bools]; exact a, q _ (.dat (.bl _)) m G H ok.refl (Rp.bl _) h⟩
theorem cb_any {s : S} {bs : List Bool} (h1 : s.lst? = some (bs.map D.bl)) (h : Φ m (.dat (.bl (bs.any id)))) : CbS K W m (rAny K) [s] Φ := fun H0 G H vs ok rr Q q => by
  obtain ⟨v, rfl, r⟩ := relss1 rr
  obtain ⟨p, xs, rfl, a, b⟩ := r.lstV ok h1
  exact ⟨p, bs, rfl, by rw [← b.bools]; exact a, q _ (.dat (.bl _)) m G H ok.refl (Rp.bl _) h⟩
theorem cb_max2 {i j : Int} (h : Φ m (.dat (.int (max i j)))) : CbS K W m (fun xs H Q => ∃ i j, xs = [V.int i, V.int j] ∧ Q (.int (if j > i then j else i)) H) [.dat (.int i), .dat (.int j)] Φ := fun H0 G H vs ok rr Q q => by
  obtain ⟨v, v2, rfl, r, r2⟩ := relss2 rr
  cases r; cases r2
  have e : (if j > i then j else i) = max i j := by rw [Int.max_def]; split <;> split <;> omega
  exact ⟨i, j, rfl, by rw [e]; exact q _ (.dat (.int _)) m G H ok.refl (Rp.int _) h⟩
theorem cb_min2 {i j : Int} (h : Φ m (.dat (.int (min i j)))) : CbS K W m (fun xs H Q => ∃ i j, xs = [V.int i, V.int j] ∧ Q (.int (if j < i then j else i)) H) [.dat (.int i), .dat (.int j)] Φ := fun H0 G H vs ok rr Q q => by
  obtain ⟨v, v2, rfl, r, r2⟩ := relss2 rr
  cases r; cases r2
  have e : (if j < i then j else i) = min i j := by rw [Int.min_def]; split <;> split <;> omega
  exact ⟨i, j, rfl, by rw [e]; exact q _ (.dat (.int _)) m G H ok.refl (Rp.int _) h⟩
theorem cb_int {i : Int} (h : Φ m (.dat (.int i))) : CbS K W m (fun xs H Q => (∃ i, xs = [V.int i] ∧ Q (.int i) H) ∨ ∃ k, xs = [V.bl k] ∧ Q (.int (if k then 1 else 0)) H) [.dat (.int i)] Φ := fun H0 G H vs ok rr Q q => by
  obtain ⟨v, rfl, r⟩ := relss1 rr
  cases r
  exact .inl ⟨i, rfl, q _ (.dat (.int _)) m G H ok.refl (Rp.int _) h⟩
theorem cb_list {s : S} {ds : List D} (h1 : s.lst? = some ds ∨ s.tup? = some ds) (h : Φ m (.own (.lst ds))) : CbS K W m (fun xs H Q => ∃ p ys, xs = [V.ref p] ∧ (SqL K H p ys ∨ SqT K H p ys) ∧ ∀ l, H l = none → Q (.ref l) (upd H l (.lst ys))) [s] Φ := fun H0 G H vs ok rr Q q => by
  obtain ⟨v, rfl, r⟩ := relss1 rr
  rcases h1 with h1 | h1
  · obtain ⟨p, xs, rfl, a, b⟩ := r.lstV ok h1
    exact ⟨p, xs, rfl, .inl a, new_lst (H0 := H0) ok b h q⟩
  · obtain ⟨p, xs, rfl, a, b⟩ := r.tupV ok h1
    exact ⟨p, xs, rfl, .inr a, new_lst (H0 := H0) ok b h q⟩
theorem cb_tuple {s : S} {ds : List D} (h1 : s.lst? = some ds ∨ s = .dat (.tup ds)) (h : Φ m (.dat (.tup ds))) : CbS K W m (fun xs H Q => ∃ p ys, xs = [V.ref p] ∧ ((SqL K H p ys ∧ ∀ l, H l = none → Q (.ref l) (upd H l (.tup ys))) ∨ (SqT K H p ys ∧ Q (.ref p) H))) [s] Φ := fun H0 G H vs ok rr Q q => by
  obtain ⟨v, rfl, r⟩ := relss1 rr
  rcases h1 with h1 | h1
  · obtain ⟨p, xs, rfl, a, b⟩ := r.lstV ok h1
    exact ⟨p, xs, rfl, .inl ⟨a, new_tup (H0 := H0) ok b h q⟩⟩
  · subst h1
    obtain ⟨p, xs, rfl, a, b⟩ := r.tupV ok rfl
    exact ⟨p, xs, rfl, .inr ⟨a, q _ (.dat (.tup ds)) m G H ok.refl r h⟩⟩
theorem cb_dict {s : S} {ds : List (Key × D)} (h1 : s.dic? = some ds) (h : Φ m (.own (.dK ds))) : CbS K W m (fun xs H Q => ∃ (a : Addr) (kvs : List (Key × V)), xs = [V.ref a] ∧ Rd H a (.dK kvs) ∧ ∀ p, H p = none → Q (.ref p) (upd H p (.dK kvs))) [s] Φ := fun H0 G H vs ok rr Q q => by
  obtain ⟨v, rfl, r⟩ := relss1 rr
  obtain ⟨p, kvs, rfl, a, k, b⟩ := r.dicV ok h1
  exact ⟨p, kvs, rfl, a, fun l hl => q (.ref l) (.own (.dK ds)) m G _ (Grow.new ok hl) ⟨l, rfl, hl, fresh_back ok.ex hl, fun m => W.has _ _ _ ok.inv m hl, kvs, upd_same, k, b⟩ h⟩
/-- the sorted list of ints -/
def srt (ks : List Int) : List Int := ks.mergeSort fun a b => decide (a ≤ b)
theorem srt_perm (ks : List Int) : (srt ks).Perm ks := List.mergeSort_perm ks _
theorem srt_sorted (ks : List Int) : (srt ks).Pairwise (· ≤ ·) := by
  have := List.pairwise_mergeSort (le := fun a b : Int => decide (a ≤ b)) (fun a b c h1 h2 => by simp at *; omega) (fun a b => by simp; omega) ks
  exact this.imp fun h => by simpa using h
theorem srt_uniq {ys ks : List Int} (p : ys.Perm ks) (s : ys.Pairwise (· ≤ ·)) : ys = srt ks :=
  (p.trans (srt_perm ks).symm).eq_of_pairwise (fun a b _ _ h1 h2 => Int.le_antisymm h1 h2) s (srt_sorted ks)
theorem cb_sortedK {s : S} {ds : List (Key × D)} {ks : List Int} (h1 : s.dic? = some ds) (hk : ds.map (·.1) = ks.map Sum.inl) (h64 : ks.length < 64) (h : Φ m (.own (.lst ((srt ks).map D.int)))) : CbS K W m (fun xs H Q => ∃ (a : Addr) (kvs : List (Key × V)) (ks : List Int), xs = [V.ref a] ∧ Rd H a (.dK kvs) ∧ kvs.map (·.1) = ks.map Sum.inl ∧ ks.length < 64 ∧
    ∀ (ys : List Int) (p : Addr), ys.Perm ks → ys.Pairwise (· ≤ ·) → H p = none → Q (.ref p) (upd H p (.lst (ys.map V.int)))) [s] Φ := fun H0 G H vs ok rr Q q => by
  obtain ⟨v, rfl, r⟩ := relss1 rr
  obtain ⟨p, kvs, rfl, a, k, b⟩ := r.dicV ok h1
  exact ⟨p, kvs, ks, rfl, a, k.trans hk, h64, fun ys l pm st hl => new_lst (H0 := H0) ok (by rw [srt_uniq pm st]; exact RpL.ofInts _) h q l hl⟩
/-- a value's type -/
def D.ty : D → String
  | .non => "NoneType" | .bl _ => "bool" | .int _ => "int" | .str _ => "str" | .lst _ => "list" | .tup _ => "tuple" | .dic _ => "dict" | .dit _ => "dict" | .scr _ => "list"
theorem Rp.tyx {d : D} (ok : Ok W m G H) (r : Rp K G v d) (hd : ∀ ds, d ≠ .dit ds) : TyX K H v (.type d.ty) := by
  cases r with
  | non => exact .base .non
  | bl b => exact .base (.bl b)
  | int i => exact .base (.int i)
  | str x => exact .base (.str x)
  | lst a b => exact .base (.lst (ok.ex _ _ a))
  | tup a b => exact .base (.tup (ok.ex _ _ a))
  | dic a k b =>
    rcases ex_rd ok.ex a with a | ⟨o, a⟩
    · exact .base (.dK a)
    · exact .fDict a
  | dit a k b => exact absurd rfl (hd _)
  | scr a =>
    rcases ex_l ok.ex a with a | ⟨o, its, n, a, b, _⟩
    · rcases a with a | ⟨o, a⟩
      · exact .base (.lst a)
      · exact .base (.frz a)
    · exact .kList a b
theorem cb_isi {d : D} {T : String} {b : Bool} (hd : ∀ ds, d ≠ .dit ds) (hb : kitB d.ty T = some b) (h : Φ m (.dat (.bl b))) : ∀ H0 G H vs, Ok W m G H → (∃ v, vs = [v, V.ty T] ∧ RelS K W H0 G H v (.dat d)) → ∀ Q : VK, (∀ v s m' G' H', Grow W G H m' G' H' → RelS K W H G' H' v s → Φ m' s → Q v H') → rIsi K vs H Q := fun H0 G H vs ok ⟨v, e, r⟩ Q q => by
  subst e
  exact ⟨v, .ty T, _, _, b, rfl, .ty T, Rp.tyx ok r hd, kit_ty hb, q _ (.dat (.bl b)) m G H ok.refl (Rp.bl b) h⟩
end
section
variable {c : Cc} {ρ : List S} {Φ : Nat → S → Prop} {te : TE}
/-- isinstance(e, T) -/
theorem de_isi {T : String} (h : De c m te ρ fun m s => ∃ d b, s = .dat d ∧ (∀ ds, d ≠ .dit ds) ∧ kitB d.ty T = some b ∧ Φ m (.dat (.bl b))) : De c m (tCB (rIsi c.K) (tCons te (tCons (tC (.ty T)) tNil))) ρ Φ := fun σ G H e Q q =>
  h σ G H e _ fun v s m1 G1 H1 g1 r1 ⟨d, b, es, hd, hb, p⟩ => by
    subst es
    exact cb_isi hd hb p H G1 H1 _ (e.grow g1).ok ⟨v, rfl, r1⟩ Q fun v s m' G' H' g r p => q v s m' G' H' (g1.trans g) (r.back g1) p
/-- d[k] -/
theorem de_dget {td ty : TE} (h : De c m td ρ fun m s => De c m ty ρ fun m s2 => ∃ ds k d, s.dic? = some ds ∧ s2 = .dat (keyD k) ∧ valD ds k = some d ∧ Φ m (.dat d)) : De c m (tDGet td ty) ρ Φ := fun σ G H e Q q =>
  h σ G H e _ fun v s m1 G1 H1 g1 r1 h1 => h1 σ G1 H1 (e.grow g1) _ fun v2 s2 m2 G2 H2 g2 r2 ⟨ds, k, d, hs, es, hv, p⟩ => by
    subst es
    have e2 := (e.grow g1).grow g2
    obtain ⟨a, kvs, rfl, hd, hk, rv⟩ := (r1.grow g2).dicV e2.ok hs
    have ek : v2 = kV k := by
      have r2 : Rp c.K G2 v2 (keyD k) := r2
      cases k <;> (cases r2; rfl)
    subst ek
    rcases rpk_val k hk rv with ⟨_, z⟩ | ⟨w, d', z1, z2, z3⟩
    · rw [hv] at z; cases z
    · rw [hv] at z2
      cases z2
      exact ⟨a, w, rfl, .inl ⟨kvs, k, hd, rfl, z1.symm⟩, q w (.dat d) m2 G2 H2 (g1.trans g2) z3 p⟩
/-- k in d -/
theorem de_din {td ty : TE} (h : De c m ty ρ fun m s2 => De c m td ρ fun m s => ∃ ds k, s.dic? = some ds ∧ s2 = .dat (keyD k) ∧ Φ m (.dat (.bl (valD ds k).isSome))) : De c m (tDIn ty td) ρ Φ := fun σ G H e Q q =>
  h σ G H e _ fun v2 s2 m1 G1 H1 g1 r2 h1 => h1 σ G1 H1 (e.grow g1) _ fun v s m2 G2 H2 g2 r1 ⟨ds, k, hs, es, p⟩ => by
    subst es
    have e2 := (e.grow g1).grow g2
    obtain ⟨a, kvs, rfl, hd, hk, rv⟩ := r1.dicV e2.ok hs
    have ek : v2 = kV k := by
      have r2 : Rp c.K G1 v2 (keyD k) := r2
      cases k <;> (cases r2; rfl)
    subst ek
    have ev : (valV kvs k).isSome = (valD ds k).isSome := by
      rcases rpk_val k hk rv with ⟨z1, z2⟩ | ⟨w, d', z1, z2, _⟩
      · rw [z1, z2]; rfl
      · rw [z1, z2]; rfl
    exact ⟨a, _, rfl, .inl ⟨kvs, k, hd, rfl, rfl⟩, by rw [ev]; exact q _ (.dat (.bl _)) m2 G2 H2 (g1.trans g2) (Rp.bl _) p⟩
theorem de_dnew (h : Φ m (.own (.dK []))) : De c m tDNewK ρ Φ := fun σ G H e Q q p hp =>
  q (.ref p) (.own (.dK [])) m G _ (Grow.new e.ok hp) ⟨p, rfl, hp, fresh_back e.ok.ex hp, fun m => c.W.has _ _ _ e.ok.inv m hp, [], upd_same, rfl, .nil⟩ h
variable {N B C : Nat → List S → Prop} {R : Nat → S → Prop}
/-- d[k] = e, d one's own -/
theorem ds_dput {i : Nat} {ds : List (Key × D)} {ty tv : TE} (hi : ρ[i]? = some (.own (.dK ds))) (nv : noVw ρ = true) (hl : ds.length < 1000000) (h : De c m tv ρ fun m s => De c m ty ρ fun m s2 => ∃ d k, s.frz = .dat d ∧ s2 = .dat (keyD k) ∧ N m (ρ.set i (.own (.dK (putD ds k d))))) : Ds c m (sDPut (tVar i) ty tv) ρ N R B C := fun D σ G H e k1 _ _ _ =>
  h σ G H e _ fun v s m1 G1 H1 g1 r1 h1 => by
    rcases e.at_ i _ hi with z | ⟨w, a, r⟩
    · cases z
    · obtain ⟨p, rfl, h0, n, m, kvs, hx, hk, rx⟩ := id r
      obtain ⟨G1', g1', r1', x1, _⟩ := r1.freezeX g1
      refine ⟨_, a, h1 σ G1' H1 (e.grow g1') _ fun v2 s2 m2 G2 H2 g2 r2 ⟨d, k, es, es2, hn⟩ => ?_⟩
      rw [es] at r1'
      subst es2
      have ek : v2 = kV k := by
        have r2 : Rp c.K G2 v2 (keyD k) := r2
        cases k <;> (cases r2; rfl)
      subst ek
      have e2 := (e.grow g1').grow g2
      have hx2 := (g1'.trans g2).keep _ _ m hx
      have hp := rpk_put (k := k) hk (rx.mono (g1'.trans g2).ex) (Rp.mono g2.ex r1')
      have hll : kvs.length = ds.length := by
        have := congrArg List.length hk
        rwa [List.length_map, List.length_map] at this
      exact ⟨p, _, rfl, .inl ⟨kvs, k, hx2, rfl, szl (by rw [hll]; exact hl), rfl⟩, k1 _ σ m2 G2 _ hn (g1'.trans g2).ex (e2.mut hi a (noVw_ok nv) ⟨_, upd_same, hp.1, hp.2⟩)⟩
end
end DL
set_option Elab.async false
set_option linter.all false
set_option maxRecDepth 100000
set_option maxHeartbeats 1000000
namespace DL
open PySem PySem.Spec PyProof.Rows L2 Evl
variable {m : Nat}
/-! ### own exceptions with fields -/
/-- __init__(self, f1, ..): self.f1 = f1; .. -/
def spX (C : Addr) : List Str → Sp := fun fs vs H Q _ => ∃ (a : Addr) (ws : List V), vs = .ref a :: ws ∧ ws.length = fs.length ∧ H a = some (exo a C none) ∧ ∀ dx, H dx = none → dx ≠ a → Q .non (upd (upd H dx (exd dx (fs.zip ws).reverse)) a (exo a C (some dx)))
structure Xc (P : Program) (w : World) (K : PySem.W.Frag) (mg : Str → Option Value) (base : Heap) (x : Str) (C : Addr) (fs : List Str) : Prop where
  oex : OexC K C
  xf : XfC K C
  gC : mg x = some (.ref C)
  te : PySem.W.exmOne K (.ref C) (.ref C) = some true
  ini : ∃ (fI : Addr) (fd : FuncData), PySem.W.findIn K (.ref C) "__init__" = some (some (.ref fI)) ∧ PySem.W.typeIn K (.ref fI) = some (.type "function") ∧ FnOk P w K mg base CX0 1 fI fd ("self" :: fs) (spX C fs) ∧ Binds K fd ("self" :: fs) []
  noat : ∀ f ∈ fs, PySem.W.findIn K (.ref C) f = some none
section
variable {X : Cx} {x : Str} {C : Addr} {fs : List Str} {j : Nat} {E : XK} {e : Expr} {es : List Expr} {p pos pos2 : Pos} {ta : TA}
def tRz (C : Addr) (fs : List Str) (E : XK) (ta : TA) : TS := fun _ σ H => tMkO C (spX C fs) [] ta σ H fun cls d H' => (fun (cls : Value) (d : Option Addr) (_ : L2.St) (H : Hp) => E cls d H) cls d σ H'
theorem raiseX (T : Xc X.prog X.w X.K X.mg X.base x C fs) (hr : Room j X.A) (tk : Takes X (fun cls d _ H => E cls d H)) (ha : PA X (e :: es) ta) (hj : 2 ≤ j := by decide) (hc : X.calm = true := by rfl) (hg : Gl X x := by rfl)
    (hdb : (x == ("__debug__" : Str)) = false := by decide) (he : starEach (e :: es) X.env = (false, eval e X.env) :: starEach es X.env := by rfl) (hpl : (backTo pos (starEach es X.env)).any (·.1) = false := by rfl) :
    PS X (.Raise (some (.Call (.Name x p) (e :: es) [] pos)) none pos2) (tRz C fs E ta) := by
  obtain ⟨fI, fd, h1, h2, h3, h4⟩ := T.ini
  exact ps_raise hc tk (pmk_oex T.oex h1 h2 h3 (hr.mono hj) h4 .nil pass0 hg T.gC ha hdb he hpl)
end
theorem upd_del {H : Hp} {a d : Addr} {o o1 o2 o3 : HO} (ha : H a = none) (ne : d ≠ a) : upd (del (upd (upd (upd H a o1) d o2) a o3) a) d o = upd H d o := by
  funext b
  by_cases h1 : b = d
  · rw [h1, upd_same, upd_same]
  · rw [upd_ne h1, upd_ne h1]
    by_cases h2 : b = a
    · rw [h2, del_same, ha]
    · rw [del_ne h2, upd_ne h2, upd_ne h1, upd_ne h2]
theorem zip_keys {α : Type} : ∀ {fs : List Str} {ws : List α}, ws.length = fs.length → (fs.zip ws).map (·.1) = fs ∧ (fs.zip ws).map (·.2) = ws
  | [], [], _ => ⟨rfl, rfl⟩
  | [], _ :: _, h => by simp at h
  | _ :: _, [], h => by simp at h
  | f :: fs, w :: ws, h => by
    obtain ⟨a, b⟩ := zip_keys (fs := fs) (ws := ws) (by simpa using h)
    simp [a, b]
theorem RpL.reverse {K : PySem.W.Frag} {G : Hp} : ∀ {vs : List V} {ds : List D}, RpL K G vs ds → RpL K G vs.reverse ds.reverse
  | _, _, .nil => .nil
  | _, _, .cons h r => by
    rw [List.reverse_cons, List.reverse_cons]
    exact (RpL.reverse r).append (.one h)
section
variable {c : Cc} {ρ : List S} {ta : TA} {N B C' : Nat → List S → Prop} {R : Nat → S → Prop} {C : Addr} {fs : List Str}
theorem ds_raise (h : DA c m ta ρ fun m ss => ∃ ds : List D, ss = ds.map S.dat ∧ ds.length = fs.length ∧ ds.length ≤ 1000 ∧ c.Ξ m C (fs.zip ds).reverse) : Ds c m (tRz C fs c.E ta) ρ N R B C' := fun D σ G H e _ _ _ _ => h σ G H e _ fun vs ss m1 G1 H1 g1 r1 ⟨ds, es, hl, hk, hx⟩ => by
  subst es
  have r2 := relss_dat r1
  have e1 := e.grow g1
  refine ⟨by rw [r2.length]; exact hk, fun a ha => ⟨a, vs, by rw [List.append_nil], by rw [r2.length]; exact hl, upd_same, fun dx hdx ne => ?_⟩⟩
  have hd1 : H1 dx = none := by
    rw [upd_ne ne] at hdx
    exact hdx
  refine ⟨rfl, dx, _, upd_same, by rw [upd_ne ne]; exact upd_same, hd1, ?_⟩
  rw [upd_del ha ne]
  have hlen : vs.length = fs.length := by rw [r2.length]; exact hl
  obtain ⟨k1, k2⟩ := zip_keys hlen
  obtain ⟨k3, k4⟩ := zip_keys hl
  refine e1.excq C dx _ (fs.zip ds).reverse m1 G1 _ (Grow.new e1.ok hd1) (fresh_back e1.ok.ex hd1) (fun m => c.W.has _ _ _ e1.ok.inv m hd1) upd_same ?_ ?_ hx
  · rw [List.map_reverse, List.map_reverse, k1, k3]
  · rw [List.map_reverse, List.map_reverse, k2, k4]
    exact r2.reverse
/-- try: return f(..) / except X as e: suite -/
theorem ds_tryRet {i : Nat} {F : Fc} {cls : Value} {ts : Addr → Value → Option Addr → TS} {tr : TA} {Wout : WX} (Ξ' : Xp)
    (h : DA c m tr ρ fun m ss => ss.all argS = true ∧ F c.W m ss R Ξ')
    (hx : ∀ m C fs, Ξ' m C fs → PySem.W.exmOne c.K (.ref C) cls = some true ∧ ∀ a d, Ds c m (ts a (.ref C) (some d)) (ρ.set i (.xc C a d fs)) (fun m ρ' => N m (ρ'.set i .no)) R (fun m ρ' => B m (ρ'.set i .no)) (fun m ρ' => C' m (ρ'.set i .no))) :
    Ds c m (fun D σ H => tRet (tCallS (spF c.K F) (WE (wAs c.K cls i ts Wout D)) tr) D σ H) ρ N R B C' := fun D σ G H e k1 k2 k3 k4 => h σ G H e _ fun vs ss m1 G1 H1 g1 r1 ⟨ha, hf⟩ => by
  have e1 := e.grow g1
  refine ⟨c.W, m1, G1, ss, R, Ξ', e1.ok, relss_arg r1 ha, ha, hf, fun v s m' G' H' g r p => k2 s v m' G' H' p (e1.gr.trans g) (r.back e1.gr), fun C d fv fs m' G' H' g nd md hd hk hr hq => ?_⟩
  obtain ⟨hm, hs⟩ := hx m' C fs hq
  refine ⟨true, hm, fun _ a _ => ?_, fun z => by cases z⟩
  have e2 := e1.grow g
  have e3 : EnvOk c m' G' H' (σ.set i (some (.ref a))) (ρ.set i (.xc C a d fs)) := e2.set (s := .xc C a d fs) ⟨rfl, nd, md, fv, hd, hk, hr⟩ fun o p z => by cases z
  exact hs a d _ _ G' H' e3 (fun ρ' σ' m2 G2 H2 n x e' => k1 _ _ m2 G2 H2 n ((g1.ex.trans g.ex).trans x) (e'.unset none)) k2 (fun ρ' σ' m2 G2 H2 n x e' => k3 _ _ m2 G2 H2 n ((g1.ex.trans g.ex).trans x) (e'.unset none)) (fun ρ' σ' m2 G2 H2 n x e' => k4 _ _ m2 G2 H2 n ((g1.ex.trans g.ex).trans x) (e'.unset none))
/-- e.f in the suite -/
theorem de_xf {i : Nat} {a C d : Addr} {fs : List (Str × D)} {f : Str} {v : D} {Φ : Nat → S → Prop} (hi : ρ[i]? = some (.xc C a d fs)) (hv : fs.lookup f = some v) (h : Φ m (.dat v)) : De c m (tXf a (.ref C) (some d) C f (tVar i)) ρ Φ := fun σ G H e Q q => by
  rcases e.at_ i _ hi with z | ⟨w, aw, ew, n, nm, fv, hd, hk, hr⟩
  · cases z
  · subst ew
    have key : ∀ {fv : List (Str × V)} {fs : List (Str × D)}, fv.map (·.1) = fs.map (·.1) → RpL c.K G (fv.map (·.2)) (fs.map (·.2)) → fs.lookup f = some v → ∃ w, fv.lookup f = some w ∧ Rp c.K G w v := by
      intro fv
      induction fv with
      | nil =>
        intro fs h1 h2 h3
        cases fs with
        | nil => cases h3
        | cons _ _ => cases h1
      | cons p fv ih =>
        intro fs h1 h2 h3
        cases fs with
        | nil => cases h1
        | cons q fs =>
          rw [List.map_cons, List.map_cons] at h1 h2
          obtain ⟨h4, h5⟩ := List.cons.inj h1
          obtain ⟨f1, v1⟩ := p
          obtain ⟨f2, v2⟩ := q
          have h4 : f1 = f2 := h4
          subst h4
          cases h2 with
          | cons r1 r2 =>
            by_cases z : f = f1
            · subst z
              have e1 : List.lookup f ((f, v2) :: fs) = some v2 := by simp [List.lookup]
              rw [e1] at h3
              cases h3
              exact ⟨v1, by simp [List.lookup], r1⟩
            · have zb : (f == f1) = false := by simpa using z
              have e1 : List.lookup f ((f1, v2) :: fs) = List.lookup f fs := by simp [List.lookup, zb]
              rw [e1] at h3
              obtain ⟨w, hw, rw'⟩ := ih h5 r2 h3
              exact ⟨w, by simp [List.lookup, zb]; exact hw, rw'⟩
    obtain ⟨w, hw, rw'⟩ := key hk hr hv
    exact ⟨_, aw, rfl, rfl, d, fv, w, rfl, hd, hw, q w (.dat v) m G H e.refl rw' h⟩
end
/-! ### a comprehension over a dict -/
section
variable {c : Cc} {ρ : List S} {Φ : Nat → S → Prop} {te : TE} {g : TG} {vs : List Nat}
theorem de_lcK {i : Nat} {ds : List (Key × D)} (f : D → D) (hi : ρ[i]? = some (.dat (.dic ds))) (hL : ∀ a, ¬ c.W.L a) (hl : ds.length < 1000000)
    (h : ∀ (d : Addr) (E : XK) (Ξ : Xp) (G1 H1 : Hp) (p : Key × D), p ∈ ds → ∃ ρ', DG ⟨c.K, lockW c.W d, E, Ξ, m, G1, H1⟩ m g vs (keyD p.1) (wipeS (rdAll ρ) vs) ρ' ∧ De ⟨c.K, lockW c.W d, E, Ξ, m, G1, H1⟩ m te ρ' fun m' s => m' = m ∧ s.frz = .dat (f (keyD p.1)))
    (hΦ : Φ m (.own (.lst (ds.map fun p => f (keyD p.1))))) : De c m (tLockE (tLc (iKeys (tVar i)) g tYes te vs)) ρ Φ :=
  de_lock hi hL fun G1 H1 d o kvs hk hd σ e hσ Q q => di_keys (K := c.K) (W := lockW c.W d) hk hd (e.ok.ex _ _ hd) hσ fun J it => fun Dd hD =>
    lc_run (c := ⟨c.K, lockW c.W d, fun _ _ _ => True, fun _ _ _ => True, m, G1, H1⟩) (tt := tYes) (te := te) (g := g) (vs := vs) e e.refl it q (by simpa using hl) (fun i m2 acc => m2 = m ∧ acc = ((ds.map fun p => keyD p.1).take i).map f) (by simp)
      (fun i x m2 acc hx ⟨em, ha⟩ => by
        subst em
        obtain ⟨p, hp, rfl⟩ : ∃ p, p ∈ ds ∧ x = keyD p.1 := by
          rw [List.getElem?_map] at hx
          cases hj : ds[i]? with
          | none => rw [hj] at hx; cases hx
          | some p => rw [hj] at hx; cases hx; exact ⟨p, List.mem_of_getElem? hj, rfl⟩
        obtain ⟨ρ', h3, h4⟩ := h d _ _ G1 H1 p hp
        refine ⟨ρ', h3, dt_yes ⟨fun _ => h4.imp fun m3 s ⟨em, hs⟩ => ⟨f (keyD p.1), hs, em, ?_⟩, fun z => by cases z⟩⟩
        show acc ++ [f (keyD p.1)] = ((ds.map fun p => keyD p.1).take (i + 1)).map f
        rw [ha, List.take_add_one, hx]
        simp)
      (fun m2 acc ⟨em, ha⟩ => by
        subst em
        have e : acc = ds.map fun p => f (keyD p.1) := by
          rw [ha, List.take_length, List.map_map]
          rfl
        rw [e]
        exact hΦ) Dd hD
end
/-! ### list or tuple -/
section
variable {X : Cx} {tg l : Expr} {tl : TE}
def iSeq (K : PySem.W.Frag) (tl : TE) : TI := fun σ H R => tl σ H fun x H1 => ∃ a, x = .ref a ∧ ((∃ xs, SqL K H1 a xs ∧ R (Itl K a) H1) ∨ ∃ xs, SqT K H1 a xs ∧ R (Itt K a) H1)
theorem pi_seq (hl : PE X l tl) : PI X tg l (iSeq X.K tl) := ⟨fun pins s σ H R I h => by
  have key := hl.run pins s σ H _ I h
  refine thn key fun v s1 ⟨x, H1, I1, r1, a, ex, hh⟩ => ?_
  subst ex
  obtain rfl : v = Value.ref a := r1
  rcases hh with ⟨xs, hx, hR⟩ | ⟨xs, hx, hR⟩
  · obtain ⟨its, rv, pl, _⟩ := I1.list hx
    exact wpAny_pyIter_list pl.isList (pi_one I1 _ (turn_list a s1.heap.objs.size) ⟨_, Heap.get?_push_size _ rfl, rfl, rfl⟩ hR)
  · obtain ⟨its, rv, pl, _⟩ := I1.tuple hx
    exact wpAny_pyIter_tuple (show s1.heap.IsTuple a its.toArray from pl) (pi_one I1 _ (turn_tuple a s1.heap.objs.size) ⟨_, Heap.get?_push_size _ rfl, rfl, rfl⟩ hR)⟩
end
section
variable {c : Cc} {ρ : List S} {te : TE} {Φ : Nat → List D → Prop}
def S.seq? : S → Option (List D)
  | .dat (.lst ds) => some ds
  | .dat (.tup ds) => some ds
  | .dat (.scr ns) => some (ns.map .int)
  | _ => none
theorem di_seq (h : De c m te ρ fun m s => ∃ ds, s.frz.seq? = some ds ∧ Φ m ds) : DI c m (iSeq c.K te) ρ Φ := fun σ G H e R q => h σ G H e _ fun v s m1 G1 H1 g1 r1 ⟨ds, hs, p⟩ => by
  obtain ⟨G2, g2, r2⟩ := r1.freeze g1
  cases hz : s.frz with
  | dat d =>
    rw [hz] at hs r2
    cases d <;> first | cases hs | skip
    · obtain ⟨a, xs, rfl, hx, rx⟩ := r2.dlst (ds := ds) rfl
      exact ⟨a, rfl, .inl ⟨xs, ex_l g2.sub hx, q _ ds m1 G2 H1 g2 (itd_list' hx rx) p⟩⟩
    · have r2 : Rp c.K G2 v (.tup ds) := r2
      cases r2 with
      | tup hx rx => exact ⟨_, rfl, .inr ⟨_, SqT.of (g2.sub _ _ hx), q _ ds m1 G2 H1 g2 (itd_tup (SqT.of hx) rx) p⟩⟩
    · obtain ⟨a, xs, rfl, hx, rx⟩ := r2.dlst (ds := _) rfl
      exact ⟨a, rfl, .inl ⟨xs, ex_l g2.sub hx, q _ _ m1 G2 H1 g2 (itd_list' hx rx) p⟩⟩
  | no => rw [hz] at hs; cases hs
  | own o => rw [hz] at hs; cases hs
  | vw o => rw [hz] at hs; cases hs
  | at_ a => rw [hz] at hs; cases hs
  | xc _ _ _ _ => rw [hz] at hs; cases hs
end
end DL
set_option Elab.async false
set_option linter.all false
set_option maxRecDepth 100000
set_option maxHeartbeats 1000000
namespace DL
open PySem PySem.Spec PyProof.Rows L2 Evl
variable {m : Nat}
/-! ### zip of two lists or tuples, in any mixture -/
inductive SK | l | t
def SqK (K : PySem.W.Frag) (H : Hp) : SK → Addr → List V → Prop
  | .l => SqL K H
  | .t => SqT K H
def IterK (h : Heap) : SK → Addr → Addr → Nat → Prop
  | .l => h.IsListIter
  | .t => h.IsTupleIter
def SeqK (h : Heap) : SK → Addr → Array Value → Prop
  | .l => h.IsList
  | .t => h.IsTuple
def objK : SK → Addr → Obj
  | .l, a => { cls := .type "list_iterator", data := .fields #[.ref a, .int 0 0] }
  | .t, a => { cls := .type "tuple_iterator", data := .fields #[.ref a, .int 0 0] }
theorem drawsK {prog : Program} {w : World} {A : Around} (k : SK) (hh : A.handled = none) (it l : Addr) (hne : l ≠ it) (items : Array Value) :
    Draws prog w A it [it, l] items.size (fun i v => items[i]? = some v) (fun i h => IterK h k it l i ∧ SeqK h k l items) := by
  cases k with
  | l => exact Draws.list hh it l hne items
  | t => exact Draws.tuple hh it l hne items
theorem beginsK (k : SK) (l : Addr) (items : Array Value) : Begins (.ref l) (objK k l) fun h => SeqK h k l items := by
  cases k with
  | l => exact begins_list l items
  | t => exact begins_tuple l items
theorem seqK_at {k : SK} {X : Cx} {pins : List (Addr × Obj)} {σ : L2.St} {H : Hp} {s : Shared} {a : Addr} {xs : List V} (I : Inv X pins σ H s) (h : SqK X.K H k a xs) : ∃ its : List Value, Vals xs its ∧ SeqK s.heap k a its.toArray := by
  cases k with
  | l => obtain ⟨its, r, p, _⟩ := I.list h; exact ⟨its, r, p.isList⟩
  | t => obtain ⟨its, r, p, _⟩ := I.tuple h; exact ⟨its, r, p⟩
theorem seqK_inj {k : SK} {X : Cx} {pins : List (Addr × Obj)} {σ : L2.St} {H : Hp} {s : Shared} {a : Addr} {xs ys : List V} (I : Inv X pins σ H s) (h : SqK X.K H k a xs) (h' : SqK X.K H k a ys) : xs = ys := by
  cases k with
  | l => exact I.list_inj h h'
  | t => exact I.tuple_inj h h'
theorem iterK_obj {h : Heap} {k : SK} {it l : Addr} {i : Nat} (q : IterK h k it l i) : ∃ o, h.get? it = some o ∧ ∀ v, o.data ≠ .cell v := by
  cases k with
  | l => obtain ⟨o, e, _, d⟩ := q; exact ⟨o, e, fun v z => by rw [d] at z; cases z⟩
  | t => obtain ⟨o, e, _, d⟩ := q; exact ⟨o, e, fun v z => by rw [d] at z; cases z⟩
theorem iterK_keep {h h' : Heap} {k : SK} {it l : Addr} {i : Nat} (q : IterK h k it l i) (kp : ∀ o, h.get? it = some o → h'.get? it = some o) : IterK h' k it l i := by
  cases k with
  | l => exact q.at kp
  | t => exact q.at kp
def ItS (K : PySem.W.Frag) (k1 k2 : SK) (a b : Addr) : It :=
  ⟨fun i H => ∃ (xs ys : List V) (x y : V), SqK K H k1 a xs ∧ SqK K H k2 b ys ∧ xs[i]? = some x ∧ ys[i]? = some y,
   fun i H v H' => ∃ T x y, v = .ref T ∧ H T = none ∧ H' = upd H T (.tup [x, y]) ∧ (∀ xs, SqK K H k1 a xs → xs[i]? = some x) ∧ ∀ ys, SqK K H k2 b ys → ys[i]? = some y,
   fun i H => ∃ xs ys : List V, SqK K H k1 a xs ∧ SqK K H k2 b ys ∧ i = min xs.length ys.length⟩
abbrev ZipSt (z TI TO i1 i2 a b : Addr) (k1 k2 : SK) (i : Nat) (h : Heap) : Prop := IsZip h z TI TO .none ∧ IsTupOf2 h TI (.ref i1) (.ref i2) ∧ (∃ a1 a2, IsTupOf2 h TO a1 a2) ∧ IterK h k1 i1 a i ∧ IterK h k2 i2 b i
theorem turn_zipS {P : Program} {w : World} {K : PySem.W.Frag} {elts : List Expr} {kk : Nat} {tpos : Pos} {k1 k2 : SK} {a b z TI TO i1 i2 : Addr} (S : ZipSep2 z TI TO i1 i2 [i1, a] [i2, b]) (ha : a ≠ i1) (hb : b ≠ i2) :
    Turn P w K (.Tuple elts kk tpos) (ItS K k1 k2 a b) [z, TI, TO, i1, i2] z (ZipSt z TI TO i1 i2 a b k1 k2) where
  mem := by simp
  obj := fun i h st c hc => by
    obtain ⟨hz, hTI, ⟨x, y, hTO⟩, h1, h2⟩ := st
    simp only [List.mem_cons, List.not_mem_nil, or_false] at hc
    rcases hc with rfl | rfl | rfl | rfl | rfl
    · exact ⟨_, hz, fun v q => nomatch q⟩
    · exact ⟨_, hTI, fun v q => nomatch q⟩
    · exact ⟨_, hTO, fun v q => nomatch q⟩
    · exact iterK_obj h1
    · exact iterK_obj h2
  keep := fun i h h' st k => by
    obtain ⟨hz, hTI, ⟨x, y, hTO⟩, h1, h2⟩ := st
    exact ⟨k z (by simp) _ hz, k TI (by simp) _ hTI, ⟨x, y, k TO (by simp) _ hTO⟩, iterK_keep h1 fun o q => k i1 (by simp) o q, iterK_keep h2 fun o q => k i2 (by simp) o q⟩
  item := by
    intro X hP hw hK hc i pins s σ H E I hf st hg
    subst hP hw hK
    obtain ⟨xs, ys, x, y, hqx, hqy, hx, hy⟩ := hg
    obtain ⟨its, rv, p1⟩ := seqK_at I hqx
    obtain ⟨its2, rv2, p2⟩ := seqK_at I hqy
    obtain ⟨u, hu, ru⟩ := rv.get hx
    obtain ⟨u2, hu2, ru2⟩ := rv2.get hy
    have hh : X.A.in1.handled = none := I.ok.hd hc
    have W := GoesN.zip2 (prog := X.prog) (w := X.w) (A := X.A) (elts := elts) (x1 := kk) (pos := tpos) S (drawsK k1 hh i1 a ha its.toArray) (drawsK k2 hh i2 b hb its2.toArray)
    obtain ⟨hz, hTI, hTO, h1, h2⟩ := st
    have hi : i < min its.toArray.size its2.toArray.size := by
      have q1 := (List.getElem?_eq_some_iff.mp hu).1
      have q2 := (List.getElem?_eq_some_iff.mp hu2).1
      simp only [List.size_toArray]
      omega
    refine W.goes i s (fun v s2 => ∃ x H', Inv X pins σ H' s2 ∧ RelV x v ∧ (ItS X.K k1 k2 a b).yld i H x H' ∧ ZipSt z TI TO i1 i2 a b k1 k2 (i + 1) s2.heap ∧ ∀ c ∈ [z, TI, TO, i1, i2], H' c = none) E hi ⟨hz, hTI, hTO, ⟨h1, p1⟩, ⟨h2, p2⟩⟩ fun v h' tk hY st' hk htk => ?_
    obtain ⟨T, x', y', rfl, hT, hx', hy', tup⟩ := hY
    have ex : x' = u := by
      have hx' : its.toArray[i]? = some x' := hx'
      rw [show its.toArray[i]? = its[i]? by simp, hu] at hx'
      exact (Option.some.inj hx').symm
    have ey : y' = u2 := by
      have hy' : its2.toArray[i]? = some y' := hy'
      rw [show its2.toArray[i]? = its2[i]? by simp, hu2] at hy'
      exact (Option.some.inj hy').symm
    subst ex ey
    obtain ⟨hz', hTI', hTO', ⟨h1', _⟩, ⟨h2', _⟩⟩ := st'
    have new : ObjOk X.prog X.w (upd H T (.tup [x, y])) h' T (.tup [x, y]) := by
      obtain ⟨o, ho, hcl, n, hd⟩ := tup
      exact ⟨by show 2 ≤ sizeLine; decide, [x', y'], .cons ru (.cons ru2 .nil), ⟨o, ho, hcl, n, hd⟩⟩
    have I1 : Inv X pins σ (upd H T (.tup [x, y])) { s with heap := h', toks := tk } := I.turnedNew (t' := tk) (ch := [z, TI, TO, i1, i2]) (fun c o hb' q => hk c o (fun z' => hb' (by simp at z' ⊢; rcases z' with z' | z' | z' | z' <;> simp [z'])) q) hf hT new
    refine ⟨.ref T, _, I1, rfl, ⟨T, x, y, rfl, I.hok.fresh hT, rfl, fun l hl => by rw [seqK_inj I hl hqx]; exact hx, fun l hl => by rw [seqK_inj I hl hqy]; exact hy⟩, ⟨hz', hTI', hTO', h1', h2'⟩, fun c hcm => ?_⟩
    have hlt : c < s.heap.objs.size := by
      simp only [List.mem_cons, List.not_mem_nil, or_false] at hcm
      rcases hcm with rfl | rfl | rfl | rfl | rfl
      · exact Heap.lt_size hz
      · exact Heap.lt_size hTI
      · obtain ⟨_, _, q⟩ := hTO; exact Heap.lt_size q
      · obtain ⟨_, q, _⟩ := iterK_obj h1; exact Heap.lt_size q
      · obtain ⟨_, q, _⟩ := iterK_obj h2; exact Heap.lt_size q
    rw [upd_ne (Nat.ne_of_lt (Nat.lt_of_lt_of_le hlt hT))]
    exact (hf c hcm).1
  done := by
    intro X hP hw hK hc i pins s σ H E I hf st hg
    subst hP hw hK
    obtain ⟨xs, ys, hqx, hqy, hend⟩ := hg
    obtain ⟨its, rv, p1⟩ := seqK_at I hqx
    obtain ⟨its2, rv2, p2⟩ := seqK_at I hqy
    have hh : X.A.in1.handled = none := I.ok.hd hc
    have W := GoesN.zip2 (prog := X.prog) (w := X.w) (A := X.A) (elts := elts) (x1 := kk) (pos := tpos) S (drawsK k1 hh i1 a ha its.toArray) (drawsK k2 hh i2 b hb its2.toArray)
    obtain ⟨hz, hTI, hTO, h1, h2⟩ := st
    have hi : i = min its.toArray.size its2.toArray.size := by
      rw [List.size_toArray, List.size_toArray, ← rv.length, ← rv2.length]
      exact hend
    rw [hi] at h1 h2
    exact W.stops s (fun s1 => Inv X pins σ H s1) E ⟨hz, hTI, hTO, ⟨h1, p1⟩, ⟨h2, p2⟩⟩ fun h' tk hk htk => I.turnedL (t' := tk) (ch := [z, TI, TO, i1, i2]) (fun c o hb' q => hk c o (fun z' => hb' (by simp at z' ⊢; rcases z' with z' | z' | z' | z' <;> simp [z'])) q) hf
  self := fun A i s Q E st h => wpAny_pyIter_zip st.1 h
def iZipS (K : PySem.W.Frag) (ta : TA) : TI := fun σ H R => ta σ H fun vs H1 => ∃ a b k1 k2 xs ys, vs = [V.ref a, V.ref b] ∧ SqK K H1 k1 a xs ∧ SqK K H1 k2 b ys ∧ R (ItS K k1 k2 a b) H1
theorem iterK_new {h : Heap} {k : SK} {it a : Addr} (q : h.get? it = some (objK k a)) : IterK h k it a 0 := by
  cases k with
  | l => exact ⟨_, q, rfl, rfl⟩
  | t => exact ⟨_, q, rfl, rfl⟩
theorem seqK_lt {h : Heap} {k : SK} {a : Addr} {its : Array Value} (q : SeqK h k a its) : a < h.objs.size := by
  cases k with
  | l => obtain ⟨o, e, _⟩ := q; exact Heap.lt_size e
  | t => obtain ⟨o, e, _⟩ := q; exact Heap.lt_size e
theorem pi_zipS {X : Cx} {e e2 : Expr} {ta : TA} {p pos tpos : Pos} {elts : List Expr} {kk : Nat} (hg : Gl X "zip") (hm : X.mg "zip" = none) (ha : PA X [e, e2] ta)
    (hs : starEach [e, e2] X.env = (false, eval e X.env) :: starEach [e2] X.env := by rfl) (hpl : (backTo pos (starEach [e2] X.env)).any (·.1) = false := by rfl) :
    PI X (.Tuple elts kk tpos) (.Call (.Name "zip" p) [e, e2] [] pos) (iZipS X.K ta) := by
  refine ⟨fun pins s σ H R I h => ?_⟩
  refine Call_ (ld_blt I hg hm PyProof.Rows.boot_zip (PyProof.Rows.callWith_type1 (thn (ha.run pos pins s σ H _ I h) fun us s1 ⟨vs, H1, I1, r1, q1⟩ => ?_) hs hpl))
  obtain ⟨a, b, k1, k2, xs, ys, ex, hqx, hqy, q⟩ := q1
  subst ex
  obtain ⟨u1, u2, rfl, q1, q2⟩ := vals2 r1
  obtain rfl : u1 = Value.ref a := q1
  obtain rfl : u2 = Value.ref b := q2
  obtain ⟨its, rv, p1⟩ := seqK_at I1 hqx
  obtain ⟨its2, rv2, p2⟩ := seqK_at I1 hqy
  have la := seqK_lt p1
  have lb := seqK_lt p2
  refine zip_begins2 (beginsK k1 a its.toArray) (beginsK k2 b its2.toArray) p1 p2 fun h' hz hTI hTO h1 h2 hsz hk => wpAny_pyIter_zip hz ?_
  have I2 : Inv X pins σ H1 { s1 with heap := h' } := I1.kept (t' := s1.toks) hk
  have S := zip_sep2 (N := s1.heap.objs.size) (fp1 := [a]) (fp2 := [b]) (fun c hc => by simp at hc; subst hc; exact la) (fun c hc => by simp at hc; subst hc; exact lb)
  refine ⟨s1.heap.objs.size + 4, [s1.heap.objs.size + 4, s1.heap.objs.size + 2, s1.heap.objs.size + 3, s1.heap.objs.size, s1.heap.objs.size + 1], _, _, H1, rfl, I2, turn_zipS S (Nat.ne_of_lt la) (Nat.ne_of_lt (Nat.lt_succ_of_lt lb)), ⟨hz, hTI, ⟨_, _, hTO⟩, iterK_new h1, iterK_new h2⟩, fun c hcm => ?_, q⟩
  have hle : s1.heap.objs.size ≤ c := by
    simp only [List.mem_cons, List.not_mem_nil, or_false] at hcm
    rcases hcm with rfl | rfl | rfl | rfl | rfl
    all_goals first | exact Nat.le_add_right _ _ | exact Nat.le_refl _
  exact I1.fpOk hle (I1.hok.fresh hle)
/-! over data -/
def zipD (ds es : List D) : List D := (ds.zip es).map fun p => .tup [p.1, p.2]
section
variable {c : Cc} {ρ : List S} {tr : TA} {Φ : Nat → List D → Prop}
theorem RelS.seqG {K : PySem.W.Frag} {W : Wd} {H0 G H : Hp} {v : V} {s : S} {ds : List D} (r : RelS K W H0 G H v s) (h : s.seq? = some ds) : ∃ p k xs, v = .ref p ∧ SqK K G k p xs ∧ RpL K G xs ds := by
  cases s with
  | dat d =>
    cases d <;> first | cases h | skip
    · have r : Rp K G v _ := r
      cases r with
      | lst a b => exact ⟨_, .l, _, rfl, SqL.of a, b⟩
    · have r : Rp K G v _ := r
      cases r with
      | tup a b => exact ⟨_, .t, _, rfl, SqT.of a, b⟩
    · have r : Rp K G v _ := r
      cases r with
      | scr a => exact ⟨_, .l, _, rfl, a, RpL.ofInts _⟩
  | no => cases h
  | own o => cases h
  | vw o => cases h
  | at_ a => cases h
  | xc _ _ _ _ => cases h
theorem sqK_mono {K : PySem.W.Frag} {G G' : Hp} {k : SK} {a : Addr} {xs : List V} (e : Ex G G') (h : SqK K G k a xs) : SqK K G' k a xs := by
  cases k with
  | l => exact ex_l e h
  | t => exact ex_t e h
theorem zipD_get {ds es : List D} {i : Nat} {d : D} (h : (zipD ds es)[i]? = some d) : ∃ a b, ds[i]? = some a ∧ es[i]? = some b ∧ d = .tup [a, b] := by
  unfold zipD at h
  rw [List.getElem?_map] at h
  cases z : (ds.zip es)[i]? with
  | none => rw [z] at h; cases h
  | some p =>
    rw [z] at h
    cases h
    have := List.getElem?_zip_eq_some.mp z
    exact ⟨p.1, p.2, this.1, this.2, rfl⟩
theorem itd_zip {K : PySem.W.Frag} {W : Wd} {G1 : Hp} {k1 k2 : SK} {a b : Addr} {xs ys : List V} {ds es : List D} (h1 : SqK K G1 k1 a xs) (r1 : RpL K G1 xs ds) (h2 : SqK K G1 k2 b ys) (r2 : RpL K G1 ys es) : ItD K W G1 (ItS K k1 k2 a b) (zipD ds es) := fun m G H e ok i => by
  have hx : SqK K H k1 a xs := sqK_mono (e.trans ok.ex) h1
  have hy : SqK K H k2 b ys := sqK_mono (e.trans ok.ex) h2
  refine ⟨fun d hd => ?_, fun hl => ⟨xs, ys, hx, hy, by rw [hl, r1.length, r2.length]; simp [zipD, List.length_zip]⟩⟩
  obtain ⟨d1, d2, e1, e2, rfl⟩ := zipD_get hd
  obtain ⟨v, hv, rv⟩ := r1.getD e1
  obtain ⟨u, hu, ru⟩ := r2.getD e2
  refine ⟨⟨xs, ys, v, u, hx, hy, hv, hu⟩, fun x H' y => ?_⟩
  obtain ⟨T, x', y', rfl, hT, rfl, q1, q2⟩ := y
  have e3 := q1 xs hx
  rw [hv] at e3
  cases e3
  have e4 := q2 ys hy
  rw [hu] at e4
  cases e4
  have x1 : Ex G (upd G T (.tup [v, u])) := Ex.new (fresh_back ok.ex hT)
  exact ⟨upd G T (.tup [v, u]), Grow.newD ok hT (fun _ _ z => by cases z), Rp.tup upd_same (.cons (rv.mono (e.trans x1)) (.cons (ru.mono (e.trans x1)) .nil))⟩
theorem di_zip (h : DA c m tr ρ fun m ss => ∃ s1 s2 ds es, ss = [s1, s2] ∧ s1.seq? = some ds ∧ s2.seq? = some es ∧ Φ m (zipD ds es)) : DI c m (iZipS c.K tr) ρ Φ := fun σ G H e R q => h σ G H e _ fun vs ss m1 G1 H1 g1 r1 ⟨s1, s2, ds, es, hs, h1, h2, p⟩ => by
  subst hs
  obtain ⟨v1, v2, rfl, q1, q2⟩ := relss2 r1
  obtain ⟨a, k1, xs, rfl, x1, y1⟩ := q1.seqG h1
  obtain ⟨b, k2, ys, rfl, x2, y2⟩ := q2.seqG h2
  exact ⟨a, b, k1, k2, xs, ys, rfl, sqK_mono g1.sub x1, sqK_mono g1.sub x2, q _ _ m1 G1 H1 g1 (itd_zip x1 y1 x2 y2) p⟩
end
end DL
set_option Elab.async false
set_option linter.all false
set_option maxRecDepth 100000
set_option maxHeartbeats 1000000
namespace DL
open PySem PySem.Spec PyProof.Rows L2 Evl
variable {m : Nat}
/-! ### slices, sums of tuples, repeats, membership -/
def cutD (ds : List D) (lo hi : Option Int) : List D := (ds.drop (HT.sIx ds.length 0 lo)).take (HT.sIx ds.length ds.length hi - HT.sIx ds.length 0 lo)
theorem RpL.cut {K : PySem.W.Frag} {G : Hp} {xs : List V} {ds : List D} (r : RpL K G xs ds) (lo hi : Option Int) : RpL K G (cutV xs lo hi) (cutD ds lo hi) := by
  unfold cutV cutD
  rw [r.length]
  exact (r.drop _).take _
def DO (c : Cc) (m : Nat) (t : TO) (ρ : List S) (Φ : Nat → Option Int → Prop) : Prop := ∀ σ G H, EnvOk c m G H σ ρ → ∀ Q : Option Int → Hp → Prop, (∀ o m' G' H', Grow c.W G H m' G' H' → Φ m' o → Q o H') → t σ H Q
section
variable {c : Cc} {ρ : List S} {Φ : Nat → S → Prop} {te : TE} {tl th : TO} {Ψ : Nat → Option Int → Prop}
theorem do_none (h : Ψ m none) : DO c m tNoPart ρ Ψ := fun σ G H e Q q => q none m G H e.refl h
theorem do_some (h : De c m te ρ fun m s => ∃ i, s = .dat (.int i) ∧ Ψ m (some i)) : DO c m (tPart te) ρ Ψ := fun σ G H e Q q => h σ G H e _ fun v s m1 G1 H1 g1 r1 ⟨i, es, p⟩ => by
  subst es
  cases r1
  exact ⟨i, rfl, q _ m1 G1 H1 g1 p⟩
theorem de_slL (h : De c m te ρ fun m s => ∃ ds, s.lst? = some ds ∧ DO c m tl ρ fun m lo => DO c m th ρ fun m hi => Φ m (.own (.lst (cutD ds lo hi)))) : De c m (tSl (rSlL c.K) te tl th) ρ Φ := fun σ G H e Q q =>
  h σ G H e _ fun v s m1 G1 H1 g1 r1 ⟨ds, hs, h1⟩ => h1 σ G1 H1 (e.grow g1) _ fun lo m2 G2 H2 g2 h2 => h2 σ G2 H2 ((e.grow g1).grow g2) _ fun hi m3 G3 H3 g3 h3 => by
    have e3 := ((e.grow g1).grow g2).grow g3
    obtain ⟨p, xs, rfl, a, b⟩ := ((r1.grow g2).grow g3).lstV e3.ok hs
    exact ⟨p, xs, rfl, a, fun l hl => new_lst (H0 := H) e3.ok (b.cut lo hi) h3 (fun v s m' G' H' g r p => q v s m' G' H' (((g1.trans g2).trans g3).trans g) (((r.back g3).back g2).back g1) p) l hl⟩
theorem de_slT (h : De c m te ρ fun m s => ∃ ds, s = .dat (.tup ds) ∧ DO c m tl ρ fun m lo => DO c m th ρ fun m hi => Φ m (.dat (.tup (cutD ds lo hi)))) : De c m (tSl (rSlA c.K) te tl th) ρ Φ := fun σ G H e Q q =>
  h σ G H e _ fun v s m1 G1 H1 g1 r1 ⟨ds, hs, h1⟩ => h1 σ G1 H1 (e.grow g1) _ fun lo m2 G2 H2 g2 h2 => h2 σ G2 H2 ((e.grow g1).grow g2) _ fun hi m3 G3 H3 g3 h3 => by
    subst hs
    have e3 := ((e.grow g1).grow g2).grow g3
    have r3 := (r1.grow g2).grow g3
    obtain ⟨p, xs, rfl, a, b⟩ := r3.tupV e3.ok rfl
    refine ⟨p, xs, rfl, a, fun hw => ?_, fun _ l hl => new_tup (H0 := H) e3.ok (b.cut lo hi) h3 (fun v s m' G' H' g r p => q v s m' G' H' (((g1.trans g2).trans g3).trans g) (((r.back g3).back g2).back g1) p) l hl⟩
    rw [b.length] at hw
    have ec : cutD ds lo hi = ds := by unfold cutD; rw [hw.1, hw.2]; simp
    have h3 : Φ m3 (.dat (.tup (cutD ds lo hi))) := h3
    rw [ec] at h3
    exact q _ (.dat (.tup ds)) m3 G3 H3 ((g1.trans g2).trans g3) r3 h3
end
section
variable {K : PySem.W.Frag} {W : Wd} {Φ : Nat → S → Prop}
theorem ops_catA {ds es : List D} (hl : ds.length + es.length ≤ 1000000) (h : Φ m (.dat (.tup (ds ++ es)))) : OpS K W m (rCatA K) (.dat (.tup ds)) (.dat (.tup es)) Φ := fun H0 G H v1 v2 ok r1 r2 Q q => by
  obtain ⟨p, xs, rfl, a1, b1⟩ := r1.tupV ok rfl
  obtain ⟨p2, ys, rfl, a2, b2⟩ := r2.tupV ok rfl
  refine ⟨p, p2, xs, ys, rfl, rfl, a1, a2, by rw [b1.length, b2.length]; exact sz hl, fun z => ?_, fun _ z => ?_, fun _ _ => new_tup (H0 := H0) ok (b1.append b2) h q⟩
  · subst z
    cases b1
    exact q _ (.dat (.tup es)) m G H ok.refl r2 h
  · subst z
    cases b2
    rw [List.append_nil] at h
    exact q _ (.dat (.tup ds)) m G H ok.refl r1 h
theorem RpL.rep {G : Hp} {xs : List V} {ds : List D} (r : RpL K G xs ds) : ∀ n : Nat, RpL K G (List.replicate n xs).flatten (List.replicate n ds).flatten
  | 0 => .nil
  | n + 1 => by
    rw [List.replicate_succ, List.replicate_succ, List.flatten_cons, List.flatten_cons]
    exact r.append (RpL.rep r n)
theorem ops_rep {s1 : S} {ds : List D} {k : Int} (h1 : s1.raw? = some ds) (hk : -(2 ^ 63) ≤ k ∧ k < 2 ^ 63) (hl : ds.length * k.toNat ≤ 1000000) (h : Φ m (.own (.lst (List.replicate k.toNat ds).flatten))) : OpS K W m rRep s1 (.dat (.int k)) Φ := fun H0 G H v1 v2 ok r1 r2 Q q => by
  obtain ⟨p, xs, rfl, a1, b1⟩ := r1.rawV ok h1
  cases r2
  exact ⟨p, k, xs, rfl, rfl, a1, hk.1, hk.2, by rw [b1.length]; exact sz hl, new_lst (H0 := H0) ok (b1.rep _) h q⟩
theorem ops_inD {s1 s2 : S} {d1 d2 : D} {x1 : PyData} {xs : List PyData} (h1 : s1.view = some d1) (h2 : s2.view = some d2) (e1 : d1.py = some x1) (e2 : d2.py = some (.list xs)) (c1 : SeqAt.shaped x1 = true) (c2 : SeqAt.shaped (.list xs) = true) (h : Φ m (.dat (.bl (xs.any fun z => PyData.eqv z x1)))) :
    OpS K W m (rInD K) s1 s2 Φ := fun H0 G H v1 v2 ok r1 r2 Q q => ⟨x1, xs, r1.dp ok h1 e1, r2.dp ok h2 e2, c1, c2, q _ (.dat (.bl _)) m G H ok.refl (Rp.bl _) h⟩
def S.odic? : S → Option (List (Key × D))
  | .own (.dK ds) => some ds
  | .vw (.dK ds) => some ds
  | _ => none
theorem cb_minK {s : S} {ds : List (Key × D)} {ks : List Int} (h1 : s.odic? = some ds) (hk : ds.map (·.1) = ks.map Sum.inl) (h0 : ks ≠ []) (h : ∀ k, k ∈ ks → (∀ j ∈ ks, k ≤ j) → Φ m (.dat (.int k))) : CbS K W m rMinK [s] Φ := fun H0 G H vs ok rr Q q => by
  obtain ⟨v, rfl, r⟩ := relss1 rr
  have key : ∃ a kvs, v = V.ref a ∧ H a = some (.dK kvs) ∧ kvs.map (·.1) = ds.map (·.1) := by
    cases s with
    | own o =>
      cases o <;> first | cases h1 | skip
      obtain ⟨p, rfl, _, _, _, xs, a, k, b⟩ := r
      exact ⟨p, xs, rfl, a, k⟩
    | vw o =>
      cases o <;> first | cases h1 | skip
      obtain ⟨p, rfl, _, _, xs, a, k, b⟩ := r
      exact ⟨p, xs, rfl, a, k⟩
    | no => cases h1
    | dat d => cases h1
    | at_ p => cases h1
    | xc _ _ _ _ => cases h1
  obtain ⟨a, kvs, rfl, ha, hkv⟩ := key
  exact ⟨a, kvs, ks, rfl, ha, hkv.trans hk, h0, fun k k1 k2 => q _ (.dat (.int k)) m G H ok.refl (Rp.int k) (h k k1 k2)⟩
theorem cb_minKD {ds : List (Key × D)} {ks : List Int} (hL : ∀ a, ¬ W.L a) (hk : ds.map (·.1) = ks.map Sum.inl) (h0 : ks ≠ []) (h : ∀ k, k ∈ ks → (∀ j ∈ ks, k ≤ j) → Φ m (.dat (.int k))) : CbS K W m rMinK [.dat (.dic ds)] Φ := fun H0 G H vs ok rr Q q => by
  obtain ⟨v, rfl, r⟩ := relss1 rr
  have r : Rp K G v (.dic ds) := r
  cases r with
  | dic hd hkv rv =>
    rcases hd with hd | ⟨o, hd⟩
    · exact ⟨_, _, ks, rfl, ok.ex _ _ hd, hkv.trans hk, h0, fun k k1 k2 => q _ (.dat (.int k)) m G H ok.refl (Rp.int k) (h k k1 k2)⟩
    · exact absurd (ok.lk _ o _ hd fun xs z => by cases z) (hL _)
end
section
variable {c : Cc} {ρ : List S} {Φ : Nat → S → Prop} {tk tv : TE}
/-- {k: v} -/
theorem de_disp1 (h : De c m tk ρ fun m s => De c m tv ρ fun m s2 => ∃ k d, s = .dat (keyD k) ∧ s2.frz = .dat d ∧ Φ m (.own (.dK [(k, d)]))) : De c m (tDisp [(tk, tv)]) ρ Φ := fun σ G H e Q q p hp => by
  have g0 := Grow.new (o := .dK []) e.ok hp
  have e0 := e.grow g0
  have gp : G p = none := fresh_back e.ok.ex hp
  have mp : ¬ c.W.M p := fun mm => c.W.has _ _ _ e.ok.inv mm hp
  refine h σ G _ e0 _ fun v s m1 G1 H1 g1 r1 h1 => h1 σ G1 H1 (e0.grow g1) _ fun v2 s2 m2 G2 H2 g2 r2 ⟨k, d, es, es2, hΦ⟩ => ?_
  obtain ⟨G3, g3, r3⟩ := r2.freeze g2
  rw [es2] at r3
  subst es
  have ek : v = kV k := by
    have r1 : Rp c.K G1 v (keyD k) := r1
    cases k <;> (cases r1; rfl)
  subst ek
  have g13 := g1.trans g3
  have hp0 : upd H p (HO.dK []) p = some (.dK []) := upd_same
  have hp3 : H2 p = some (.dK []) := g13.keep p _ mp hp0
  refine ⟨hp3, [(k, v2)], rfl, by show 1 ≤ 15; decide, ?_⟩
  have n3 : G3 p = none := g13.fresh p (by rw [hp0]; exact fun z => by cases z) gp
  have ga := g0.trans g13
  refine q (.ref p) (.own (.dK [(k, d)])) m2 G3 _ ⟨ga.ex, ga.sub.mut n3, ga.fresh, fun b w mb q => by rw [upd_ne (ne_of_none q hp)]; exact ga.keep b w mb q, c.W.dep _ _ _ (fun b mb => upd_ne fun z => mp (by rw [← z]; exact mb)) ga.inv, ga.lk⟩ ⟨p, rfl, hp, n3, mp, [(k, v2)], upd_same, rfl, .one r3⟩ hΦ
end
/-! ### two loops in a comprehension -/
section
variable {c : Cc} {ρ : List S} {Φ : Nat → S → Prop} {te : TE} {tt tt1 : TT} {wi wi1 : TI} {g g1 : TG} {vs vs1 : List Nat}
theorem de_lc2 (h : DI c m wi ρ fun m ds => ∃ J : Nat → Nat → List D → Prop, J 0 m [] ∧
    (∀ i d m acc, ds[i]? = some d → J i m acc → ∃ ρ', DG c m g vs d (wipeS ρ vs) ρ' ∧ DT c m tt ρ' fun m b =>
      (b = true → DI c m wi1 ρ' fun m es => ∃ J1 : Nat → Nat → List D → Prop, J1 0 m acc ∧
        (∀ j e m acc, es[j]? = some e → J1 j m acc → acc.length < 1000000 ∧ ∃ ρ2, DG c m g1 vs1 e (wipeS ρ' vs1) ρ2 ∧ DT c m tt1 ρ2 fun m b =>
          (b = true → De c m te ρ2 fun m s => ∃ d', s.frz = .dat d' ∧ J1 (j + 1) m (acc ++ [d'])) ∧ (b = false → J1 (j + 1) m acc)) ∧
        ∀ m acc, J1 es.length m acc → J (i + 1) m acc) ∧ (b = false → J (i + 1) m acc)) ∧
    ∀ m acc, J ds.length m acc → Φ m (.own (.lst acc))) : De c m (tLc2 wi g tt wi1 g1 tt1 te vs vs1) ρ Φ := fun σ G H e Q q => h σ G H e _ fun I ds m1 G1 H1 gr1 it ⟨J, j0, jt, jd⟩ => fun Dd hD => by
  have e1 := e.grow gr1
  let W : Nat → Nat → Hp → Prop := fun i m H2 => m = ds.length - i ∧ i ≤ ds.length ∧ ∃ m2 G2 xs acc, Grow c.W G1 H1 m2 G2 H2 ∧ H2 Dd = some (.lst xs) ∧ G2 Dd = none ∧ RpL c.K G2 xs acc ∧ J i m2 acc
  have mD : ¬ c.W.M Dd := fun m => c.W.has _ _ _ e1.ok.inv m hD
  have up : ∀ {m2 : Nat} {G2 H2 : Hp} {ys : List V}, Grow c.W G1 H1 m2 G2 H2 → G2 Dd = none → Grow c.W G1 H1 m2 G2 (upd H2 Dd (.lst ys)) := fun {m2 G2 H2 ys} g2 n =>
    ⟨g2.ex, g2.sub.mut n, g2.fresh, fun a o m q => by rw [upd_ne (ne_of_none q hD)]; exact g2.keep a o m q, c.W.dep _ _ _ (fun a m => upd_ne fun z => mD (by rw [← z]; exact m)) g2.inv, g2.lk⟩
  have keepD : ∀ {m3 m4 : Nat} {G3 H3 G4 H4 : Hp} {xs : List V}, H3 Dd = some (.lst xs) → G3 Dd = none → Grow c.W G3 H3 m4 G4 H4 → H4 Dd = some (.lst xs) ∧ G4 Dd = none := fun hx hn g4 => ⟨g4.keep _ _ mD hx, g4.fresh _ (by rw [hx]; exact fun z => by cases z) hn⟩
  refine ⟨W, ⟨ds.length, by simp, Nat.zero_le _, m1, G1, [], [], up e1.refl (fresh_back e1.ok.ex hD), upd_same, fresh_back e1.ok.ex hD, .nil, j0⟩, ?_⟩
  rintro i m H2 ⟨em, hi, m2, G2, xs, acc, g2, hx, hn, rx, j⟩
  have e2 := e1.grow g2
  obtain ⟨ih1, ih2⟩ := it m2 G2 H2 g2.ex e2.ok i
  by_cases hlt : i < ds.length
  · right
    have hd : ds[i]? = some ds[i] := by simp [hlt]
    obtain ⟨go, yl⟩ := ih1 _ hd
    refine ⟨go, W (i + 1) (m - 1), fun H' w => ⟨m - 1, by omega, w⟩, fun x H' y => ?_⟩
    obtain ⟨G3, g3, r3⟩ := yl x H' y
    obtain ⟨ρ', dg, ht⟩ := jt i _ m2 acc hd j
    have e3 := (e2.grow g3).wipe vs
    refine dg x _ G3 H' e3 r3 _ fun σ' f4 hw => ⟨hw.trans (wipe_wipe σ vs), ?_⟩
    have e4 := f4 _ _ _ (Ex.refl _) e3
    refine ht σ' G3 H' e4 _ fun b m4 G4 H4 g4 ⟨hb1, hb2⟩ => ?_
    have g24 := g3.trans g4
    cases b with
    | false =>
      rw [if_neg Bool.false_ne_true]
      obtain ⟨k1, k2⟩ := keepD (m3 := 0) hx hn g24
      exact ⟨by omega, hlt, m4, G4, xs, acc, g2.trans g24, k1, k2, rx.mono g24.ex, hb2 rfl⟩
    | true =>
      rw [if_pos rfl]
      refine hb1 rfl σ' G4 H4 (e4.grow g4) _ fun I1 es m5 G5 H5 g5 it1 ⟨J1, k0, kt, kd⟩ => ?_
      have g25 := g24.trans g5
      obtain ⟨kx, kn⟩ := keepD (m3 := 0) hx hn g25
      -- the environment of the inner loop, wherever one is
      have env : ∀ {m6 : Nat} {G6 H6 : Hp}, Grow c.W G1 H1 m6 G6 H6 → Ex G5 G6 → EnvOk c m6 G6 H6 σ' ρ' := fun {m6 G6 H6} g6 x6 => f4 _ _ _ ((g4.ex.trans g5.ex).trans x6) ((e1.grow g6).wipe vs)
      refine ⟨fun jj k H6 => k = es.length - jj ∧ jj ≤ es.length ∧ ∃ m6 G6 ys acc6, Grow c.W G1 H1 m6 G6 H6 ∧ Ex G5 G6 ∧ H6 Dd = some (.lst ys) ∧ G6 Dd = none ∧ RpL c.K G6 ys acc6 ∧ J1 jj m6 acc6, ⟨es.length, by simp, Nat.zero_le _, m5, G5, xs, acc, g2.trans g25, Ex.refl _, kx, kn, rx.mono g25.ex, k0⟩, ?_⟩
      rintro jj k H6 ⟨ek, hj, m6, G6, ys, acc6, g6, x6, hy, hn6, ry, j6⟩
      have e6 := env g6 x6
      obtain ⟨jh1, jh2⟩ := it1 m6 G6 H6 x6 e6.ok jj
      by_cases hlt2 : jj < es.length
      · right
        have hd2 : es[jj]? = some es[jj] := by simp [hlt2]
        obtain ⟨go2, yl2⟩ := jh1 _ hd2
        refine ⟨go2, fun H7 => jj + 1 ≤ es.length ∧ ∃ m6 G6 ys acc6, Grow c.W G1 H1 m6 G6 H7 ∧ Ex G5 G6 ∧ H7 Dd = some (.lst ys) ∧ G6 Dd = none ∧ RpL c.K G6 ys acc6 ∧ J1 (jj + 1) m6 acc6, fun H7 w => ⟨k - 1, by omega, by omega, w⟩, fun x2 H7 y2 => ?_⟩
        obtain ⟨G7, g7, r7⟩ := yl2 x2 H7 y2
        obtain ⟨hlen, ρ2, dg2, ht2⟩ := kt jj _ m6 acc6 hd2 j6
        have e7 := (e6.grow g7).wipe vs1
        refine dg2 x2 _ G7 H7 e7 r7 _ fun σ3 f8 hw2 => ⟨hw2.trans (wipe_wipe σ' vs1), ?_⟩
        have e8 := f8 _ _ _ (Ex.refl _) e7
        refine ht2 σ3 G7 H7 e8 _ fun b m8 G8 H8 g8 ⟨hc1, hc2⟩ => ?_
        have g68 := g7.trans g8
        cases b with
        | false =>
          rw [if_neg Bool.false_ne_true]
          obtain ⟨l1, l2⟩ := keepD (m3 := 0) hy hn6 g68
          exact ⟨hlt2, m8, G8, ys, acc6, g6.trans g68, x6.trans g68.ex, l1, l2, ry.mono g68.ex, hc2 rfl⟩
        | true =>
          rw [if_pos rfl]
          refine hc1 rfl σ3 G8 H8 (e8.grow g8) _ fun v s m9 G9 H9 g9 r9 ⟨d', es', j'⟩ => ?_
          obtain ⟨GA, gA, rA⟩ := r9.freeze g9
          rw [es'] at rA
          have g6A := g68.trans gA
          obtain ⟨l1, l2⟩ := keepD (m3 := 0) hy hn6 g6A
          exact ⟨ys, l1, szl (by rw [ry.length]; exact hlen), hlt2, m9, GA, ys ++ [v], acc6 ++ [d'], up (g6.trans g6A) l2, x6.trans g6A.ex, upd_same, l2, (ry.mono g6A.ex).append (.one rA), j'⟩
      · left
        have hl2 : jj = es.length := by omega
        refine ⟨jh2 hl2, by omega, hlt, m6, G6, ys, acc6, g6, hy, hn6, ry, ?_⟩
        subst hl2
        exact kd _ _ j6
  · left
    have hl2 : i = ds.length := by omega
    refine ⟨ih2 hl2, ?_⟩
    subst hl2
    exact q (.ref Dd) (.own (.lst acc)) m2 G2 H2 (gr1.trans g2) ⟨Dd, rfl, gr1.back hD, hn, mD, xs, hx, rx⟩ (jd m2 acc j)
end
end DL
set_option Elab.async false
set_option linter.all false
set_option maxRecDepth 100000
set_option maxHeartbeats 1000000
namespace DL
open PySem PySem.Spec PyProof.Rows L2 Evl
/-! rules whose readings name the given heap K, and not a context's field: these also fit within a block -/
section
variable {X : Cx} {K : PySem.W.Frag}
theorem k_isi (hK : X.K = K) : CallR X (.builtin "isinstance") (rIsi K) := by subst hK; exact call_isi
theorem k_len (hK : X.K = K) : CallR X (.builtin "len") (rLenA K) := by subst hK; exact call_lenA
theorem k_sum (hK : X.K = K) (hc : X.calm = true) : CallR X (.builtin "sum") (rSumA K) := by subst hK; exact call_sumA hc
theorem k_all (hK : X.K = K) (hc : X.calm = true) : CallR X (.builtin "all") (rAll K) := by subst hK; exact cr_all hc
theorem k_any (hK : X.K = K) (hc : X.calm = true) : CallR X (.builtin "any") (rAny K) := by subst hK; exact cr_any hc
theorem k_listOf (hK : X.K = K) : CallR X (.type "list") (fun xs H Q => ∃ p ys, xs = [V.ref p] ∧ (SqL K H p ys ∨ SqT K H p ys) ∧ ∀ l, H l = none → Q (.ref l) (upd H l (.lst ys))) := by subst hK; exact call_list_of
theorem k_tupleOf (hK : X.K = K) : CallR X (.type "tuple") (fun xs H Q => ∃ p ys, xs = [V.ref p] ∧ ((SqL K H p ys ∧ ∀ l, H l = none → Q (.ref l) (upd H l (.tup ys))) ∨ (SqT K H p ys ∧ Q (.ref p) H))) := by subst hK; exact call_tuple_of
theorem k_ixL (hK : X.K = K) : IxR X (rIxL K) := by subst hK; exact ix_list
theorem k_ixT (hK : X.K = K) : IxR X (rIxT K) := by subst hK; exact ix_tup
theorem k_slL (hK : X.K = K) : SlR X (rSlL K) := by subst hK; exact sl_list
theorem k_slT (hK : X.K = K) : SlR X (rSlA K) := by subst hK; exact sl_tupA
theorem k_eqD (hK : X.K = K) (hu : X.A.units + 64 < cLine) : OpR X (compareOp .Eq) (rEqD K) := by subst hK; exact op_eqD hu
theorem k_neD (hK : X.K = K) (hu : X.A.units + 64 < cLine) : OpR X (compareOp .NotEq) (rNeD K) := by subst hK; exact op_neD hu
theorem k_inD (hK : X.K = K) (hu : X.A.units + 65 < cLine) : OpR X (compareOp .In) (rInD K) := by subst hK; exact op_inD hu
theorem k_catA (hK : X.K = K) : OpR X (binaryOp .Add) (rCatA K) := by subst hK; exact op_catA
variable {tg l e : Expr} {es : List Expr} {tl te : TE} {t : TA} {p pos : Pos}
theorem k_piL (hK : X.K = K) (hl : PE X l tl) : PI X tg l (iList K tl) := by subst hK; exact pi_list hl
theorem k_piT (hK : X.K = K) (hl : PE X l tl) : PI X tg l (iTup K tl) := by subst hK; exact pi_tup hl
theorem k_piS (hK : X.K = K) (hl : PE X l tl) : PI X tg l (iSeq K tl) := by subst hK; exact pi_seq hl
theorem k_star (hK : X.K = K) (he : PE X e te) (hr : PA X es t) (hs : starEach (.Starred e p :: es) X.env = (true, eval e X.env) :: starEach es X.env := by rfl) : PA X (.Starred e p :: es) (StX.tStar K te t) := by subst hK; exact StX.pa_star he hr hs
theorem k_gTup {es : List Expr} {k : Nat} {t : TGs} {n : Nat} (hK : X.K = K) (hc : X.calm = true) (h : PGs X es t)
    (hn : (assignEach es X.env).length = n := by rfl) (hst : (assignEach es X.env).findIdx? (·.1) = none := by rfl) : PG X (.Tuple es k pos) (gTup K n t) := by subst hK; exact pg_tup hc h hn hst
theorem k_zip {e2 : Expr} {ta : TA} {tpos : Pos} {elts : List Expr} {kk : Nat} (hK : X.K = K) (hg : Gl X "zip") (hm : X.mg "zip" = none) (ha : PA X [e, e2] ta)
    (hs : starEach [e, e2] X.env = (false, eval e X.env) :: starEach [e2] X.env := by rfl) (hpl : (backTo pos (starEach [e2] X.env)).any (·.1) = false := by rfl) :
    PI X (.Tuple elts kk tpos) (.Call (.Name "zip" p) [e, e2] [] pos) (iZipS K ta) := by subst hK; exact pi_zipS hg hm ha hs hpl
variable {T name : Str} {id : String} {r : V → List V → Hp → VK → Prop} {o : Expr} {to : TE} {apos cpos : Pos}
theorem k_app (hK : X.K = K) (ho : PE X o to) (ha : PA X (e :: es) t)
    (hbase : attributeBase o "append" X.env (eval o X.env) = eval o X.env := by rfl)
    (hfew : ((backTo cpos (starEach (e :: es) X.env)).all (fun x => !x.1) && (backToKw cpos (keywordEach [] X.env)).all (fun x => x.1.isSome)
      && decide ((e :: es).length + ([] : List Keyword).length + (if ([] : List Keyword).isEmpty then 0 else 1) < 30)) = true := by rfl)
    (hline : (apos.endLine == cpos.line) = true := by rfl) (hs : starEach (e :: es) X.env = (false, eval e X.env) :: starEach es X.env := by rfl) (hplain : (backTo cpos (starEach es X.env)).any (·.1) = false := by rfl) :
    PE X (.Call (.Attribute o "append" apos) (e :: es) [] cpos) (tBM K "list" rAppend to t) := by subst hK; exact pe_bm PySem.F.plainAttrs_list PySem.F.slot_list_append PySem.F.type_list_append mt_append ho ha hbase hfew hline hs hplain
variable {k j : Nat} {x : Str} {ps : List Str} {C : Fc}
theorem k_cl {CX : CXT} {E : XK} (c : Cl X.prog X.w K X.mg X.base CX k x ps C) (hK : X.K = K) (hr : Room j X.A) (hx : Passes CX X E) (ha : PA X (e :: es) t) (hk : k ≤ j := by decide) (hg : Gl X x := by rfl) (hdb : (x == ("__debug__" : Str)) = false := by decide)
    (he : starEach (e :: es) X.env = (false, eval e X.env) :: starEach es X.env := by rfl) (hpl : (backTo pos (starEach es X.env)).any (·.1) = false := by rfl) :
    PE X (.Call (.Name x p) (e :: es) [] pos) (tCall (spF K C) [] E t) := by subst hK; exact pcl c hr hx ha hk hg hdb he hpl
theorem k_cl0 (c : Cl X.prog X.w K X.mg X.base CX0 k x ps C) (hK : X.K = K) (hr : Room j X.A) (ha : PA X (e :: es) t) (hk : k ≤ j := by decide) (hg : Gl X x := by rfl) (hdb : (x == ("__debug__" : Str)) = false := by decide)
    (he : starEach (e :: es) X.env = (false, eval e X.env) :: starEach es X.env := by rfl) (hpl : (backTo pos (starEach es X.env)).any (·.1) = false := by rfl) :
    PE X (.Call (.Name x p) (e :: es) [] pos) (tCall (spF K C) [] E0 t) := by subst hK; exact pcl c hr pass0 ha hk hg hdb he hpl
theorem k_clL (c : Cl X.prog X.w K X.mg X.base (L2.CX X.prog X.w) k x ps C) (hK : X.K = K) (hr : Room j X.A) (ha : PA X (e :: es) t) (hk : k ≤ j := by decide) (hg : Gl X x := by rfl) (hdb : (x == ("__debug__" : Str)) = false := by decide)
    (he : starEach (e :: es) X.env = (false, eval e X.env) :: starEach es X.env := by rfl) (hpl : (backTo pos (starEach es X.env)).any (·.1) = false := by rfl) :
    PE X (.Call (.Name x p) (e :: es) [] pos) (tCall (spF K C) [] E0 t) := by subst hK; exact pcl c hr passL ha hk hg hdb he hpl
theorem k_clS {W : WX} (c : Cl X.prog X.w K X.mg X.base (L2.CX X.prog X.w) k x ps C) (hK : X.K = K) (hr : Room j X.A) (tk : Takes X W) (ha : PA X (e :: es) t) (hk : k ≤ j := by decide) (hg : Gl X x := by rfl) (hdb : (x == ("__debug__" : Str)) = false := by decide)
    (he : starEach (e :: es) X.env = (false, eval e X.env) :: starEach es X.env := by rfl) (hpl : (backTo pos (starEach es X.env)).any (·.1) = false := by rfl) :
    PE X (.Call (.Name x p) (e :: es) [] pos) (tCallS (spF K C) (WE W) t) := by subst hK; exact pclS c hr tk ha hk hg hdb he hpl
end
section
variable {m : Nat} {c : Cc} {ρ : List S} {Φ : Nat → S → Prop} {i : Nat}
theorem de_varD {d : D} (hs : ρ[i]? = some (.dat d)) (h : Φ m (.dat d)) : De c m (tVar i) ρ Φ := de_var hs (fun z => by cases z) h
theorem de_varO {o : O} (hs : ρ[i]? = some (.own o)) (h : Φ m (.vw o)) : De c m (tVar i) ρ Φ := de_var hs (fun z => by cases z) h
theorem de_varV {o : O} (hs : ρ[i]? = some (.vw o)) (h : Φ m (.vw o)) : De c m (tVar i) ρ Φ := de_var hs (fun z => by cases z) h
theorem de_varA {p : Addr} (hs : ρ[i]? = some (.at_ p)) (h : Φ m (.at_ p)) : De c m (tVar i) ρ Φ := de_var hs (fun z => by cases z) h
end
end DL
set_option Elab.async false
set_option linter.all false
set_option maxRecDepth 100000
set_option maxHeartbeats 1000000
namespace DL
open PySem PySem.Spec PyProof.Rows L2 Evl
section
variable {m : Nat} {c : Cc} {ρ : List S} {Φ : Nat → S → Prop} {te : TE} {tt1 : TT} {wi wi1 : TI} {g0 g1 : TG} {vs vs1 : List Nat}
theorem DI.imp {Ψ Ψ' : Nat → List D → Prop} (h : DI c m wi ρ Ψ) (i : ∀ m ds, Ψ m ds → Ψ' m ds) : DI c m wi ρ Ψ' := fun σ G H e R q => h σ G H e R fun J ds m' G' H' g it p => q J ds m' G' H' g it (i m' ds p)
theorem flat_at {α β : Type} {h : α → List β} {l : List α} {i : Nat} {d : α} (hd : l[i]? = some d) : l.flatMap h = (l.take i).flatMap h ++ (h d ++ (l.drop (i + 1)).flatMap h) := by
  have hi := (List.getElem?_eq_some_iff.mp hd).1
  have e : l = l.take i ++ d :: l.drop (i + 1) := by
    have h1 : l.drop i = d :: l.drop (i + 1) := by
      rw [List.drop_eq_getElem_cons hi]
      congr 1
      exact (List.getElem?_eq_some_iff.mp hd).2
    rw [← h1, List.take_append_drop]
  rw [congrArg (List.flatMap h) e]
  simp
/-- [g d e for d in ds for e in F d if t d e] -/
theorem de_lc2M (F : D → List D) (t : D → D → Bool) (g : D → D → D)
    (h : DI c m wi ρ fun m ds => (ds.flatMap fun d => ((F d).filter (t d)).map (g d)).length < 1000000 ∧
      (∀ d ∈ ds, ∃ ρ', DG c m g0 vs d (wipeS ρ vs) ρ' ∧ DI c m wi1 ρ' fun m' es => m' = m ∧ es = F d ∧ ∀ e ∈ es, ∃ ρ2, DG c m g1 vs1 e (wipeS ρ' vs1) ρ2 ∧ DT c m tt1 ρ2 fun m' b => m' = m ∧ b = t d e ∧ (t d e = true → De c m te ρ2 fun m' s => m' = m ∧ s.frz = .dat (g d e))) ∧
      Φ m (.own (.lst (ds.flatMap fun d => ((F d).filter (t d)).map (g d))))) : De c m (tLc2 wi g0 tYes wi1 g1 tt1 te vs vs1) ρ Φ :=
  de_lc2 (h.imp fun m ds ⟨hl, h1, h2⟩ => by
    refine ⟨fun i m' acc => m' = m ∧ acc = (ds.take i).flatMap fun d => ((F d).filter (t d)).map (g d), ⟨rfl, by simp⟩, ?_, ?_⟩
    · rintro i d m' acc hd ⟨rfl, rfl⟩
      obtain ⟨ρ', h3, h4⟩ := h1 d (List.mem_of_getElem? hd)
      refine ⟨ρ', h3, dt_yes ⟨fun _ => h4.imp fun m3 es ⟨em, ees, h5⟩ => ?_, fun z => by cases z⟩⟩
      subst em ees
      have tot := flat_at (h := fun d => ((F d).filter (t d)).map (g d)) hd
      refine ⟨fun j m4 acc => m4 = m3 ∧ acc = (ds.take i).flatMap (fun d => ((F d).filter (t d)).map (g d)) ++ (((F d).take j).filter (t d)).map (g d), ⟨rfl, by simp⟩, ?_, ?_⟩
      · rintro j e m4 acc he ⟨rfl, rfl⟩
        have tot2 : ((F d).take j ++ (F d).drop j) = F d := List.take_append_drop _ _
        refine ⟨?_, ?_⟩
        · rw [tot] at hl
          have : (((F d).filter (t d)).map (g d)).length = ((((F d).take j).filter (t d)).map (g d)).length + ((((F d).drop j).filter (t d)).map (g d)).length := by
            have := congrArg (fun l => ((l.filter (t d)).map (g d)).length) tot2
            simp only [List.filter_append, List.map_append, List.length_append] at this
            exact this.symm
          simp only [List.length_append] at hl ⊢
          omega
        · obtain ⟨ρ2, h6, h7⟩ := h5 e (List.mem_of_getElem? he)
          refine ⟨ρ2, h6, h7.imp fun m5 b ⟨em, eb, h8⟩ => ?_⟩
          subst em
          refine ⟨fun hb => (h8 (by rw [← eb]; exact hb)).imp fun m6 s ⟨em, hs⟩ => ⟨_, hs, em, ?_⟩, fun hb => ⟨rfl, ?_⟩⟩
          · have : t d e = true := by rw [← eb]; exact hb
            rw [List.take_add_one, he]
            simp [List.filter_append, this]
          · have : t d e = false := by rw [← eb]; exact hb
            rw [List.take_add_one, he]
            simp [List.filter_append, this]
      · rintro m4 acc ⟨rfl, rfl⟩
        refine ⟨rfl, ?_⟩
        rw [List.take_length, List.take_add_one, hd]
        simp
    · rintro m' acc ⟨rfl, rfl⟩
      rw [List.take_length]
      exact h2)
end
end DL
set_option Elab.async false
set_option linter.all false
set_option maxRecDepth 100000
set_option maxHeartbeats 1000000
namespace DL
open PySem PySem.Spec PyProof.Rows L2 Evl
/-! ### plain data of some depth -/
inductive Pl : Nat → D → Prop
  | non {n : Nat} : Pl n .non
  | bl {n : Nat} (b : Bool) : Pl n (.bl b)
  | int {n : Nat} (i : Int) : Pl n (.int i)
  | str {n : Nat} {x : Str} : PyData.strOk x = true → Pl n (.str x)
  | lst {n : Nat} {ds : List D} : (∀ d ∈ ds, Pl n d) → Pl (n + 1) (.lst ds)
  | tup {n : Nat} {ds : List D} : (∀ d ∈ ds, Pl n d) → Pl (n + 1) (.tup ds)
  | scr {n : Nat} {ns : List Int} : Pl (n + 1) (.scr ns)
theorem Pl.up {n k : Nat} (h : n ≤ k) {d : D} (p : Pl n d) : Pl k d := by
  induction p generalizing k with
  | non => exact .non
  | bl b => exact .bl b
  | int i => exact .int i
  | str hx => exact .str hx
  | lst _ ih =>
    obtain ⟨j, rfl⟩ : ∃ j, k = j + 1 := ⟨k - 1, by omega⟩
    exact .lst fun d hd => ih d hd (by omega)
  | tup _ ih =>
    obtain ⟨j, rfl⟩ : ∃ j, k = j + 1 := ⟨k - 1, by omega⟩
    exact .tup fun d hd => ih d hd (by omega)
  | scr =>
    obtain ⟨j, rfl⟩ : ∃ j, k = j + 1 := ⟨k - 1, by omega⟩
    exact .scr
def PyOk (n : Nat) (x : PyData) : Prop := x.canLay0 = true ∧ x.depth ≤ n ∧ PyData.eqv x x = true
theorem pys_ok {n : Nat} : ∀ {ds : List D}, (∀ d ∈ ds, ∃ x, d.py = some x ∧ PyOk n x) → ∃ xs, D.pys ds = some xs ∧ PyData.canLayAll0 xs = true ∧ PyData.depthAll xs ≤ n ∧ PyData.eqvAll xs xs = true
  | [], _ => ⟨[], by unfold D.pys; rfl, rfl, Nat.zero_le _, by rw [PyData.eqvAll]⟩
  | d :: ds, h => by
    obtain ⟨x, e1, a1, b1, c1⟩ := h d (by simp)
    obtain ⟨xs, e2, a2, b2, c2⟩ := pys_ok (ds := ds) fun d hd => h d (by simp [hd])
    refine ⟨x :: xs, by unfold D.pys; rw [e1, e2]; rfl, ?_, ?_, ?_⟩
    · rw [PyData.canLayAll0, a1, a2]; rfl
    · rw [PyData.depthAll]; exact Nat.max_le.mpr ⟨b1, b2⟩
    · rw [PyData.eqvAll, c1, c2]; rfl
theorem ints_ok : ∀ ns : List Int, PyData.canLayAll0 (ns.map PyData.int) = true ∧ PyData.depthAll (ns.map PyData.int) = 0 ∧ PyData.eqvAll (ns.map PyData.int) (ns.map PyData.int) = true
  | [] => ⟨rfl, rfl, by rw [List.map_nil, PyData.eqvAll]⟩
  | n :: ns => by
    obtain ⟨a, b, c⟩ := ints_ok ns
    refine ⟨?_, ?_, ?_⟩
    · rw [List.map_cons, PyData.canLayAll0, a]; rfl
    · rw [List.map_cons, PyData.depthAll, b]; rfl
    · rw [List.map_cons, PyData.eqvAll, c]; simp [PyData.eqv]
theorem Pl.py {n : Nat} {d : D} (p : Pl n d) : ∃ x, d.py = some x ∧ PyOk n x := by
  induction p with
  | non => exact ⟨.none, by unfold D.py; rfl, rfl, Nat.zero_le _, by rw [PyData.eqv]⟩
  | bl b => exact ⟨.bool b, by unfold D.py; rfl, rfl, Nat.zero_le _, by simp [PyData.eqv]⟩
  | int i => exact ⟨.int i, by unfold D.py; rfl, rfl, Nat.zero_le _, by simp [PyData.eqv]⟩
  | str h => exact ⟨.str _, by unfold D.py; rfl, h, Nat.zero_le _, by simp [PyData.eqv]⟩
  | lst _ ih =>
    obtain ⟨xs, e, a, b, c⟩ := pys_ok ih
    exact ⟨.list xs, by unfold D.py; rw [e]; rfl, by rw [PyData.canLay0]; exact a, by rw [PyData.depth]; omega, by rw [PyData.eqv]; exact c⟩
  | tup _ ih =>
    obtain ⟨xs, e, a, b, c⟩ := pys_ok ih
    exact ⟨.tuple xs, by unfold D.py; rw [e]; rfl, by rw [PyData.canLay0]; exact a, by rw [PyData.depth]; omega, by rw [PyData.eqv]; exact c⟩
  | @scr n ns =>
    obtain ⟨a, b, c⟩ := ints_ok ns
    exact ⟨.list (ns.map .int), by unfold D.py; rfl, by rw [PyData.canLay0]; exact a, by rw [PyData.depth, b]; omega, by rw [PyData.eqv]; exact c⟩
theorem PyOk.shaped {n : Nat} {x : PyData} (h : PyOk n x) (hn : n ≤ 64) : SeqAt.shaped x = true := by
  unfold SeqAt.shaped
  rw [h.1, Bool.true_and, decide_eq_true_iff]
  exact Nat.le_trans h.2.1 hn
section
variable {K : PySem.W.Frag} {W : Wd} {m : Nat} {Φ : Nat → S → Prop}
theorem ops_eqSelf {s1 s2 : S} {d : D} (p : Pl 64 d) (h1 : s1.view = some d) (h2 : s2.view = some d) (h : Φ m (.dat (.bl true))) : OpS K W m (rEqD K) s1 s2 Φ := by
  obtain ⟨x, e, k⟩ := p.py
  refine ops_eqD h1 h2 e e (k.shaped (by omega)) (k.shaped (by omega)) ?_
  rw [k.2.2]; exact h
theorem ops_neSelf {s1 s2 : S} {d : D} (p : Pl 64 d) (h1 : s1.view = some d) (h2 : s2.view = some d) (h : Φ m (.dat (.bl false))) : OpS K W m (rNeD K) s1 s2 Φ := by
  obtain ⟨x, e, k⟩ := p.py
  refine ops_neD h1 h2 e e (k.shaped (by omega)) (k.shaped (by omega)) ?_
  rw [k.2.2]; exact h
theorem ops_eqI {i j : Int} (h : Φ m (.dat (.bl (decide (i = j))))) : OpS K W m (rEqD K) (.dat (.int i)) (.dat (.int j)) Φ := by
  refine ops_eqD (d1 := .int i) (d2 := .int j) (x1 := .int i) (x2 := .int j) rfl rfl (by unfold D.py; rfl) (by unfold D.py; rfl) (by rfl) (by rfl) ?_
  have e : PyData.eqv (.int i) (.int j) = decide (i = j) := by rw [PyData.eqv]; rfl
  rw [e]; exact h
theorem ops_neI {i j : Int} (h : Φ m (.dat (.bl (!decide (i = j))))) : OpS K W m (rNeD K) (.dat (.int i)) (.dat (.int j)) Φ := by
  refine ops_neD (d1 := .int i) (d2 := .int j) (x1 := .int i) (x2 := .int j) rfl rfl (by unfold D.py; rfl) (by unfold D.py; rfl) (by rfl) (by rfl) ?_
  have e : PyData.eqv (.int i) (.int j) = decide (i = j) := by rw [PyData.eqv]; rfl
  rw [e]; exact h
theorem ops_inP {s1 s2 : S} {d : D} {ds : List D} (p : Pl 63 d) (q : ∀ e ∈ ds, Pl 63 e) (h1 : s1.view = some d) (h2 : s2.view = some (.lst ds)) (b : Bool)
    (hb : ∀ (x : PyData) (xs : List PyData), d.py = some x → D.pys ds = some xs → (xs.any fun z => PyData.eqv z x) = b) (h : Φ m (.dat (.bl b))) : OpS K W m (rInD K) s1 s2 Φ := by
  obtain ⟨x, e, k⟩ := p.py
  obtain ⟨y, e2, k2⟩ := (Pl.lst q).py
  have e3 := e2
  unfold D.py at e3
  cases z : D.pys ds with
  | none => rw [z] at e3; cases e3
  | some xs =>
    rw [z] at e3
    cases e3
    refine ops_inD h1 h2 e e2 (k.shaped (by omega)) (k2.shaped (by omega)) ?_
    rw [hb x xs e z]
    exact h
end
end DL
set_option Elab.async false
set_option linter.all false
set_option maxRecDepth 100000
set_option maxHeartbeats 1000000
namespace DL
open PySem PySem.Spec PyProof.Rows L2 Evl
/-! ### a source: a list of three numbers that is changed by each draw; m: how many draws are left -/
def SrcOk (p : Addr) (m : Nat) (H : Hp) : Prop := ∃ a b n : Int, H p = some (.lst [.int a, .int b, .int n]) ∧ 0 ≤ n ∧ n + m ≤ 1048576
def srcW (V : Wd) (mo : Nat) (p : Addr) : Wd where
  M := fun a => V.M a ∨ a = p
  L := V.L
  I := fun m H => V.I mo H ∧ SrcOk p m H
  dep := fun m H H' k ⟨h1, a, b, n, h2, h3, h4⟩ => ⟨V.dep _ _ _ (fun x hx => k x (.inl hx)) h1, a, b, n, (k p (.inr rfl)).trans h2, h3, h4⟩
  has := fun m H a ⟨h1, x, y, n, h2, _⟩ hm => by
    rcases hm with hm | rfl
    · exact V.has _ _ _ h1 hm
    · rw [h2]; exact fun z => by cases z
theorem src_grow {V : Wd} {mo p m : Nat} {G H H' : Hp} {a b n a' b' : Int} (np : ¬ V.M p) (ok : Ok (srcW V mo p) (m + 1) G H) (hp : H p = some (.lst [.int a, .int b, .int n]))
    (hn : 0 ≤ n ∧ n + ((m + 1 : Nat) : Int) ≤ 1048576) (ne : ∀ x, x ≠ p → H' x = H x) (hp' : H' p = some (.lst [.int a', .int b', .int (n + 1)])) : Grow (srcW V mo p) G H m G H' := by
  have gp : G p = none := ok.off p (.inr rfl)
  refine ⟨Ex.refl G, fun x o h => ?_, fun _ _ q => q, fun x o hm h => ?_, ⟨?_, a', b', n + 1, hp', by omega, by omega⟩, fun _ _ _ q => q⟩
  · have z : x ≠ p := fun z => by rw [z, gp] at h; cases h
    rw [ne x z]; exact ok.ex x o h
  · have z : x ≠ p := fun z => hm (.inr z)
    rw [ne x z]; exact h
  · exact V.dep _ _ _ (fun x hx => ne x fun z => np (by rw [← z]; exact hx)) ok.inv.1
/-! steps over heaps -/
section
variable {σ : L2.St} {H : Hp} {Q : VK} {K : PySem.W.Frag}
theorem h_var {i : Nat} {v : V} (h : σ[i]? = some (some v)) (q : Q v H) : tVar i σ H Q := ⟨v, h, q⟩
theorem h_ix {p : Addr} {xs : List V} {i : Int} {v : V} (hp : H p = some (.lst xs)) (hi : atI xs i = some v) (q : Q v H) : rIxL K (.ref p) (.int i) H Q := ⟨p, xs, i, v, rfl, rfl, SqL.of hp, hi, q⟩
theorem h_i0 {f : Int → Int → V} {i j : Int} (q : Q (f i j) H) : rI0 f (.int i) (.int j) H Q := ⟨i, j, rfl, rfl, q⟩
theorem h_i {C : Int → Int → Prop} {f : Int → Int → V} {i j : Int} (hc : C i j) (q : Q (f i j) H) : rI C f (.int i) (.int j) H Q := ⟨i, j, rfl, rfl, hc, q⟩
theorem h_set {p : Addr} {xs : List V} {k : Int} {j : Nat} {v : V} {R : Hp → Prop} (hp : H p = some (.lst xs)) (hj : ixN xs.length k = some j) (q : R (upd H p (.lst (xs.set j v)))) : rSetL (.ref p) (.int k) v H R := ⟨p, xs, k, j, rfl, rfl, hp, hj, q⟩
theorem h_int {i : Int} (q : Q (.int i) H) : (fun (xs : List V) (H : Hp) (Q : VK) => (∃ i, xs = [V.int i] ∧ Q (.int i) H) ∨ ∃ k, xs = [V.bl k] ∧ Q (.int (if k then 1 else 0)) H) [.int i] H Q := .inl ⟨i, rfl, q⟩
end
/-! a source that is one's own is from here on a source -/
section
variable {c : Cc} {ρ : List S} {m : Nat} {t : TS} {N B C : Nat → List S → Prop} {R : Nat → S → Prop}
def plS : S → Bool
  | .no => true | .dat _ => true | .at_ _ => true | _ => false
theorem relS_srcBack {K : PySem.W.Frag} {Vd : Wd} {mo p : Nat} {H0 H G H' : Hp} {v : V} {s : S} (hb : ∀ a, H a = none → H0 a = none) (r : RelS K (srcW Vd mo p) H G H' v s) : RelS K Vd H0 G H' v s := by
  cases s with
  | no => trivial
  | dat d => exact r
  | at_ q => exact r
  | own o => obtain ⟨q, e, a, b, c, d⟩ := r; exact ⟨q, e, hb q a, b, fun z => c (.inl z), d⟩
  | vw o => obtain ⟨q, e, b, c, d⟩ := r; exact ⟨q, e, b, fun z => c (.inl z), d⟩
  | xc C a d fs => obtain ⟨e, b, c, r⟩ := r; exact ⟨e, b, fun z => c (.inl z), r⟩
theorem ds_src {i : Nat} {a b n : Int} (ms : Nat) (hi : ρ[i]? = some (.own (.lst [.int a, .int b, .int n]))) (hn : 0 ≤ n ∧ n + (ms : Int) ≤ 1048576) (nv : (ρ.set i .no).all plS = true)
    (h : ∀ p G0 H0, ¬ c.W.M p → Ds ⟨c.K, srcW c.W m p, fun _ _ _ => False, fun _ _ _ => False, ms, G0, H0⟩ ms t (ρ.set i (.at_ p)) (fun _ ρ' => N m (ρ'.set i .no)) (fun _ s => R m s) (fun _ ρ' => B m (ρ'.set i .no)) (fun _ ρ' => C m (ρ'.set i .no))) :
    Ds c m t ρ N R B C := fun D σ G H e k1 k2 k3 k4 => by
  rcases e.at_ i _ hi with z | ⟨v, hv, p, rfl, h0, gp, mp, xs, hp, rx⟩
  · cases z
  have ex : xs = [.int a, .int b, .int n] := by
    cases rx with
    | cons r1 rx =>
      cases rx with
      | cons r2 rx =>
        cases rx with
        | cons r3 rx => cases rx; cases r1; cases r2; cases r3; rfl
  subst ex
  have ok' : Ok (srcW c.W m p) ms G H := ⟨e.ok.ex, ⟨e.ok.inv, a, b, n, hp, hn.1, hn.2⟩, fun x hx => by
    rcases hx with hx | rfl
    · exact e.ok.off x hx
    · exact gp, e.ok.lk⟩
  have pls : ∀ (j : Nat) (s : S), j ≠ i → ρ[j]? = some s → plS s = true := fun j s hj hs => by
    refine List.all_eq_true.mp nv s (List.mem_of_getElem? (i := j) ?_)
    rw [List.getElem?_set_ne (Ne.symm hj)]; exact hs
  have e' : EnvOk ⟨c.K, srcW c.W m p, fun _ _ _ => False, fun _ _ _ => False, ms, G, H⟩ ms G H σ (ρ.set i (.at_ p)) := by
    refine ⟨ok', ok'.refl, fun _ _ _ _ _ _ _ _ _ _ _ _ _ z => z.elim, by rw [List.length_set]; exact e.len, fun j s hs => ?_, fun j k o o' q q' hjk hj => ?_⟩
    · by_cases hj : i = j
      · subst hj
        rw [List.getElem?_set] at hs
        simp only [if_true] at hs
        split at hs
        · cases hs; exact .inr ⟨_, hv, rfl⟩
        · cases hs
      · rw [List.getElem?_set_ne hj] at hs
        have pl := pls j s (Ne.symm hj) hs
        rcases e.at_ j s hs with z | ⟨w, aw, rw'⟩
        · exact .inl z
        · refine .inr ⟨w, aw, ?_⟩
          cases s <;> first | exact rw' | cases pl
    · exfalso
      by_cases hj2 : i = j
      · subst hj2
        rw [List.getElem?_set] at hj
        simp only [if_true] at hj
        split at hj <;> cases hj
      · rw [List.getElem?_set_ne hj2] at hj
        have pl := pls j _ (Ne.symm hj2) hj
        cases pl
  have back : ∀ {m' : Nat} {G' H' : Hp}, Grow (srcW c.W m p) G H m' G' H' → Grow c.W c.G0 c.H0 m G' H' := fun {m' G' H'} g =>
    ⟨e.gr.ex.trans g.ex, g.sub, fun x hx hg => g.fresh x (e.gr.there hx) (e.gr.fresh x hx hg), fun x o hm hx => g.keep x o (fun z => by
      rcases z with z | rfl
      · exact hm z
      · rw [h0] at hx; cases hx) (e.gr.keep x o hm hx), g.inv.1, fun x o u q => e.gr.lk x o u (g.lk x o u q)⟩
  have hb : ∀ x, H x = none → c.H0 x = none := fun x hx => e.gr.back hx
  have envb : ∀ {m' : Nat} {G' H' : Hp} {σ' : L2.St} {ρ' : List S}, EnvOk ⟨c.K, srcW c.W m p, fun _ _ _ => False, fun _ _ _ => False, ms, G, H⟩ m' G' H' σ' ρ' → EnvOk c m G' H' σ' (ρ'.set i .no) := fun {m' G' H' σ' ρ'} f => by
    have f1 : EnvOk c m G' H' σ' ρ' := ⟨e.ok0, back f.gr, e.exc, f.len, fun j s hs => (f.at_ j s hs).imp_right fun ⟨w, aw, r⟩ => ⟨w, aw, relS_srcBack hb r⟩, f.sep⟩
    have f2 := f1.unset (i := i) ((σ'[i]?).getD none)
    have es : σ'.set i ((σ'[i]?).getD none) = σ' := by
      apply List.ext_getElem?
      intro j
      by_cases hj : i = j
      · subst hj
        rw [List.getElem?_set]
        simp only [if_true]
        split
        · rename_i hl
          rw [List.getElem?_eq_getElem hl]
          rfl
        · rename_i hl
          rw [List.getElem?_eq_none (by omega)]
      · rw [List.getElem?_set_ne hj]
    rw [es] at f2
    exact f2
  exact h p G H mp D σ G H e' (fun ρ' σ' m' G' H' nn x f => k1 _ σ' m G' H' nn x (envb f)) (fun s v m' G' H' r g rr => k2 s v m G' H' r (back g) (relS_srcBack hb rr)) (fun ρ' σ' m' G' H' nn x f => k3 _ σ' m G' H' nn x (envb f)) (fun ρ' σ' m' G' H' nn x f => k4 _ σ' m G' H' nn x (envb f))
end
end DL
set_option Elab.async false
set_option linter.all false
set_option maxRecDepth 100000
set_option maxHeartbeats 1000000
namespace DL
open PySem PySem.Spec PyProof.Rows L2 Evl
variable {m m1 : Nat}
/-! ### own things among items and arguments become data -/
section
variable {K : PySem.W.Frag} {W : Wd} {G H G1 H1 : Hp}
/-- as RelS; an own thing may have become data meanwhile -/
def RelF (K : PySem.W.Frag) (W : Wd) (H0 G H : Hp) (v : V) : S → Prop
  | .own o => ∃ p, v = .ref p ∧ H0 p = none ∧ (G p = none ∨ G p = H p) ∧ ¬ W.M p ∧ ObjRp K G H p o
  | s => RelS K W H0 G H v s
inductive RelFs (K : PySem.W.Frag) (W : Wd) (H0 G H : Hp) : List V → List S → Prop
  | nil : RelFs K W H0 G H [] []
  | cons {v : V} {vs : List V} {s : S} {ss : List S} : RelF K W H0 G H v s → RelFs K W H0 G H vs ss → RelFs K W H0 G H (v :: vs) (s :: ss)
theorem RelSs.toF {H0 : Hp} : ∀ {vs : List V} {ss : List S}, RelSs K W H0 G H vs ss → RelFs K W H0 G H vs ss
  | _, _, .nil => .nil
  | _, s :: _, .cons h r => .cons (by
      cases s with
      | own o => obtain ⟨p, a, b, c, d, e⟩ := h; exact ⟨p, a, b, .inl c, d, e⟩
      | _ => exact h) r.toF
def frzOk : S → Bool
  | .own _ => true | .dat _ => true | .at_ _ => true | _ => false
/-- one step -/
theorem frz_one {H0 : Hp} {v : V} {s : S} (g : Grow W G H m1 G1 H1) (hs : frzOk s = true) (r : RelF K W H G1 H1 v s) :
    ∃ G2, Grow W G H m1 G2 H1 ∧ RelS K W H0 G2 H1 v s.frz ∧ Ex G1 G2 ∧ ∀ q, G2 q = G1 q ∨ (G1 q = none ∧ G2 q = H1 q) := by
  cases s with
  | dat d => exact ⟨G1, g, r, Ex.refl _, fun _ => .inl rfl⟩
  | at_ p => exact ⟨G1, g, r, Ex.refl _, fun _ => .inl rfl⟩
  | own o =>
    obtain ⟨p, rfl, h0, n, m, ob⟩ := r
    rcases n with n | n
    · obtain ⟨G2, a, b, c, d⟩ := RelS.freezeX g (s := .own o) ⟨p, rfl, h0, n, m, ob⟩
      refine ⟨G2, a, ?_, c, fun q => ?_⟩
      · cases o <;> exact b
      · cases e : G1 q with
        | some u => exact .inl (c _ _ e)
        | none =>
          by_cases hq : V.ref p = .ref q
          · cases hq
            refine .inr ⟨rfl, ?_⟩
            cases e2 : G2 p with
            | some u => exact (a.sub _ _ e2).symm
            | none =>
              exfalso
              cases o with
              | lst ds => have b : Rp K G2 (.ref p) (.lst ds) := b; cases b with | lst h _ => rw [h] at e2; cases e2
              | dK ds => have b : Rp K G2 (.ref p) (.dic ds) := b; cases b with | dic h _ _ => rcases h with h | ⟨_, h⟩ <;> (rw [h] at e2; cases e2)
              | dT ds => have b : Rp K G2 (.ref p) (.dit ds) := b; cases b with | dit h _ _ => rcases h with h | ⟨_, h⟩ <;> (rw [h] at e2; cases e2)
          · exact .inl (d q e hq)
    · refine ⟨G1, g, ?_, Ex.refl _, fun _ => .inl rfl⟩
      cases o with
      | lst ds => obtain ⟨xs, a, b⟩ := ob; exact Rp.lst (n.trans a) b
      | dK ds => obtain ⟨xs, a, k, b⟩ := ob; exact Rp.dic (.inl (n.trans a)) k b
      | dT ds => obtain ⟨xs, a, k, b⟩ := ob; exact Rp.dit (.inl (n.trans a)) k b
  | no => cases hs
  | vw o => cases hs
  | xc _ _ _ _ => cases hs
theorem RelF.up {H0 G2 : Hp} {v : V} {s : S} (hs : frzOk s = true) (e : Ex G1 G2) (k : ∀ q, G2 q = G1 q ∨ (G1 q = none ∧ G2 q = H1 q)) (r : RelF K W H0 G1 H1 v s) : RelF K W H0 G2 H1 v s := by
  cases s with
  | dat d => exact Rp.mono e r
  | at_ p => exact r
  | own o =>
    obtain ⟨p, rfl, h0, n, m, ob⟩ := r
    refine ⟨p, rfl, h0, ?_, m, ob.mono e rfl⟩
    rcases k p with z | ⟨_, z⟩
    · rw [z]; exact n
    · exact .inr z
  | no => cases hs
  | vw o => cases hs
  | xc _ _ _ _ => cases hs
theorem RelFs.up {H0 G2 : Hp} (e : Ex G1 G2) (k : ∀ q, G2 q = G1 q ∨ (G1 q = none ∧ G2 q = H1 q)) : ∀ {vs : List V} {ss : List S}, ss.all frzOk = true → RelFs K W H0 G1 H1 vs ss → RelFs K W H0 G2 H1 vs ss
  | _, _, _, .nil => .nil
  | _, _, q, .cons h r => by
    rw [List.all_cons] at q
    obtain ⟨q1, q2⟩ := Bool.and_eq_true_iff.mp q
    exact .cons (h.up q1 e k) (r.up e k q2)
theorem frz_arg {s : S} (h : frzOk s = true) : argS s.frz = true := by cases s <;> first | rfl | cases h
theorem relA_up {K : PySem.W.Frag} {W : Wd} {H0 H G1 G2 : Hp} {v : V} {s : S} (h : argS s = true) (e : Ex G1 G2) (r : RelS K W H0 G1 H v s) : RelS K W H0 G2 H v s := by
  cases s with
  | dat d => exact Rp.mono e r
  | at_ p => exact r
  | no => cases h
  | own o => cases h
  | vw o => cases h
  | xc _ _ _ _ => cases h
theorem frz_all {H0 : Hp} : ∀ {vs : List V} {ss : List S} {G1 : Hp}, Grow W G H m1 G1 H1 → ss.all frzOk = true → RelFs K W H G1 H1 vs ss →
    ∃ G2, Grow W G H m1 G2 H1 ∧ RelSs K W H0 G2 H1 vs (ss.map S.frz) ∧ Ex G1 G2
  | [], [], G1, g, _, _ => ⟨G1, g, .nil, Ex.refl _⟩
  | [], _ :: _, _, _, _, z => by cases z
  | _ :: _, [], _, _, _, z => by cases z
  | v :: vs, s :: ss, G1, g, q, z => by
    have h : RelF K W H G1 H1 v s := by cases z with | cons h r => exact h
    have r : RelFs K W H G1 H1 vs ss := by cases z with | cons h r => exact r
    rw [List.all_cons] at q
    obtain ⟨q1, q2⟩ := Bool.and_eq_true_iff.mp q
    obtain ⟨G2, g2, r2, e2, k2⟩ := frz_one (H0 := H0) g q1 h
    obtain ⟨G3, g3, r3, e3⟩ := frz_all g2 q2 (r.up e2 k2 q2)
    exact ⟨G3, g3, .cons (relA_up (frz_arg q1) e3 r2) r3, e2.trans e3⟩
end
section
variable {c : Cc} {ρ : List S} {Φ : Nat → S → Prop} {tr : TA}
theorem da_frz {Θ : Nat → List S → Prop} (h : DA c m tr ρ fun m ss => ss.all frzOk = true ∧ Θ m (ss.map S.frz)) : DA c m tr ρ Θ := fun σ G H e Q q => h σ G H e _ fun vs ss m1 G1 H1 g1 r1 ⟨hs, p⟩ => by
  obtain ⟨G2, g2, r2, _⟩ := frz_all (H0 := H) g1 hs r1.toF
  exact q vs _ m1 G2 H1 g2 r2 p
theorem de_tupF (h : DA c m tr ρ fun m ss => ss.all frzOk = true ∧ ∃ ds : List D, ss.map S.frz = ds.map S.dat ∧ ds.length ≤ 1000000 ∧ Φ m (.dat (.tup ds))) : De c m (tTup tr) ρ Φ := de_tup (da_frz h)
theorem de_lstF (h : DA c m tr ρ fun m ss => ss.all frzOk = true ∧ ∃ ds : List D, ss.map S.frz = ds.map S.dat ∧ ds.length ≤ 1000000 ∧ Φ m (.own (.lst ds))) : De c m (tLst tr) ρ Φ := de_lst (da_frz h)
theorem all_arg : ∀ {ss : List S}, ss.all frzOk = true → (ss.map S.frz).all argS = true
  | [], _ => rfl
  | s :: ss, h => by
    rw [List.all_cons] at h
    obtain ⟨q1, q2⟩ := Bool.and_eq_true_iff.mp h
    rw [List.map_cons, List.all_cons, frz_arg q1, all_arg q2]
    rfl
theorem da_imp {Θ Θ' : Nat → List S → Prop} (h : DA c m tr ρ Θ) (i : ∀ m ss, Θ m ss → Θ' m ss) : DA c m tr ρ Θ' := fun σ G H e Q q => h σ G H e Q fun vs ss m1 G1 H1 g r p => q vs ss m1 G1 H1 g r (i m1 ss p)
theorem de_callF {C : Fc} (h : DA c m tr ρ fun m ss => ss.all frzOk = true ∧ C c.W m (ss.map S.frz) Φ c.Ξ) : De c m (tCall (spF c.K C) [] c.E tr) ρ Φ :=
  de_call (da_frz (da_imp h fun m ss ⟨a, b⟩ => ⟨a, all_arg a, b⟩))
theorem de_call0F {C : Fc} (h : DA c m tr ρ fun m ss => ss.all frzOk = true ∧ C c.W m (ss.map S.frz) Φ fun _ _ _ => False) : De c m (tCall (spF c.K C) [] E0 tr) ρ Φ :=
  de_call0 (da_frz (da_imp h fun m ss ⟨a, b⟩ => ⟨a, all_arg a, b⟩))
end
/-! ### the end of a def's environment -/
theorem env_eq {c : Cc} {m : Nat} {t : TS} {ρ ρ' : List S} {N B C : Nat → List S → Prop} {R : Nat → S → Prop} (e : ρ = ρ') (h : Ds c m t ρ' N R B C) : Ds c m t ρ N R B C := by rw [e]; exact h
end DL
set_option Elab.async false
set_option linter.all false
set_option maxRecDepth 100000
set_option maxHeartbeats 1000000
namespace DL
open PySem PySem.Spec PyProof.Rows L2 Evl
variable {m m1 : Nat}
/-! ### items -/
def isD : S → Bool
  | .dat _ => true | .own _ => true | _ => false
def unD : S → D
  | .dat d => d | .own o => o.frz | _ => .non
def LstK (n : Nat) (ss : List S) (P : List D → Prop) : Prop := ss.all isD = true ∧ ss.length ≤ n ∧ P (ss.map unD)
theorem lk_nil {n : Nat} {P : List D → Prop} (h : P []) : LstK n [] P := ⟨rfl, Nat.zero_le _, h⟩
theorem lk_dat {n : Nat} {d : D} {ss : List S} {P : List D → Prop} (h : LstK n ss fun ds => P (d :: ds)) : LstK (n + 1) (.dat d :: ss) P := ⟨by rw [List.all_cons, h.1]; rfl, by have := h.2.1; rw [List.length_cons]; omega, h.2.2⟩
theorem lk_lst {n : Nat} {es : List D} {ss : List S} {P : List D → Prop} (h : LstK n ss fun ds => P (.lst es :: ds)) : LstK (n + 1) (.own (.lst es) :: ss) P := ⟨by rw [List.all_cons, h.1]; rfl, by have := h.2.1; rw [List.length_cons]; omega, h.2.2⟩
theorem lk_dK {n : Nat} {es : List (Key × D)} {ss : List S} {P : List D → Prop} (h : LstK n ss fun ds => P (.dic es :: ds)) : LstK (n + 1) (.own (.dK es) :: ss) P := ⟨by rw [List.all_cons, h.1]; rfl, by have := h.2.1; rw [List.length_cons]; omega, h.2.2⟩
theorem lk_dT {n : Nat} {es : List (List Key × D)} {ss : List S} {P : List D → Prop} (h : LstK n ss fun ds => P (.dit es :: ds)) : LstK (n + 1) (.own (.dT es) :: ss) P := ⟨by rw [List.all_cons, h.1]; rfl, by have := h.2.1; rw [List.length_cons]; omega, h.2.2⟩
theorem lk_app {n k : Nat} {es : List D} {ss : List S} {P : List D → Prop} (hk : es.length ≤ k) (h : LstK n ss fun ds => P (es ++ ds)) : LstK (n + k) (es.map S.dat ++ ss) P := by
  refine ⟨?_, ?_, ?_⟩
  · rw [List.all_append, h.1, Bool.and_true, List.all_map, List.all_eq_true]
    intro x _; rfl
  · have := h.2.1
    rw [List.length_append, List.length_map]; omega
  · rw [List.map_append, List.map_map]
    have e : es.map (unD ∘ S.dat) = es := by
      conv => rhs; rw [← List.map_id es]
      rfl
    rw [e]
    exact h.2.2
theorem isD_frz {ss : List S} (h : ss.all isD = true) : ss.all frzOk = true ∧ ss.map S.frz = (ss.map unD).map S.dat := by
  induction ss with
  | nil => exact ⟨rfl, rfl⟩
  | cons s ss ih =>
    rw [List.all_cons] at h
    obtain ⟨q1, q2⟩ := Bool.and_eq_true_iff.mp h
    obtain ⟨a, b⟩ := ih q2
    rw [List.all_cons, a, List.map_cons, List.map_cons, List.map_cons, b]
    cases s <;> first | exact ⟨rfl, rfl⟩ | cases q1
section
variable {c : Cc} {ρ : List S} {Φ : Nat → S → Prop} {tr : TA}
theorem de_tupG (h : DA c m tr ρ fun m ss => LstK 1000 ss fun ds => Φ m (.dat (.tup ds))) : De c m (tTup tr) ρ Φ :=
  de_tupF (da_imp h fun m ss ⟨a, b, p⟩ => ⟨(isD_frz a).1, _, (isD_frz a).2, by rw [List.length_map]; omega, p⟩)
theorem de_lstG (h : DA c m tr ρ fun m ss => LstK 1000 ss fun ds => Φ m (.own (.lst ds))) : De c m (tLst tr) ρ Φ :=
  de_lstF (da_imp h fun m ss ⟨a, b, p⟩ => ⟨(isD_frz a).1, _, (isD_frz a).2, by rw [List.length_map]; omega, p⟩)
/-! ### arguments -/
def ArgK (ss : List S) (P : List S → Prop) : Prop := ss.all frzOk = true ∧ P (ss.map S.frz)
theorem ak_nil {P : List S → Prop} (h : P []) : ArgK [] P := ⟨rfl, h⟩
theorem ak_dat {d : D} {ss : List S} {P : List S → Prop} (h : ArgK ss fun ds => P (.dat d :: ds)) : ArgK (.dat d :: ss) P := ⟨by rw [List.all_cons, h.1]; rfl, h.2⟩
theorem ak_at {p : Addr} {ss : List S} {P : List S → Prop} (h : ArgK ss fun ds => P (.at_ p :: ds)) : ArgK (.at_ p :: ss) P := ⟨by rw [List.all_cons, h.1]; rfl, h.2⟩
theorem ak_lst {es : List D} {ss : List S} {P : List S → Prop} (h : ArgK ss fun ds => P (.dat (.lst es) :: ds)) : ArgK (.own (.lst es) :: ss) P := ⟨by rw [List.all_cons, h.1]; rfl, h.2⟩
theorem ak_dK {es : List (Key × D)} {ss : List S} {P : List S → Prop} (h : ArgK ss fun ds => P (.dat (.dic es) :: ds)) : ArgK (.own (.dK es) :: ss) P := ⟨by rw [List.all_cons, h.1]; rfl, h.2⟩
theorem ak_dT {es : List (List Key × D)} {ss : List S} {P : List S → Prop} (h : ArgK ss fun ds => P (.dat (.dit es) :: ds)) : ArgK (.own (.dT es) :: ss) P := ⟨by rw [List.all_cons, h.1]; rfl, h.2⟩
theorem de_callG {C : Fc} (h : DA c m tr ρ fun m ss => ArgK ss fun ss => C c.W m ss Φ c.Ξ) : De c m (tCall (spF c.K C) [] c.E tr) ρ Φ := de_callF h
theorem de_call0G {C : Fc} (h : DA c m tr ρ fun m ss => ArgK ss fun ss => C c.W m ss Φ fun _ _ _ => False) : De c m (tCall (spF c.K C) [] E0 tr) ρ Φ := de_call0F h
end
/-! ### a value that is dropped -/
section
variable {c : Cc} {ρ : List S} {N B C : Nat → List S → Prop} {R : Nat → S → Prop} {K : PySem.W.Frag} {sp : Sp} {ds : List V} {E : XK} {tr : TA} {T : String} {te : TE} {r : V → List V → Hp → VK → Prop} {rb : List V → Hp → VK → Prop}
theorem ds_dropC (h : De c m (tCall sp ds E tr) ρ fun m _ => N m ρ) : Ds c m (tDrop (tCall sp ds E tr)) ρ N R B C := ds_drop h
theorem ds_dropB (h : De c m (tCB rb tr) ρ fun m _ => N m ρ) : Ds c m (tDrop (tCB rb tr)) ρ N R B C := ds_drop h
theorem ds_drop0 (h : De c m (tBM0 K T r te) ρ fun m _ => N m ρ) : Ds c m (tDrop (tBM0 K T r te)) ρ N R B C := ds_drop h
end
/-! ### slots that are forgotten -/
inductive Wk : List S → List S → Prop
  | nil : Wk [] []
  | keep {s : S} {a b : List S} : Wk a b → Wk (s :: a) (s :: b)
  | drop {s : S} {a b : List S} : Wk a b → Wk (s :: a) (.no :: b)
theorem Wk.refl : ∀ a : List S, Wk a a
  | [] => .nil
  | _ :: a => .keep (Wk.refl a)
theorem Wk.len {a b : List S} (h : Wk a b) : b.length = a.length := by
  induction h with
  | nil => rfl
  | keep _ ih => simp [ih]
  | drop _ ih => simp [ih]
theorem Wk.get {a b : List S} (h : Wk a b) : ∀ {i : Nat} {s : S}, b[i]? = some s → s = .no ∨ a[i]? = some s := by
  induction h with
  | nil => intro i s h; simp at h
  | keep _ ih =>
    intro i s h
    cases i with
    | zero => exact .inr h
    | succ i => exact ih (i := i) (by simpa using h)
  | drop _ ih =>
    intro i s h
    cases i with
    | zero => left; simp at h; exact h.symm
    | succ i => exact ih (i := i) (by simpa using h)
theorem EnvOk.wk {c : Cc} {G H : Hp} {σ : L2.St} {a b : List S} (w : Wk a b) (e : EnvOk c m G H σ a) : EnvOk c m G H σ b :=
  ⟨e.ok0, e.gr, e.exc, by rw [w.len]; exact e.len, fun i s h => by
    rcases w.get h with z | z
    · exact .inl z
    · exact e.at_ i s z, fun i j o o' p q hij hi hj pi pj => by
    rcases w.get hi with z | z
    · cases z
    · rcases w.get hj with z2 | z2
      · cases z2
      · exact e.sep i j o o' p q hij z z2 pi pj⟩
def WkJ (ρ : List S) (P : List S → Prop) : Prop := ∃ ρ', Wk ρ ρ' ∧ P ρ'
section
variable {c : Cc} {ρ : List S} {t u : TS} {tt : TT} {N B C : Nat → List S → Prop} {R : Nat → S → Prop} {wi : TI} {g : TG}
theorem Ds.weak {B' C' N' : Nat → List S → Prop} (h : Ds c m t ρ N R B C) (hn : ∀ m ρ, N m ρ → WkJ ρ (N' m)) (hb : ∀ m ρ, B m ρ → WkJ ρ (B' m)) (hc : ∀ m ρ, C m ρ → WkJ ρ (C' m)) : Ds c m t ρ N' R B' C' := fun D σ G H e k1 k2 k3 k4 =>
  h D σ G H e (fun ρ' σ' m' G' H' n x f => by obtain ⟨ρ2, w, n2⟩ := hn _ _ n; exact k1 ρ2 σ' m' G' H' n2 x (f.wk w)) k2 (fun ρ' σ' m' G' H' n x f => by obtain ⟨ρ2, w, n2⟩ := hb _ _ n; exact k3 ρ2 σ' m' G' H' n2 x (f.wk w)) (fun ρ' σ' m' G' H' n x f => by obtain ⟨ρ2, w, n2⟩ := hc _ _ n; exact k4 ρ2 σ' m' G' H' n2 x (f.wk w))
theorem DG.wk {vs : List Nat} {d : D} {ρ1 ρ2 ρ3 : List S} (w : Wk ρ1 ρ2) (h : DG c m g vs d ρ2 ρ3) : DG c m g vs d ρ1 ρ3 := fun v σ G H e r Q q => h v σ G H (e.wk w) r Q fun σ' k z => q σ' (fun m' G' H' x f => k m' G' H' x (f.wk w)) z
theorem DT.wk {ρ1 ρ2 : List S} {Φ : Nat → Bool → Prop} (w : Wk ρ1 ρ2) (h : DT c m tt ρ2 Φ) : DT c m tt ρ1 Φ := fun σ G H e Q q => h σ G H (e.wk w) Q q
theorem ds_forget {ρ' : List S} (w : Wk ρ ρ') (h : Ds c m t ρ' N R B C) : Ds c m t ρ N R B C := fun D σ G H e k1 k2 k3 k4 => h D σ G H (e.wk w) k1 k2 k3 k4
theorem ds_forW {vs : List Nat} (h : DI c m wi ρ fun m ds => ∃ J : Nat → Nat → List S → Prop, WkJ ρ (J 0 m) ∧ (∀ i d m ρ', ds[i]? = some d → J i m ρ' → ∃ ρ2, DG c m g vs d ρ' ρ2 ∧ Ds c m t ρ2 (fun m ρ' => WkJ ρ' (J (i + 1) m)) R N (fun m ρ' => WkJ ρ' (J (i + 1) m))) ∧ ∀ m ρ', J ds.length m ρ' → N m ρ') : Ds c m (tFor wi g t) ρ N R B C := by
  have key : Ds c m (tFor wi g t) ρ (fun m ρ => WkJ ρ (N m)) R B C := by
    refine ds_for (vs := vs) fun σ G H e R' q => h σ G H e R' fun I ds m' G' H' gg it ⟨J, ⟨ρ0, w0, j0⟩, jt, jd⟩ => ?_
    refine q I ds m' G' H' gg it ⟨fun i m ρ => WkJ ρ (J i m), ⟨ρ0, w0, j0⟩, ?_, ?_⟩
    · rintro i d m ρ1 hd ⟨ρ2, w, j⟩
      obtain ⟨ρ3, dg, hs⟩ := jt i d m ρ2 hd j
      exact ⟨ρ3, dg.wk w, hs.imp (fun _ _ n => n) (fun _ _ n => n) (fun _ ρ n => ⟨ρ, Wk.refl ρ, n⟩) (fun _ _ n => n)⟩
    · rintro m ρ1 ⟨ρ2, w, j⟩
      exact ⟨ρ2, w, jd m ρ2 j⟩
  exact key.weak (fun _ _ n => n) (fun _ ρ n => ⟨ρ, Wk.refl ρ, n⟩) (fun _ ρ n => ⟨ρ, Wk.refl ρ, n⟩)
theorem ds_whileW (J : Nat → Nat → List S → Prop) (n0 : Nat) (h0 : WkJ ρ (J n0 m)) (h : ∀ n m ρ', J n m ρ' → DT c m tt ρ' fun m b => (b = true → Ds c m t ρ' (fun m ρ2 => ∃ n', n' < n ∧ WkJ ρ2 (J n' m)) R N (fun m ρ2 => ∃ n', n' < n ∧ WkJ ρ2 (J n' m))) ∧ (b = false → N m ρ')) : Ds c m (tWhile tt t) ρ N R B C := by
  have key : Ds c m (tWhile tt t) ρ (fun m ρ => WkJ ρ (N m)) R B C := by
    refine ds_while (fun n m ρ => WkJ ρ (J n m)) n0 h0 ?_
    rintro n m ρ1 ⟨ρ2, w, j⟩
    have hh := (h n m ρ2 j).wk w
    refine hh.imp fun m b ⟨h1, h2⟩ => ⟨fun hb => ?_, fun hb => ⟨ρ2, w, h2 hb⟩⟩
    exact ds_forget w ((h1 hb).imp (fun _ _ n => n) (fun _ _ n => n) (fun _ ρ n => ⟨ρ, Wk.refl ρ, n⟩) (fun _ _ n => n))
  exact key.weak (fun _ _ n => n) (fun _ ρ n => ⟨ρ, Wk.refl ρ, n⟩) (fun _ ρ n => ⟨ρ, Wk.refl ρ, n⟩)
/-- a block in two parts -/
theorem ds_cut (M : Nat → List S → Prop) (h1 : Ds c m t ρ (fun m ρ => WkJ ρ (M m)) R B C) (h2 : ∀ m ρ, M m ρ → Ds c m u ρ N R B C) : Ds c m (tSeq t u) ρ N R B C :=
  ds_seq (h1.imp (fun m ρ ⟨ρ', w, n⟩ => ds_forget w (h2 m ρ' n)) (fun _ _ n => n) (fun _ _ n => n) (fun _ _ n => n))
end
/-! ### a def's body -/
theorem run_fnP {K : PySem.W.Frag} {F : Fc} {Nm : List Str} {t : TS} {vs : List V} {H : Hp} {Q : VK} {E : XK} {n k : Nat} (pad : List S) (hN : Nm.length = n + k) (hv : vs.length = n) (hpad : pad = List.replicate k .no) (h : spF K F vs H Q E)
    (body : ∀ W m ss Φ Ξ G, F W m ss Φ Ξ → Ds ⟨K, W, E, Ξ, m, G, H⟩ m t (ss ++ pad) (fun m _ => Φ m (.dat .non)) Φ (fun _ _ => False) (fun _ _ => False)) :
    t { nx := fun _ H' => Q .non H', rt := Q } (L2.start Nm vs) H := by
  obtain ⟨W, m, G, ss, Φ, Ξ, ok, rs, rest⟩ := h
  have hl : ss.length = n := by rw [← rs.length]; exact hv
  refine run_fn (F := fun W m ss Φ Ξ => ss.length = n ∧ F W m ss Φ Ξ) (by omega) ⟨W, m, G, ss, Φ, Ξ, ok, rs, rest.1, ⟨hl, rest.2.1⟩, rest.2.2⟩ fun W m ss Φ Ξ G ⟨hl2, hf⟩ => ?_
  have e : Nm.length - ss.length = k := by omega
  rw [e, ← hpad]
  exact body W m ss Φ Ξ G hf
end DL
set_option Elab.async false
set_option linter.all false
set_option maxRecDepth 100000
set_option maxHeartbeats 1000000
namespace DL
open PySem PySem.Spec PyProof.Rows L2 Evl
/-! ### an exception's __init__ -/
section
variable {K : PySem.W.Frag} {C : Addr} {H : Hp} {Q : VK} {E : XK} {vs : List V} {f g k : Str}
theorem upd_comm2 {H : Hp} {a d : Addr} {o o1 o2 : HO} (ne : d ≠ a) : upd (upd (upd H d o1) a o) d o2 = upd (upd H d o2) a o := by
  funext b
  by_cases h1 : b = d
  · rw [h1, upd_same, upd_ne ne, upd_same]
  · rw [upd_ne h1]
    by_cases h2 : b = a
    · rw [h2, upd_same, upd_same]
    · rw [upd_ne h2, upd_ne h1, upd_ne h2, upd_ne h1]
theorem init1 (T : OexC K C) (n1 : PySem.W.findIn K (.ref C) f = some none) (h : spX C [f] vs H Q E) : tOst K f (tVar 0) (tVar 1) { nx := fun _ H' => Q .non H', rt := Q } (L2.start ["self", f] vs) H := by
  obtain ⟨a, ws, rfl, hl, ha, hq⟩ := h
  match ws, hl with
  | [w], _ => exact ⟨w, rfl, _, rfl, a, C, rfl, T, n1, .inl ⟨ha, fun dx hd ne => hq dx hd ne⟩⟩
theorem init2 (T : OexC K C) (n1 : PySem.W.findIn K (.ref C) f = some none) (n2 : PySem.W.findIn K (.ref C) g = some none) (h : spX C [f, g] vs H Q E) : tSeq (tOst K f (tVar 0) (tVar 1)) (tOst K g (tVar 0) (tVar 2)) { nx := fun _ H' => Q .non H', rt := Q } (L2.start ["self", f, g] vs) H := by
  obtain ⟨a, ws, rfl, hl, ha, hq⟩ := h
  match ws, hl with
  | [w, u], _ =>
    refine ⟨w, rfl, _, rfl, a, C, rfl, T, n1, .inl ⟨ha, fun dx hd ne => ?_⟩⟩
    refine ⟨u, rfl, _, rfl, a, C, rfl, T, n2, .inr ⟨dx, [(f, w)], upd_same, by rw [upd_ne ne]; exact upd_same, by show 1 ≤ 900; decide, ?_⟩⟩
    rw [upd_comm2 ne]
    exact hq dx hd ne
theorem init3 (T : OexC K C) (n1 : PySem.W.findIn K (.ref C) f = some none) (n2 : PySem.W.findIn K (.ref C) g = some none) (n3 : PySem.W.findIn K (.ref C) k = some none) (h : spX C [f, g, k] vs H Q E) :
    tSeq (tOst K f (tVar 0) (tVar 1)) (tSeq (tOst K g (tVar 0) (tVar 2)) (tOst K k (tVar 0) (tVar 3))) { nx := fun _ H' => Q .non H', rt := Q } (L2.start ["self", f, g, k] vs) H := by
  obtain ⟨a, ws, rfl, hl, ha, hq⟩ := h
  match ws, hl with
  | [w, u, z], _ =>
    refine ⟨w, rfl, _, rfl, a, C, rfl, T, n1, .inl ⟨ha, fun dx hd ne => ?_⟩⟩
    refine ⟨u, rfl, _, rfl, a, C, rfl, T, n2, .inr ⟨dx, [(f, w)], upd_same, by rw [upd_ne ne]; exact upd_same, by show 1 ≤ 900; decide, ?_⟩⟩
    rw [upd_comm2 ne]
    refine ⟨z, rfl, _, rfl, a, C, rfl, T, n3, .inr ⟨dx, [(g, u), (f, w)], upd_same, by rw [upd_ne ne]; exact upd_same, by show 2 ≤ 900; decide, ?_⟩⟩
    rw [upd_comm2 ne]
    exact hq dx hd ne
end
def oexB1 (o : Obj) (C : Addr) : Bool := match o with
  | ⟨.type t, _, .cls cd, sl⟩ => (match cd.mro, sl.toList with
    | .ref C' :: bm, [_, _, _, _, some (.builtin n), _] => decide (t = "type") && (decide (C' = C) && (decide (n = "ValueError.__new__") && (!cd.hasDel && (cd.hasDict && PySem.HandSPX.refsVE bm))))
    | _, _ => false)
  | _ => false
def oexB (K : PySem.W.Frag) (C : Addr) : Bool := (match K.lookup C with
  | some o => oexB1 o C
  | _ => false) && (He.eqO (PySem.W.findIn K (.ref C) "__setattr__") (some (some (.builtin "object.__setattr__"))) && (decide (PySem.W.subIn K (.ref C) (.type "BaseException") = some true) && (decide (PySem.W.typeIn K (.ref C) = some (.type "type")) && (PySem.W.keepIn K (.ref C) && xfB K C))))
theorem oexB1_ok {o : Obj} {C : Addr} (h : oexB1 o C = true) : ∃ nm q N bs bm sn sub ab col dd k0 k1 k2 k3 k5, o = excClassObj nm q C N bs bm true sn sub ab col dd k0 k1 k2 k3 k5 "ValueError.__new__" ∧ PySem.HandSPX.refsVE bm = true := by
  obtain ⟨oc, od, dt, sl⟩ := o
  cases oc with
  | type t =>
    cases dt with
    | cls cd =>
      obtain ⟨nm, bs, mro, ns, qn, hd, sn, sb, ab, col, del⟩ := cd
      obtain ⟨sl⟩ := sl
      unfold oexB1 at h
      dsimp only at h
      split at h
      · obtain ⟨h1, h⟩ := He.ba h
        obtain ⟨h2, h⟩ := He.ba h
        obtain ⟨h3, h⟩ := He.ba h
        obtain ⟨h4, h⟩ := He.ba h
        obtain ⟨h5, h6⟩ := He.ba h
        have e1 := of_decide_eq_true h1
        have e2 := of_decide_eq_true h2
        have e3 := of_decide_eq_true h3
        subst e1 e2 e3 h5
        cases del with
        | true => cases h4
        | false => exact ⟨_, _, _, _, _, _, _, _, _, _, _, _, _, _, _, rfl, h6⟩
      · cases h
    | _ => cases h
  | _ => cases dt <;> cases h
theorem oexB_ok {K : PySem.W.Frag} {C : Addr} (h : oexB K C = true) : OexC K C ∧ XfC K C := by
  obtain ⟨h1, h⟩ := He.ba h
  obtain ⟨h2, h⟩ := He.ba h
  obtain ⟨h3, h⟩ := He.ba h
  obtain ⟨h4, h⟩ := He.ba h
  obtain ⟨h5, h6⟩ := He.ba h
  refine ⟨⟨?_, He.eqO_ok h2, of_decide_eq_true h3, of_decide_eq_true h4, h5⟩, xfB_ok h6⟩
  cases e : K.lookup C with
  | none => rw [e] at h1; cases h1
  | some o =>
    rw [e] at h1
    obtain ⟨nm, q, N, bs, bm, sn, sub, ab, col, dd, k0, k1, k2, k3, k5, e2, e3⟩ := oexB1_ok h1
    exact ⟨nm, q, N, bs, bm, sn, sub, ab, col, dd, k0, k1, k2, k3, k5, by rw [e2], e3⟩
theorem isFn_ok {K : PySem.W.Frag} {v : Value} (h : PySem.W.isFn K v = true) : PySem.W.typeIn K v = some (.type "function") := by
  unfold PySem.W.isFn at h
  exact beq_iff_eq.mp h
/-! ### the start of a law -/
def scrOf (H : Hp) : Hp := fun b => match H b with
  | some (.lst xs) => some (.lst xs)
  | some (.frz o (.lst xs)) => some (.frz o (.lst xs))
  | _ => none
theorem start_law {K : PySem.W.Frag} {F : Fc} {H : Hp} {a : Addr} {ns : List Int} (hS : SqL K H a (ns.map V.int)) (hF : F W0 0 [.dat (.scr ns)] (fun _ s => s = .dat (.bl true)) fun _ _ _ => False) :
    spF K F [.ref a] H (fun v _ => v = .bl true) fun _ _ _ => False := by
  have ex : Ex (scrOf H) H := fun b o h => by
    unfold scrOf at h
    split at h
    · rename_i e; rw [e]; exact h
    · rename_i e; rw [e]; exact h
    · cases h
  refine ⟨W0, 0, scrOf H, [.dat (.scr ns)], fun _ s => s = .dat (.bl true), fun _ _ _ => False, ⟨ex, trivial, fun _ z => z.elim, fun b o u h hu => ?_⟩, ?_, rfl, hF, ?_, fun _ _ _ _ _ _ _ _ _ _ _ _ _ z => z.elim⟩
  · unfold scrOf at h
    split at h
    · cases h
    · rename_i xs e; cases h; exact (hu xs rfl).elim
    · cases h
  · refine .cons (Rp.scr ?_) .nil
    rcases hS with hS | hS
    · left
      rcases hS with hS | ⟨o, hS⟩
      · exact .inl (by unfold scrOf; rw [hS])
      · exact .inr ⟨o, by unfold scrOf; rw [hS]⟩
    · exact .inr hS
  · intro v s m' G' H' _ r e
    subst e
    cases r
    rfl
end DL
/-! plain mathematics: binomials -/
namespace KM
def ch : Nat → Nat → Nat
  | _, 0 => 1
  | 0, _ + 1 => 0
  | n + 1, k + 1 => ch n k + ch n (k + 1)
@[simp] theorem ch_zero (n : Nat) : ch n 0 = 1 := by cases n <;> rfl
@[simp] theorem ch_zs (k : Nat) : ch 0 (k + 1) = 0 := rfl
theorem ch_ss (n k : Nat) : ch (n + 1) (k + 1) = ch n k + ch n (k + 1) := rfl
theorem ch_gt : ∀ {n k : Nat}, n < k → ch n k = 0
  | _, 0, h => by omega
  | 0, k + 1, _ => rfl
  | n + 1, k + 1, h => by rw [ch_ss, ch_gt (by omega), ch_gt (by omega)]
theorem ch_self : ∀ n : Nat, ch n n = 1
  | 0 => rfl
  | n + 1 => by rw [ch_ss, ch_self n, ch_gt (by omega)]
theorem succ_mul : ∀ n k : Nat, (n + 1) * ch n k = ch (n + 1) (k + 1) * (k + 1)
  | 0, 0 => rfl
  | 0, k + 1 => by simp [ch_ss]
  | n + 1, 0 => by
    have h := succ_mul n 0
    rw [ch_zero] at h
    rw [ch_zero, ch_ss (n + 1) 0, ch_zero]
    omega
  | n + 1, k + 1 => by
    have h1 := succ_mul n k
    have h2 := succ_mul n (k + 1)
    rw [ch_ss (n + 1) (k + 1), Nat.add_mul (ch (n + 1) (k + 1)), ← h2]
    have e : ch (n + 1) (k + 1) * (k + 1 + 1) = ch (n + 1) (k + 1) * (k + 1) + ch (n + 1) (k + 1) := Nat.mul_succ _ _
    rw [e, ← h1]
    have e2 : (n + 1 + 1) * ch (n + 1) (k + 1) = (n + 1) * ch (n + 1) (k + 1) + ch (n + 1) (k + 1) := Nat.succ_mul _ _
    rw [e2, ch_ss n k, Nat.mul_add]
    omega
theorem ch_step (n k : Nat) : ch n (k + 1) * (k + 1) = ch n k * (n - k) := by
  have e : (n + 1) * ch n k = ch n (k + 1) * (k + 1) + ch n k * (k + 1) := by
    rw [← Nat.add_mul, Nat.add_comm (ch n (k + 1)), ← ch_ss, succ_mul]
  by_cases h : k ≤ n
  · have e2 : (n + 1) * ch n k = ch n k * (n - k) + ch n k * (k + 1) := by
      rw [← Nat.mul_add, show n - k + (k + 1) = n + 1 by omega, Nat.mul_comm]
    omega
  · rw [ch_gt (by omega : n < k), ch_gt (by omega : n < k + 1)]
    simp
theorem ch_div (n k : Nat) : ch n k * (n - k) / (k + 1) = ch n (k + 1) := by
  rw [← ch_step]
  exact Nat.mul_div_cancel _ (by omega)
theorem ch_divI (n k : Nat) : (ch n k : Int) * max 0 ((n : Int) - k) / ((k : Int) + 1) = ch n (k + 1) := by
  have e : max (0 : Int) ((n : Int) - k) = ((n - k : Nat) : Int) := by omega
  rw [e, ← ch_div n k]
  push_cast
  rfl
theorem ch_le : ∀ n k : Nat, ch n k ≤ 2 ^ n
  | 0, 0 => by decide
  | 0, k + 1 => by rw [ch_zs]; exact Nat.zero_le _
  | n + 1, 0 => by rw [ch_zero]; exact Nat.one_le_two_pow
  | n + 1, k + 1 => by
    rw [ch_ss, Nat.pow_succ]
    have h1 := ch_le n k
    have h2 := ch_le n (k + 1)
    omega
end KM
set_option Elab.async false
set_option linter.all false
set_option maxRecDepth 100000
set_option maxHeartbeats 1000000
namespace Pf
open PySem PySem.Spec PyProof.Rows L2 DL
def top (i : Nat) : Stmt := PySem.Challenge.pw_allteams_k01_choices_kinds_and_dues.main.body.getD i (.Pass ⟨0, 0, 0, 0⟩)
abbrev FnP (K : PySem.W.Frag) (x : Str) (st : Stmt) (f : Addr) (fd : FuncData) : Prop := FunD K x x (defArgs st) (defBody st) (defScope st) [] [] f fd
structure BI (mg : Str → Option Value) : Prop where
  len : mg "len" = none
  isinstance : mg "isinstance" = none
  int_ : mg "int" = none
  bool_ : mg "bool" = none
  list_ : mg "list" = none
  tuple_ : mg "tuple" = none
  dict_ : mg "dict" = none
  range : mg "range" = none
  max : mg "max" = none
  min : mg "min" = none
  sum : mg "sum" = none
  all : mg "all" = none
  any : mg "any" = none
  sorted : mg "sorted" = none
  zip : mg "zip" = none
theorem spF_len {K : PySem.W.Frag} {C : Fc} {m : Nat} (h : ∀ W m' ss Φ Ξ, C W m' ss Φ Ξ → ss.length = m) (vs : List V) (H : Hp) (Q : VK) (E : XK) (q : spF K C vs H Q E) : vs.length = m := by
  obtain ⟨W, m', G, ss, Φ, Ξ, _, rs, _, c, _⟩ := q
  rw [rs.length]
  exact h W m' ss Φ Ξ c
theorem rng_at {lo : Int} {n i : Nat} {d : D} (h : (rngD lo n)[i]? = some d) : i < n ∧ d = .int (lo + (i : Nat)) := by
  have hi : i < n := by
    have := (List.getElem?_eq_some_iff.mp h).1
    simpa [rngD] using this
  refine ⟨hi, ?_⟩
  unfold rngD at h
  rw [List.getElem?_map, List.getElem?_range hi] at h
  exact (Option.some.inj h).symm
theorem rng_len {lo : Int} {n : Nat} : (rngD lo n).length = n := by simp [rngD]
theorem hu65 {A : Around} {k : Nat} (hr : Room k A) : A.units + 65 < cLine := by have := hr.un; omega
end Pf
set_option Elab.async false
set_option linter.all false
set_option maxRecDepth 100000
set_option maxHeartbeats 1000000
namespace Pf
open PySem PySem.Spec PyProof.Rows L2 DL
/-! ### lists of numbers as data -/
def dN (sz : List Nat) : List D := sz.map fun n => D.int (n : Nat)
theorem dN_ints (sz : List Nat) : dN sz = (sz.map fun n : Nat => (n : Int)).map D.int := by simp [dN, List.map_map]
theorem dN_len (sz : List Nat) : (dN sz).length = sz.length := by simp [dN]
theorem dN_mem {sz : List Nat} {d : D} (h : d ∈ dN sz) : ∃ n : Nat, n ∈ sz ∧ d = .int n := by
  unfold dN at h
  obtain ⟨n, hn, rfl⟩ := List.mem_map.mp h
  exact ⟨n, hn, rfl⟩
theorem dN_get {sz : List Nat} {i : Nat} : (dN sz)[i]? = (sz[i]?).map fun n => D.int (n : Nat) := by simp [dN]
theorem sumI (sz : List Nat) : (sz.map fun n : Nat => (n : Int)).sum = (sz.sum : Nat) := by
  induction sz with
  | nil => rfl
  | cons a l ih => simp [ih]
def isSeq (s : S) (ns : List Nat) : Prop := s = .dat (.lst (dN ns)) ∨ s = .dat (.tup (dN ns))
def GSz (sz : List Nat) : Prop := 1 ≤ sz.length ∧ (∀ s ∈ sz, 1 ≤ s) ∧ sz.sum ≤ 10
theorem len_le_sum : ∀ {sz : List Nat}, (∀ s ∈ sz, 1 ≤ s) → sz.length ≤ sz.sum
  | [], _ => Nat.le_refl _
  | a :: l, h => by
    have h1 := h a (by simp)
    have h2 := len_le_sum (sz := l) fun s hs => h s (by simp [hs])
    simp
    omega
theorem mem_le_sum : ∀ {sz : List Nat} {s : Nat}, s ∈ sz → s ≤ sz.sum
  | a :: l, s, h => by
    simp
    rcases List.mem_cons.mp h with rfl | h
    · omega
    · have := mem_le_sum h; omega
section
variable {K : PySem.W.Frag} {W : Wd} {m : Nat} {Φ : Nat → S → Prop}
theorem cb_sumN {s : S} {sz : List Nat} (h1 : s.lst? = some (dN sz) ∨ s.tup? = some (dN sz)) (h : Φ m (.dat (.int (sz.sum : Nat)))) : CbS K W m (rSumA K) [s] Φ := by
  refine cb_sum (ns := sz.map fun n : Nat => (n : Int)) ?_ ?_
  · rw [← dN_ints]; exact h1
  · rw [sumI]; exact h
theorem cb_allM {ds : List D} {t : D → Bool} (h : Φ m (.dat (.bl (ds.all t)))) : CbS K W m (rAll K) [.own (.lst (ds.map fun d => .bl (t d)))] Φ := by
  refine cb_all (bs := ds.map t) (by show some _ = _; rw [List.map_map]; rfl) ?_
  have e : (ds.map t).all id = ds.all t := by rw [List.all_map]; rfl
  rw [e]; exact h
theorem cb_allT {α : Type} {l : List α} (h : Φ m (.dat (.bl true))) : CbS K W m (rAll K) [.own (.lst (l.map fun _ => D.bl true))] Φ := by
  refine cb_all (bs := l.map fun _ => true) (by show some _ = _; rw [List.map_map]; rfl) ?_
  have e : (l.map fun _ => true).all id = true := by rw [List.all_map]; simp
  rw [e]; exact h
theorem cb_anyM {ds : List D} {t : D → Bool} (h : Φ m (.dat (.bl (ds.any t)))) : CbS K W m (rAny K) [.own (.lst (ds.map fun d => .bl (t d)))] Φ := by
  refine cb_any (bs := ds.map t) (by show some _ = _; rw [List.map_map]; rfl) ?_
  have e : (ds.map t).any id = ds.any t := by rw [List.any_map]; rfl
  rw [e]; exact h
end
/-! ### games -/
def gD (gs : List (Nat × Nat)) : List (Key × D) := gs.map fun p => (Sum.inl (p.1 : Int), D.int (p.2 : Nat))
theorem gD_len (gs : List (Nat × Nat)) : (gD gs).length = gs.length := by simp [gD]
theorem gD_keys (gs : List (Nat × Nat)) : (gD gs).map (·.1) = (gs.map fun p => (p.1 : Int)).map Sum.inl := by simp [gD, List.map_map]
theorem gD_mem {gs : List (Nat × Nat)} {p : Key × D} (h : p ∈ gD gs) : ∃ t v : Nat, (t, v) ∈ gs ∧ p = (Sum.inl (t : Int), D.int v) := by
  unfold gD at h
  obtain ⟨⟨t, v⟩, hn, rfl⟩ := List.mem_map.mp h
  exact ⟨t, v, hn, rfl⟩
/-- how often a team of t people plays -/
def gv (gs : List (Nat × Nat)) (t : Nat) : Option Nat := (gs.find? fun p => decide (p.1 = t)).map (·.2)
theorem gD_val (gs : List (Nat × Nat)) (t : Nat) : valD (gD gs) (Sum.inl (t : Int)) = (gv gs t).map fun v => D.int (v : Nat) := by
  induction gs with
  | nil => rfl
  | cons p l ih =>
    obtain ⟨a, v⟩ := p
    by_cases h : a = t
    · subst h; simp [valD, gD, gv]
    · have h2 : (a : Int) ≠ t := by omega
      have e1 : valD (gD ((a, v) :: l)) (Sum.inl (t : Int)) = valD (gD l) (Sum.inl (t : Int)) := by simp [valD, gD, h2]
      have e2 : gv ((a, v) :: l) t = gv l t := by simp [gv, h]
      rw [e1, e2, ih]
theorem gv_mem {gs : List (Nat × Nat)} (nd : (gs.map (·.1)).Nodup) {t v : Nat} (h : (t, v) ∈ gs) : gv gs t = some v := by
  induction gs with
  | nil => cases h
  | cons p l ih =>
    obtain ⟨a, u⟩ := p
    rw [List.map_cons, List.nodup_cons] at nd
    rcases List.mem_cons.mp h with h | h
    · cases h; simp [gv]
    · have : a ≠ t := fun z => nd.1 (by rw [z]; exact List.mem_map.mpr ⟨_, h, rfl⟩)
      have e2 : gv ((a, u) :: l) t = gv l t := by simp [gv, this]
      rw [e2]; exact ih nd.2 h
theorem gv_some {gs : List (Nat × Nat)} {t v : Nat} (h : gv gs t = some v) : (t, v) ∈ gs := by
  unfold gv at h
  cases z : gs.find? fun p => decide (p.1 = t) with
  | none => rw [z] at h; cases h
  | some p =>
    rw [z] at h
    cases h
    have h1 := List.find?_some z
    have h2 := List.mem_of_find?_eq_some z
    simp at h1
    subst h1
    exact h2
/-- all teams of the games -/
def tot (n : Nat) (gs : List (Nat × Nat)) : Nat := (gs.map fun p => p.2 * KM.ch n p.1).sum
structure GGm (n : Nat) (gs : List (Nat × Nat)) : Prop where
  l1 : 1 ≤ gs.length
  l2 : gs.length ≤ 2
  ok : ∀ t v : Nat, (t, v) ∈ gs → 1 ≤ t ∧ t ≤ 4 ∧ t ≤ n ∧ 1 ≤ v ∧ v ≤ 3
  nd : (gs.map (·.1)).Nodup
def Good (sz : List Nat) (gs : List (Nat × Nat)) : Prop := GSz sz ∧ GGm sz.sum gs ∧ tot sz.sum gs ≤ 130
end Pf
set_option Elab.async false
set_option linter.all false
set_option maxRecDepth 100000
set_option maxHeartbeats 1000000
namespace Pf
open PySem PySem.Spec PyProof.Rows L2 DL
/-! ### tuples below sizes -/
abbrev tD (k : List Nat) : D := .tup (dN k)
def stepT (acc : List (List Nat)) (s : Nat) : List (List Nat) := acc.flatMap fun one => (List.range (s + 1)).map fun n => one ++ [n]
def TB (sz : List Nat) : List (List Nat) := sz.foldl stepT [[]]
theorem stepT_len (acc : List (List Nat)) (s : Nat) : (stepT acc s).length = acc.length * (s + 1) := by
  unfold stepT
  induction acc with
  | nil => simp
  | cons a l ih => simp [ih, Nat.add_mul]; omega
theorem le_two (s : Nat) : s + 1 ≤ 2 ^ s := by
  induction s with
  | zero => simp
  | succ n ih => rw [Nat.pow_succ]; omega
theorem fold_len (sz : List Nat) : ∀ acc, (sz.foldl stepT acc).length ≤ acc.length * 2 ^ sz.sum := by
  induction sz with
  | nil => intro acc; simp
  | cons s l ih =>
    intro acc
    rw [List.foldl_cons]
    refine Nat.le_trans (ih _) ?_
    rw [stepT_len, List.sum_cons, Nat.pow_add, Nat.mul_assoc]
    exact Nat.mul_le_mul_left _ (Nat.mul_le_mul_right _ (le_two s))
theorem TB_len {sz : List Nat} (h : sz.sum ≤ 10) : (TB sz).length ≤ 1024 := by
  have := fold_len sz [[]]
  unfold TB
  refine Nat.le_trans this ?_
  have : 2 ^ sz.sum ≤ 2 ^ 10 := Nat.pow_le_pow_right (by decide) h
  simpa using this
theorem sum_take_le (sz : List Nat) (i : Nat) : (sz.take i).sum ≤ sz.sum := by
  have := congrArg List.sum (List.take_append_drop i sz)
  rw [List.sum_append] at this
  omega
theorem TB_succ {sz : List Nat} {i s : Nat} (h : sz[i]? = some s) : TB (sz.take (i + 1)) = stepT (TB (sz.take i)) s := by
  unfold TB
  rw [List.take_add_one, h]
  simp
/-- k lies below sz -/
def Below (k sz : List Nat) : Prop := k.length = sz.length ∧ ∀ i a s : Nat, k[i]? = some a → sz[i]? = some s → a ≤ s
theorem fold_mem (sz : List Nat) : ∀ (acc : List (List Nat)) (k : List Nat), k ∈ sz.foldl stepT acc ↔ ∃ a b, a ∈ acc ∧ Below b sz ∧ k = a ++ b := by
  induction sz with
  | nil =>
    intro acc k
    rw [List.foldl_nil]
    constructor
    · intro h; exact ⟨k, [], h, ⟨rfl, fun i a s h => by simp at h⟩, by simp⟩
    · rintro ⟨a, b, ha, ⟨hb, _⟩, rfl⟩
      have : b = [] := List.length_eq_zero_iff.mp hb
      subst this
      simpa using ha
  | cons s l ih =>
    intro acc k
    rw [List.foldl_cons, ih]
    constructor
    · rintro ⟨a, b, ha, ⟨hl, hb⟩, rfl⟩
      unfold stepT at ha
      obtain ⟨one, h1, h2⟩ := List.mem_flatMap.mp ha
      obtain ⟨n, h3, rfl⟩ := List.mem_map.mp h2
      refine ⟨one, n :: b, h1, ⟨by simp [hl], fun i x y hx hy => ?_⟩, by simp⟩
      cases i with
      | zero =>
        simp at hx hy
        subst hx hy
        have := List.mem_range.mp h3
        omega
      | succ j => exact hb j x y (by simpa using hx) (by simpa using hy)
    · rintro ⟨a, b, ha, ⟨hl, hb⟩, rfl⟩
      cases b with
      | nil => simp at hl
      | cons n b =>
        refine ⟨a ++ [n], b, ?_, ⟨by simpa using hl, fun i x y hx hy => hb (i + 1) x y (by simpa using hx) (by simpa using hy)⟩, by simp⟩
        unfold stepT
        refine List.mem_flatMap.mpr ⟨a, ha, List.mem_map.mpr ⟨n, List.mem_range.mpr ?_, rfl⟩⟩
        have := hb 0 n s rfl rfl
        omega
theorem TB_mem {sz k : List Nat} : k ∈ TB sz ↔ Below k sz := by
  unfold TB
  rw [fold_mem]
  constructor
  · rintro ⟨a, b, ha, hb, rfl⟩
    simp at ha
    subst ha
    simpa using hb
  · intro h
    exact ⟨[], k, by simp, h, by simp⟩
theorem below_sum : ∀ {k sz : List Nat}, Below k sz → k.sum ≤ sz.sum
  | [], [], _ => Nat.le_refl _
  | [], _ :: _, h => by simp [Below] at h
  | _ :: _, [], h => by simp [Below] at h
  | a :: k, s :: sz, ⟨hl, hb⟩ => by
    have h1 := hb 0 a s rfl rfl
    have h2 := below_sum (k := k) (sz := sz) ⟨by simpa using hl, fun i x y hx hy => hb (i + 1) x y (by simpa using hx) (by simpa using hy)⟩
    simp
    omega
/-! ### kinds -/
def dsum : D → Int
  | .tup xs => (xs.map fun | .int i => i | _ => 0).sum
  | _ => 0
theorem dsum_tD (k : List Nat) : dsum (tD k) = (k.sum : Nat) := by
  show ((k.map fun n : Nat => D.int (n : Nat)).map fun | .int i => i | _ => 0).sum = _
  rw [List.map_map, ← sumI]
  rfl
def tS (d e : D) : Bool := match d with
  | .int a => decide (dsum e = a)
  | _ => false
/-- the sizes of teams, in order -/
def ks (gs : List (Nat × Nat)) : List Nat := (srt (gs.map fun p => (p.1 : Int))).map Int.toNat
theorem ks_int (gs : List (Nat × Nat)) : srt (gs.map fun p => (p.1 : Int)) = (ks gs).map fun n : Nat => (n : Int) := by
  unfold ks
  rw [List.map_map]
  have : ∀ x ∈ srt (gs.map fun p => (p.1 : Int)), 0 ≤ x := fun x hx => by
    have := (srt_perm _).mem_iff.mp hx
    obtain ⟨p, _, rfl⟩ := List.mem_map.mp this
    omega
  conv => lhs; rw [← List.map_id (srt _)]
  apply List.map_congr_left
  intro x hx
  have := this x hx
  simp only [id, Function.comp]
  omega
theorem ks_perm (gs : List (Nat × Nat)) : (ks gs).Perm (gs.map (·.1)) := by
  have h := (srt_perm (gs.map fun p => (p.1 : Int))).map Int.toNat
  rw [List.map_map] at h
  unfold ks
  refine h.trans (List.Perm.of_eq ?_)
  apply List.map_congr_left
  intro p _
  simp
theorem ks_mem {gs : List (Nat × Nat)} {t : Nat} : t ∈ ks gs ↔ ∃ v, (t, v) ∈ gs := by
  rw [(ks_perm gs).mem_iff, List.mem_map]
  constructor
  · rintro ⟨⟨a, v⟩, h, rfl⟩; exact ⟨v, h⟩
  · rintro ⟨v, h⟩; exact ⟨_, h, rfl⟩
theorem ks_len (gs : List (Nat × Nat)) : (ks gs).length = gs.length := by rw [(ks_perm gs).length_eq, List.length_map]
def AK (sz : List Nat) (gs : List (Nat × Nat)) : List (List Nat) := (ks gs).flatMap fun t => (TB sz).filter fun k => decide (k.sum = t)
theorem AK_mem {sz : List Nat} {gs : List (Nat × Nat)} {k : List Nat} : k ∈ AK sz gs ↔ Below k sz ∧ ∃ v, (k.sum, v) ∈ gs := by
  unfold AK
  rw [List.mem_flatMap]
  constructor
  · rintro ⟨t, ht, hk⟩
    rw [List.mem_filter] at hk
    have : k.sum = t := by simpa using hk.2
    subst this
    exact ⟨TB_mem.mp hk.1, ks_mem.mp ht⟩
  · rintro ⟨hb, hv⟩
    exact ⟨k.sum, ks_mem.mpr hv, List.mem_filter.mpr ⟨TB_mem.mpr hb, by simp⟩⟩
theorem AK_len {sz : List Nat} {gs : List (Nat × Nat)} (h : sz.sum ≤ 10) (hg : gs.length ≤ 2) : (AK sz gs).length ≤ 2048 := by
  have key : ∀ l : List Nat, (l.flatMap fun t => (TB sz).filter fun k => decide (k.sum = t)).length ≤ l.length * 1024 := by
    intro l
    induction l with
    | nil => simp
    | cons a l ih =>
      rw [List.flatMap_cons, List.length_append, List.length_cons, Nat.add_mul]
      have h1 := List.length_filter_le (fun k : List Nat => decide (k.sum = a)) (TB sz)
      have h2 := TB_len h
      omega
  have := key (ks gs)
  rw [ks_len] at this
  unfold AK
  omega
/-- a value below the sizes -/
def btw2 (d : D) : Bool := match d with
  | .tup [x, .int s] => match x with
    | .int i => decide (0 ≤ i) && decide (i ≤ s)
    | _ => false
  | _ => false
def itb (sz : List Nat) (d : D) : Bool := match d with
  | .tup xs => decide (xs.length = sz.length) && (zipD xs (dN sz)).all btw2
  | _ => false
theorem zip_all : ∀ {xs : List D} {sz : List Nat}, xs.length = sz.length → ((zipD xs (dN sz)).all btw2 = true ↔ ∃ k, xs = dN k ∧ Below k sz)
  | [], [], _ => by
    refine ⟨fun _ => ⟨[], rfl, rfl, fun i a s h => by simp at h⟩, fun _ => rfl⟩
  | [], _ :: _, h => by simp at h
  | _ :: _, [], h => by simp at h
  | x :: xs, s :: sz, h => by
    have ih := zip_all (xs := xs) (sz := sz) (by simpa using h)
    have e : zipD (x :: xs) (dN (s :: sz)) = .tup [x, .int (s : Nat)] :: zipD xs (dN sz) := by simp [zipD, dN]
    rw [e, List.all_cons, Bool.and_eq_true, ih]
    constructor
    · rintro ⟨h1, k, rfl, hl, hb⟩
      cases x <;> simp [btw2] at h1
      rename_i i
      refine ⟨i.toNat :: k, by simp [dN]; omega, by simp [hl], fun j a y hx hy => ?_⟩
      cases j with
      | zero => simp at hx hy; omega
      | succ j => exact hb j a y (by simpa using hx) (by simpa using hy)
    · rintro ⟨k, hk, hl, hb⟩
      cases k with
      | nil => simp at hl
      | cons a k =>
        simp [dN] at hk
        obtain ⟨rfl, hk⟩ := hk
        refine ⟨?_, k, hk, by simpa using hl, fun i x y hx hy => hb (i + 1) x y (by simpa using hx) (by simpa using hy)⟩
        have := hb 0 a s rfl rfl
        simp [btw2]
        omega
theorem itb_iff {sz : List Nat} {d : D} : itb sz d = true ↔ ∃ k, d = tD k ∧ Below k sz := by
  constructor
  · intro h
    cases d <;> simp only [itb, Bool.false_eq_true] at h
    rename_i xs
    rw [Bool.and_eq_true, decide_eq_true_iff] at h
    obtain ⟨k, rfl, hb⟩ := (zip_all h.1).mp h.2
    exact ⟨k, rfl, hb⟩
  · rintro ⟨k, rfl, hb⟩
    show (decide ((dN k).length = sz.length) && (zipD (dN k) (dN sz)).all btw2) = true
    have hl : (dN k).length = sz.length := by rw [dN_len]; exact hb.1
    rw [Bool.and_eq_true, decide_eq_true_iff]
    exact ⟨hl, (zip_all hl).mpr ⟨k, rfl, hb⟩⟩
def isK (sz : List Nat) (gs : List (Nat × Nat)) (d : D) : Bool := itb sz d && (gv gs (dsum d).toNat).isSome
theorem isK_iff {sz : List Nat} {gs : List (Nat × Nat)} {d : D} : isK sz gs d = true ↔ ∃ k v, d = tD k ∧ Below k sz ∧ gv gs k.sum = some v := by
  unfold isK
  rw [Bool.and_eq_true, itb_iff]
  constructor
  · rintro ⟨⟨k, rfl, hb⟩, h⟩
    rw [dsum_tD, Int.toNat_natCast, Option.isSome_iff_exists] at h
    obtain ⟨v, hv⟩ := h
    exact ⟨k, v, rfl, hb, hv⟩
  · rintro ⟨k, v, rfl, hb, hv⟩
    refine ⟨⟨k, rfl, hb⟩, ?_⟩
    rw [dsum_tD, Int.toNat_natCast, hv]; rfl
def ways (sz k : List Nat) : Nat := ((sz.zip k).map fun p => KM.ch p.1 p.2).prod
/-! values one may ask about -/
def okD (d : D) : Prop := (∀ ds, d ≠ .dit ds) ∧ ∀ xs, d = .tup xs → ∀ x ∈ xs, ∀ ds, x ≠ .dit ds
end Pf
set_option Elab.async false
set_option linter.all false
set_option maxRecDepth 100000
set_option maxHeartbeats 1000000
/-! the dues come to all teams -/
namespace KM
def G : Nat → (Nat → Nat) → Nat
  | 0, f => f 0
  | n + 1, f => G n f + G n fun j => f (j + 1)
def rs (s : Nat) (g : Nat → Nat) : Nat → Nat
  | 0 => 0
  | k + 1 => rs s g k + ch s k * g k
theorem rs_succ (s : Nat) : ∀ (k : Nat) (g : Nat → Nat), rs (s + 1) g (k + 1) = rs s g (k + 1) + rs s (fun j => g (j + 1)) k
  | 0, g => by simp [rs]
  | k + 1, g => by
    show rs (s + 1) g (k + 1) + ch (s + 1) (k + 1) * g (k + 1) = (rs s g (k + 1) + ch s (k + 1) * g (k + 1)) + (rs s (fun j => g (j + 1)) k + ch s k * g (k + 1))
    rw [rs_succ s k g, ch_ss, Nat.add_mul]
    omega
theorem rs_G : ∀ (s : Nat) (g : Nat → Nat), rs s g (s + 1) = G s g
  | 0, g => by simp [rs, G]
  | s + 1, g => by
    rw [rs_succ, rs_G s, G, rs, rs_G s, ch_gt (by omega)]
    simp
theorem sum_range (s : Nat) (g : Nat → Nat) : ∀ k, ((List.range k).map fun n => ch s n * g n).sum = rs s g k
  | 0 => rfl
  | k + 1 => by
    rw [List.range_succ, List.map_append, List.sum_append, sum_range s g k, rs]
    simp
theorem G_add : ∀ (a b : Nat) (f : Nat → Nat), G a (fun c => G b fun n => f (c + n)) = G (a + b) f
  | 0, b, f => by simp [G]
  | a + 1, b, f => by
    rw [G, G_add a b f]
    have e := G_add a b fun j => f (j + 1)
    have e2 : (fun c => G b fun n => f (c + 1 + n)) = fun c => G b fun n => f (c + n + 1) := by
      funext c
      congr 1
      funext n
      congr 1
      omega
    rw [e2, e, Nat.add_right_comm a 1 b, G]
theorem G_zero : ∀ n : Nat, G n (fun _ => 0) = 0
  | 0 => rfl
  | n + 1 => by rw [G, G_zero n]
theorem G_ind : ∀ (n t : Nat), G n (fun j => if j = t then 1 else 0) = ch n t
  | 0, 0 => rfl
  | 0, t + 1 => by simp [G]
  | n + 1, 0 => by
    rw [G, G_ind n 0]
    have : (fun j => if j + 1 = 0 then 1 else 0) = fun _ : Nat => 0 := by funext j; simp
    rw [this, G_zero, ch_zero, ch_zero]
  | n + 1, t + 1 => by
    rw [G, G_ind n (t + 1)]
    have : (fun j => if j + 1 = t + 1 then 1 else 0) = fun j : Nat => if j = t then 1 else 0 := by funext j; simp
    rw [this, G_ind n t, ch_ss]
    omega
end KM
namespace Pf
open KM
def due (sz : List Nat) (gs : List (Nat × Nat)) (k : List Nat) : Nat := (gv gs k.sum).getD 0 * ways sz k
theorem sum_flatMap {α β : Type} (f : β → Nat) (h : α → List β) : ∀ l : List α, ((l.flatMap h).map f).sum = (l.map fun a => ((h a).map f).sum).sum
  | [] => rfl
  | a :: l => by simp [sum_flatMap f h l]
theorem sum_mul {α : Type} (c : Nat) (f : α → Nat) : ∀ l : List α, (l.map fun a => c * f a).sum = c * (l.map f).sum
  | [] => rfl
  | a :: l => by simp [sum_mul c f l, Nat.mul_add]
theorem ways_snoc {l k : List Nat} (h : k.length = l.length) (s n : Nat) : ways (l ++ [s]) (k ++ [n]) = ways l k * ch s n := by
  unfold ways
  rw [List.zip_append h.symm]
  simp
theorem TB_snoc (l : List Nat) (s : Nat) : TB (l ++ [s]) = stepT (TB l) s := by
  unfold TB
  rw [List.foldl_append]
  rfl
theorem sum_congr {α : Type} {f g : α → Nat} : ∀ {l : List α}, (∀ a ∈ l, f a = g a) → (l.map f).sum = (l.map g).sum := fun {l} h => by rw [List.map_congr_left h]
theorem TB_G (sz : List Nat) : ∀ f : Nat → Nat, ((TB sz).map fun k => ways sz k * f k.sum).sum = G sz.sum f := by
  have key : ∀ (r : List Nat) (f : Nat → Nat), ((TB r.reverse).map fun k => ways r.reverse k * f k.sum).sum = G r.reverse.sum f := by
    intro r
    induction r with
    | nil => intro f; simp [TB, ways, G]
    | cons s r ih =>
      intro f
      rw [List.reverse_cons, TB_snoc, stepT, sum_flatMap]
      rw [show (r.reverse ++ [s]).sum = r.reverse.sum + s by simp, ← G_add, ← ih]
      apply sum_congr
      intro k hk
      have hl := (TB_mem.mp hk).1
      rw [List.map_map, ← rs_G, ← sum_range, ← sum_mul]
      apply sum_congr
      intro n _
      show ways (r.reverse ++ [s]) (k ++ [n]) * f (k ++ [n]).sum = _
      rw [ways_snoc hl, List.sum_append, Nat.mul_assoc]
      simp
  intro f
  have := key sz.reverse f
  rwa [List.reverse_reverse] at this
theorem sum_filter {α : Type} (p : α → Bool) (f : α → Nat) : ∀ l : List α, ((l.filter p).map f).sum = (l.map fun a => f a * if p a then 1 else 0).sum
  | [] => rfl
  | a :: l => by
    cases h : p a <;> simp [h, sum_filter p f l]
theorem dues_tot {sz : List Nat} {gs : List (Nat × Nat)} (nd : (gs.map (·.1)).Nodup) : ((AK sz gs).map (due sz gs)).sum = tot sz.sum gs := by
  unfold AK
  rw [sum_flatMap]
  have e1 : ((ks gs).map fun t => (((TB sz).filter fun k => decide (k.sum = t)).map (due sz gs)).sum) = (ks gs).map fun t => (gv gs t).getD 0 * ch sz.sum t := by
    apply List.map_congr_left
    intro t _
    have e2 : (((TB sz).filter fun k => decide (k.sum = t)).map (due sz gs)).sum = (((TB sz).filter fun k => decide (k.sum = t)).map fun k => (gv gs t).getD 0 * ways sz k).sum := by
      apply sum_congr
      intro k hk
      have : k.sum = t := by simpa using (List.mem_filter.mp hk).2
      unfold due
      rw [this]
    rw [e2, sum_mul, sum_filter]
    congr 1
    rw [← G_ind, ← TB_G]
    apply sum_congr
    intro k _
    simp
  rw [e1]
  have p := (ks_perm gs).map fun t => (gv gs t).getD 0 * ch sz.sum t
  rw [p.sum_nat, List.map_map]
  unfold tot
  apply sum_congr
  rintro ⟨t, v⟩ h
  show (gv gs t).getD 0 * ch sz.sum t = v * ch sz.sum t
  rw [gv_mem nd h]
  rfl
theorem prow_succ (i : Nat) : (List.range (i + 2)).map (ch (i + 1)) = [1] ++ (List.range i).map (fun k => ch i k + ch i (k + 1)) ++ [1] := by
  rw [List.range_succ, List.map_append, List.range_succ_eq_map, List.map_cons, List.map_map]
  simp only [List.map_cons, List.map_nil, ch_self, ch_zero]
  rfl
end Pf
set_option Elab.async false
set_option linter.all false
set_option maxRecDepth 100000
set_option maxHeartbeats 1000000
namespace Pf
open PySem PySem.Spec PyProof.Rows L2 DL
local macro_rules | `(tactic| walk_at "len") => `(tactic| with_unfolding_all first | exact Nat.le_of_ble_eq_true rfl | (simp; done) | (simp; omega))
local macro_rules | `(tactic| walk_at "side") => `(tactic| with_unfolding_all first | exact Or.inr ⟨by omega, by omega⟩ | exact Or.inl ⟨by omega, by omega⟩ | exact ⟨by omega, by omega⟩ | exact ⟨by omega, by omega, by omega⟩ | (show (0 : Int) < _; omega) | decide)
local macro_rules | `(tactic| walk_at "d1") => `(tactic| with_reducible first
  | (refine ds_seq ?_; try dsimp only [List.set_cons_zero, List.set_cons_succ, List.cons_append, List.nil_append, O.frz])
  | refine ds_asg ?_
  | refine ds_ret ?_
  | refine ds_retN ?_
  | refine ds_next ?_
  | refine ds_dropC ?_
  | refine ds_drop0 ?_
  | refine ds_dropB ?_
  | refine ds_if ?_
  | refine dt_test ?_
  | refine dt_B ?_
  | refine dt_not ?_
  | refine dt_and ?_
  | refine dt_or ?_
  | refine dt_yes ?_
  | refine de_int ?_
  | refine de_bl ?_
  | refine de_str ?_
  | refine de_non ?_
  | refine de_varD (by with_unfolding_all rfl) ?_
  | refine de_varO (by with_unfolding_all rfl) ?_
  | refine de_varA (by with_unfolding_all rfl) ?_
  | refine de_varV (by with_unfolding_all rfl) ?_
  | refine de_isi ?_
  | refine de_dget ?_
  | refine de_din ?_
  | refine de_dnew ?_
  | refine de_cb ?_
  | refine de_call0G ?_
  | refine de_callG ?_
  | refine de_andB ?_
  | refine de_orB ?_
  | refine de_notV ?_
  | refine de_ifE ?_
  | refine de_chain ?_
  | refine de_op ?_
  | refine de_neg ?_
  | refine de_tupG ?_
  | refine de_lstG ?_
  | refine de_slL ?_
  | refine de_slT ?_
  | refine do_none ?_
  | refine do_some ?_
  | refine da_cons ?_
  | refine da_nil ?_
  | refine lk_dat ?_
  | refine lk_nil ?_
  | refine ak_dat ?_
  | refine ak_nil ?_
  | refine ak_at ?_
  | refine ak_lst ?_
  | refine lk_lst ?_
  | refine ak_dK ?_
  | refine lk_dK ?_
  | refine da_star ?_
  | refine di_rng1 ?_
  | refine di_rng2 ?_
  | refine di_list ?_
  | refine di_tup ?_
  | refine di_seq ?_
  | refine di_zip ?_
  | refine ops_int ?_
  | (refine ops_cat (by with_unfolding_all rfl) (by with_unfolding_all rfl) ?side ?_; (case side => walk_at "len"))
  | (refine ops_catA ?side ?_; (case side => walk_at "len"))
  | refine ops_eqI ?_
  | refine ops_neI ?_
  | refine ops_bool ?_
  | (refine ops_intC ?side ?_; (case side => walk_at "side"))
  | refine cb_lenL (by with_unfolding_all rfl) ?_
  | refine cb_lenT (by with_unfolding_all rfl) ?_
  | refine cb_lenK (by with_unfolding_all rfl) ?_
  | refine cb_max2 ?_
  | refine cb_min2 ?_
  | refine cb_int ?_
  | refine ⟨fun _ => ?_, fun z => Bool.noConfusion z⟩
  | refine ⟨fun z => Bool.noConfusion z, fun _ => ?_⟩
  | refine ⟨rfl, ?_⟩
  | refine ⟨_, rfl, ?_⟩
  | refine ⟨_, Or.inl (by with_unfolding_all rfl), ?_⟩
  | (with_unfolding_all refine ⟨_, true, rfl, (fun _ z => by cases z), rfl, ?_⟩)
  | (with_unfolding_all refine ⟨_, false, rfl, (fun _ z => by cases z), rfl, ?_⟩))
local macro_rules | `(tactic| walk_at "d") => `(tactic| repeat walk_at "d1")
local macro_rules | `(tactic| walk_at "wk") => `(tactic| repeat first | exact Wk.nil | refine Wk.keep ?_ | refine Wk.drop ?_)
section
variable {P : Program} {w : World} {K : PySem.W.Frag} {mg : Str → Option Value} {base : Heap} {f : Addr} {fd : FuncData} {a_BadSizes a_BadGames a_TooMany a_BadKind : Addr}
def btw (d : D) (lo hi : Int) : Bool := match d with
  | .int i => decide (lo ≤ i) && decide (i ≤ hi)
  | _ => false

def C_is_between : Fc := fun W m ss Φ Ξ => ∃ d lo hi b, ss = [.dat d, .dat (.int lo), .dat (.int hi)] ∧ (∀ ds, d ≠ .dit ds) ∧ btw d lo hi = b ∧ Φ m (.dat (.bl b))

abbrev s_is_between : Stmt := (top 11)
abbrev N_is_between : List Str := ["value", "least", "most"]
theorem sc_is_between : FnScope N_is_between ["value", "least", "most"] (defScope s_is_between) := ⟨rfl, rfl, rfl, by decide +kernel, rfl, by decide +kernel, by decide +kernel⟩
theorem ok_is_between (F : FnP K "is_between" s_is_between f fd) (b : BI mg) : FnOk P w K mg base CX0 1 f fd ["value", "least", "most"] (spF K C_is_between) := by
  have hlen := spF_len (K := K) (C := C_is_between) (m := 3) fun W m ss Φ Ξ ⟨d, lo, hi, b, e, _⟩ => by first | exact e | (rw [e]; rfl)
  refine F.ok sc_is_between hlen ?_
  intro cdv A outer s H vs Q E hr h
  refine ⟨_, PSs.nox (pss_one (ps_ret (pe_and (pe_callB (k_isi (K := K) rfl) rfl b.isinstance boot_isinstance (pa_cons (pv 0) (pa_cons (pe_bltn (v := .ty "int") rfl b.int_ boot_int rfl) pa_nil))) (pe_and (pe_not (pe_callB (k_isi (K := K) rfl) rfl b.isinstance boot_isinstance (pa_cons (pv 0) (pa_cons (pe_bltn (v := .ty "bool") rfl b.bool_ boot_bool rfl) pa_nil)))) (pe_one (pe_chain op_le op_le (pv 1) (pv 0) (pv 2))))))), ?_⟩
  refine DL.run_fnP  [] (Nm := N_is_between) (n := 3) (k := 0) rfl (hlen _ _ _ _ h) rfl h fun W m ss Φ Ξ G hc => ?_
  try dsimp only [cxOf, Cx.nox, Cx.wish, Cx.blk]
  obtain ⟨d, lo, hi, b, rfl, hd, rfl, hΦ⟩ := hc
  cases d <;> try exact absurd rfl (hd _)
  all_goals walk_at "d"
  all_goals try exact hΦ
  rename_i i _ _
  by_cases h1 : lo ≤ i
  · refine ⟨fun _ => ?_, fun z => by simp [h1] at z⟩
    walk_at "d"
    simpa [btw, h1] using hΦ
  · refine ⟨fun z => by simp [h1] at z, fun _ => ⟨rfl, ?_⟩⟩
    simpa [btw, h1] using hΦ


def isL : D → Bool
  | .lst _ => true | .tup _ => true | .scr _ => true | _ => false
def C_is_list : Fc := fun W m ss Φ Ξ => ∃ d b, ss = [.dat d] ∧ (∀ ds, d ≠ .dit ds) ∧ isL d = b ∧ Φ m (.dat (.bl b))

abbrev s_is_list : Stmt := (top 12)
abbrev N_is_list : List Str := ["value"]
theorem sc_is_list : FnScope N_is_list ["value"] (defScope s_is_list) := ⟨rfl, rfl, rfl, by decide +kernel, rfl, by decide +kernel, by decide +kernel⟩
theorem ok_is_list (F : FnP K "is_list" s_is_list f fd) (b : BI mg) : FnOk P w K mg base CX0 1 f fd ["value"] (spF K C_is_list) := by
  have hlen := spF_len (K := K) (C := C_is_list) (m := 1) fun W m ss Φ Ξ ⟨d, b, e, _⟩ => by first | exact e | (rw [e]; rfl)
  refine F.ok sc_is_list hlen ?_
  intro cdv A outer s H vs Q E hr h
  refine ⟨_, PSs.nox (pss_one (ps_ret (pe_or (pe_callB (k_isi (K := K) rfl) rfl b.isinstance boot_isinstance (pa_cons (pv 0) (pa_cons (pe_bltn (v := .ty "list") rfl b.list_ boot_list rfl) pa_nil))) (pe_one (pe_callB (k_isi (K := K) rfl) rfl b.isinstance boot_isinstance (pa_cons (pv 0) (pa_cons (pe_bltn (v := .ty "tuple") rfl b.tuple_ boot_tuple rfl) pa_nil))))))), ?_⟩
  refine DL.run_fnP  [] (Nm := N_is_list) (n := 1) (k := 0) rfl (hlen _ _ _ _ h) rfl h fun W m ss Φ Ξ G hc => ?_
  try dsimp only [cxOf, Cx.nox, Cx.wish, Cx.blk]
  obtain ⟨d, b, rfl, hd, rfl, hΦ⟩ := hc
  cases d <;> try exact absurd rfl (hd _)
  all_goals walk_at "d"
  all_goals exact hΦ


def C_choices : Fc := fun W m ss Φ Ξ => ∃ n k : Nat, ss = [.dat (.int n), .dat (.int k)] ∧ n ≤ 1000 ∧ k ≤ 1000 ∧ Φ m (.dat (.int (KM.ch n k)))

abbrev s_choices : Stmt := (top 13)
abbrev N_choices : List Str := ["many", "few", "found", "turn"]
theorem sc_choices : FnScope N_choices ["many", "few"] (defScope s_choices) := ⟨rfl, rfl, rfl, by decide +kernel, rfl, by decide +kernel, by decide +kernel⟩
theorem ok_choices (F : FnP K "choices" s_choices f fd) (b : BI mg) : FnOk P w K mg base CX0 1 f fd ["many", "few"] (spF K C_choices) := by
  have hlen := spF_len (K := K) (C := C_choices) (m := 2) fun W m ss Φ Ξ ⟨n, k, e, _⟩ => by first | exact e | (rw [e]; rfl)
  refine F.ok sc_choices hlen ?_
  intro cdv A outer s H vs Q E hr h
  refine ⟨_, PSs.nox (pss_cons (ps_set (i := 2) sc_choices.nd rfl (by first | exact Or.inl rfl | exact Or.inr rfl) pe_int)
      (pss_cons (ps_for PassesOwn.never rfl (pi_range1 rfl b.range (pa_cons (pv 1) pa_nil)) (pg_name (i := 3) sc_choices.nd rfl (by first | exact Or.inl rfl | exact Or.inr rfl))
      (pss_one (ps_set (i := 2) sc_choices.nd rfl (by first | exact Or.inl rfl | exact Or.inr rfl) (pe_op op_fdiv (pe_op op_mul (pv 2) (pe_callB (call_max2 rfl) rfl b.max boot_max (pa_cons pe_int (pa_cons (pe_op op_sub (pv 0) (pv 3)) pa_nil)))) (pe_op op_add (pv 3) pe_int)))))
      (pss_one (ps_ret (pv 2))))), ?_⟩
  refine DL.run_fnP  [.no, .no] (Nm := N_choices) (n := 2) (k := 2) rfl (hlen _ _ _ _ h) rfl h fun W m ss Φ Ξ G hc => ?_
  try dsimp only [cxOf, Cx.nox, Cx.wish, Cx.blk]
  obtain ⟨n, k, rfl, hn, hk, hΦ⟩ := hc
  refine ds_seq (ds_asg (de_int ⟨rfl, ?_⟩))
  refine ds_seq (ds_for (vs := [3]) (di_rng1 (da_cons (de_var rfl (by simp) (da_nil ⟨k, rfl, by omega, by omega, ?_⟩)))))
  refine ⟨fun i m' ρ => m' = m ∧ ∃ s, ρ = [.dat (.int n), .dat (.int k), .dat (.int (KM.ch n i)), s], ⟨rfl, .no, by rw [KM.ch_zero]; rfl⟩, ?_, ?_⟩
  · rintro i d m' ρ hd ⟨rfl, s, rfl⟩
    obtain ⟨hi, rfl⟩ := rng_at hd
    refine ⟨_, dg_name (by simp), ?_⟩
    walk_at "d"
    rw [Int.zero_add, KM.ch_divI]
    exact ⟨_, rfl⟩
  · rintro m' ρ ⟨rfl, s, rfl⟩
    refine ds_ret (de_var rfl (by simp) ⟨rfl, ?_⟩)
    rw [rng_len]
    exact hΦ


end
end Pf
set_option Elab.async false
set_option linter.all false
set_option maxRecDepth 100000
set_option maxHeartbeats 1000000
namespace Pf
open PySem PySem.Spec PyProof.Rows L2 DL
local macro_rules | `(tactic| walk_at "len") => `(tactic| with_unfolding_all first | exact Nat.le_of_ble_eq_true rfl | (simp; done) | (simp; omega))
local macro_rules | `(tactic| walk_at "side") => `(tactic| with_unfolding_all first | exact Or.inr ⟨by omega, by omega⟩ | exact Or.inl ⟨by omega, by omega⟩ | exact ⟨by omega, by omega⟩ | exact ⟨by omega, by omega, by omega⟩ | (show (0 : Int) < _; omega) | decide)
local macro_rules | `(tactic| walk_at "d1") => `(tactic| with_reducible first
  | (refine ds_seq ?_; try dsimp only [List.set_cons_zero, List.set_cons_succ, List.cons_append, List.nil_append, O.frz])
  | refine ds_asg ?_
  | refine ds_ret ?_
  | refine ds_retN ?_
  | refine ds_next ?_
  | refine ds_dropC ?_
  | refine ds_drop0 ?_
  | refine ds_dropB ?_
  | refine ds_if ?_
  | refine dt_test ?_
  | refine dt_B ?_
  | refine dt_not ?_
  | refine dt_and ?_
  | refine dt_or ?_
  | refine dt_yes ?_
  | refine de_int ?_
  | refine de_bl ?_
  | refine de_str ?_
  | refine de_non ?_
  | refine de_varD (by with_unfolding_all rfl) ?_
  | refine de_varO (by with_unfolding_all rfl) ?_
  | refine de_varA (by with_unfolding_all rfl) ?_
  | refine de_varV (by with_unfolding_all rfl) ?_
  | refine de_isi ?_
  | refine de_dget ?_
  | refine de_din ?_
  | refine de_dnew ?_
  | refine de_cb ?_
  | refine de_call0G ?_
  | refine de_callG ?_
  | refine de_andB ?_
  | refine de_orB ?_
  | refine de_notV ?_
  | refine de_ifE ?_
  | refine de_chain ?_
  | refine de_op ?_
  | refine de_neg ?_
  | refine de_tupG ?_
  | refine de_lstG ?_
  | refine de_slL ?_
  | refine de_slT ?_
  | refine do_none ?_
  | refine do_some ?_
  | refine da_cons ?_
  | refine da_nil ?_
  | refine lk_dat ?_
  | refine lk_nil ?_
  | refine ak_dat ?_
  | refine ak_nil ?_
  | refine ak_at ?_
  | refine ak_lst ?_
  | refine lk_lst ?_
  | refine ak_dK ?_
  | refine lk_dK ?_
  | refine da_star ?_
  | refine di_rng1 ?_
  | refine di_rng2 ?_
  | refine di_list ?_
  | refine di_tup ?_
  | refine di_seq ?_
  | refine di_zip ?_
  | refine ops_int ?_
  | (refine ops_cat (by with_unfolding_all rfl) (by with_unfolding_all rfl) ?side ?_; (case side => walk_at "len"))
  | (refine ops_catA ?side ?_; (case side => walk_at "len"))
  | refine ops_eqI ?_
  | refine ops_neI ?_
  | refine ops_bool ?_
  | (refine ops_intC ?side ?_; (case side => walk_at "side"))
  | refine cb_lenL (by with_unfolding_all rfl) ?_
  | refine cb_lenT (by with_unfolding_all rfl) ?_
  | refine cb_lenK (by with_unfolding_all rfl) ?_
  | refine cb_max2 ?_
  | refine cb_min2 ?_
  | refine cb_int ?_
  | refine ⟨fun _ => ?_, fun z => Bool.noConfusion z⟩
  | refine ⟨fun z => Bool.noConfusion z, fun _ => ?_⟩
  | refine ⟨rfl, ?_⟩
  | refine ⟨_, rfl, ?_⟩
  | refine ⟨_, Or.inl (by with_unfolding_all rfl), ?_⟩
  | (with_unfolding_all refine ⟨_, true, rfl, (fun _ z => by cases z), rfl, ?_⟩)
  | (with_unfolding_all refine ⟨_, false, rfl, (fun _ z => by cases z), rfl, ?_⟩))
local macro_rules | `(tactic| walk_at "d") => `(tactic| repeat walk_at "d1")
local macro_rules | `(tactic| walk_at "wk") => `(tactic| repeat first | exact Wk.nil | refine Wk.keep ?_ | refine Wk.drop ?_)
section
variable {P : Program} {w : World} {K : PySem.W.Frag} {mg : Str → Option Value} {base : Heap} {f : Addr} {fd : FuncData} {a_BadSizes a_BadGames a_TooMany a_BadKind : Addr}

def C_are_sizes : Fc := fun W m ss Φ Ξ => ∃ s sz, ss = [s] ∧ isSeq s sz ∧ GSz sz ∧ Φ m (.dat (.bl true))

abbrev s_are_sizes : Stmt := (top 14)
abbrev N_are_sizes : List Str := ["value", "size"]
theorem sc_are_sizes : FnScope N_are_sizes ["value"] (defScope s_are_sizes) := ⟨rfl, rfl, rfl, by decide +kernel, rfl, by decide +kernel, by decide +kernel⟩
theorem ok_are_sizes (F : FnP K "are_sizes" s_are_sizes f fd) (b : BI mg) (k_MOST_PEOPLE : ∃ u, mg "MOST_PEOPLE" = some u ∧ RelV (.int 10) u) (c_is_list : Cl P w K mg base CX0 1 "is_list" ["value"] C_is_list) (c_is_between : Cl P w K mg base CX0 1 "is_between" ["value", "least", "most"] C_is_between) : FnOk P w K mg base CX0 2 f fd ["value"] (spF K C_are_sizes) := by
  have hlen := spF_len (K := K) (C := C_are_sizes) (m := 1) fun W m ss Φ Ξ ⟨s, sz, e, _⟩ => by first | exact e | (rw [e]; rfl)
  refine F.ok sc_are_sizes hlen ?_
  intro cdv A outer s H vs Q E hr h
  refine ⟨_, PSs.nox (pss_cons (ps_if (PW.pt (pw_or (pt_not (pt_val (k_cl0 c_is_list rfl hr (pa_cons (pv 0) pa_nil)))) (pw_or1 (pt_not (pt_chain op_le op_le pe_int (pe_callB (k_len (K := K) rfl) rfl b.len boot_len (pa_cons (pv 0) pa_nil)) (C8.pe_gc rfl k_MOST_PEOPLE)))))) (pss_one (ps_ret pe_bl)) pss_nil)
      (pss_one (ps_ret (pe_and (pe_callB (k_all (K := K) rfl rfl) rfl b.all boot_all (pa_cons (pe_lc (own := [("size", 1)]) rfl sc_are_sizes.nd (k_piS (K := K) rfl (pv 0)) (blkOk_by (own := [("size", 1)]) (N := N_are_sizes) (sc := (defScope s_are_sizes)) (by decide +kernel)) (fun _ _ _ _ _ => (pg_name (i := 1) sc_are_sizes.nd rfl (by first | exact Or.inl rfl | exact Or.inr rfl))) (fun _ _ _ _ _ => pts_nil) (fun _ _ _ _ _ => (k_cl0 c_is_between rfl hr (pa_cons (pv 1) (pa_cons pe_int (pa_cons (C8.pe_gc rfl k_MOST_PEOPLE) pa_nil)))))) pa_nil)) (pe_one (pe_cmpR op_le (pe_callB (k_sum (K := K) rfl rfl) rfl b.sum boot_sum (pa_cons (pv 0) pa_nil)) (C8.pe_gc rfl k_MOST_PEOPLE) (nomark _))))))), ?_⟩
  refine DL.run_fnP  [.no] (Nm := N_are_sizes) (n := 1) (k := 1) rfl (hlen _ _ _ _ h) rfl h fun W m ss Φ Ξ G hc => ?_
  try dsimp only [cxOf, Cx.nox, Cx.wish, Cx.blk]
  obtain ⟨s, sz, rfl, hs, ⟨hl, hp, hsum⟩, hΦ⟩ := hc
  have hle := len_le_sum hp
  have hall : (dN sz).all (fun d => btw d 1 10) = true := by
    rw [List.all_eq_true]
    intro d hd
    obtain ⟨n, hn, rfl⟩ := dN_mem hd
    have h1 := hp n hn
    have h2 := mem_le_sum hn
    simp [btw]
    omega
  rcases hs with rfl | rfl
  all_goals
    walk_at "d"
    rw [dN_len]
    rw [show decide ((1 : Int) ≤ (sz.length : Nat)) = true by simp; omega]
    walk_at "d"
    rw [show decide (((sz.length : Nat) : Int) ≤ 10) = true by simp; omega]
    walk_at "d"
    refine de_lcMap (f := fun d => .bl (btw d 1 10)) ?_
    walk_at "d"
    refine ⟨by rw [dN_len]; omega, fun d hd => ⟨_, dg_name (by simp), ?_⟩, ?_⟩
    · obtain ⟨n, hn, rfl⟩ := dN_mem hd
      walk_at "d"
      exact ⟨_, _, _, _, rfl, (fun _ z => by cases z), rfl, rfl, rfl⟩
    · walk_at "d"
      refine cb_allM ?_
      rw [hall]
      walk_at "d"
      refine cb_sumN (by first | exact .inl rfl | exact .inr rfl) ?_
      walk_at "d"
      rw [show decide (((sz.sum : Nat) : Int) ≤ 10) = true by simp; omega]
      exact hΦ


def C_are_games : Fc := fun W m ss Φ Ξ => ∃ n gs, ss = [.dat (.int (n : Nat)), .dat (.dic (gD gs))] ∧ n ≤ 10 ∧ GGm n gs ∧ (∀ a, ¬ W.L a) ∧ Φ m (.dat (.bl true))

abbrev s_are_games : Stmt := (top 15)
abbrev N_are_games : List Str := ["people", "value", "most", "size"]
theorem sc_are_games : FnScope N_are_games ["people", "value"] (defScope s_are_games) := ⟨rfl, rfl, rfl, by decide +kernel, rfl, by decide +kernel, by decide +kernel⟩
theorem ok_are_games (F : FnP K "are_games" s_are_games f fd) (b : BI mg) (k_MOST_SIZE : ∃ u, mg "MOST_SIZE" = some u ∧ RelV (.int 4) u) (k_MOST_TIMES : ∃ u, mg "MOST_TIMES" = some u ∧ RelV (.int 3) u) (c_is_between : Cl P w K mg base CX0 1 "is_between" ["value", "least", "most"] C_is_between) : FnOk P w K mg base CX0 2 f fd ["people", "value"] (spF K C_are_games) := by
  have hlen := spF_len (K := K) (C := C_are_games) (m := 2) fun W m ss Φ Ξ ⟨n, gs, e, _⟩ => by first | exact e | (rw [e]; rfl)
  refine F.ok sc_are_games hlen ?_
  intro cdv A outer s H vs Q E hr h
  refine ⟨_, PSs.nox (pss_cons (ps_if (PW.pt (pw_or (pt_not (pt_val (pe_callB (k_isi (K := K) rfl) rfl b.isinstance boot_isinstance (pa_cons (pv 1) (pa_cons (pe_bltn (v := .ty "dict") rfl b.dict_ boot_dict rfl) pa_nil))))) (pw_or1 (pt_not (pt_chain op_le op_le pe_int (pe_callB (k_len (K := K) rfl) rfl b.len boot_len (pa_cons (pv 1) pa_nil)) pe_int))))) (pss_one (ps_ret pe_bl)) pss_nil)
      (pss_cons (ps_set (i := 2) sc_are_games.nd rfl (by first | exact Or.inl rfl | exact Or.inr rfl) (pe_callB (call_min2 rfl) rfl b.min boot_min (pa_cons (C8.pe_gc rfl k_MOST_SIZE) (pa_cons (pv 0) pa_nil))))
      (pss_one (ps_ret (pe_callB (k_all (K := K) rfl rfl) rfl b.all boot_all (pa_cons (pe_lock (pe_lc (own := [("size", 3)]) rfl sc_are_games.nd (pi_keys (pv 1)) (blkOk_by (own := [("size", 3)]) (N := N_are_games) (sc := (defScope s_are_games)) (by decide +kernel)) (fun _ _ _ _ _ => (pg_name (i := 3) sc_are_games.nd rfl (by first | exact Or.inl rfl | exact Or.inr rfl))) (fun _ _ _ _ _ => pts_nil) (fun _ _ _ _ _ => (pe_and (k_cl0 c_is_between rfl hr (pa_cons (pv 3) (pa_cons pe_int (pa_cons (pv 2) pa_nil)))) (pe_one (k_cl0 c_is_between rfl hr (pa_cons (pe_dget (hu_of hr) (pv 1) (pv 3) (fun _ _ => rfl)) (pa_cons pe_int (pa_cons (C8.pe_gc rfl k_MOST_TIMES) pa_nil))))))))) pa_nil)))))), ?_⟩
  refine DL.run_fnP  [.no, .no] (Nm := N_are_games) (n := 2) (k := 2) rfl (hlen _ _ _ _ h) rfl h fun W m ss Φ Ξ G hc => ?_
  try dsimp only [cxOf, Cx.nox, Cx.wish, Cx.blk]
  obtain ⟨n, gs, rfl, hn, hg, hL, hΦ⟩ := hc
  have l1 := hg.l1
  have l2 := hg.l2
  walk_at "d"
  rw [gD_len]
  rw [show decide ((1 : Int) ≤ (gs.length : Nat)) = true by simp; omega]
  walk_at "d"
  rw [show decide (((gs.length : Nat) : Int) ≤ 2) = true by simp; omega]
  walk_at "d"
  refine de_lcK (fun _ => .bl true) (by with_unfolding_all rfl) hL (by rw [gD_len]; omega) (fun d E Ξ G1 H1 p hp => ⟨_, dg_name (by simp), ?_⟩) ?_
  · obtain ⟨t, v, htv, rfl⟩ := gD_mem hp
    obtain ⟨o1, o2, o3, o4, o5⟩ := hg.ok t v htv
    walk_at "d"
    refine ⟨_, _, _, true, rfl, (fun _ z => by cases z), by simp [keyD, btw]; omega, ?_⟩
    walk_at "d"
    refine ⟨_, Sum.inl (t : Int), D.int (v : Nat), rfl, rfl, by rw [gD_val, gv_mem hg.nd htv]; rfl, ?_⟩
    walk_at "d"
    exact ⟨_, _, _, true, rfl, (fun _ z => by cases z), by simp [btw]; omega, rfl, rfl⟩
  · walk_at "d"
    refine cb_allT ?_
    walk_at "d"
    exact hΦ


def C_all_teams : Fc := fun W m ss Φ Ξ => ∃ n gs, ss = [.dat (.int (n : Nat)), .dat (.dic (gD gs))] ∧ n ≤ 10 ∧ GGm n gs ∧ (∀ a, ¬ W.L a) ∧ Φ m (.dat (.int (tot n gs : Nat)))
def atF (n : Nat) (gs : List (Nat × Nat)) (d : D) : D := match d with
  | .int t => .int (((gv gs t.toNat).getD 0 * KM.ch n t.toNat : Nat) : Int)
  | _ => .non
theorem atF_eq {n : Nat} {gs : List (Nat × Nat)} (nd : (gs.map (·.1)).Nodup) : ((gD gs).map fun p => atF n gs (keyD p.1)) = dN (gs.map fun p => p.2 * KM.ch n p.1) := by
  unfold gD dN
  rw [List.map_map, List.map_map]
  apply List.map_congr_left
  rintro ⟨t, v⟩ h
  simp [atF, keyD, gv_mem nd h]

abbrev s_all_teams : Stmt := (top 16)
abbrev N_all_teams : List Str := ["people", "games", "size"]
theorem sc_all_teams : FnScope N_all_teams ["people", "games"] (defScope s_all_teams) := ⟨rfl, rfl, rfl, by decide +kernel, rfl, by decide +kernel, by decide +kernel⟩
theorem ok_all_teams (F : FnP K "all_teams" s_all_teams f fd) (b : BI mg) (c_choices : Cl P w K mg base CX0 1 "choices" ["many", "few"] C_choices) : FnOk P w K mg base CX0 2 f fd ["people", "games"] (spF K C_all_teams) := by
  have hlen := spF_len (K := K) (C := C_all_teams) (m := 2) fun W m ss Φ Ξ ⟨n, gs, e, _⟩ => by first | exact e | (rw [e]; rfl)
  refine F.ok sc_all_teams hlen ?_
  intro cdv A outer s H vs Q E hr h
  refine ⟨_, PSs.nox (pss_one (ps_ret (pe_callB (k_sum (K := K) rfl rfl) rfl b.sum boot_sum (pa_cons (pe_lock (pe_lc (own := [("size", 2)]) rfl sc_all_teams.nd (pi_keys (pv 1)) (blkOk_by (own := [("size", 2)]) (N := N_all_teams) (sc := (defScope s_all_teams)) (by decide +kernel)) (fun _ _ _ _ _ => (pg_name (i := 2) sc_all_teams.nd rfl (by first | exact Or.inl rfl | exact Or.inr rfl))) (fun _ _ _ _ _ => pts_nil) (fun _ _ _ _ _ => (pe_op op_mul (pe_dget (hu_of hr) (pv 1) (pv 2) (fun _ _ => rfl)) (k_cl0 c_choices rfl hr (pa_cons (pv 0) (pa_cons (pv 2) pa_nil))))))) pa_nil)))), ?_⟩
  refine DL.run_fnP  [.no] (Nm := N_all_teams) (n := 2) (k := 1) rfl (hlen _ _ _ _ h) rfl h fun W m ss Φ Ξ G hc => ?_
  try dsimp only [cxOf, Cx.nox, Cx.wish, Cx.blk]
  obtain ⟨n, gs, rfl, hn, hg, hL, hΦ⟩ := hc
  have l1 := hg.l1
  have l2 := hg.l2
  walk_at "d"
  refine de_lcK (atF n gs) (by with_unfolding_all rfl) hL (by rw [gD_len]; omega) (fun d E Ξ G1 H1 p hp => ⟨_, dg_name (by simp), ?_⟩) ?_
  · obtain ⟨t, v, htv, rfl⟩ := gD_mem hp
    obtain ⟨o1, o2, o3, o4, o5⟩ := hg.ok t v htv
    walk_at "d"
    refine ⟨_, Sum.inl (t : Int), D.int (v : Nat), rfl, rfl, by rw [gD_val, gv_mem hg.nd htv]; rfl, ?_⟩
    walk_at "d"
    refine ⟨n, t, rfl, by omega, by omega, ?_⟩
    walk_at "d"
    simp [atF, keyD, gv_mem hg.nd htv, S.frz]
  · walk_at "d"
    rw [atF_eq hg.nd]
    refine cb_sumN (.inl rfl) ?_
    walk_at "d"
    exact hΦ


def C_check_sizes : Fc := fun W m ss Φ Ξ => ∃ s sz, ss = [s] ∧ isSeq s sz ∧ GSz sz ∧ Φ m (.dat .non)

abbrev s_check_sizes : Stmt := (top 17)
abbrev N_check_sizes : List Str := ["sizes"]
theorem sc_check_sizes : FnScope N_check_sizes ["sizes"] (defScope s_check_sizes) := ⟨rfl, rfl, rfl, by decide +kernel, rfl, by decide +kernel, by decide +kernel⟩
theorem ok_check_sizes (F : FnP K "check_sizes" s_check_sizes f fd) (b : BI mg) (x_BadSizes : Xc P w K mg base "BadSizes" a_BadSizes ["value"]) (c_are_sizes : Cl P w K mg base CX0 2 "are_sizes" ["value"] C_are_sizes) : FnOk P w K mg base (L2.CX P w) 3 f fd ["sizes"] (spF K C_check_sizes) := by
  have hlen := spF_len (K := K) (C := C_check_sizes) (m := 1) fun W m ss Φ Ξ ⟨s, sz, e, _⟩ => by first | exact e | (rw [e]; rfl)
  refine F.ok sc_check_sizes hlen ?_
  intro cdv A outer s H vs Q E hr h
  refine ⟨_, (pss_one (ps_if (pt_not (pt_val (k_cl0 c_are_sizes rfl hr (pa_cons (pv 0) pa_nil)))) (pss_one (raiseX x_BadSizes hr (takes_of rfl rfl rfl rfl) (pa_cons (pv 0) pa_nil))) pss_nil)), ?_⟩
  refine DL.run_fnP  [] (Nm := N_check_sizes) (n := 1) (k := 0) rfl (hlen _ _ _ _ h) rfl h fun W m ss Φ Ξ G hc => ?_
  try dsimp only [cxOf, Cx.nox, Cx.wish, Cx.blk]
  obtain ⟨s, sz, rfl, hs, hz, hΦ⟩ := hc
  rcases hs with rfl | rfl
  · walk_at "d"
    refine ⟨_, sz, rfl, .inl rfl, hz, ?_⟩
    walk_at "d"
    exact hΦ
  · walk_at "d"
    refine ⟨_, sz, rfl, .inr rfl, hz, ?_⟩
    walk_at "d"
    exact hΦ


def C_check_games : Fc := fun W m ss Φ Ξ => ∃ n gs, ss = [.dat (.int (n : Nat)), .dat (.dic (gD gs))] ∧ n ≤ 10 ∧ GGm n gs ∧ tot n gs ≤ 130 ∧ (∀ a, ¬ W.L a) ∧ Φ m (.dat .non)

abbrev s_check_games : Stmt := (top 18)
abbrev N_check_games : List Str := ["people", "games", "count"]
theorem sc_check_games : FnScope N_check_games ["people", "games"] (defScope s_check_games) := ⟨rfl, rfl, rfl, by decide +kernel, rfl, by decide +kernel, by decide +kernel⟩
theorem ok_check_games (F : FnP K "check_games" s_check_games f fd) (b : BI mg) (k_MOST_TEAMS : ∃ u, mg "MOST_TEAMS" = some u ∧ RelV (.int 130) u) (x_BadGames : Xc P w K mg base "BadGames" a_BadGames ["value"]) (x_TooMany : Xc P w K mg base "TooMany" a_TooMany ["count"]) (c_are_games : Cl P w K mg base CX0 2 "are_games" ["people", "value"] C_are_games) (c_all_teams : Cl P w K mg base CX0 2 "all_teams" ["people", "games"] C_all_teams) : FnOk P w K mg base (L2.CX P w) 3 f fd ["people", "games"] (spF K C_check_games) := by
  have hlen := spF_len (K := K) (C := C_check_games) (m := 2) fun W m ss Φ Ξ ⟨n, gs, e, _⟩ => by first | exact e | (rw [e]; rfl)
  refine F.ok sc_check_games hlen ?_
  intro cdv A outer s H vs Q E hr h
  refine ⟨_, (pss_cons (ps_if (pt_not (pt_val (k_cl0 c_are_games rfl hr (pa_cons (pv 0) (pa_cons (pv 1) pa_nil))))) (pss_one (raiseX x_BadGames hr (takes_of rfl rfl rfl rfl) (pa_cons (pv 1) pa_nil))) pss_nil)
      (pss_cons (ps_set (i := 2) sc_check_games.nd rfl (by first | exact Or.inl rfl | exact Or.inr rfl) (k_cl0 c_all_teams rfl hr (pa_cons (pv 0) (pa_cons (pv 1) pa_nil))))
      (pss_one (ps_if (pt_cmpR op_gt (pv 2) (C8.pe_gc rfl k_MOST_TEAMS) (nomark _)) (pss_one (raiseX x_TooMany hr (takes_of rfl rfl rfl rfl) (pa_cons (pv 2) pa_nil))) pss_nil)))), ?_⟩
  refine DL.run_fnP  [.no] (Nm := N_check_games) (n := 2) (k := 1) rfl (hlen _ _ _ _ h) rfl h fun W m ss Φ Ξ G hc => ?_
  try dsimp only [cxOf, Cx.nox, Cx.wish, Cx.blk]
  obtain ⟨n, gs, rfl, hn, hg, ht, hL, hΦ⟩ := hc
  walk_at "d"
  refine ⟨n, gs, rfl, hn, hg, hL, ?_⟩
  walk_at "d"
  refine ⟨n, gs, rfl, hn, hg, hL, ?_⟩
  walk_at "d"
  rw [show decide (((tot n gs : Nat) : Int) > 130) = false by simp; omega]
  walk_at "d"
  exact hΦ


def C_check_setting : Fc := fun W m ss Φ Ξ => ∃ s sz gs, ss = [s, .dat (.dic (gD gs))] ∧ isSeq s sz ∧ Good sz gs ∧ (∀ a, ¬ W.L a) ∧ Φ m (.dat .non)

abbrev s_check_setting : Stmt := (top 19)
abbrev N_check_setting : List Str := ["sizes", "games"]
theorem sc_check_setting : FnScope N_check_setting ["sizes", "games"] (defScope s_check_setting) := ⟨rfl, rfl, rfl, by decide +kernel, rfl, by decide +kernel, by decide +kernel⟩
theorem ok_check_setting (F : FnP K "check_setting" s_check_setting f fd) (b : BI mg) (c_check_sizes : Cl P w K mg base (L2.CX P w) 3 "check_sizes" ["sizes"] C_check_sizes) (c_check_games : Cl P w K mg base (L2.CX P w) 3 "check_games" ["people", "games"] C_check_games) : FnOk P w K mg base (L2.CX P w) 4 f fd ["sizes", "games"] (spF K C_check_setting) := by
  have hlen := spF_len (K := K) (C := C_check_setting) (m := 2) fun W m ss Φ Ξ ⟨s, sz, gs, e, _⟩ => by first | exact e | (rw [e]; rfl)
  refine F.ok sc_check_setting hlen ?_
  intro cdv A outer s H vs Q E hr h
  refine ⟨_, (pss_cons (ps_expr (k_cl c_check_sizes rfl hr (passes_call (takes_of rfl rfl rfl rfl) (fun _ _ _ _ h => h)) (pa_cons (pv 0) pa_nil)))
      (pss_one (ps_expr (k_cl c_check_games rfl hr (passes_call (takes_of rfl rfl rfl rfl) (fun _ _ _ _ h => h)) (pa_cons (pe_callB (k_sum (K := K) rfl rfl) rfl b.sum boot_sum (pa_cons (pv 0) pa_nil)) (pa_cons (pv 1) pa_nil)))))), ?_⟩
  refine DL.run_fnP  [] (Nm := N_check_setting) (n := 2) (k := 0) rfl (hlen _ _ _ _ h) rfl h fun W m ss Φ Ξ G hc => ?_
  try dsimp only [cxOf, Cx.nox, Cx.wish, Cx.blk]
  obtain ⟨s, sz, gs, rfl, hs, ⟨hz, hg, ht⟩, hL, hΦ⟩ := hc
  rcases hs with rfl | rfl
  all_goals
    walk_at "d"
    refine ⟨_, sz, rfl, by first | exact .inl rfl | exact .inr rfl, hz, ?_⟩
    walk_at "d"
    refine cb_sumN (by first | exact .inl rfl | exact .inr rfl) ?_
    walk_at "d"
    refine ⟨_, gs, rfl, hz.2.2, hg, ht, hL, ?_⟩
    walk_at "d"
    exact hΦ


def C_team_count : Fc := fun W m ss Φ Ξ => ∃ s sz gs, ss = [s, .dat (.dic (gD gs))] ∧ isSeq s sz ∧ Good sz gs ∧ (∀ a, ¬ W.L a) ∧ Φ m (.dat (.int (tot sz.sum gs : Nat)))

abbrev s_team_count : Stmt := (top 20)
abbrev N_team_count : List Str := ["sizes", "games"]
theorem sc_team_count : FnScope N_team_count ["sizes", "games"] (defScope s_team_count) := ⟨rfl, rfl, rfl, by decide +kernel, rfl, by decide +kernel, by decide +kernel⟩
theorem ok_team_count (F : FnP K "team_count" s_team_count f fd) (b : BI mg) (c_check_setting : Cl P w K mg base (L2.CX P w) 4 "check_setting" ["sizes", "games"] C_check_setting) (c_all_teams : Cl P w K mg base CX0 2 "all_teams" ["people", "games"] C_all_teams) : FnOk P w K mg base (L2.CX P w) 5 f fd ["sizes", "games"] (spF K C_team_count) := by
  have hlen := spF_len (K := K) (C := C_team_count) (m := 2) fun W m ss Φ Ξ ⟨s, sz, gs, e, _⟩ => by first | exact e | (rw [e]; rfl)
  refine F.ok sc_team_count hlen ?_
  intro cdv A outer s H vs Q E hr h
  refine ⟨_, (pss_cons (ps_expr (k_cl c_check_setting rfl hr (passes_call (takes_of rfl rfl rfl rfl) (fun _ _ _ _ h => h)) (pa_cons (pv 0) (pa_cons (pv 1) pa_nil))))
      (pss_one (ps_ret (k_cl0 c_all_teams rfl hr (pa_cons (pe_callB (k_sum (K := K) rfl rfl) rfl b.sum boot_sum (pa_cons (pv 0) pa_nil)) (pa_cons (pv 1) pa_nil)))))), ?_⟩
  refine DL.run_fnP  [] (Nm := N_team_count) (n := 2) (k := 0) rfl (hlen _ _ _ _ h) rfl h fun W m ss Φ Ξ G hc => ?_
  try dsimp only [cxOf, Cx.nox, Cx.wish, Cx.blk]
  obtain ⟨s, sz, gs, rfl, hs, ⟨hz, hg, ht⟩, hL, hΦ⟩ := hc
  rcases hs with rfl | rfl
  all_goals
    walk_at "d"
    refine ⟨_, sz, gs, rfl, by first | exact .inl rfl | exact .inr rfl, ⟨hz, hg, ht⟩, hL, ?_⟩
    walk_at "d"
    refine cb_sumN (by first | exact .inl rfl | exact .inr rfl) ?_
    walk_at "d"
    refine ⟨_, gs, rfl, hz.2.2, hg, hL, ?_⟩
    walk_at "d"
    exact hΦ


end
end Pf
set_option Elab.async false
set_option linter.all false
set_option maxRecDepth 100000
set_option maxHeartbeats 1000000
namespace Pf
open PySem PySem.Spec PyProof.Rows L2 DL
local macro_rules | `(tactic| walk_at "len") => `(tactic| with_unfolding_all first | exact Nat.le_of_ble_eq_true rfl | (simp; done) | (simp; omega))
local macro_rules | `(tactic| walk_at "side") => `(tactic| with_unfolding_all first | exact Or.inr ⟨by omega, by omega⟩ | exact Or.inl ⟨by omega, by omega⟩ | exact ⟨by omega, by omega⟩ | exact ⟨by omega, by omega, by omega⟩ | (show (0 : Int) < _; omega) | decide)
local macro_rules | `(tactic| walk_at "d1") => `(tactic| with_reducible first
  | (refine ds_seq ?_; try dsimp only [List.set_cons_zero, List.set_cons_succ, List.cons_append, List.nil_append, O.frz])
  | refine ds_asg ?_
  | refine ds_ret ?_
  | refine ds_retN ?_
  | refine ds_next ?_
  | refine ds_dropC ?_
  | refine ds_drop0 ?_
  | refine ds_dropB ?_
  | refine ds_if ?_
  | refine dt_test ?_
  | refine dt_B ?_
  | refine dt_not ?_
  | refine dt_and ?_
  | refine dt_or ?_
  | refine dt_yes ?_
  | refine de_int ?_
  | refine de_bl ?_
  | refine de_str ?_
  | refine de_non ?_
  | refine de_varD (by with_unfolding_all rfl) ?_
  | refine de_varO (by with_unfolding_all rfl) ?_
  | refine de_varA (by with_unfolding_all rfl) ?_
  | refine de_varV (by with_unfolding_all rfl) ?_
  | refine de_isi ?_
  | refine de_dget ?_
  | refine de_din ?_
  | refine de_dnew ?_
  | refine de_cb ?_
  | refine de_call0G ?_
  | refine de_callG ?_
  | refine de_andB ?_
  | refine de_orB ?_
  | refine de_notV ?_
  | refine de_ifE ?_
  | refine de_chain ?_
  | refine de_op ?_
  | refine de_neg ?_
  | refine de_tupG ?_
  | refine de_lstG ?_
  | refine de_slL ?_
  | refine de_slT ?_
  | refine do_none ?_
  | refine do_some ?_
  | refine da_cons ?_
  | refine da_nil ?_
  | refine lk_dat ?_
  | refine lk_nil ?_
  | refine ak_dat ?_
  | refine ak_nil ?_
  | refine ak_at ?_
  | refine ak_lst ?_
  | refine lk_lst ?_
  | refine ak_dK ?_
  | refine lk_dK ?_
  | refine da_star ?_
  | refine di_rng1 ?_
  | refine di_rng2 ?_
  | refine di_list ?_
  | refine di_tup ?_
  | refine di_seq ?_
  | refine di_zip ?_
  | refine ops_int ?_
  | (refine ops_cat (by with_unfolding_all rfl) (by with_unfolding_all rfl) ?side ?_; (case side => walk_at "len"))
  | (refine ops_catA ?side ?_; (case side => walk_at "len"))
  | refine ops_eqI ?_
  | refine ops_neI ?_
  | refine ops_bool ?_
  | (refine ops_intC ?side ?_; (case side => walk_at "side"))
  | refine cb_lenL (by with_unfolding_all rfl) ?_
  | refine cb_lenT (by with_unfolding_all rfl) ?_
  | refine cb_lenK (by with_unfolding_all rfl) ?_
  | refine cb_max2 ?_
  | refine cb_min2 ?_
  | refine cb_int ?_
  | refine ⟨fun _ => ?_, fun z => Bool.noConfusion z⟩
  | refine ⟨fun z => Bool.noConfusion z, fun _ => ?_⟩
  | refine ⟨rfl, ?_⟩
  | refine ⟨_, rfl, ?_⟩
  | refine ⟨_, Or.inl (by with_unfolding_all rfl), ?_⟩
  | (with_unfolding_all refine ⟨_, true, rfl, (fun _ z => by cases z), rfl, ?_⟩)
  | (with_unfolding_all refine ⟨_, false, rfl, (fun _ z => by cases z), rfl, ?_⟩))
local macro_rules | `(tactic| walk_at "d") => `(tactic| repeat walk_at "d1")
local macro_rules | `(tactic| walk_at "wk") => `(tactic| repeat first | exact Wk.nil | refine Wk.keep ?_ | refine Wk.drop ?_)
section
variable {P : Program} {w : World} {K : PySem.W.Frag} {mg : Str → Option Value} {base : Heap} {f : Addr} {fd : FuncData} {a_BadSizes a_BadGames a_TooMany a_BadKind : Addr}
def adD (d e : D) : D := match d with
  | .tup xs => .tup (xs ++ [e])
  | _ => .non
theorem adD_eq (L : List (List Nat)) (s : Nat) : ((L.map tD).flatMap fun d => ((rngD 0 (s + 1)).filter fun _ => true).map (adD d)) = (stepT L s).map tD := by
  have e : (rngD 0 (s + 1)).filter (fun _ => true) = (List.range (s + 1)).map fun n => D.int (n : Nat) := by
    rw [List.filter_eq_self.mpr (by simp)]
    unfold rngD
    apply List.map_congr_left
    intro i _
    simp
  unfold stepT
  rw [List.map_flatMap, List.flatMap_map]
  congr 1
  funext one
  rw [e, List.map_map, List.map_map]
  apply List.map_congr_left
  intro n _
  simp [adD, tD, dN]

def C_tuples_below : Fc := fun W m ss Φ Ξ => ∃ s sz, ss = [s] ∧ isSeq s sz ∧ GSz sz ∧ Φ m (.own (.lst ((TB sz).map tD)))

abbrev s_tuples_below : Stmt := (top 21)
abbrev N_tuples_below : List Str := ["sizes", "found", "size", "one", "number"]
theorem sc_tuples_below : FnScope N_tuples_below ["sizes"] (defScope s_tuples_below) := ⟨rfl, rfl, rfl, by decide +kernel, rfl, by decide +kernel, by decide +kernel⟩
theorem ok_tuples_below (F : FnP K "tuples_below" s_tuples_below f fd) (b : BI mg) : FnOk P w K mg base CX0 1 f fd ["sizes"] (spF K C_tuples_below) := by
  have hlen := spF_len (K := K) (C := C_tuples_below) (m := 1) fun W m ss Φ Ξ ⟨s, sz, e, _⟩ => by first | exact e | (rw [e]; rfl)
  refine F.ok sc_tuples_below hlen ?_
  intro cdv A outer s H vs Q E hr h
  refine ⟨_, PSs.nox (pss_cons (ps_set (i := 1) sc_tuples_below.nd rfl (by first | exact Or.inl rfl | exact Or.inr rfl) (pe_lst (pa_cons (pe_tup pa_nil) pa_nil)))
      (pss_cons (ps_for PassesOwn.never rfl (k_piS (K := K) rfl (pv 0)) (pg_name (i := 2) sc_tuples_below.nd rfl (by first | exact Or.inl rfl | exact Or.inr rfl))
      (pss_one (ps_setLc2 (i := 1) (own := [("one", 3), ("number", 4)]) rfl sc_tuples_below.nd rfl rfl (sw_true rfl rfl rfl (by decide +kernel)) (k_piL (K := K) rfl (pv 1)) (blkOk_by (own := [("one", 3), ("number", 4)]) (N := N_tuples_below) (sc := (defScope s_tuples_below)) (by decide +kernel)) (vs1 := [4]) (by decide) (fun _ _ _ _ _ => (pg_name (i := 3) sc_tuples_below.nd rfl (by first | exact Or.inl rfl | exact Or.inr rfl))) (fun _ _ _ _ _ => pts_nil) (fun _ _ _ _ _ => (pi_range1 rfl b.range (pa_cons (pe_op op_add (pv 2) pe_int) pa_nil))) (fun _ _ _ _ _ => (pg_name (i := 4) sc_tuples_below.nd rfl (by first | exact Or.inl rfl | exact Or.inr rfl))) (fun _ _ _ _ _ => pts_nil) (fun _ _ _ _ _ => (pe_tup (k_star (K := K) rfl (pv 3) (pa_cons (pv 4) pa_nil)))))))
      (pss_one (ps_ret (pv 1))))), ?_⟩
  refine DL.run_fnP  [.no, .no, .no, .no] (Nm := N_tuples_below) (n := 1) (k := 4) rfl (hlen _ _ _ _ h) rfl h fun W m ss Φ Ξ G hc => ?_
  try dsimp only [cxOf, Cx.nox, Cx.wish, Cx.blk]
  obtain ⟨s, sz, rfl, hs, ⟨_, hpos, hsum⟩, hΦ⟩ := hc
  have hle := len_le_sum hpos
  have hsz : ∀ n ∈ sz, n ≤ 10 := fun n hn => Nat.le_trans (mem_le_sum hn) hsum
  rcases hs with rfl | rfl
  all_goals
    walk_at "d"
    refine ds_for (vs := [2]) ?_
    walk_at "d"
    refine ⟨fun i m' ρ => m' = m ∧ ∃ x, ρ = [_, .own (.lst ((TB (sz.take i)).map tD)), x, .no, .no], ⟨rfl, .no, rfl⟩, ?_, ?_⟩
    · rintro i d m' ρ hd ⟨rfl, x, rfl⟩
      rw [dN_get] at hd
      cases hz : sz[i]? with
      | none => rw [hz] at hd; cases hd
      | some n =>
        rw [hz] at hd
        cases hd
        have hn := hsz n (List.mem_of_getElem? hz)
        refine ⟨_, dg_name (by simp), ds_frz (i := 1) rfl rfl ?_⟩
        walk_at "d"
        refine de_lc2M (fun _ => rngD 0 (n + 1)) (fun _ _ => true) adD ?_
        walk_at "d"
        rw [adD_eq]
        refine ⟨?_, ?_, ?_⟩
        · rw [← TB_succ hz, List.length_map]
          have := TB_len (sz := sz.take (i + 1)) (Nat.le_trans (sum_take_le _ _) hsum)
          omega
        · intro d hd
          obtain ⟨k, hk, rfl⟩ := List.mem_map.mp hd
          refine ⟨_, dg_name (by simp), ?_⟩
          walk_at "d"
          refine ⟨by omega, by omega, ?_⟩
          walk_at "d"
          intro e he
          refine ⟨_, dg_name (by simp), ?_⟩
          walk_at "d"
          refine fun _ => ?_
          walk_at "d"
          refine lk_app (n := 900) (k := 100) ?_ (lk_dat (lk_nil ⟨rfl, rfl⟩))
          have h1 := (TB_mem.mp hk).1
          rw [dN_len, h1]
          have h2 : (sz.take i).length ≤ sz.length := by rw [List.length_take]; omega
          omega
        · walk_at "d"
          rw [TB_succ hz]
          exact ⟨_, rfl⟩
    · rintro m' ρ ⟨rfl, x, rfl⟩
      rw [dN_len, List.take_length]
      exact ds_retVar rfl hΦ
theorem AKD_eq (sz : List Nat) (gs : List (Nat × Nat)) : (((srt (gs.map fun p => (p.1 : Int))).map D.int).flatMap fun d => (((TB sz).map tD).filter (tS d)).map fun e => e) = (AK sz gs).map tD := by
  rw [ks_int, AK, List.map_flatMap, List.map_map, List.flatMap_map]
  congr 1
  funext t
  rw [List.map_id', List.filter_map]
  congr 1
  apply List.filter_congr
  intro k _
  show tS (.int (t : Nat)) (tD k) = decide (k.sum = t)
  unfold tS
  rw [dsum_tD]
  simp
  omega


def C_all_kinds : Fc := fun W m ss Φ Ξ => ∃ s sz gs, ss = [s, .dat (.dic (gD gs))] ∧ isSeq s sz ∧ Good sz gs ∧ (∀ a, ¬ W.L a) ∧ Φ m (.own (.lst ((AK sz gs).map tD)))

abbrev s_all_kinds : Stmt := (top 22)
abbrev N_all_kinds : List Str := ["sizes", "games", "found", "size", "kind"]
theorem sc_all_kinds : FnScope N_all_kinds ["sizes", "games"] (defScope s_all_kinds) := ⟨rfl, rfl, rfl, by decide +kernel, rfl, by decide +kernel, by decide +kernel⟩
theorem ok_all_kinds (F : FnP K "all_kinds" s_all_kinds f fd) (b : BI mg) (c_check_setting : Cl P w K mg base (L2.CX P w) 4 "check_setting" ["sizes", "games"] C_check_setting) (c_tuples_below : Cl P w K mg base CX0 1 "tuples_below" ["sizes"] C_tuples_below) : FnOk P w K mg base (L2.CX P w) 5 f fd ["sizes", "games"] (spF K C_all_kinds) := by
  have hlen := spF_len (K := K) (C := C_all_kinds) (m := 2) fun W m ss Φ Ξ ⟨s, sz, gs, e, _⟩ => by first | exact e | (rw [e]; rfl)
  refine F.ok sc_all_kinds hlen ?_
  intro cdv A outer s H vs Q E hr h
  refine ⟨_, (pss_cons (ps_expr (k_cl c_check_setting rfl hr (passes_call (takes_of rfl rfl rfl rfl) (fun _ _ _ _ h => h)) (pa_cons (pv 0) (pa_cons (pv 1) pa_nil))))
      (pss_cons (ps_set (i := 2) sc_all_kinds.nd rfl (by first | exact Or.inl rfl | exact Or.inr rfl) (k_cl0 c_tuples_below rfl hr (pa_cons (pv 0) pa_nil)))
      (pss_one (ps_ret (pe_lc2 (own := [("size", 3), ("kind", 4)]) rfl sc_all_kinds.nd (k_piL (K := K) rfl (pe_callB (call_sortedDI rfl) rfl b.sorted boot_sorted (pa_cons (pv 1) pa_nil))) (blkOk_by (own := [("size", 3), ("kind", 4)]) (N := N_all_kinds) (sc := (defScope s_all_kinds)) (by decide +kernel)) (vs1 := [4]) (by decide) (fun _ _ _ _ _ => (pg_name (i := 3) sc_all_kinds.nd rfl (by first | exact Or.inl rfl | exact Or.inr rfl))) (fun _ _ _ _ _ => pts_nil) (fun _ _ _ _ _ => (k_piL (K := K) rfl (pv 2))) (fun _ _ _ _ _ => (pg_name (i := 4) sc_all_kinds.nd rfl (by first | exact Or.inl rfl | exact Or.inr rfl))) (fun _ _ _ _ _ => pts_one (pt_cmpR (k_eqD (K := K) rfl hr.units) (pe_callB (k_sum (K := K) rfl rfl) rfl b.sum boot_sum (pa_cons (pv 4) pa_nil)) (pv 3) (nomark _))) (fun _ _ _ _ _ => (pv 4))))))), ?_⟩
  refine DL.run_fnP  [.no, .no, .no] (Nm := N_all_kinds) (n := 2) (k := 3) rfl (hlen _ _ _ _ h) rfl h fun W m ss Φ Ξ G hc => ?_
  try dsimp only [cxOf, Cx.nox, Cx.wish, Cx.blk]
  obtain ⟨s, sz, gs, rfl, hs, hgd, hL, hΦ⟩ := hc
  obtain ⟨hz, hg, ht⟩ := id hgd
  have l2 := hg.l2
  rcases hs with rfl | rfl
  all_goals
    walk_at "d"
    refine ⟨_, sz, gs, rfl, by first | exact .inl rfl | exact .inr rfl, hgd, hL, ?_⟩
    walk_at "d"
    refine ⟨_, sz, rfl, by first | exact .inl rfl | exact .inr rfl, hz, rfl, ds_frz (i := 2) rfl rfl ?_⟩
    walk_at "d"
    refine de_lc2M (fun _ => (TB sz).map tD) tS (fun _ e => e) ?_
    walk_at "d"
    refine cb_sortedK (ks := gs.map fun p => (p.1 : Int)) rfl (gD_keys gs) (by simp; omega) ?_
    walk_at "d"
    rw [AKD_eq]
    refine ⟨?_, ?_, ?_⟩
    · have := AK_len hz.2.2 hg.l2
      simp
      omega
    · intro d hd
      obtain ⟨t, ht, rfl⟩ := List.mem_map.mp hd
      refine ⟨_, dg_name (by simp), ?_⟩
      walk_at "d"
      intro e he
      obtain ⟨k, hk, rfl⟩ := List.mem_map.mp he
      refine ⟨_, dg_name (by simp), ?_⟩
      walk_at "d"
      refine cb_sumN (sz := k) (.inr rfl) ?_
      walk_at "d"
      refine ⟨?_, fun _ => ?_⟩
      · unfold tS; rw [dsum_tD]
      · walk_at "d"
        rfl
    · walk_at "d"
      exact hΦ
theorem zipD_mem {xs : List D} {sz : List Nat} {d : D} (h : d ∈ zipD xs (dN sz)) : ∃ x, x ∈ xs ∧ ∃ n : Nat, d = .tup [x, .int n] := by
  unfold zipD at h
  obtain ⟨⟨x, y⟩, hp, rfl⟩ := List.mem_map.mp h
  obtain ⟨h1, h2⟩ := List.of_mem_zip hp
  obtain ⟨n, _, rfl⟩ := dN_mem h2
  exact ⟨x, h1, n, rfl⟩


def C_is_tuple_below : Fc := fun W m ss Φ Ξ => ∃ s sz d b, ss = [s, .dat d] ∧ isSeq s sz ∧ GSz sz ∧ okD d ∧ itb sz d = b ∧ Φ m (.dat (.bl b))

abbrev s_is_tuple_below : Stmt := (top 23)
abbrev N_is_tuple_below : List Str := ["sizes", "value", "number", "size"]
theorem sc_is_tuple_below : FnScope N_is_tuple_below ["sizes", "value"] (defScope s_is_tuple_below) := ⟨rfl, rfl, rfl, by decide +kernel, rfl, by decide +kernel, by decide +kernel⟩
theorem ok_is_tuple_below (F : FnP K "is_tuple_below" s_is_tuple_below f fd) (b : BI mg) (c_is_between : Cl P w K mg base CX0 1 "is_between" ["value", "least", "most"] C_is_between) : FnOk P w K mg base CX0 2 f fd ["sizes", "value"] (spF K C_is_tuple_below) := by
  have hlen := spF_len (K := K) (C := C_is_tuple_below) (m := 2) fun W m ss Φ Ξ ⟨s, sz, d, b, e, _⟩ => by first | exact e | (rw [e]; rfl)
  refine F.ok sc_is_tuple_below hlen ?_
  intro cdv A outer s H vs Q E hr h
  refine ⟨_, PSs.nox (pss_cons (ps_if (PW.pt (pw_or (pt_not (pt_val (pe_callB (k_isi (K := K) rfl) rfl b.isinstance boot_isinstance (pa_cons (pv 1) (pa_cons (pe_bltn (v := .ty "tuple") rfl b.tuple_ boot_tuple rfl) pa_nil))))) (pw_or1 (pt_cmpR (k_neD (K := K) rfl hr.units) (pe_callB (k_len (K := K) rfl) rfl b.len boot_len (pa_cons (pv 1) pa_nil)) (pe_callB (k_len (K := K) rfl) rfl b.len boot_len (pa_cons (pv 0) pa_nil)) (nomark _))))) (pss_one (ps_ret pe_bl)) pss_nil)
      (pss_one (ps_ret (pe_callB (k_all (K := K) rfl rfl) rfl b.all boot_all (pa_cons (pe_lc (own := [("number", 2), ("size", 3)]) rfl sc_is_tuple_below.nd (k_zip (K := K) rfl rfl b.zip (pa_cons (pv 1) (pa_cons (pv 0) pa_nil))) (blkOk_by (own := [("number", 2), ("size", 3)]) (N := N_is_tuple_below) (sc := (defScope s_is_tuple_below)) (by decide +kernel)) (fun _ _ _ _ _ => (k_gTup (K := K) (n := 2) rfl rfl (pgs_cons (pg_name (i := 2) sc_is_tuple_below.nd rfl (by first | exact Or.inl rfl | exact Or.inr rfl)) (pgs_cons (pg_name (i := 3) sc_is_tuple_below.nd rfl (by first | exact Or.inl rfl | exact Or.inr rfl)) pgs_nil)))) (fun _ _ _ _ _ => pts_nil) (fun _ _ _ _ _ => (k_cl0 c_is_between rfl hr (pa_cons (pv 2) (pa_cons pe_int (pa_cons (pv 3) pa_nil)))))) pa_nil))))), ?_⟩
  refine DL.run_fnP  [.no, .no] (Nm := N_is_tuple_below) (n := 2) (k := 2) rfl (hlen _ _ _ _ h) rfl h fun W m ss Φ Ξ G hc => ?_
  try dsimp only [cxOf, Cx.nox, Cx.wish, Cx.blk]
  obtain ⟨s, sz, d, b, rfl, hs, ⟨_, hpos, hsum⟩, hd, rfl, hΦ⟩ := hc
  have hle := len_le_sum hpos
  rcases hs with rfl | rfl
  all_goals
    cases d with
    | tup xs =>
      walk_at "d"
      rw [dN_len]
      by_cases hl : xs.length = sz.length
      · rw [show (!decide (((xs.length : Nat) : Int) = (sz.length : Nat))) = false by simp; omega]
        walk_at "d"
        refine de_lcMap (f := fun d => .bl (btw2 d)) ?_
        walk_at "d"
        refine ⟨_, _, _, _, rfl, rfl, rfl, ?_, fun d hd' => ?_, ?_⟩
        · simp [zipD]; omega
        · obtain ⟨x, hx, n, rfl⟩ := zipD_mem hd'
          refine ⟨_, dg_tup2 (by simp) (by simp), ?_⟩
          walk_at "d"
          exact ⟨_, _, _, _, rfl, hd.2 _ rfl x hx, rfl, rfl, by cases x <;> rfl⟩
        · walk_at "d"
          refine cb_allM ?_
          refine ⟨rfl, ?_⟩
          simpa [itb, hl] using hΦ
      · rw [show (!decide (((xs.length : Nat) : Int) = (sz.length : Nat))) = true by simp; omega]
        walk_at "d"
        simpa [itb, hl] using hΦ
    | dit ds => exact absurd rfl (hd.1 _)
    | _ =>
      walk_at "d"
      exact hΦ


def C_is_kind : Fc := fun W m ss Φ Ξ => ∃ s sz gs d b, ss = [s, .dat (.dic (gD gs)), .dat d] ∧ isSeq s sz ∧ Good sz gs ∧ (∀ a, ¬ W.L a) ∧ okD d ∧ isK sz gs d = b ∧ Φ m (.dat (.bl b))

abbrev s_is_kind : Stmt := (top 24)
abbrev N_is_kind : List Str := ["sizes", "games", "value"]
theorem sc_is_kind : FnScope N_is_kind ["sizes", "games", "value"] (defScope s_is_kind) := ⟨rfl, rfl, rfl, by decide +kernel, rfl, by decide +kernel, by decide +kernel⟩
theorem ok_is_kind (F : FnP K "is_kind" s_is_kind f fd) (b : BI mg) (c_check_setting : Cl P w K mg base (L2.CX P w) 4 "check_setting" ["sizes", "games"] C_check_setting) (c_is_tuple_below : Cl P w K mg base CX0 2 "is_tuple_below" ["sizes", "value"] C_is_tuple_below) : FnOk P w K mg base (L2.CX P w) 5 f fd ["sizes", "games", "value"] (spF K C_is_kind) := by
  have hlen := spF_len (K := K) (C := C_is_kind) (m := 3) fun W m ss Φ Ξ ⟨s, sz, gs, d, b, e, _⟩ => by first | exact e | (rw [e]; rfl)
  refine F.ok sc_is_kind hlen ?_
  intro cdv A outer s H vs Q E hr h
  refine ⟨_, (pss_cons (ps_expr (k_cl c_check_setting rfl hr (passes_call (takes_of rfl rfl rfl rfl) (fun _ _ _ _ h => h)) (pa_cons (pv 0) (pa_cons (pv 1) pa_nil))))
      (pss_one (ps_ret (pe_and (k_cl0 c_is_tuple_below rfl hr (pa_cons (pv 0) (pa_cons (pv 2) pa_nil))) (pe_one (pe_cmp (pc_din (hu_of hr) (pe_callB (k_sum (K := K) rfl rfl) rfl b.sum boot_sum (pa_cons (pv 2) pa_nil)) (pv 1)) rfl)))))), ?_⟩
  refine DL.run_fnP  [] (Nm := N_is_kind) (n := 3) (k := 0) rfl (hlen _ _ _ _ h) rfl h fun W m ss Φ Ξ G hc => ?_
  try dsimp only [cxOf, Cx.nox, Cx.wish, Cx.blk]
  obtain ⟨s, sz, gs, d, b, rfl, hs, hgd, hL, hd, rfl, hΦ⟩ := hc
  obtain ⟨hz, hg, ht⟩ := id hgd
  rcases hs with rfl | rfl
  all_goals
    walk_at "d"
    refine ⟨_, sz, gs, rfl, by first | exact .inl rfl | exact .inr rfl, hgd, hL, ?_⟩
    walk_at "d"
    refine ⟨_, sz, d, _, rfl, by first | exact .inl rfl | exact .inr rfl, hz, hd, rfl, ?_⟩
    refine ⟨_, rfl, fun hb => ?_, fun hb => ⟨rfl, ?_⟩⟩
    · obtain ⟨k, rfl, hk⟩ := itb_iff.mp hb
      walk_at "d"
      refine cb_sumN (sz := k) (.inr rfl) ?_
      walk_at "d"
      refine ⟨gD gs, Sum.inl (k.sum : Int), rfl, rfl, rfl, ?_⟩
      rw [gD_val]
      have e : isK sz gs (tD k) = (gv gs k.sum).isSome := by unfold isK; rw [hb, dsum_tD, Int.toNat_natCast, Bool.true_and]
      rw [e] at hΦ
      simpa using hΦ
    · have e : isK sz gs d = false := by unfold isK; rw [hb, Bool.false_and]
      rw [e] at hΦ
      exact hΦ


def C_ways_of : Fc := fun W m ss Φ Ξ => ∃ s sz k, ss = [s, .dat (tD k)] ∧ isSeq s sz ∧ GSz sz ∧ Below k sz ∧ Φ m (.dat (.int (ways sz k : Nat)))
theorem ways_succ {sz k : List Nat} {i s a : Nat} (h1 : sz[i]? = some s) (h2 : k[i]? = some a) : ways (sz.take (i + 1)) (k.take (i + 1)) = ways (sz.take i) (k.take i) * KM.ch s a := by
  unfold ways
  have e : ∀ j, (sz.take j).zip (k.take j) = (sz.zip k).take j := fun j => (List.take_zipWith).symm
  rw [e, e, List.take_add_one]
  have : (sz.zip k)[i]? = some (s, a) := List.getElem?_zip_eq_some.mpr ⟨h1, h2⟩
  rw [this]
  simp

abbrev s_ways_of : Stmt := (top 25)
abbrev N_ways_of : List Str := ["sizes", "kind", "found", "size", "number"]
theorem sc_ways_of : FnScope N_ways_of ["sizes", "kind"] (defScope s_ways_of) := ⟨rfl, rfl, rfl, by decide +kernel, rfl, by decide +kernel, by decide +kernel⟩
theorem ok_ways_of (F : FnP K "ways_of" s_ways_of f fd) (b : BI mg) (c_choices : Cl P w K mg base CX0 1 "choices" ["many", "few"] C_choices) : FnOk P w K mg base CX0 2 f fd ["sizes", "kind"] (spF K C_ways_of) := by
  have hlen := spF_len (K := K) (C := C_ways_of) (m := 2) fun W m ss Φ Ξ ⟨s, sz, k, e, _⟩ => by first | exact e | (rw [e]; rfl)
  refine F.ok sc_ways_of hlen ?_
  intro cdv A outer s H vs Q E hr h
  refine ⟨_, PSs.nox (pss_cons (ps_set (i := 2) sc_ways_of.nd rfl (by first | exact Or.inl rfl | exact Or.inr rfl) pe_int)
      (pss_cons (ps_for PassesOwn.never rfl (k_zip (K := K) rfl rfl b.zip (pa_cons (pv 0) (pa_cons (pv 1) pa_nil))) (k_gTup (K := K) (n := 2) rfl rfl (pgs_cons (pg_name (i := 3) sc_ways_of.nd rfl (by first | exact Or.inl rfl | exact Or.inr rfl)) (pgs_cons (pg_name (i := 4) sc_ways_of.nd rfl (by first | exact Or.inl rfl | exact Or.inr rfl)) pgs_nil)))
      (pss_one (ps_set (i := 2) sc_ways_of.nd rfl (by first | exact Or.inl rfl | exact Or.inr rfl) (pe_op op_mul (pv 2) (k_cl0 c_choices rfl hr (pa_cons (pv 3) (pa_cons (pv 4) pa_nil)))))))
      (pss_one (ps_ret (pv 2))))), ?_⟩
  refine DL.run_fnP  [.no, .no, .no] (Nm := N_ways_of) (n := 2) (k := 3) rfl (hlen _ _ _ _ h) rfl h fun W m ss Φ Ξ G hc => ?_
  try dsimp only [cxOf, Cx.nox, Cx.wish, Cx.blk]
  obtain ⟨s, sz, k, rfl, hs, ⟨_, hpos, hsum⟩, hb, hΦ⟩ := hc
  have hle := len_le_sum hpos
  rcases hs with rfl | rfl
  all_goals
    walk_at "d"
    refine ds_for (vs := [3, 4]) ?_
    walk_at "d"
    refine ⟨_, _, _, _, rfl, rfl, rfl, ?_⟩
    refine ⟨fun i m' ρ => m' = m ∧ ∃ x y, ρ = [_, _, .dat (.int (ways (sz.take i) (k.take i) : Nat)), x, y], ⟨rfl, .no, .no, rfl⟩, ?_, ?_⟩
    · rintro i d m' ρ hd ⟨rfl, x, y, rfl⟩
      obtain ⟨d1, d2, e1, e2, rfl⟩ := zipD_get hd
      rw [dN_get] at e1 e2
      cases hz : sz[i]? with
      | none => rw [hz] at e1; cases e1
      | some a =>
        cases hk : k[i]? with
        | none => rw [hk] at e2; cases e2
        | some c =>
          rw [hz] at e1; rw [hk] at e2
          cases e1; cases e2
          have h1 := hb.2 i c a hk hz
          have h2 := mem_le_sum (List.mem_of_getElem? hz)
          have h3 : KM.ch a c ≤ 1024 := Nat.le_trans (KM.ch_le a c) (Nat.pow_le_pow_right (n := 2) (by decide) (show a ≤ 10 by omega))
          refine ⟨_, dg_tup2 (by simp) (by simp), ?_⟩
          walk_at "d"
          refine ⟨a, c, rfl, by omega, by omega, ?_⟩
          walk_at "d"
          rw [ways_succ hz hk]
          rw [Int.natCast_mul]
          exact ⟨_, _, rfl⟩
    · rintro m' ρ ⟨rfl, x, y, rfl⟩
      have hl : (zipD (dN sz) (dN k)).length = sz.length := by simp [zipD, dN_len, hb.1]
      rw [hl, List.take_length, ← hb.1, List.take_length]
      walk_at "d"
      exact hΦ


def C_due_of (aB : Addr) : Fc := fun W m ss Φ Ξ => ∃ s sz gs d, ss = [s, .dat (.dic (gD gs)), .dat d] ∧ isSeq s sz ∧ Good sz gs ∧ (∀ a, ¬ W.L a) ∧ okD d ∧
  (∀ k v, d = tD k → Below k sz → gv gs k.sum = some v → Φ m (.dat (.int ((v * ways sz k : Nat) : Int)))) ∧ (isK sz gs d = false → Ξ m aB [("value", d)])

abbrev s_due_of : Stmt := (top 26)
abbrev N_due_of : List Str := ["sizes", "games", "kind"]
theorem sc_due_of : FnScope N_due_of ["sizes", "games", "kind"] (defScope s_due_of) := ⟨rfl, rfl, rfl, by decide +kernel, rfl, by decide +kernel, by decide +kernel⟩
theorem ok_due_of (F : FnP K "due_of" s_due_of f fd) (b : BI mg) (x_BadKind : Xc P w K mg base "BadKind" a_BadKind ["value"]) (c_is_kind : Cl P w K mg base (L2.CX P w) 5 "is_kind" ["sizes", "games", "value"] C_is_kind) (c_ways_of : Cl P w K mg base CX0 2 "ways_of" ["sizes", "kind"] C_ways_of) : FnOk P w K mg base (L2.CX P w) 6 f fd ["sizes", "games", "kind"] (spF K (C_due_of a_BadKind)) := by
  have hlen := spF_len (K := K) (C := (C_due_of a_BadKind)) (m := 3) fun W m ss Φ Ξ ⟨s, sz, gs, d, e, _⟩ => by first | exact e | (rw [e]; rfl)
  refine F.ok sc_due_of hlen ?_
  intro cdv A outer s H vs Q E hr h
  refine ⟨_, (pss_cons (ps_if (pt_not (pt_val (k_cl c_is_kind rfl hr (passes_call (takes_of rfl rfl rfl rfl) (fun _ _ _ _ h => h)) (pa_cons (pv 0) (pa_cons (pv 1) (pa_cons (pv 2) pa_nil)))))) (pss_one (raiseX x_BadKind hr (takes_of rfl rfl rfl rfl) (pa_cons (pv 2) pa_nil))) pss_nil)
      (pss_one (ps_ret (pe_op op_mul (pe_dget (hu_of hr) (pv 1) (pe_callB (k_sum (K := K) rfl rfl) rfl b.sum boot_sum (pa_cons (pv 2) pa_nil)) (fun _ _ => rfl)) (k_cl0 c_ways_of rfl hr (pa_cons (pv 0) (pa_cons (pv 2) pa_nil))))))), ?_⟩
  refine DL.run_fnP  [] (Nm := N_due_of) (n := 3) (k := 0) rfl (hlen _ _ _ _ h) rfl h fun W m ss Φ Ξ G hc => ?_
  try dsimp only [cxOf, Cx.nox, Cx.wish, Cx.blk]
  obtain ⟨s, sz, gs, d, rfl, hs, hgd, hL, hd, hΦ, hΞ⟩ := hc
  obtain ⟨hz, hg, ht⟩ := id hgd
  rcases hs with rfl | rfl
  all_goals
    walk_at "d"
    refine ⟨_, sz, gs, d, _, rfl, by first | exact .inl rfl | exact .inr rfl, hgd, hL, hd, rfl, ?_⟩
    refine ⟨_, rfl, fun hb => ?_, fun hb => ?_⟩
    · refine ds_raise ?_
      walk_at "d"
      exact ⟨[d], rfl, rfl, by show 1 ≤ 1000; decide, hΞ (by simpa using hb)⟩
    · obtain ⟨k, v, rfl, hk, hv⟩ := isK_iff.mp (by simpa using hb)
      obtain ⟨o1, o2, o3, o4, o5⟩ := hg.ok _ _ (gv_some hv)
      walk_at "d"
      refine cb_sumN (sz := k) (.inr rfl) ?_
      walk_at "d"
      refine ⟨gD gs, Sum.inl (k.sum : Int), D.int (v : Nat), rfl, rfl, by rw [gD_val, hv]; rfl, ?_⟩
      walk_at "d"
      refine ⟨_, sz, k, rfl, by first | exact .inl rfl | exact .inr rfl, hz, hk, ?_⟩
      walk_at "d"
      have := hΦ k v rfl hk hv
      rw [Int.natCast_mul] at this
      exact this


end
end Pf
set_option Elab.async false
set_option linter.all false
set_option maxRecDepth 100000
set_option maxHeartbeats 1000000
namespace Pf
open PySem PySem.Spec PyProof.Rows L2 DL
local macro_rules | `(tactic| walk_at "len") => `(tactic| with_unfolding_all first | exact Nat.le_of_ble_eq_true rfl | (simp; done) | (simp; omega))
local macro_rules | `(tactic| walk_at "side") => `(tactic| with_unfolding_all first | exact Or.inr ⟨by omega, by omega⟩ | exact Or.inl ⟨by omega, by omega⟩ | exact ⟨by omega, by omega⟩ | exact ⟨by omega, by omega, by omega⟩ | (show (0 : Int) < _; omega) | decide)
local macro_rules | `(tactic| walk_at "d1") => `(tactic| with_reducible first
  | (refine ds_seq ?_; try dsimp only [List.set_cons_zero, List.set_cons_succ, List.cons_append, List.nil_append, O.frz])
  | refine ds_asg ?_
  | refine ds_ret ?_
  | refine ds_retN ?_
  | refine ds_next ?_
  | refine ds_dropC ?_
  | refine ds_drop0 ?_
  | refine ds_dropB ?_
  | refine ds_if ?_
  | refine dt_test ?_
  | refine dt_B ?_
  | refine dt_not ?_
  | refine dt_and ?_
  | refine dt_or ?_
  | refine dt_yes ?_
  | refine de_int ?_
  | refine de_bl ?_
  | refine de_str ?_
  | refine de_non ?_
  | refine de_varD (by with_unfolding_all rfl) ?_
  | refine de_varO (by with_unfolding_all rfl) ?_
  | refine de_varA (by with_unfolding_all rfl) ?_
  | refine de_varV (by with_unfolding_all rfl) ?_
  | refine de_isi ?_
  | refine de_dget ?_
  | refine de_din ?_
  | refine de_dnew ?_
  | refine de_cb ?_
  | refine de_call0G ?_
  | refine de_callG ?_
  | refine de_andB ?_
  | refine de_orB ?_
  | refine de_notV ?_
  | refine de_ifE ?_
  | refine de_chain ?_
  | refine de_op ?_
  | refine de_neg ?_
  | refine de_tupG ?_
  | refine de_lstG ?_
  | refine de_slL ?_
  | refine de_slT ?_
  | refine do_none ?_
  | refine do_some ?_
  | refine da_cons ?_
  | refine da_nil ?_
  | refine lk_dat ?_
  | refine lk_nil ?_
  | refine ak_dat ?_
  | refine ak_nil ?_
  | refine ak_at ?_
  | refine ak_lst ?_
  | refine lk_lst ?_
  | refine ak_dK ?_
  | refine lk_dK ?_
  | refine da_star ?_
  | refine di_rng1 ?_
  | refine di_rng2 ?_
  | refine di_list ?_
  | refine di_tup ?_
  | refine di_seq ?_
  | refine di_zip ?_
  | refine ops_int ?_
  | (refine ops_cat (by with_unfolding_all rfl) (by with_unfolding_all rfl) ?side ?_; (case side => walk_at "len"))
  | (refine ops_catA ?side ?_; (case side => walk_at "len"))
  | refine ops_eqI ?_
  | refine ops_neI ?_
  | refine ops_bool ?_
  | (refine ops_intC ?side ?_; (case side => walk_at "side"))
  | refine cb_lenL (by with_unfolding_all rfl) ?_
  | refine cb_lenT (by with_unfolding_all rfl) ?_
  | refine cb_lenK (by with_unfolding_all rfl) ?_
  | refine cb_max2 ?_
  | refine cb_min2 ?_
  | refine cb_int ?_
  | refine ⟨fun _ => ?_, fun z => Bool.noConfusion z⟩
  | refine ⟨fun z => Bool.noConfusion z, fun _ => ?_⟩
  | refine ⟨rfl, ?_⟩
  | refine ⟨_, rfl, ?_⟩
  | refine ⟨_, Or.inl (by with_unfolding_all rfl), ?_⟩
  | (with_unfolding_all refine ⟨_, true, rfl, (fun _ z => by cases z), rfl, ?_⟩)
  | (with_unfolding_all refine ⟨_, false, rfl, (fun _ z => by cases z), rfl, ?_⟩))
local macro_rules | `(tactic| walk_at "d") => `(tactic| repeat walk_at "d1")
local macro_rules | `(tactic| walk_at "wk") => `(tactic| repeat first | exact Wk.nil | refine Wk.keep ?_ | refine Wk.drop ?_)
section
variable {P : Program} {w : World} {K : PySem.W.Frag} {mg : Str → Option Value} {base : Heap} {f : Addr} {fd : FuncData} {a_BadSizes a_BadGames a_TooMany a_BadKind : Addr}

def C_law_cell : Fc := fun W m ss Φ Ξ => ∃ ns i, ss = [.dat (.scr ns), .dat (.int (i : Nat))] ∧ ∀ x : Int, Φ m (.dat (.int x))

abbrev s_law_cell : Stmt := (top 28)
abbrev N_law_cell : List Str := ["_law_script", "_law_place"]
theorem sc_law_cell : FnScope N_law_cell ["_law_script", "_law_place"] (defScope s_law_cell) := ⟨rfl, rfl, rfl, by decide +kernel, rfl, by decide +kernel, by decide +kernel⟩
theorem ok_law_cell (F : FnP K "_law_cell" s_law_cell f fd) (b : BI mg) : FnOk P w K mg base CX0 1 f fd ["_law_script", "_law_place"] (spF K C_law_cell) := by
  have hlen := spF_len (K := K) (C := C_law_cell) (m := 2) fun W m ss Φ Ξ ⟨ns, i, e, _⟩ => by first | exact e | (rw [e]; rfl)
  refine F.ok sc_law_cell hlen ?_
  intro cdv A outer s H vs Q E hr h
  refine ⟨_, PSs.nox (pss_cons (ps_if (pt_cmpR op_lt (pv 1) (pe_callB (k_len (K := K) rfl) rfl b.len boot_len (pa_cons (pv 0) pa_nil)) (nomark _)) (pss_one (ps_ret (pe_ix (k_ixL (K := K) rfl) (pv 0) (pv 1) (fun _ _ => rfl)))) pss_nil)
      (pss_one (ps_ret pe_int))), ?_⟩
  refine DL.run_fnP  [] (Nm := N_law_cell) (n := 2) (k := 0) rfl (hlen _ _ _ _ h) rfl h fun W m ss Φ Ξ G hc => ?_
  try dsimp only [cxOf, Cx.nox, Cx.wish, Cx.blk]
  obtain ⟨ns, i, rfl, hΦ⟩ := hc
  walk_at "d"
  rw [List.length_map]
  by_cases hi : i < ns.length
  · rw [show decide ((i : Int) < (ns.length : Nat)) = true by simp; omega]
    walk_at "d"
    refine ops_ixL (ds := ns.map D.int) (d := .int ns[i]) rfl ?_ ?_
    · unfold atI ixN
      simp [hi]
    · exact ⟨rfl, hΦ _⟩
  · rw [show decide ((i : Int) < (ns.length : Nat)) = false by simp; omega]
    walk_at "d"
    exact hΦ _


def C_law_source : Fc := fun W m ss Φ Ξ => ∃ x : Int, ss = [.dat (.int x)] ∧ Φ m (.own (.lst [.int x, .int x, .int 0]))

abbrev s_law_source : Stmt := (top 29)
abbrev N_law_source : List Str := ["_law_cell_here"]
theorem sc_law_source : FnScope N_law_source ["_law_cell_here"] (defScope s_law_source) := ⟨rfl, rfl, rfl, by decide +kernel, rfl, by decide +kernel, by decide +kernel⟩
theorem ok_law_source (F : FnP K "_law_source" s_law_source f fd) (b : BI mg) : FnOk P w K mg base CX0 1 f fd ["_law_cell_here"] (spF K C_law_source) := by
  have hlen := spF_len (K := K) (C := C_law_source) (m := 1) fun W m ss Φ Ξ ⟨x, e, _⟩ => by first | exact e | (rw [e]; rfl)
  refine F.ok sc_law_source hlen ?_
  intro cdv A outer s H vs Q E hr h
  refine ⟨_, PSs.nox (pss_one (ps_ret (pe_lst (pa_cons (pv 0) (pa_cons (pv 0) (pa_cons pe_int pa_nil)))))), ?_⟩
  refine DL.run_fnP  [] (Nm := N_law_source) (n := 1) (k := 0) rfl (hlen _ _ _ _ h) rfl h fun W m ss Φ Ξ G hc => ?_
  try dsimp only [cxOf, Cx.nox, Cx.wish, Cx.blk]
  obtain ⟨x, rfl, hΦ⟩ := hc
  walk_at "d"
  exact hΦ


def C_law_choose : Fc := fun W m ss Φ Ξ => ∃ n k : Nat, ss = [.dat (.int n), .dat (.int k)] ∧ n ≤ 1000 ∧ k ≤ 1000 ∧ Φ m (.dat (.int (KM.ch n k)))

abbrev s_law_choose : Stmt := (top 31)
abbrev N_law_choose : List Str := ["_law_many", "_law_few", "_law_found", "_law_k"]
theorem sc_law_choose : FnScope N_law_choose ["_law_many", "_law_few"] (defScope s_law_choose) := ⟨rfl, rfl, rfl, by decide +kernel, rfl, by decide +kernel, by decide +kernel⟩
theorem ok_law_choose (F : FnP K "_law_choose" s_law_choose f fd) (b : BI mg) : FnOk P w K mg base CX0 1 f fd ["_law_many", "_law_few"] (spF K C_law_choose) := by
  have hlen := spF_len (K := K) (C := C_law_choose) (m := 2) fun W m ss Φ Ξ ⟨n, k, e, _⟩ => by first | exact e | (rw [e]; rfl)
  refine F.ok sc_law_choose hlen ?_
  intro cdv A outer s H vs Q E hr h
  refine ⟨_, PSs.nox (pss_cons (ps_if (pt_cmpR op_gt (pv 1) (pv 0) (nomark _)) (pss_one (ps_ret pe_int)) pss_nil)
      (pss_cons (ps_set (i := 2) sc_law_choose.nd rfl (by first | exact Or.inl rfl | exact Or.inr rfl) pe_int)
      (pss_cons (ps_for PassesOwn.never rfl (pi_range1 rfl b.range (pa_cons (pv 1) pa_nil)) (pg_name (i := 3) sc_law_choose.nd rfl (by first | exact Or.inl rfl | exact Or.inr rfl))
      (pss_one (ps_set (i := 2) sc_law_choose.nd rfl (by first | exact Or.inl rfl | exact Or.inr rfl) (pe_op op_fdiv (pe_op op_mul (pv 2) (pe_op op_sub (pv 0) (pv 3))) (pe_op op_add (pv 3) pe_int)))))
      (pss_one (ps_ret (pv 2)))))), ?_⟩
  refine DL.run_fnP  [.no, .no] (Nm := N_law_choose) (n := 2) (k := 2) rfl (hlen _ _ _ _ h) rfl h fun W m ss Φ Ξ G hc => ?_
  try dsimp only [cxOf, Cx.nox, Cx.wish, Cx.blk]
  obtain ⟨n, k, rfl, hn, hk, hΦ⟩ := hc
  walk_at "d"
  by_cases hkn : n < k
  · rw [show decide ((k : Int) > n) = true by simp; omega]
    walk_at "d"
    rw [KM.ch_gt hkn] at hΦ
    exact hΦ
  · rw [show decide ((k : Int) > n) = false by simp; omega]
    walk_at "d"
    refine ds_for (vs := [3]) ?_
    walk_at "d"
    refine ⟨by omega, by omega, ?_⟩
    refine ⟨fun i m' ρ => m' = m ∧ ∃ s, ρ = [.dat (.int n), .dat (.int k), .dat (.int (KM.ch n i)), s], ⟨rfl, .no, by rw [KM.ch_zero]; rfl⟩, ?_, ?_⟩
    · rintro i d m' ρ hd ⟨rfl, s, rfl⟩
      obtain ⟨hi, rfl⟩ := rng_at hd
      have hi2 : i < k := by omega
      refine ⟨_, dg_name (by simp), ?_⟩
      walk_at "d"
      have e := KM.ch_divI n i
      rw [Int.max_eq_right (by omega)] at e
      rw [Int.zero_add, e]
      exact ⟨_, rfl⟩
    · rintro m' ρ ⟨rfl, s, rfl⟩
      walk_at "d"
      rw [rng_len]
      exact hΦ


theorem lawT_eq (L : List (List Nat)) (s : Nat) (i : Nat) {one : List Nat} (h : L[i]? = some one) : (stepT (L.take (i + 1)) s) = stepT (L.take i) s ++ (List.range (s + 1)).map fun n => one ++ [n] := by
  unfold stepT
  rw [List.take_add_one, h]
  simp
theorem adDr (k : List Nat) (n : Nat) : (rngD 0 ((n : Int) + 1).toNat).map (adD (tD k)) = ((List.range (n + 1)).map fun j => k ++ [j]).map tD := by
  unfold rngD
  rw [List.map_map, List.map_map]
  apply List.map_congr_left
  intro j _
  simp [adD, dN]
def C_law_tuples : Fc := fun W m ss Φ Ξ => ∃ sz, ss = [.dat (.lst (dN sz))] ∧ GSz sz ∧ Φ m (.dat (.lst ((TB sz).map tD)))

abbrev s_law_tuples : Stmt := (top 32)
abbrev N_law_tuples : List Str := ["_law_sizes", "_law_rows", "_law_size", "_law_longer", "_law_row", "_law_number"]
theorem sc_law_tuples : FnScope N_law_tuples ["_law_sizes"] (defScope s_law_tuples) := ⟨rfl, rfl, rfl, by decide +kernel, rfl, by decide +kernel, by decide +kernel⟩
theorem ok_law_tuples (F : FnP K "_law_tuples" s_law_tuples f fd) (b : BI mg) : FnOk P w K mg base CX0 1 f fd ["_law_sizes"] (spF K C_law_tuples) := by
  have hlen := spF_len (K := K) (C := C_law_tuples) (m := 1) fun W m ss Φ Ξ ⟨sz, e, _⟩ => by first | exact e | (rw [e]; rfl)
  refine F.ok sc_law_tuples hlen ?_
  intro cdv A outer s H vs Q E hr h
  refine ⟨_, PSs.nox (pss_cons (ps_set (i := 1) sc_law_tuples.nd rfl (by first | exact Or.inl rfl | exact Or.inr rfl) (pe_lst (pa_cons (pe_tup pa_nil) pa_nil)))
      (pss_cons (ps_for PassesOwn.never rfl (k_piL (K := K) rfl (pv 0)) (pg_name (i := 2) sc_law_tuples.nd rfl (by first | exact Or.inl rfl | exact Or.inr rfl))
      (pss_cons (ps_set (i := 3) sc_law_tuples.nd rfl (by first | exact Or.inl rfl | exact Or.inr rfl) (pe_lst pa_nil))
      (pss_cons (ps_for PassesOwn.never rfl (k_piL (K := K) rfl (pv 1)) (pg_name (i := 4) sc_law_tuples.nd rfl (by first | exact Or.inl rfl | exact Or.inr rfl))
      (pss_one (ps_set (i := 3) sc_law_tuples.nd rfl (by first | exact Or.inl rfl | exact Or.inr rfl) (pe_op op_cat (pv 3) (pe_lc (own := [("_law_number", 5)]) rfl sc_law_tuples.nd (pi_range1 rfl b.range (pa_cons (pe_op op_add (pv 2) pe_int) pa_nil)) (blkOk_by (own := [("_law_number", 5)]) (N := N_law_tuples) (sc := (defScope s_law_tuples)) (by decide +kernel)) (fun _ _ _ _ _ => (pg_name (i := 5) sc_law_tuples.nd rfl (by first | exact Or.inl rfl | exact Or.inr rfl))) (fun _ _ _ _ _ => pts_nil) (fun _ _ _ _ _ => (pe_op (k_catA (K := K) rfl) (pv 4) (pe_tup (pa_cons (pv 5) pa_nil)))))))))
      (pss_one (ps_set (i := 1) sc_law_tuples.nd rfl (by first | exact Or.inl rfl | exact Or.inr rfl) (pv 3))))))
      (pss_one (ps_ret (pv 1))))), ?_⟩
  refine DL.run_fnP  [.no, .no, .no, .no, .no] (Nm := N_law_tuples) (n := 1) (k := 5) rfl (hlen _ _ _ _ h) rfl h fun W m ss Φ Ξ G hc => ?_
  try dsimp only [cxOf, Cx.nox, Cx.wish, Cx.blk]
  obtain ⟨sz, rfl, ⟨_, hpos, hsum⟩, hΦ⟩ := hc
  have hle := len_le_sum hpos
  have hsz : ∀ n ∈ sz, n ≤ 10 := fun n hn => Nat.le_trans (mem_le_sum hn) hsum
  walk_at "d"
  refine ds_frz (i := 1) rfl rfl (ds_for (vs := [2]) ?_)
  walk_at "d"
  refine ⟨fun i m' ρ => m' = m ∧ ∃ x y z, ρ = [_, .dat (.lst ((TB (sz.take i)).map tD)), x, y, z, .no] ∧ plS y = true ∧ plS z = true, ⟨rfl, .no, .no, .no, rfl, rfl, rfl⟩, ?_, ?_⟩
  · rintro i d m' ρ hd ⟨rfl, x, y, z, rfl, hy, hz'⟩
    rw [dN_get] at hd
    cases hz : sz[i]? with
    | none => rw [hz] at hd; cases hd
    | some n =>
      rw [hz] at hd
      cases hd
      have hn := hsz n (List.mem_of_getElem? hz)
      have hT := TB_len (sz := sz.take i) (Nat.le_trans (sum_take_le _ _) hsum)
      refine ⟨_, dg_name (by simp), ?_⟩
      walk_at "d"
      refine ds_for (vs := [4]) ?_
      walk_at "d"
      refine ⟨fun j m2 ρ => m2 = m' ∧ ∃ z, ρ = [_, .dat (.lst ((TB (sz.take i)).map tD)), .dat (.int (n : Nat)), .own (.lst ((stepT ((TB (sz.take i)).take j) n).map tD)), z, .no] ∧ plS z = true, ⟨rfl, z, rfl, hz'⟩, ?_, ?_⟩
      · rintro j d m2 ρ hd ⟨rfl, z, rfl, hz2⟩
        rw [List.getElem?_map] at hd
        cases ho : (TB (sz.take i))[j]? with
        | none => rw [ho] at hd; cases hd
        | some one =>
          rw [ho] at hd
          cases hd
          have hl1 := (TB_mem.mp (List.mem_of_getElem? ho)).1
          have hl2 : (sz.take i).length ≤ sz.length := by rw [List.length_take]; omega
          have hjl := (List.getElem?_eq_some_iff.mp ho).1
          refine ⟨_, dg_name (by simp), ?_⟩
          walk_at "d"
          refine de_lcMap (f := adD (tD one)) ?_
          walk_at "d"
          refine ⟨by omega, by omega, ?_, fun e he => ⟨_, dg_name (by simp), ?_⟩, ?_⟩
          · rw [rng_len]; omega
          · obtain ⟨q, hq, rfl⟩ := List.mem_map.mp he
            walk_at "d"
            refine ops_catA ?_ ⟨rfl, rfl⟩
            simp [dN_len]
            omega
          · refine ops_cat rfl rfl ?_ ⟨rfl, rfl, ?_⟩
            · rw [List.length_map, stepT_len, List.length_take, List.length_map, rng_len]
              have : min j (TB (sz.take i)).length * (n + 1) ≤ 1024 * 11 := Nat.mul_le_mul (by omega) (by omega)
              omega
            · rw [adDr, ← List.map_append, ← lawT_eq _ _ _ ho]
              exact ⟨_, rfl, rfl⟩
      · rintro m2 ρ ⟨rfl, z, rfl, hz2⟩
        rw [List.length_map, List.take_length]
        refine ds_frz (i := 3) rfl (by cases z <;> first | rfl | cases hz2) ?_
        walk_at "d"
        rw [TB_succ hz]
        exact ⟨_, _, z, rfl, rfl, hz2⟩
  · rintro m' ρ ⟨rfl, x, y, z, rfl, hy, hz'⟩
    walk_at "d"
    rw [dN_len, List.take_length]
    exact hΦ


def C_law_kinds : Fc := fun W m ss Φ Ξ => ∃ sz gs, ss = [.dat (.lst (dN sz)), .dat (.dic (gD gs))] ∧ Good sz gs ∧ Φ m (.own (.lst ((AK sz gs).map tD)))
theorem AK_succ (sz : List Nat) (l : List Nat) (i : Nat) {t : Nat} (h : l[i]? = some t) : ((l.take (i + 1)).flatMap fun t => (TB sz).filter fun k => decide (k.sum = t)) = ((l.take i).flatMap fun t => (TB sz).filter fun k => decide (k.sum = t)) ++ (TB sz).filter fun k => decide (k.sum = t) := by
  rw [List.take_add_one, h]
  simp
theorem filt_eq (sz : List Nat) (t : Nat) : (((TB sz).map tD).filter (tS (.int (t : Nat)))).map (fun e => e) = ((TB sz).filter fun k => decide (k.sum = t)).map tD := by
  rw [List.map_id', List.filter_map]
  congr 1
  apply List.filter_congr
  intro k _
  show tS (.int (t : Nat)) (tD k) = decide (k.sum = t)
  unfold tS
  rw [dsum_tD]
  simp
  omega
theorem flat_len (sz : List Nat) (h : sz.sum ≤ 10) (l : List Nat) : (l.flatMap fun t => (TB sz).filter fun k => decide (k.sum = t)).length ≤ l.length * 1024 := by
  induction l with
  | nil => simp
  | cons a l ih =>
    rw [List.flatMap_cons, List.length_append, List.length_cons, Nat.add_mul]
    have h1 := List.length_filter_le (fun k : List Nat => decide (k.sum = a)) (TB sz)
    have h2 := TB_len h
    omega

abbrev s_law_kinds : Stmt := (top 33)
abbrev N_law_kinds : List Str := ["_law_sizes", "_law_games", "_law_rows", "_law_team", "_law_row"]
theorem sc_law_kinds : FnScope N_law_kinds ["_law_sizes", "_law_games"] (defScope s_law_kinds) := ⟨rfl, rfl, rfl, by decide +kernel, rfl, by decide +kernel, by decide +kernel⟩
theorem ok_law_kinds (F : FnP K "_law_kinds" s_law_kinds f fd) (b : BI mg) (c_law_tuples : Cl P w K mg base CX0 1 "_law_tuples" ["_law_sizes"] C_law_tuples) : FnOk P w K mg base CX0 2 f fd ["_law_sizes", "_law_games"] (spF K C_law_kinds) := by
  have hlen := spF_len (K := K) (C := C_law_kinds) (m := 2) fun W m ss Φ Ξ ⟨sz, gs, e, _⟩ => by first | exact e | (rw [e]; rfl)
  refine F.ok sc_law_kinds hlen ?_
  intro cdv A outer s H vs Q E hr h
  refine ⟨_, PSs.nox (pss_cons (ps_set (i := 2) sc_law_kinds.nd rfl (by first | exact Or.inl rfl | exact Or.inr rfl) (pe_lst pa_nil))
      (pss_cons (ps_for PassesOwn.never rfl (k_piL (K := K) rfl (pe_callB (call_sortedDI rfl) rfl b.sorted boot_sorted (pa_cons (pv 1) pa_nil))) (pg_name (i := 3) sc_law_kinds.nd rfl (by first | exact Or.inl rfl | exact Or.inr rfl))
      (pss_one (ps_set (i := 2) sc_law_kinds.nd rfl (by first | exact Or.inl rfl | exact Or.inr rfl) (pe_op op_cat (pv 2) (pe_lc (own := [("_law_row", 4)]) rfl sc_law_kinds.nd (k_piL (K := K) rfl (k_cl0 c_law_tuples rfl hr (pa_cons (pv 0) pa_nil))) (blkOk_by (own := [("_law_row", 4)]) (N := N_law_kinds) (sc := (defScope s_law_kinds)) (by decide +kernel)) (fun _ _ _ _ _ => (pg_name (i := 4) sc_law_kinds.nd rfl (by first | exact Or.inl rfl | exact Or.inr rfl))) (fun _ _ _ _ _ => pts_one (pt_cmpR (k_eqD (K := K) rfl hr.units) (pe_callB (k_sum (K := K) rfl rfl) rfl b.sum boot_sum (pa_cons (pv 4) pa_nil)) (pv 3) (nomark _))) (fun _ _ _ _ _ => (pv 4)))))))
      (pss_one (ps_ret (pv 2))))), ?_⟩
  refine DL.run_fnP  [.no, .no, .no] (Nm := N_law_kinds) (n := 2) (k := 3) rfl (hlen _ _ _ _ h) rfl h fun W m ss Φ Ξ G hc => ?_
  try dsimp only [cxOf, Cx.nox, Cx.wish, Cx.blk]
  obtain ⟨sz, gs, rfl, hgd, hΦ⟩ := hc
  obtain ⟨hz, hg, ht⟩ := id hgd
  have l2 := hg.l2
  walk_at "d"
  refine ds_for (vs := [3]) ?_
  walk_at "d"
  refine cb_sortedK (ks := gs.map fun p => (p.1 : Int)) rfl (gD_keys gs) (by simp; omega) ?_
  walk_at "d"
  rw [ks_int]
  refine ⟨fun i m' ρ => m' = m ∧ ∃ x, ρ = [_, _, .own (.lst ((((ks gs).take i).flatMap fun t => (TB sz).filter fun k => decide (k.sum = t)).map tD)), x, .no], ⟨rfl, .no, rfl⟩, ?_, ?_⟩
  · rintro i d m' ρ hd ⟨rfl, x, rfl⟩
    rw [List.map_map, List.getElem?_map] at hd
    cases ht2 : (ks gs)[i]? with
    | none => rw [ht2] at hd; cases hd
    | some t =>
      rw [ht2] at hd
      obtain rfl : D.int (t : Nat) = d := by simpa using hd
      refine ⟨_, dg_name (by simp), ?_⟩
      walk_at "d"
      refine de_lcIf (f := fun e => e) (t := tS (.int (t : Nat))) ?_
      walk_at "d"
      refine ⟨sz, rfl, hz, ?_⟩
      walk_at "d"
      have hT := TB_len hz.2.2
      rw [filt_eq]
      refine ⟨by simp; omega, fun e he => ⟨_, dg_name (by simp), ?_⟩, ?_⟩
      · obtain ⟨k, hk, rfl⟩ := List.mem_map.mp he
        walk_at "d"
        refine cb_sumN (sz := k) (.inr rfl) ?_
        walk_at "d"
        refine ⟨?_, fun _ => ?_⟩
        · unfold tS; rw [dsum_tD]
        · walk_at "d"
          rfl
      · refine ops_cat rfl rfl ?_ ⟨rfl, rfl, ?_⟩
        · have h1 := flat_len sz hz.2.2 ((ks gs).take i)
          have h2 := List.length_filter_le (fun k : List Nat => decide (k.sum = t)) (TB sz)
          have h3 : ((ks gs).take i).length ≤ 2 := by rw [List.length_take, ks_len]; omega
          rw [List.length_map, List.length_map]
          omega
        · rw [← List.map_append, ← AK_succ sz _ _ ht2]
          exact ⟨_, rfl⟩
  · rintro m' ρ ⟨rfl, x, rfl⟩
    rw [List.length_map, List.length_map, List.take_length]
    exact ds_retVar rfl hΦ


theorem atN {l : List D} {i : Nat} {d : D} (h : l[i]? = some d) : atI l (i : Int) = some d := by
  have hi := (List.getElem?_eq_some_iff.mp h).1
  unfold atI ixN
  simp [hi]
  exact (List.getElem?_eq_some_iff.mp h).2
def C_law_due : Fc := fun W m ss Φ Ξ => ∃ sz gs k v, ss = [.dat (.lst (dN sz)), .dat (.dic (gD gs)), .dat (tD k)] ∧ GSz sz ∧ Below k sz ∧ gv gs k.sum = some v ∧ Φ m (.dat (.int ((v * ways sz k : Nat) : Int)))

abbrev s_law_due : Stmt := (top 34)
abbrev N_law_due : List Str := ["_law_sizes", "_law_games", "_law_kind", "_law_ways", "_law_k"]
theorem sc_law_due : FnScope N_law_due ["_law_sizes", "_law_games", "_law_kind"] (defScope s_law_due) := ⟨rfl, rfl, rfl, by decide +kernel, rfl, by decide +kernel, by decide +kernel⟩
theorem ok_law_due (F : FnP K "_law_due" s_law_due f fd) (b : BI mg) (c_law_choose : Cl P w K mg base CX0 1 "_law_choose" ["_law_many", "_law_few"] C_law_choose) : FnOk P w K mg base CX0 2 f fd ["_law_sizes", "_law_games", "_law_kind"] (spF K C_law_due) := by
  have hlen := spF_len (K := K) (C := C_law_due) (m := 3) fun W m ss Φ Ξ ⟨sz, gs, k, v, e, _⟩ => by first | exact e | (rw [e]; rfl)
  refine F.ok sc_law_due hlen ?_
  intro cdv A outer s H vs Q E hr h
  refine ⟨_, PSs.nox (pss_cons (ps_set (i := 3) sc_law_due.nd rfl (by first | exact Or.inl rfl | exact Or.inr rfl) (pe_dget (hu_of hr) (pv 1) (pe_callB (k_sum (K := K) rfl rfl) rfl b.sum boot_sum (pa_cons (pv 2) pa_nil)) (fun _ _ => rfl)))
      (pss_cons (ps_for PassesOwn.never rfl (pi_range1 rfl b.range (pa_cons (pe_callB (k_len (K := K) rfl) rfl b.len boot_len (pa_cons (pv 0) pa_nil)) pa_nil)) (pg_name (i := 4) sc_law_due.nd rfl (by first | exact Or.inl rfl | exact Or.inr rfl))
      (pss_one (ps_set (i := 3) sc_law_due.nd rfl (by first | exact Or.inl rfl | exact Or.inr rfl) (pe_op op_mul (pv 3) (k_cl0 c_law_choose rfl hr (pa_cons (pe_ix (k_ixL (K := K) rfl) (pv 0) (pv 4) (fun _ _ => rfl)) (pa_cons (pe_ix (k_ixT (K := K) rfl) (pv 2) (pv 4) (fun _ _ => rfl)) pa_nil)))))))
      (pss_one (ps_ret (pv 3))))), ?_⟩
  refine DL.run_fnP  [.no, .no] (Nm := N_law_due) (n := 3) (k := 2) rfl (hlen _ _ _ _ h) rfl h fun W m ss Φ Ξ G hc => ?_
  try dsimp only [cxOf, Cx.nox, Cx.wish, Cx.blk]
  obtain ⟨sz, gs, k, v, rfl, ⟨_, hpos, hsum⟩, hb, hv, hΦ⟩ := hc
  have hle := len_le_sum hpos
  walk_at "d"
  refine cb_sumN (sz := k) (.inr rfl) ?_
  walk_at "d"
  refine ⟨gD gs, Sum.inl (k.sum : Int), D.int (v : Nat), rfl, rfl, by rw [gD_val, hv]; rfl, ?_⟩
  walk_at "d"
  refine ds_for (vs := [4]) ?_
  walk_at "d"
  rw [dN_len]
  refine ⟨by omega, by omega, ?_⟩
  refine ⟨fun i m' ρ => m' = m ∧ ∃ x, ρ = [_, _, _, .dat (.int ((v * ways (sz.take i) (k.take i) : Nat) : Int)), x], ⟨rfl, .no, by rw [show v * ways (sz.take 0) (k.take 0) = v by simp [ways]]⟩, ?_, ?_⟩
  · rintro i d m' ρ hd ⟨rfl, x, rfl⟩
    obtain ⟨hi, rfl⟩ := rng_at hd
    have hi : i < sz.length := by omega
    have hz : sz[i]? = some sz[i] := by simp [hi]
    have hk : k[i]? = some (k[i]'(by rw [hb.1]; exact hi)) := by simp [hb.1, hi]
    have h1 := hb.2 _ _ _ hk hz
    have h2 := mem_le_sum (List.mem_of_getElem? hz)
    generalize sz[i] = a at *
    generalize k[i]'(by rw [hb.1]; exact hi) = c at *
    have h3 : KM.ch a c ≤ 1024 := Nat.le_trans (KM.ch_le a c) (Nat.pow_le_pow_right (n := 2) (by decide) (show a ≤ 10 by omega))
    refine ⟨_, dg_name (by simp), ?_⟩
    walk_at "d"
    rw [Int.zero_add]
    refine ops_ixL (ds := dN sz) (d := .int (a : Nat)) rfl (atN (by rw [dN_get, hz]; rfl)) ?_
    walk_at "d"
    refine ops_ixT (ds := dN k) (d := .int (c : Nat)) (atN (by rw [dN_get, hk]; rfl)) ?_
    walk_at "d"
    refine ⟨a, c, rfl, by omega, by omega, ?_⟩
    walk_at "d"
    rw [ways_succ hz hk, ← Nat.mul_assoc, Int.natCast_mul]
    exact ⟨_, rfl⟩
  · rintro m' ρ ⟨rfl, x, rfl⟩
    walk_at "d"
    rw [rng_len, Int.toNat_natCast, List.take_length, ← hb.1, List.take_length]
    exact hΦ


def C_law_due_told : Fc := fun W m ss Φ Ξ => ∃ sz gs d, ss = [.dat (.lst (dN sz)), .dat (.dic (gD gs)), .dat d] ∧ Good sz gs ∧ (∀ a, ¬ W.L a) ∧ okD d ∧ Pl 60 d ∧ isK sz gs d = false ∧ Φ m (.dat (.tup [.str "kind", .bl true]))

abbrev s_law_due_told : Stmt := (top 38)
abbrev N_law_due_told : List Str := ["_law_sizes", "_law_games", "_law_value", "e"]
theorem sc_law_due_told : FnScope N_law_due_told ["_law_sizes", "_law_games", "_law_value"] (defScope s_law_due_told) := ⟨rfl, rfl, rfl, by decide +kernel, rfl, by decide +kernel, by decide +kernel⟩
theorem ok_law_due_told (F : FnP K "_law_due_told" s_law_due_told f fd) (b : BI mg) (x_BadKind : Xc P w K mg base "BadKind" a_BadKind ["value"]) (c_due_of : Cl P w K mg base (L2.CX P w) 6 "due_of" ["sizes", "games", "kind"] (C_due_of a_BadKind)) : FnOk P w K mg base CX0 7 f fd ["_law_sizes", "_law_games", "_law_value"] (spF K C_law_due_told) := by
  have hlen := spF_len (K := K) (C := C_law_due_told) (m := 3) fun W m ss Φ Ξ ⟨sz, gs, d, e, _⟩ => by first | exact e | (rw [e]; rfl)
  refine F.ok sc_law_due_told hlen ?_
  intro cdv A outer s H vs Q E hr h
  refine ⟨_, PSs.nox (pss_one (ps_try_as (i := 3) rfl rfl sc_law_due_told.nd rfl rfl ⟨rfl, by decide, Or.inl x_BadKind.gC⟩ takes0
      (fun W pn xe tk po => (pss_one (ps_ret (k_clS c_due_of rfl hr tk (pa_cons (pv 0) (pa_cons (pv 1) (pa_cons (pv 2) pa_nil)))))))
      (fun a oe cls d pn hz hf => (pss_one (ps_ret (pe_tup (pa_cons pe_str (pa_cons (pe_cmpR (k_eqD (K := K) rfl hr.units) (pe_xf x_BadKind.xf (x_BadKind.noat _ (by simp)) hz hf (pv 3)) (pv 2) (nomark _)) pa_nil)))))))), ?_⟩
  refine DL.run_fnP (t := fun D σ H => tRet (tCallS (spF K (C_due_of a_BadKind)) (WE (wAs K (Value.ref a_BadKind) 3 (fun a cls d => tRet (tTup (tCons (tC (V.str "kind")) (tCons (tOp (rEqD K) (tXf a cls d a_BadKind "value" (tVar 3)) (tVar 2)) tNil)))) (fun _ _ _ _ => False) D)) (tCons (tVar 0) (tCons (tVar 1) (tCons (tVar 2) tNil)))) D σ H) [.no] (Nm := N_law_due_told) (n := 3) (k := 1) rfl (hlen _ _ _ _ h) rfl h fun W m ss Φ Ξ G hc => ?_
  try dsimp only [cxOf, Cx.nox, Cx.wish, Cx.blk]
  obtain ⟨sz, gs, d, rfl, hgd, hL, hd, hp, hk, hΦ⟩ := hc
  refine ds_tryRet (fun m' C fs => m' = m ∧ C = a_BadKind ∧ fs = [(("value" : Str), d)]) ?_ ?_
  · walk_at "d"
    refine ⟨_, sz, gs, d, rfl, .inl rfl, hgd, hL, hd, fun k v e hb hv => ?_, fun _ => ⟨rfl, rfl, rfl⟩⟩
    rw [isK_iff.mpr ⟨k, v, e, hb, hv⟩] at hk
    cases hk
  · rintro m' C fs ⟨rfl, rfl, rfl⟩
    refine ⟨x_BadKind.te, fun a d' => ?_⟩
    walk_at "d"
    refine de_xf (v := d) rfl (by simp [List.lookup]) ?_
    walk_at "d"
    refine ops_eqSelf (hp.up (by omega)) rfl rfl ?_
    walk_at "d"
    exact hΦ


end
end Pf
set_option Elab.async false
set_option linter.all false
set_option maxRecDepth 100000
set_option maxHeartbeats 1000000
namespace Pf
open PySem PySem.Spec PyProof.Rows L2 DL
local macro_rules | `(tactic| walk_at "len") => `(tactic| with_unfolding_all first | exact Nat.le_of_ble_eq_true rfl | (simp; done) | (simp; omega))
local macro_rules | `(tactic| walk_at "side") => `(tactic| with_unfolding_all first | exact Or.inr ⟨by omega, by omega⟩ | exact Or.inl ⟨by omega, by omega⟩ | exact ⟨by omega, by omega⟩ | exact ⟨by omega, by omega, by omega⟩ | (show (0 : Int) < _; omega) | decide)
local macro_rules | `(tactic| walk_at "d1") => `(tactic| with_reducible first
  | (refine ds_seq ?_; try dsimp only [List.set_cons_zero, List.set_cons_succ, List.cons_append, List.nil_append, O.frz])
  | refine ds_asg ?_
  | refine ds_ret ?_
  | refine ds_retN ?_
  | refine ds_next ?_
  | refine ds_dropC ?_
  | refine ds_drop0 ?_
  | refine ds_dropB ?_
  | refine ds_if ?_
  | refine dt_test ?_
  | refine dt_B ?_
  | refine dt_not ?_
  | refine dt_and ?_
  | refine dt_or ?_
  | refine dt_yes ?_
  | refine de_int ?_
  | refine de_bl ?_
  | refine de_str ?_
  | refine de_non ?_
  | refine de_varD (by with_unfolding_all rfl) ?_
  | refine de_varO (by with_unfolding_all rfl) ?_
  | refine de_varA (by with_unfolding_all rfl) ?_
  | refine de_varV (by with_unfolding_all rfl) ?_
  | refine de_isi ?_
  | refine de_dget ?_
  | refine de_din ?_
  | refine de_dnew ?_
  | refine de_cb ?_
  | refine de_call0G ?_
  | refine de_callG ?_
  | refine de_andB ?_
  | refine de_orB ?_
  | refine de_notV ?_
  | refine de_ifE ?_
  | refine de_chain ?_
  | refine de_op ?_
  | refine de_neg ?_
  | refine de_tupG ?_
  | refine de_lstG ?_
  | refine de_slL ?_
  | refine de_slT ?_
  | refine do_none ?_
  | refine do_some ?_
  | refine da_cons ?_
  | refine da_nil ?_
  | refine lk_dat ?_
  | refine lk_nil ?_
  | refine ak_dat ?_
  | refine ak_nil ?_
  | refine ak_at ?_
  | refine ak_lst ?_
  | refine lk_lst ?_
  | refine ak_dK ?_
  | refine lk_dK ?_
  | refine da_star ?_
  | refine di_rng1 ?_
  | refine di_rng2 ?_
  | refine di_list ?_
  | refine di_tup ?_
  | refine di_seq ?_
  | refine di_zip ?_
  | refine ops_int ?_
  | (refine ops_cat (by with_unfolding_all rfl) (by with_unfolding_all rfl) ?side ?_; (case side => walk_at "len"))
  | (refine ops_catA ?side ?_; (case side => walk_at "len"))
  | refine ops_eqI ?_
  | refine ops_neI ?_
  | refine ops_bool ?_
  | (refine ops_intC ?side ?_; (case side => walk_at "side"))
  | refine cb_lenL (by with_unfolding_all rfl) ?_
  | refine cb_lenT (by with_unfolding_all rfl) ?_
  | refine cb_lenK (by with_unfolding_all rfl) ?_
  | refine cb_max2 ?_
  | refine cb_min2 ?_
  | refine cb_int ?_
  | refine ⟨fun _ => ?_, fun z => Bool.noConfusion z⟩
  | refine ⟨fun z => Bool.noConfusion z, fun _ => ?_⟩
  | refine ⟨rfl, ?_⟩
  | refine ⟨_, rfl, ?_⟩
  | refine ⟨_, Or.inl (by with_unfolding_all rfl), ?_⟩
  | (with_unfolding_all refine ⟨_, true, rfl, (fun _ z => by cases z), rfl, ?_⟩)
  | (with_unfolding_all refine ⟨_, false, rfl, (fun _ z => by cases z), rfl, ?_⟩))
local macro_rules | `(tactic| walk_at "d") => `(tactic| repeat walk_at "d1")
local macro_rules | `(tactic| walk_at "wk") => `(tactic| repeat first | exact Wk.nil | refine Wk.keep ?_ | refine Wk.drop ?_)
section
variable {P : Program} {w : World} {K : PySem.W.Frag} {mg : Str → Option Value} {base : Heap} {f : Addr} {fd : FuncData} {a_BadSizes a_BadGames a_TooMany a_BadKind : Addr}

def C_law_draw : Fc := fun W m ss Φ Ξ => ∃ (V : Wd) (mo : Nat) (p : Addr) (k m' : Nat), W = srcW V mo p ∧ ¬ V.M p ∧ ss = [.at_ p, .dat (.int (k : Nat))] ∧ 0 < k ∧ k < 1000000 ∧ m = m' + 1 ∧ ∀ d : Nat, d < k → Φ m' (.dat (.int (d : Nat)))

abbrev s_law_draw : Stmt := (top 30)
abbrev N_law_draw : List Str := ["_law_source_here", "_law_limit", "_law_seed", "_law_mixed", "_law_digit"]
theorem sc_law_draw : FnScope N_law_draw ["_law_source_here", "_law_limit"] (defScope s_law_draw) := ⟨rfl, rfl, rfl, by decide +kernel, rfl, by decide +kernel, by decide +kernel⟩
theorem ok_law_draw (F : FnP K "_law_draw" s_law_draw f fd) (b : BI mg) : FnOk P w K mg base CX0 1 f fd ["_law_source_here", "_law_limit"] (spF K C_law_draw) := by
  have hlen := spF_len (K := K) (C := C_law_draw) (m := 2) fun W m ss Φ Ξ ⟨V, mo, p, k, m', _, _, e, _⟩ => by first | exact e | (rw [e]; rfl)
  refine F.ok sc_law_draw hlen ?_
  intro cdv A outer s H vs Q E hr h
  refine ⟨_, PSs.nox (pss_cons (ps_asg (pe_op op_add (pe_ix (k_ixL (K := K) rfl) (pv 0) pe_int (fun _ _ => rfl)) pe_int) (pg_sub (pv 0) pe_int set_list))
      (pss_cons (ps_if (pt_cmpR op_ge (pe_ix (k_ixL (K := K) rfl) (pv 0) pe_int (fun _ _ => rfl)) (pe_op op_pow pe_int pe_int) (nomark _)) (pss_cons (ps_set (i := 4) sc_law_draw.nd rfl (by first | exact Or.inl rfl | exact Or.inr rfl) (pe_op op_mod (pe_callTy call_int1 rfl b.int_ boot_int (pa_cons (pe_ix (k_ixL (K := K) rfl) (pv 0) pe_int (fun _ _ => rfl)) pa_nil)) (pv 1)))
      (pss_cons (ps_asg (pe_op op_fdiv (pe_ix (k_ixL (K := K) rfl) (pv 0) pe_int (fun _ _ => rfl)) (pv 1)) (pg_sub (pv 0) pe_int set_list))
      (pss_one (ps_ret (pv 4))))) pss_nil)
      (pss_cons (ps_set (i := 2) sc_law_draw.nd rfl (by first | exact Or.inl rfl | exact Or.inr rfl) (pe_op op_mod (pe_callTy call_int1 rfl b.int_ boot_int (pa_cons (pe_ix (k_ixL (K := K) rfl) (pv 0) pe_int (fun _ _ => rfl)) pa_nil)) pe_int))
      (pss_cons (ps_set (i := 3) sc_law_draw.nd rfl (by first | exact Or.inl rfl | exact Or.inr rfl) (pe_op op_mod (pe_callTy call_int1 rfl b.int_ boot_int (pa_cons (pe_op op_pow (pe_callTy call_int1 rfl b.int_ boot_int (pa_cons (pe_op op_add (pe_op op_add (pe_op op_mul (pv 2) pe_int) (pe_op op_mul (pe_ix (k_ixL (K := K) rfl) (pv 0) pe_int (fun _ _ => rfl)) pe_int)) pe_int) pa_nil)) pe_int) pa_nil)) pe_int))
      (pss_cons (ps_set (i := 3) sc_law_draw.nd rfl (by first | exact Or.inl rfl | exact Or.inr rfl) (pe_op op_mod (pe_callTy call_int1 rfl b.int_ boot_int (pa_cons (pe_op op_pow (pe_callTy call_int1 rfl b.int_ boot_int (pa_cons (pe_op op_add (pv 3) (pe_op op_mul (pe_op op_mul (pe_ix (k_ixL (K := K) rfl) (pv 0) pe_int (fun _ _ => rfl)) (pe_ix (k_ixL (K := K) rfl) (pv 0) pe_int (fun _ _ => rfl))) pe_int)) pa_nil)) pe_int) pa_nil)) pe_int))
      (pss_one (ps_ret (pe_op op_mod (pe_op op_fdiv (pv 3) pe_int) (pv 1))))))))), ?_⟩
  obtain ⟨W, m, G, ss, Φ, Ξ, ok, rs, ha, ⟨Vd, mo, p, k, m', rfl, np, rfl, hk, hk2, rfl, hΦ⟩, hq, he⟩ := h
  obtain ⟨v1, v2, rfl, r1, r2⟩ := relss2 rs
  obtain rfl : v1 = .ref p := r1
  cases r2
  obtain ⟨a, b', n, hp, h0, hn⟩ := ok.inv.2
  have fin : ∀ (H' : Hp) (d a2 b2 : Int), 0 ≤ d → d < k → (∀ x, x ≠ p → H' x = H x) → H' p = some (.lst [.int a2, .int b2, .int (n + 1)]) → Q (.int d) H' := fun H' d a2 b2 d0 d1 ne hp' => by
    obtain ⟨dn, rfl⟩ : ∃ dn : Nat, d = dn := ⟨d.toNat, by omega⟩
    exact hq _ (.dat (.int dn)) m' G H' (src_grow np ok hp ⟨h0, hn⟩ ne hp') (Rp.int _) (hΦ dn (by omega))
  dsimp only [tSeq, tAsg, tOp, tC, gSub, tIfS, tTest, tCB, tCons, tNil, gName, tRet, tNext]
  refine h_var rfl ?_
  refine h_ix hp rfl ?_
  refine h_i0 ?_
  refine h_var rfl ?_
  refine h_set (j := 2) hp rfl ?_
  have hp1 : upd H p (.lst [.int a, .int b', .int (n + 1)]) p = some (.lst [.int a, .int b', .int (n + 1)]) := upd_same
  have ne1 : ∀ x, x ≠ p → upd H p (.lst [.int a, .int b', .int (n + 1)]) x = H x := fun x hx => upd_ne hx
  generalize hH1 : upd H p (.lst [.int a, .int b', .int (n + 1)]) = H1 at hp1 ne1
  have hH1' : upd H p (.lst (List.set [V.int a, V.int b', V.int n] 2 (V.int (n + 1)))) = H1 := hH1
  rw [hH1']
  refine h_var rfl ?_
  refine h_ix hp1 rfl ?_
  refine h_i ⟨by decide, by decide, by decide⟩ ?_
  refine h_i0 ?_
  refine ⟨_, rfl, ?_⟩
  by_cases ha : a ≥ 10 ^ 18
  · rw [if_pos (by simpa using ha)]
    refine h_var rfl ?_
    refine h_ix hp1 rfl ?_
    refine .inl ⟨_, rfl, ?_⟩
    refine h_var rfl ?_
    refine h_i (by show (0 : Int) < _; omega) ?_
    refine h_var rfl ?_
    refine h_ix hp1 rfl ?_
    refine h_var rfl ?_
    refine h_i ⟨by omega, by omega⟩ ?_
    refine h_var rfl ?_
    refine h_set (j := 1) hp1 rfl ?_
    refine h_var rfl ?_
    exact fin _ _ a (b' / k) (Int.emod_nonneg _ (by omega)) (Int.emod_lt_of_pos _ (by omega)) (fun x hx => (upd_ne hx).trans (ne1 x hx)) upd_same
  · rw [if_neg (by simpa using ha)]
    have hs0 := Int.emod_nonneg a (show (2147480411 : Int) ≠ 0 by decide)
    have hs1 := Int.emod_lt_of_pos a (show (0 : Int) < 2147480411 by decide)
    refine h_var rfl ?_
    refine h_ix hp1 rfl ?_
    refine .inl ⟨_, rfl, ?_⟩
    refine h_i (by show (0 : Int) < _; decide) ?_
    generalize hseed : a % 2147480411 = seed at hs0 hs1
    refine h_var rfl ?_
    refine h_i (Or.inr ⟨by decide, by decide⟩) ?_
    refine h_var rfl ?_
    refine h_ix hp1 rfl ?_
    refine h_i (Or.inr ⟨by decide, by decide⟩) ?_
    refine h_i0 ?_
    refine h_i0 ?_
    refine .inl ⟨_, rfl, ?_⟩
    refine h_i ⟨by decide, by decide, by omega⟩ ?_
    refine .inl ⟨_, rfl, ?_⟩
    refine h_i (by show (0 : Int) < _; decide) ?_
    have hm0 : ∀ y : Int, 0 ≤ y % 2147483647 := fun y => Int.emod_nonneg y (by decide)
    have hm1 : ∀ y : Int, y % 2147483647 < 2147483647 := fun y => Int.emod_lt_of_pos y (by decide)
    generalize hmix : ((seed * 7919 + (n + 1) * 104003 + 12011) ^ (5 : Int).toNat) % 2147483647 = mix
    have hx0 : 0 ≤ mix := by rw [← hmix]; exact hm0 _
    have hx1 : mix < 2147483647 := by rw [← hmix]; exact hm1 _
    have hnn : 0 ≤ (n + 1) * (n + 1) ∧ (n + 1) * (n + 1) ≤ 1048576 * 1048576 := ⟨Int.mul_nonneg (by omega) (by omega), Int.mul_le_mul (by omega) (by omega) (by omega) (by decide)⟩
    refine h_var rfl ?_
    refine h_var rfl ?_
    refine h_ix hp1 rfl ?_
    refine h_var rfl ?_
    refine h_ix hp1 rfl ?_
    refine h_i (Or.inr ⟨by omega, by omega⟩) ?_
    refine h_i (Or.inr ⟨by decide, by decide⟩) ?_
    refine h_i0 ?_
    refine .inl ⟨_, rfl, ?_⟩
    refine h_i ⟨by decide, by decide, by omega⟩ ?_
    refine .inl ⟨_, rfl, ?_⟩
    refine h_i (by show (0 : Int) < _; decide) ?_
    refine h_var rfl ?_
    refine h_i ⟨by decide, by decide⟩ ?_
    refine h_var rfl ?_
    refine h_i (by show (0 : Int) < _; omega) ?_
    exact fin _ _ a b' (Int.emod_nonneg _ (by omega)) (Int.emod_lt_of_pos _ (by omega)) ne1 hp1
theorem pys_tD : ∀ l : List (List Nat), D.pys (l.map tD) = some (l.map fun k => PyData.tuple (k.map fun n : Nat => PyData.int n))
  | [] => by unfold D.pys; rfl
  | k :: l => by
    have e : D.pys (dN k) = some (k.map fun n : Nat => PyData.int n) := by
      induction k with
      | nil => unfold dN D.pys; rfl
      | cons a k ih =>
        show D.pys (.int (a : Nat) :: dN k) = _
        rw [D.pys, ih]
        unfold D.py
        rfl
    rw [List.map_cons, D.pys, pys_tD l, D.py, e]
    rfl
def isB : D → Bool
  | .bl _ => true
  | _ => false
theorem eqv_dN : ∀ (k : List Nat) (xs : List D) (ys : List PyData), (∀ x ∈ xs, isB x = false) → D.pys xs = some ys → (PyData.eqvAll (k.map fun n : Nat => PyData.int n) ys = true ↔ xs = dN k)
  | [], [], ys, _, h => by
    unfold D.pys at h
    cases h
    simp [PyData.eqvAll, dN]
  | [], x :: xs, ys, _, h => by
    unfold D.pys at h
    cases h1 : x.py with
    | none => rw [h1] at h; cases h
    | some y =>
      cases h2 : D.pys xs with
      | none => rw [h1, h2] at h; cases h
      | some zs => rw [h1, h2] at h; cases h; simp [PyData.eqvAll, dN]
  | a :: k, [], ys, _, h => by
    unfold D.pys at h
    cases h
    simp [PyData.eqvAll, dN]
  | a :: k, x :: xs, ys, hb, h => by
    have hx := hb x (by simp)
    rw [D.pys] at h
    cases h1 : x.py with
    | none => rw [h1] at h; cases h
    | some y =>
      cases h2 : D.pys xs with
      | none => rw [h1, h2] at h; cases h
      | some zs =>
        rw [h1, h2] at h
        cases h
        have ih := eqv_dN k xs zs (fun x hx => hb x (by simp [hx])) h2
        have e1 : PyData.eqv (.int (a : Nat)) y = true ↔ x = .int (a : Nat) := by
          cases x with
          | int i =>
            unfold D.py at h1
            cases h1
            simp [PyData.eqv]
            omega
          | bl b => cases hx
          | non => unfold D.py at h1; cases h1; simp [PyData.eqv]
          | str z => unfold D.py at h1; cases h1; simp [PyData.eqv]
          | lst z =>
            unfold D.py at h1
            cases h3 : D.pys z with
            | none => rw [h3] at h1; cases h1
            | some q => rw [h3] at h1; cases h1; simp [PyData.eqv]
          | tup z =>
            unfold D.py at h1
            cases h3 : D.pys z with
            | none => rw [h3] at h1; cases h1
            | some q => rw [h3] at h1; cases h1; simp [PyData.eqv]
          | scr z => unfold D.py at h1; cases h1; simp [PyData.eqv]
          | dic z => unfold D.py at h1; cases h1
          | dit z => unfold D.py at h1; cases h1
        show PyData.eqvAll (.int (a : Nat) :: k.map fun n : Nat => PyData.int n) (y :: zs) = true ↔ x :: xs = .int (a : Nat) :: dN k
        rw [PyData.eqvAll, Bool.and_eq_true, e1, ih, List.cons.injEq]
theorem in_kinds {sz : List Nat} {gs : List (Nat × Nat)} {xs : List D} (nd : (gs.map (·.1)).Nodup) (hb : ∀ x ∈ xs, isB x = false) (x : PyData) (zs : List PyData) (h1 : (D.tup xs).py = some x) (h2 : D.pys ((AK sz gs).map tD) = some zs) : (zs.any fun z => PyData.eqv z x) = isK sz gs (.tup xs) := by
  rw [pys_tD] at h2
  cases h2
  unfold D.py at h1
  cases h3 : D.pys xs with
  | none => rw [h3] at h1; cases h1
  | some ys =>
    rw [h3] at h1
    cases h1
    rw [Bool.eq_iff_iff, List.any_map, List.any_eq_true, isK_iff]
    constructor
    · rintro ⟨k, hk, he⟩
      have he : PyData.eqv (.tuple (k.map fun n : Nat => PyData.int n)) (.tuple ys) = true := he
      rw [PyData.eqv, eqv_dN k xs ys hb h3] at he
      obtain ⟨hbl, v, hv⟩ := AK_mem.mp hk
      exact ⟨k, v, by rw [he], hbl, gv_mem nd hv⟩
    · rintro ⟨k, v, he, hbl, hv⟩
      have he : xs = dN k := by cases he; rfl
      refine ⟨k, AK_mem.mpr ⟨hbl, v, gv_some hv⟩, ?_⟩
      show PyData.eqv (.tuple (k.map fun n : Nat => PyData.int n)) (.tuple ys) = true
      rw [PyData.eqv, eqv_dN k xs ys hb h3]
      exact he
def okV (d : D) : Prop := okD d ∧ Pl 60 d ∧ ∀ xs, d = .tup xs → xs.length ≤ 100

def C_law_is_right : Fc := fun W m ss Φ Ξ => ∃ sz gs d b, ss = [.dat (.lst ((AK sz gs).map tD)), .dat d] ∧ Good sz gs ∧ okV d ∧ isK sz gs d = b ∧ Φ m (.dat (.bl b))

abbrev s_law_is_right : Stmt := (top 37)
abbrev N_law_is_right : List Str := ["_law_kinds_here", "_law_value", "_law_item"]
theorem sc_law_is_right : FnScope N_law_is_right ["_law_kinds_here", "_law_value"] (defScope s_law_is_right) := ⟨rfl, rfl, rfl, by decide +kernel, rfl, by decide +kernel, by decide +kernel⟩
theorem ok_law_is_right (F : FnP K "_law_is_right" s_law_is_right f fd) (b : BI mg) : FnOk P w K mg base CX0 1 f fd ["_law_kinds_here", "_law_value"] (spF K C_law_is_right) := by
  have hlen := spF_len (K := K) (C := C_law_is_right) (m := 2) fun W m ss Φ Ξ ⟨sz, gs, d, b, e, _⟩ => by first | exact e | (rw [e]; rfl)
  refine F.ok sc_law_is_right hlen ?_
  intro cdv A outer s H vs Q E hr h
  refine ⟨_, PSs.nox (pss_cons (ps_if (PW.pt (pw_or (pt_not (pt_val (pe_callB (k_isi (K := K) rfl) rfl b.isinstance boot_isinstance (pa_cons (pv 1) (pa_cons (pe_bltn (v := .ty "tuple") rfl b.tuple_ boot_tuple rfl) pa_nil))))) (pw_or1 (pt_val (pe_callB (k_any (K := K) rfl rfl) rfl b.any boot_any (pa_cons (pe_lc (own := [("_law_item", 2)]) rfl sc_law_is_right.nd (k_piT (K := K) rfl (pv 1)) (blkOk_by (own := [("_law_item", 2)]) (N := N_law_is_right) (sc := (defScope s_law_is_right)) (by decide +kernel)) (fun _ _ _ _ _ => (pg_name (i := 2) sc_law_is_right.nd rfl (by first | exact Or.inl rfl | exact Or.inr rfl))) (fun _ _ _ _ _ => pts_nil) (fun _ _ _ _ _ => (pe_callB (k_isi (K := K) rfl) rfl b.isinstance boot_isinstance (pa_cons (pv 2) (pa_cons (pe_bltn (v := .ty "bool") rfl b.bool_ boot_bool rfl) pa_nil))))) pa_nil)))))) (pss_one (ps_ret pe_bl)) pss_nil)
      (pss_one (ps_ret (pe_cmpR (k_inD (K := K) rfl (hu65 hr)) (pv 1) (pv 0) rfl)))), ?_⟩
  refine DL.run_fnP  [.no] (Nm := N_law_is_right) (n := 2) (k := 1) rfl (hlen _ _ _ _ h) rfl h fun W m ss Φ Ξ G hc => ?_
  try dsimp only [cxOf, Cx.nox, Cx.wish, Cx.blk]
  obtain ⟨sz, gs, d, b, rfl, ⟨hz, hg, ht⟩, ⟨hd, hp, hl⟩, rfl, hΦ⟩ := hc
  cases d with
  | tup xs =>
    have hl := hl xs rfl
    walk_at "d"
    refine de_lcMap (f := fun x => .bl (isB x)) ?_
    walk_at "d"
    refine ⟨by omega, fun x hx => ⟨_, dg_name (by simp), ?_⟩, ?_⟩
    · have hx2 := hd.2 xs rfl x hx
      cases x with
      | dit z => exact absurd rfl (hx2 z)
      | _ =>
        walk_at "d"
        rfl
    · walk_at "d"
      refine cb_anyM ?_
      refine ⟨_, rfl, fun hb => ?_, fun hb => ?_⟩
      · walk_at "d"
        have : isK sz gs (.tup xs) = false := by
          cases hk : isK sz gs (.tup xs) with
          | false => rfl
          | true =>
            obtain ⟨k, v, e, _⟩ := isK_iff.mp hk
            cases e
            obtain ⟨x, hx, hy⟩ := List.any_eq_true.mp hb
            obtain ⟨n, _, rfl⟩ := dN_mem hx
            cases hy
        rw [this] at hΦ
        exact hΦ
      · walk_at "d"
        have hb2 : ∀ x ∈ xs, isB x = false := fun x hx => by
          cases hy : isB x with
          | false => rfl
          | true => rw [List.any_eq_true.mpr ⟨x, hx, hy⟩] at hb; cases hb
        refine ops_inP (hp.up (by omega)) ?_ rfl rfl (isK sz gs (.tup xs)) (in_kinds hg.nd hb2) ⟨rfl, hΦ⟩
        intro e he
        obtain ⟨k, _, rfl⟩ := List.mem_map.mp he
        exact .tup fun x hx => by obtain ⟨n, _, rfl⟩ := dN_mem hx; exact .int _
  | dit z => exact absurd rfl (hd.1 z)
  | _ =>
    walk_at "d"
    exact hΦ


end
end Pf
set_option Elab.async false
set_option linter.all false
set_option maxRecDepth 100000
set_option maxHeartbeats 1000000
namespace Pf
open PySem PySem.Spec PyProof.Rows L2 DL
local macro_rules | `(tactic| walk_at "len") => `(tactic| with_unfolding_all first | exact Nat.le_of_ble_eq_true rfl | (simp; done) | (simp; omega))
local macro_rules | `(tactic| walk_at "side") => `(tactic| with_unfolding_all first | exact Or.inr ⟨by omega, by omega⟩ | exact Or.inl ⟨by omega, by omega⟩ | exact ⟨by omega, by omega⟩ | exact ⟨by omega, by omega, by omega⟩ | (show (0 : Int) < _; omega) | decide)
local macro_rules | `(tactic| walk_at "d1") => `(tactic| with_reducible first
  | (refine ds_seq ?_; try dsimp only [List.set_cons_zero, List.set_cons_succ, List.cons_append, List.nil_append, O.frz])
  | refine ds_asg ?_
  | refine ds_ret ?_
  | refine ds_retN ?_
  | refine ds_next ?_
  | refine ds_dropC ?_
  | refine ds_drop0 ?_
  | refine ds_dropB ?_
  | refine ds_if ?_
  | refine dt_test ?_
  | refine dt_B ?_
  | refine dt_not ?_
  | refine dt_and ?_
  | refine dt_or ?_
  | refine dt_yes ?_
  | refine de_int ?_
  | refine de_bl ?_
  | refine de_str ?_
  | refine de_non ?_
  | refine de_varD (by with_unfolding_all rfl) ?_
  | refine de_varO (by with_unfolding_all rfl) ?_
  | refine de_varA (by with_unfolding_all rfl) ?_
  | refine de_varV (by with_unfolding_all rfl) ?_
  | refine de_isi ?_
  | refine de_dget ?_
  | refine de_din ?_
  | refine de_dnew ?_
  | refine de_cb ?_
  | refine de_call0G ?_
  | refine de_callG ?_
  | refine de_andB ?_
  | refine de_orB ?_
  | refine de_notV ?_
  | refine de_ifE ?_
  | refine de_chain ?_
  | refine de_op ?_
  | refine de_neg ?_
  | refine de_tupG ?_
  | refine de_lstG ?_
  | refine de_slL ?_
  | refine de_slT ?_
  | refine do_none ?_
  | refine do_some ?_
  | refine da_cons ?_
  | refine da_nil ?_
  | refine lk_dat ?_
  | refine lk_nil ?_
  | refine ak_dat ?_
  | refine ak_nil ?_
  | refine ak_at ?_
  | refine ak_lst ?_
  | refine lk_lst ?_
  | refine ak_dK ?_
  | refine lk_dK ?_
  | refine da_star ?_
  | refine di_rng1 ?_
  | refine di_rng2 ?_
  | refine di_list ?_
  | refine di_tup ?_
  | refine di_seq ?_
  | refine di_zip ?_
  | refine ops_int ?_
  | (refine ops_cat (by with_unfolding_all rfl) (by with_unfolding_all rfl) ?side ?_; (case side => walk_at "len"))
  | (refine ops_catA ?side ?_; (case side => walk_at "len"))
  | refine ops_eqI ?_
  | refine ops_neI ?_
  | refine ops_bool ?_
  | (refine ops_intC ?side ?_; (case side => walk_at "side"))
  | refine cb_lenL (by with_unfolding_all rfl) ?_
  | refine cb_lenT (by with_unfolding_all rfl) ?_
  | refine cb_lenK (by with_unfolding_all rfl) ?_
  | refine cb_max2 ?_
  | refine cb_min2 ?_
  | refine cb_int ?_
  | refine ⟨fun _ => ?_, fun z => Bool.noConfusion z⟩
  | refine ⟨fun z => Bool.noConfusion z, fun _ => ?_⟩
  | refine ⟨rfl, ?_⟩
  | refine ⟨_, rfl, ?_⟩
  | refine ⟨_, Or.inl (by with_unfolding_all rfl), ?_⟩
  | (with_unfolding_all refine ⟨_, true, rfl, (fun _ z => by cases z), rfl, ?_⟩)
  | (with_unfolding_all refine ⟨_, false, rfl, (fun _ z => by cases z), rfl, ?_⟩))
local macro_rules | `(tactic| walk_at "d") => `(tactic| repeat walk_at "d1")
local macro_rules | `(tactic| walk_at "wk") => `(tactic| repeat first | exact Wk.nil | refine Wk.keep ?_ | refine Wk.drop ?_)
section
variable {P : Program} {w : World} {K : PySem.W.Frag} {mg : Str → Option Value} {base : Heap} {f : Addr} {fd : FuncData} {a_BadSizes a_BadGames a_TooMany a_BadKind : Addr}
/-- a number put into games -/
def putN (gs : List (Nat × Nat)) (t v : Nat) : List (Nat × Nat) := if (gs.any fun p => decide (p.1 = t)) = true then gs.map (fun p => if p.1 = t then (p.1, v) else p) else gs ++ [(t, v)]
theorem putD_gD (gs : List (Nat × Nat)) (t v : Nat) : putD (gD gs) (Sum.inl (t : Int)) (D.int (v : Nat)) = gD (putN gs t v) := by
  have e : ((gD gs).any fun kv => decide (kv.1 = Sum.inl (t : Int))) = (gs.any fun p => decide (p.1 = t)) := by
    unfold gD
    rw [List.any_map]
    congr 1
    funext p
    simp
    omega
  unfold putD putN
  rw [e]
  split
  · unfold gD
    rw [List.map_map, List.map_map]
    apply List.map_congr_left
    intro p _
    by_cases h : p.1 = t
    · simp [h]
    · have h2 : (p.1 : Int) ≠ t := by omega
      simp [h, h2]
  · simp [gD]
structure GIn (n j : Nat) (gs : List (Nat × Nat)) : Prop where
  l1 : 1 ≤ j → 1 ≤ gs.length
  l2 : gs.length ≤ j
  ok : ∀ t v : Nat, (t, v) ∈ gs → 1 ≤ t ∧ t ≤ 4 ∧ t ≤ n ∧ 1 ≤ v ∧ v ≤ 3
  nd : (gs.map (·.1)).Nodup
theorem GIn.put {n j t v : Nat} {gs : List (Nat × Nat)} (h : GIn n j gs) (ht : 1 ≤ t ∧ t ≤ 4 ∧ t ≤ n) (hv : 1 ≤ v ∧ v ≤ 3) : GIn n (j + 1) (putN gs t v) := by
  unfold putN
  split
  · rename_i hx
    obtain ⟨p, hp, _⟩ := List.any_eq_true.mp hx
    have hl : 1 ≤ gs.length := List.length_pos_of_mem hp
    refine ⟨fun _ => by simpa using hl, by have := h.l2; simp; omega, fun a b hab => ?_, ?_⟩
    · obtain ⟨q, hq, e⟩ := List.mem_map.mp hab
      split at e
      · rename_i hz
        cases e
        have := h.ok q.1 q.2 hq
        omega
      · cases e
        exact h.ok _ _ hq
    · have e : (gs.map fun p => if p.1 = t then (p.1, v) else p).map (·.1) = gs.map (·.1) := by
        rw [List.map_map]
        apply List.map_congr_left
        intro p _
        show (if p.1 = t then (p.1, v) else p).1 = p.1
        split <;> rfl
      rw [e]; exact h.nd
  · rename_i hx
    refine ⟨fun _ => by simp, by have := h.l2; simp; omega, fun a b hab => ?_, ?_⟩
    · rcases List.mem_append.mp hab with hab | hab
      · exact h.ok a b hab
      · simp at hab
        obtain ⟨rfl, rfl⟩ := hab
        omega
    · rw [List.map_append, List.nodup_append]
      refine ⟨h.nd, by simp, ?_⟩
      intro x hx1 y hy z
      simp at hy
      subst hy
      subst z
      obtain ⟨p, hp, e⟩ := List.mem_map.mp hx1
      exact hx (List.any_eq_true.mpr ⟨p, hp, by simpa using e⟩)
theorem ch_small : ∀ n < 10, ∀ t < 5, KM.ch n t ≤ 126 := by decide

def C_law_setting : Fc := fun W m ss Φ Ξ => ∃ (V : Wd) (mo : Nat) (p : Addr) (m' : Nat), W = srcW V mo p ∧ ¬ V.M p ∧ (∀ a, ¬ V.L a) ∧ ss = [.at_ p] ∧ m = m' + 100 ∧ ∀ sz gs m2, m' ≤ m2 → Good sz gs → sz.sum ≤ 9 → Φ m2 (.dat (.tup [.lst (dN sz), .dic (gD gs)]))
theorem at3 {a b c : Nat} {i : Nat} (h : i < 3) : ∃ r : Nat, atI [D.int (a : Nat), D.int (b : Nat), D.int (c : Nat)] (i : Int) = some (.int (r : Nat)) ∧ (r = a ∨ r = b ∨ r = c) := by
  match i, h with
  | 0, _ => exact ⟨a, atN rfl, .inl rfl⟩
  | 1, _ => exact ⟨b, atN rfl, .inr (.inl rfl)⟩
  | 2, _ => exact ⟨c, atN rfl, .inr (.inr rfl)⟩

abbrev s_law_setting : Stmt := (top 35)
abbrev N_law_setting : List Str := ["_law_source_here", "_law_way", "_law_sizes", "_law_k", "_law_games", "_law_size", "_law_team"]
theorem sc_law_setting : FnScope N_law_setting ["_law_source_here"] (defScope s_law_setting) := ⟨rfl, rfl, rfl, by decide +kernel, rfl, by decide +kernel, by decide +kernel⟩
theorem ok_law_setting (F : FnP K "_law_setting" s_law_setting f fd) (b : BI mg) (c_law_draw : Cl P w K mg base CX0 1 "_law_draw" ["_law_source_here", "_law_limit"] C_law_draw) (c_law_choose : Cl P w K mg base CX0 1 "_law_choose" ["_law_many", "_law_few"] C_law_choose) : FnOk P w K mg base CX0 2 f fd ["_law_source_here"] (spF K C_law_setting) := by
  have hlen := spF_len (K := K) (C := C_law_setting) (m := 1) fun W m ss Φ Ξ ⟨V, mo, p, m', _, _, _, e, _⟩ => by first | exact e | (rw [e]; rfl)
  refine F.ok sc_law_setting hlen ?_
  intro cdv A outer s H vs Q E hr h
  refine ⟨_, PSs.nox (pss_cons (ps_set (i := 1) sc_law_setting.nd rfl (by first | exact Or.inl rfl | exact Or.inr rfl) (k_cl0 c_law_draw rfl hr (pa_cons (pv 0) (pa_cons pe_int pa_nil))))
      (pss_cons (ps_set (i := 2) sc_law_setting.nd rfl (by first | exact Or.inl rfl | exact Or.inr rfl) (pe_lst (pa_cons (pe_op op_add pe_int (k_cl0 c_law_draw rfl hr (pa_cons (pv 0) (pa_cons (pe_ix (k_ixL (K := K) rfl) (pe_lst (pa_cons pe_int (pa_cons pe_int (pa_cons pe_int pa_nil)))) (pv 1) (fun _ _ => rfl)) pa_nil)))) pa_nil)))
      (pss_cons (ps_for PassesOwn.never rfl (pi_range1 rfl b.range (pa_cons (k_cl0 c_law_draw rfl hr (pa_cons (pv 0) (pa_cons (pe_ix (k_ixL (K := K) rfl) (pe_lst (pa_cons pe_int (pa_cons pe_int (pa_cons pe_int pa_nil)))) (pv 1) (fun _ _ => rfl)) pa_nil))) pa_nil)) (pg_name (i := 3) sc_law_setting.nd rfl (by first | exact Or.inl rfl | exact Or.inr rfl))
      (pss_cons (ps_set (i := 5) sc_law_setting.nd rfl (by first | exact Or.inl rfl | exact Or.inr rfl) (pe_op op_add pe_int (k_cl0 c_law_draw rfl hr (pa_cons (pv 0) (pa_cons (pe_ix (k_ixL (K := K) rfl) (pe_lst (pa_cons pe_int (pa_cons pe_int (pa_cons pe_int pa_nil)))) (pv 1) (fun _ _ => rfl)) pa_nil)))))
      (pss_one (ps_if (pt_cmpR op_le (pe_op op_add (pe_callB (k_sum (K := K) rfl rfl) rfl b.sum boot_sum (pa_cons (pv 2) pa_nil)) (pv 5)) pe_int (nomark _)) (pss_one (ps_expr (k_app (K := K) rfl (pv 2) (pa_cons (pv 5) pa_nil)))) pss_nil))))
      (pss_cons (ps_set (i := 4) sc_law_setting.nd rfl (by first | exact Or.inl rfl | exact Or.inr rfl) pe_dnewK)
      (pss_cons (ps_for PassesOwn.never rfl (pi_range1 rfl b.range (pa_cons (pe_op op_add pe_int (k_cl0 c_law_draw rfl hr (pa_cons (pv 0) (pa_cons pe_int pa_nil)))) pa_nil)) (pg_name (i := 3) sc_law_setting.nd rfl (by first | exact Or.inl rfl | exact Or.inr rfl))
      (pss_one (ps_dput (hu_of hr) (pv 4) (pe_op op_add pe_int (k_cl0 c_law_draw rfl hr (pa_cons (pv 0) (pa_cons (pe_callB (call_min2 rfl) rfl b.min boot_min (pa_cons pe_int (pa_cons (pe_callB (k_sum (K := K) rfl rfl) rfl b.sum boot_sum (pa_cons (pv 2) pa_nil)) pa_nil))) pa_nil)))) (pe_op op_add pe_int (k_cl0 c_law_draw rfl hr (pa_cons (pv 0) (pa_cons pe_int pa_nil)))) rfl)))
      (pss_cons (ps_if (pt_cmpR op_gt (pe_callB (k_sum (K := K) rfl rfl) rfl b.sum boot_sum (pa_cons (pe_lock (pe_lc (own := [("_law_team", 6)]) rfl sc_law_setting.nd (pi_keys (pv 4)) (blkOk_by (own := [("_law_team", 6)]) (N := N_law_setting) (sc := (defScope s_law_setting)) (by decide +kernel)) (fun _ _ _ _ _ => (pg_name (i := 6) sc_law_setting.nd rfl (by first | exact Or.inl rfl | exact Or.inr rfl))) (fun _ _ _ _ _ => pts_nil) (fun _ _ _ _ _ => (pe_op op_mul (pe_dget (hu_of hr) (pv 4) (pv 6) (fun _ _ => rfl)) (k_cl0 c_law_choose rfl hr (pa_cons (pe_callB (k_sum (K := K) rfl rfl) rfl b.sum boot_sum (pa_cons (pv 2) pa_nil)) (pa_cons (pv 6) pa_nil))))))) pa_nil)) pe_int (nomark _)) (pss_one (ps_set (i := 4) sc_law_setting.nd rfl (by first | exact Or.inl rfl | exact Or.inr rfl) (pe_disp (pps_cons (pe_callB (cr_minK rfl) rfl b.min boot_min (pa_cons (pv 4) pa_nil)) pe_int pps_nil) rfl rfl (fun z => by cases z) (by decide)))) pss_nil)
      (pss_one (ps_ret (pe_tup (pa_cons (pv 2) (pa_cons (pv 4) pa_nil))))))))))), ?_⟩
  refine DL.run_fnP  [.no, .no, .no, .no, .no, .no] (Nm := N_law_setting) (n := 1) (k := 6) rfl (hlen _ _ _ _ h) rfl h fun W m ss Φ Ξ G hc => ?_
  try dsimp only [cxOf, Cx.nox, Cx.wish, Cx.blk]
  obtain ⟨Vd, mo, p, m', rfl, np, hL, rfl, rfl, hΦ⟩ := hc
  have hL' : ∀ a, ¬ (srcW Vd mo p).L a := hL
  walk_at "d"
  refine ⟨Vd, mo, p, 3, m' + 99, rfl, np, rfl, by decide, by decide, rfl, fun way hway => ?_⟩
  walk_at "d"
  obtain ⟨r, hr1, hr2⟩ := at3 (a := 3) (b := 1) (c := 9) hway
  refine ops_ixL rfl hr1 ?_
  walk_at "d"
  refine ⟨Vd, mo, p, r, m' + 98, rfl, np, rfl, by omega, by omega, rfl, fun d0 hd0 => ?_⟩
  walk_at "d"
  rw [show (1 : Int) + (d0 : Nat) = ((1 + d0 : Nat) : Int) by omega]
  refine ds_for (vs := [3]) ?_
  walk_at "d"
  obtain ⟨r2, hr3, hr4⟩ := at3 (a := 4) (b := 10) (c := 3) hway
  refine ops_ixL rfl hr3 ?_
  walk_at "d"
  refine ⟨Vd, mo, p, r2, m' + 97, rfl, np, rfl, by omega, by omega, rfl, fun d1 hd1 => ?_⟩
  walk_at "d"
  refine ⟨by omega, by omega, ?_⟩
  refine ⟨fun i mm ρ => mm + i = m' + 97 ∧ ∃ sz x3 x5, ρ = [.at_ p, .dat (.int (way : Nat)), .own (.lst (dN sz)), x3, .no, x5, .no] ∧ plS x3 = true ∧ plS x5 = true ∧ 1 ≤ sz.length ∧ (∀ s ∈ sz, 1 ≤ s) ∧ sz.sum ≤ 9, ⟨rfl, [1 + d0], .no, .no, rfl, rfl, rfl, by simp, by simp, by simp; omega⟩, ?_, ?_⟩
  · rintro i d mm ρ hd ⟨hmm, sz, x3, x5, rfl, px3, px5, hz1, hz2, hz3⟩
    obtain ⟨hi, rfl⟩ := rng_at hd
    have hi : i < d1 := by omega
    obtain ⟨k, rfl⟩ : ∃ k, mm = k + 1 := ⟨mm - 1, by omega⟩
    refine ⟨_, dg_name (by simp), ?_⟩
    walk_at "d"
    obtain ⟨r3, hr5, hr6⟩ := at3 (a := 3) (b := 1) (c := 4) hway
    refine ops_ixL rfl hr5 ?_
    walk_at "d"
    refine ⟨Vd, mo, p, r3, k, rfl, np, rfl, by omega, by omega, rfl, fun d2 hd2 => ?_⟩
    walk_at "d"
    refine cb_sumN (.inl rfl) ?_
    walk_at "d"
    rw [show (1 : Int) + (d2 : Nat) = ((1 + d2 : Nat) : Int) by omega]
    have hle := len_le_sum hz2
    refine ⟨fun hb => ?_, fun hb => ?_⟩
    · have hb : ((sz.sum : Nat) : Int) + ((1 + d2 : Nat) : Int) ≤ 9 := by simpa using hb
      refine ds_app (i := 2) (ds := dN sz) rfl rfl (by rw [dN_len]; omega) ?_
      walk_at "d"
      refine ⟨by omega, sz ++ [1 + d2], .dat (.int (0 + (i : Nat))), .dat (.int ((1 + d2 : Nat) : Int)), ?_, rfl, rfl, by simp, fun s hs => ?_, by simp; omega⟩
      · simp [dN]
      · rcases List.mem_append.mp hs with hs | hs
        · exact hz2 s hs
        · simp at hs; omega
    · walk_at "d"
      exact ⟨by omega, sz, _, _, rfl, rfl, rfl, hz1, hz2, hz3⟩
  · rintro mm ρ ⟨hmm, sz, x3, x5, rfl, px3, px5, hz1, hz2, hz3⟩
    rw [rng_len] at hmm
    have hle := len_le_sum hz2
    walk_at "d"
    refine ds_for (vs := [3]) ?_
    walk_at "d"
    obtain ⟨k, rfl⟩ : ∃ k, mm = k + 1 := ⟨mm - 1, by omega⟩
    refine ⟨Vd, mo, p, 2, k, rfl, np, rfl, by decide, by decide, rfl, fun d3 hd3 => ?_⟩
    walk_at "d"
    refine ⟨by omega, by omega, ?_⟩
    refine ⟨fun i mm ρ => mm + 2 * i = k ∧ ∃ gs x3, ρ = [.at_ p, .dat (.int (way : Nat)), .own (.lst (dN sz)), x3, .own (.dK (gD gs)), x5, .no] ∧ plS x3 = true ∧ GIn sz.sum i gs, ⟨rfl, [], x3, rfl, px3, fun h => by omega, Nat.le_refl _, fun t v h => by simp at h, by simp⟩, ?_, ?_⟩
    · rintro i d mm ρ hd ⟨hmm2, gs, x3, rfl, px3, hg⟩
      obtain ⟨hi, rfl⟩ := rng_at hd
      obtain ⟨k2, rfl⟩ : ∃ k2, mm = k2 + 1 + 1 := ⟨mm - 2, by omega⟩
      refine ⟨_, dg_name (by simp), ?_⟩
      have hg2 := hg.l2
      refine ds_dput (i := 4) (ds := gD gs) rfl (by cases x5 <;> simp_all [plS, noVw]) (by rw [gD_len]; omega) ?_
      walk_at "d"
      refine ⟨Vd, mo, p, 3, k2 + 1, rfl, np, rfl, by decide, by decide, rfl, fun d4 hd4 => ?_⟩
      walk_at "d"
      refine cb_sumN (.inl rfl) ?_
      walk_at "d"
      rw [show min (4 : Int) (sz.sum : Nat) = ((min 4 sz.sum : Nat) : Int) by omega]
      refine ⟨Vd, mo, p, _, k2, rfl, np, rfl, by omega, by omega, rfl, fun d5 hd5 => ?_⟩
      walk_at "d"
      rw [show (1 : Int) + (d4 : Nat) = ((1 + d4 : Nat) : Int) by omega, show (1 : Int) + (d5 : Nat) = ((1 + d5 : Nat) : Int) by omega]
      refine ⟨.int ((1 + d4 : Nat) : Int), Sum.inl ((1 + d5 : Nat) : Int), rfl, rfl, by omega, putN gs (1 + d5) (1 + d4), .dat (.int (0 + (i : Nat))), ?_, rfl, hg.put (by omega) (by omega)⟩
      rw [← putD_gD]
      rfl
    · rintro mm ρ ⟨hmm2, gs, x3, rfl, px3, hg⟩
      have hr : 1 ≤ (rngD 0 (1 + (d3 : Nat) : Int).toNat).length ∧ (rngD 0 (1 + (d3 : Nat) : Int).toNat).length ≤ 2 := by rw [rng_len]; omega
      have g1 := hg.l1 hr.1
      have g2 := hg.l2
      refine ds_frz (i := 4) rfl (by cases x3 <;> cases x5 <;> simp_all [plS, noVw]) (ds_frz (i := 2) rfl (by cases x3 <;> cases x5 <;> simp_all [plS, noVw]) ?_)
      dsimp only [List.set_cons_zero, List.set_cons_succ, O.frz]
      have hgm : GGm sz.sum gs := ⟨g1, by omega, hg.ok, hg.nd⟩
      walk_at "d"
      refine de_lcK (atF sz.sum gs) rfl hL' (by rw [gD_len]; omega) (fun d E Ξ G1 H1 q hp => ⟨_, dg_name (by simp), ?_⟩) ?_
      · obtain ⟨t, v, htv, rfl⟩ := gD_mem hp
        obtain ⟨o1, o2, o3, o4, o5⟩ := hg.ok t v htv
        walk_at "d"
        refine ⟨_, Sum.inl (t : Int), D.int (v : Nat), rfl, rfl, by rw [gD_val, gv_mem hg.nd htv]; rfl, ?_⟩
        walk_at "d"
        refine cb_sumN (.inl rfl) ?_
        walk_at "d"
        refine ⟨sz.sum, t, rfl, by omega, by omega, ?_⟩
        walk_at "d"
        simp [atF, keyD, gv_mem hg.nd htv, S.frz]
      · walk_at "d"
        rw [atF_eq hg.nd]
        refine cb_sumN (.inl rfl) ?_
        walk_at "d"
        refine ⟨fun hb => ?_, fun hb => ?_⟩
        · walk_at "d"
          refine de_disp1 ?_
          walk_at "d"
          refine cb_minKD hL' (ks := gs.map fun p => (p.1 : Int)) (gD_keys gs) (fun z => by rw [List.map_eq_nil_iff] at z; rw [z] at g1; simp at g1) ?_
          intro k0 hk0 hmin
          obtain ⟨⟨t, v⟩, htv, rfl⟩ := List.mem_map.mp hk0
          obtain ⟨o1, o2, o3, o4, o5⟩ := hg.ok t v htv
          walk_at "d"
          refine ⟨Sum.inl (t : Int), .int 1, rfl, rfl, rfl, ds_frz (i := 4) rfl (by cases x3 <;> cases x5 <;> simp_all [plS, noVw]) ?_⟩
          walk_at "d"
          have hs := ch_small sz.sum (by omega) t (by omega)
          refine hΦ sz [(t, 1)] _ (by omega) ⟨⟨hz1, hz2, by omega⟩, ⟨by simp, by simp, fun a b hab => ?_, by simp⟩, ?_⟩ hz3
          · simp at hab; omega
          · simp [tot]; omega
        · have hb : tot sz.sum gs ≤ 130 := by
            have : ¬ ((130 : Int) < ((gs.map fun p => p.2 * KM.ch sz.sum p.1).sum : Nat)) := by simpa using hb
            unfold tot; omega
          walk_at "d"
          exact hΦ sz gs _ (by omega) ⟨⟨hz1, hz2, by omega⟩, hgm, hb⟩ hz3
theorem some_kind : ∀ (sz : List Nat) (t : Nat), t ≤ sz.sum → ∃ k, Below k sz ∧ k.sum = t
  | [], t, h => ⟨[], ⟨rfl, fun i a s h => by simp at h⟩, by simp at h; simp; omega⟩
  | s :: sz, t, h => by
    rw [List.sum_cons] at h
    obtain ⟨k, ⟨hl, hb⟩, hs⟩ := some_kind sz (t - min t s) (by omega)
    refine ⟨min t s :: k, ⟨by simp [hl], fun i a b h1 h2 => ?_⟩, by simp [hs]; omega⟩
    cases i with
    | zero => simp at h1 h2; omega
    | succ j => exact hb j a b (by simpa using h1) (by simpa using h2)
theorem AK_pos {sz : List Nat} {gs : List (Nat × Nat)} (h : Good sz gs) : 0 < (AK sz gs).length := by
  obtain ⟨hz, hg, ht⟩ := h
  have l1 := hg.l1
  match gs, l1, hg with
  | (t, v) :: l, _, hg =>
    have := hg.ok t v (by simp)
    obtain ⟨k, hb, hs⟩ := some_kind sz t (by omega)
    exact List.length_pos_of_mem (AK_mem.mpr ⟨hb, v, by rw [hs]; simp⟩)
theorem pl_dN {k : List Nat} {x : D} {n : Nat} (h : x ∈ dN k) : Pl n x := by
  obtain ⟨j, _, rfl⟩ := dN_mem h
  exact .int _
theorem okV_tup {xs : List D} (h : ∀ x ∈ xs, Pl 59 x) (hd : ∀ x ∈ xs, ∀ ds, x ≠ .dit ds) (hl : xs.length ≤ 100) : okV (.tup xs) :=
  ⟨⟨fun ds z => (by cases z), fun ys e => by cases e; exact hd⟩, .tup h, fun ys e => by cases e; exact hl⟩
theorem okV_at {d : D} (hd : ∀ ds, d ≠ .dit ds) (ht : ∀ xs, d ≠ .tup xs) (hp : Pl 60 d) : okV d := ⟨⟨hd, fun xs e => absurd e (ht xs)⟩, hp, fun xs e => absurd e (ht xs)⟩
theorem cutD_len (ds : List D) (lo hi : Option Int) : (DL.cutD ds lo hi).length ≤ ds.length := by
  unfold DL.cutD
  rw [List.length_take, List.length_drop]
  omega
theorem cutD_mem {ds : List D} {lo hi : Option Int} {d : D} (h : d ∈ DL.cutD ds lo hi) : d ∈ ds := by
  unfold DL.cutD at h
  exact List.mem_of_mem_drop (List.mem_of_mem_take h)
def incD : D → D
  | .int i => .int (i + 1) | _ => .non


def C_law_odd : Fc := fun W m ss Φ Ξ => ∃ (V : Wd) (mo : Nat) (p : Addr) (m' : Nat) (sz : List Nat) (gs : List (Nat × Nat)), W = srcW V mo p ∧ ¬ V.M p ∧ ss = [.at_ p, .dat (.lst ((AK sz gs).map tD)), .dat (.lst (dN sz))] ∧ Good sz gs ∧ m = m' + 3 ∧ ∀ d, okV d → Φ m' (.dat d)

abbrev s_law_odd : Stmt := (top 36)
abbrev N_law_odd : List Str := ["_law_source_here", "_law_kinds_here", "_law_sizes", "_law_kind", "_law_k", "_law_rows", "_law_item", "_law_size"]
theorem sc_law_odd : FnScope N_law_odd ["_law_source_here", "_law_kinds_here", "_law_sizes"] (defScope s_law_odd) := ⟨rfl, rfl, rfl, by decide +kernel, rfl, by decide +kernel, by decide +kernel⟩
theorem ok_law_odd (F : FnP K "_law_odd" s_law_odd f fd) (b : BI mg) (c_law_draw : Cl P w K mg base CX0 1 "_law_draw" ["_law_source_here", "_law_limit"] C_law_draw) : FnOk P w K mg base CX0 2 f fd ["_law_source_here", "_law_kinds_here", "_law_sizes"] (spF K C_law_odd) := by
  have hlen := spF_len (K := K) (C := C_law_odd) (m := 3) fun W m ss Φ Ξ ⟨V, mo, p, m', sz, gs, _, _, e, _⟩ => by first | exact e | (rw [e]; rfl)
  refine F.ok sc_law_odd hlen ?_
  intro cdv A outer s H vs Q E hr h
  refine ⟨_, PSs.nox (pss_cons (ps_set (i := 3) sc_law_odd.nd rfl (by first | exact Or.inl rfl | exact Or.inr rfl) (pe_ix (k_ixL (K := K) rfl) (pv 1) (k_cl0 c_law_draw rfl hr (pa_cons (pv 0) (pa_cons (pe_callB (k_len (K := K) rfl) rfl b.len boot_len (pa_cons (pv 1) pa_nil)) pa_nil))) (fun _ _ => rfl)))
      (pss_cons (ps_set (i := 4) sc_law_odd.nd rfl (by first | exact Or.inl rfl | exact Or.inr rfl) (k_cl0 c_law_draw rfl hr (pa_cons (pv 0) (pa_cons (pe_callB (k_len (K := K) rfl) rfl b.len boot_len (pa_cons (pv 3) pa_nil)) pa_nil))))
      (pss_cons (ps_setLc (i := 5) (own := [("_law_item", 6)]) rfl sc_law_odd.nd rfl rfl (sw_true rfl rfl rfl (by decide +kernel)) (k_piL (K := K) rfl (pe_lst (pa_cons (pe_op op_add (pe_ix (k_ixT (K := K) rfl) (pv 3) (pv 4) (fun _ _ => rfl)) pe_int) (pa_cons (pe_un un_neg pe_int) (pa_cons pe_bl (pa_cons pe_non (pa_cons pe_str pa_nil))))))) (blkOk_by (own := [("_law_item", 6)]) (N := N_law_odd) (sc := (defScope s_law_odd)) (by decide +kernel)) (fun _ _ _ _ _ => (pg_name (i := 6) sc_law_odd.nd rfl (by first | exact Or.inl rfl | exact Or.inr rfl))) (fun _ _ _ _ _ => pts_nil) (fun _ _ _ _ _ => (pe_op (k_catA (K := K) rfl) (pe_op (k_catA (K := K) rfl) (pe_slice (k_slT (K := K) rfl) (pv 3) po_none (po_some (pv 4))) (pe_tup (pa_cons (pv 6) pa_nil))) (pe_slice (k_slT (K := K) rfl) (pv 3) (po_some (pe_op op_add (pv 4) pe_int)) po_none))))
      (pss_cons (ps_set (i := 5) sc_law_odd.nd rfl (by first | exact Or.inl rfl | exact Or.inr rfl) (pe_op op_cat (pv 5) (pe_lst (pa_cons (pe_callTy (k_listOf (K := K) rfl) rfl b.list_ boot_list (pa_cons (pv 3) pa_nil)) (pa_cons (pe_op (k_catA (K := K) rfl) (pv 3) (pe_tup (pa_cons pe_int pa_nil))) (pa_cons (pe_slice (k_slT (K := K) rfl) (pv 3) (po_some pe_int) po_none) (pa_cons pe_non (pa_cons pe_int (pa_cons pe_str (pa_cons (pe_tup pa_nil) (pa_cons (pe_tup (pa_cons (pv 3) pa_nil)) pa_nil)))))))))))
      (pss_cons (ps_expr (k_app (K := K) rfl (pv 5) (pa_cons (pe_callTy (k_tupleOf (K := K) rfl) rfl b.tuple_ boot_tuple (pa_cons (pe_lc (own := [("_law_size", 7)]) rfl sc_law_odd.nd (k_piL (K := K) rfl (pv 2)) (blkOk_by (own := [("_law_size", 7)]) (N := N_law_odd) (sc := (defScope s_law_odd)) (by decide +kernel)) (fun _ _ _ _ _ => (pg_name (i := 7) sc_law_odd.nd rfl (by first | exact Or.inl rfl | exact Or.inr rfl))) (fun _ _ _ _ _ => pts_nil) (fun _ _ _ _ _ => (pe_op op_add (pv 7) pe_int))) pa_nil)) pa_nil)))
      (pss_one (ps_ret (pe_ix (k_ixL (K := K) rfl) (pv 5) (k_cl0 c_law_draw rfl hr (pa_cons (pv 0) (pa_cons (pe_callB (k_len (K := K) rfl) rfl b.len boot_len (pa_cons (pv 5) pa_nil)) pa_nil))) (fun _ _ => rfl))))))))), ?_⟩
  refine DL.run_fnP  [.no, .no, .no, .no, .no] (Nm := N_law_odd) (n := 3) (k := 5) rfl (hlen _ _ _ _ h) rfl h fun W m ss Φ Ξ G hc => ?_
  try dsimp only [cxOf, Cx.nox, Cx.wish, Cx.blk]
  obtain ⟨Vd, mo, p, m', sz, gs, rfl, np, rfl, hgd, rfl, hΦ⟩ := hc
  obtain ⟨⟨hz1, hz2, hz3⟩, hg, ht⟩ := id hgd
  have hle := len_le_sum hz2
  have hpos := AK_pos hgd
  have hAK := AK_len hz3 hg.l2
  walk_at "d"
  rw [List.length_map]
  refine ⟨Vd, mo, p, _, m' + 2, rfl, np, rfl, hpos, by omega, rfl, fun j hj => ?_⟩
  obtain ⟨k, hk⟩ : ∃ k, (AK sz gs)[j]? = some k := ⟨_, List.getElem?_eq_getElem hj⟩
  have hkb := (AK_mem.mp (List.mem_of_getElem? hk)).1
  refine ops_ixL rfl (atN (d := tD k) (by rw [List.getElem?_map, hk]; rfl)) ?_
  walk_at "d"
  rw [dN_len]
  have hkl := hkb.1
  refine ⟨Vd, mo, p, _, m' + 1, rfl, np, rfl, by omega, by omega, rfl, fun q hq => ?_⟩
  obtain ⟨a, hka⟩ : ∃ a, k[q]? = some a := ⟨_, List.getElem?_eq_getElem hq⟩
  walk_at "d"
  refine de_lcMap (f := fun x => .tup (DL.cutD (dN k) none (some (q : Int)) ++ [x] ++ cutD (dN k) (some ((q : Int) + 1)) none)) ?_
  walk_at "d"
  refine ops_ixT (ds := dN k) (d := .int (a : Nat)) (atN (by rw [dN_get, hka]; rfl)) ?_
  walk_at "d"
  have hcl : ∀ lo hi, (DL.cutD (dN k) lo hi).length ≤ 10 := fun lo hi => Nat.le_trans (cutD_len _ _ _) (by rw [dN_len]; omega)
  refine ⟨by simp, fun x hx => ⟨_, dg_name (by simp), ?_⟩, ?_⟩
  · walk_at "d"
    refine ops_catA ?_ ?_
    · have := hcl none (some (q : Int)); simp; omega
    · walk_at "d"
      refine ops_catA ?_ ⟨rfl, rfl⟩
      have h1 := hcl none (some (q : Int)); have h2 := hcl (some ((q : Int) + 1)) none; simp; omega
  · have hcm : ∀ lo hi x, x ∈ DL.cutD (dN k) lo hi → Pl 59 x ∧ ∀ ds, x ≠ .dit ds := fun lo hi x hx => by
      obtain ⟨j, _, rfl⟩ := dN_mem (cutD_mem hx)
      exact ⟨.int _, fun _ z => by cases z⟩
    have hkm : ∀ x, x ∈ dN k → Pl 59 x ∧ ∀ ds, x ≠ .dit ds := fun x hx => by
      obtain ⟨j, _, rfl⟩ := dN_mem hx
      exact ⟨.int _, fun _ z => by cases z⟩
    have ok0 : ∀ d ∈ [D.int ((a : Int) + 1), D.int (-1), D.bl true, D.non, D.str ("1" : Str)].map (fun x => D.tup (DL.cutD (dN k) none (some (q : Int)) ++ [x] ++ DL.cutD (dN k) (some ((q : Int) + 1)) none)), okV d := fun d hd => by
      obtain ⟨x, hx, rfl⟩ := List.mem_map.mp hd
      have px : Pl 59 x ∧ ∀ ds, x ≠ .dit ds := by
        simp only [List.mem_cons, List.not_mem_nil, or_false] at hx
        rcases hx with rfl | rfl | rfl | rfl | rfl
        · exact ⟨.int _, fun _ z => by cases z⟩
        · exact ⟨.int _, fun _ z => by cases z⟩
        · exact ⟨.bl _, fun _ z => by cases z⟩
        · exact ⟨.non, fun _ z => by cases z⟩
        · exact ⟨.str (by decide +kernel), fun _ z => by cases z⟩
      have key : ∀ y ∈ DL.cutD (dN k) none (some (q : Int)) ++ [x] ++ DL.cutD (dN k) (some ((q : Int) + 1)) none, Pl 59 y ∧ ∀ ds, y ≠ .dit ds := fun y hy => by
        rcases List.mem_append.mp hy with hy | hy
        · rcases List.mem_append.mp hy with hy | hy
          · exact hcm _ _ y hy
          · rw [List.mem_singleton] at hy; subst hy; exact px
        · exact hcm _ _ y hy
      refine okV_tup (fun y hy => (key y hy).1) (fun y hy => (key y hy).2) ?_
      have h1 := hcl none (some (q : Int)); have h2 := hcl (some ((q : Int) + 1)) none; simp; omega
    have len0 : ([D.int ((a : Int) + 1), D.int (-1), D.bl true, D.non, D.str ("1" : Str)].map (fun x => D.tup (DL.cutD (dN k) none (some (q : Int)) ++ [x] ++ DL.cutD (dN k) (some ((q : Int) + 1)) none))).length = 5 := by simp
    generalize [D.int ((a : Int) + 1), D.int (-1), D.bl true, D.non, D.str ("1" : Str)].map (fun x => D.tup (DL.cutD (dN k) none (some (q : Int)) ++ [x] ++ DL.cutD (dN k) (some ((q : Int) + 1)) none)) = r0 at ok0 len0
    refine ⟨rfl, ?_⟩
    walk_at "d"
    refine cb_list (ds := dN k) (.inr rfl) ?_
    walk_at "d"
    refine ops_catA (by simp [dN_len]; omega) ?_
    walk_at "d"
    have ok1 : ∀ d ∈ r0 ++ [D.lst (dN k), D.tup (dN k ++ [D.int 0]), D.tup (DL.cutD (dN k) (some 1) none), D.non, D.int 0, D.str ("kind" : Str), D.tup [], D.tup [tD k]], okV d := fun d hd => by
      rcases List.mem_append.mp hd with hd | hd
      · exact ok0 d hd
      · simp only [List.mem_cons, List.not_mem_nil, or_false] at hd
        rcases hd with rfl | rfl | rfl | rfl | rfl | rfl | rfl | rfl
        · exact okV_at (fun _ z => by cases z) (fun _ z => by cases z) (.lst fun x hx => (hkm x hx).1)
        · have key : ∀ y ∈ dN k ++ [D.int 0], Pl 59 y ∧ ∀ ds, y ≠ .dit ds := fun y hy => by
            rcases List.mem_append.mp hy with hy | hy
            · exact hkm y hy
            · rw [List.mem_singleton] at hy; subst hy; exact ⟨.int _, fun _ z => by cases z⟩
          exact okV_tup (fun y hy => (key y hy).1) (fun y hy => (key y hy).2) (by simp [dN_len]; omega)
        · exact okV_tup (fun y hy => (hcm _ _ y hy).1) (fun y hy => (hcm _ _ y hy).2) (by have := hcl (some 1) none; omega)
        · exact okV_at (fun _ z => by cases z) (fun _ z => by cases z) .non
        · exact okV_at (fun _ z => by cases z) (fun _ z => by cases z) (.int _)
        · exact okV_at (fun _ z => by cases z) (fun _ z => by cases z) (.str (by decide +kernel))
        · exact okV_tup (fun y hy => by cases hy) (fun y hy => by cases hy) (by simp)
        · refine okV_tup (fun y hy => ?_) (fun y hy => ?_) (by simp)
          · rw [List.mem_singleton] at hy; subst hy; exact .tup fun x hx => (by obtain ⟨j, _, rfl⟩ := dN_mem hx; exact .int _)
          · rw [List.mem_singleton] at hy; subst hy; exact fun _ z => by cases z
    have len1 : (r0 ++ [D.lst (dN k), D.tup (dN k ++ [D.int 0]), D.tup (DL.cutD (dN k) (some 1) none), D.non, D.int 0, D.str ("kind" : Str), D.tup [], D.tup [tD k]]).length = 13 := by simp [len0]
    generalize r0 ++ [D.lst (dN k), D.tup (dN k ++ [D.int 0]), D.tup (DL.cutD (dN k) (some 1) none), D.non, D.int 0, D.str ("kind" : Str), D.tup [], D.tup [tD k]] = r1 at ok1 len1
    refine ds_app (i := 5) (ds := r1) rfl rfl (by rw [len1]; decide) ?_
    walk_at "d"
    refine de_lcMap (f := incD) ?_
    walk_at "d"
    refine ⟨by rw [dN_len]; omega, fun x hx => ⟨_, dg_name (by simp), ?_⟩, ?_⟩
    · obtain ⟨n, hn, rfl⟩ := dN_mem hx
      walk_at "d"
      rfl
    · walk_at "d"
      refine cb_tuple (ds := (dN sz).map incD) (.inl rfl) ?_
      have ok2 : ∀ d ∈ r1 ++ [D.tup ((dN sz).map incD)], okV d := fun d hd => by
        rcases List.mem_append.mp hd with hd | hd
        · exact ok1 d hd
        · rw [List.mem_singleton] at hd
          subst hd
          have key : ∀ y ∈ (dN sz).map incD, Pl 59 y ∧ ∀ ds, y ≠ .dit ds := fun y hy => by
            obtain ⟨x, hx, rfl⟩ := List.mem_map.mp hy
            obtain ⟨n, hn, rfl⟩ := dN_mem hx
            exact ⟨.int _, fun _ z => by cases z⟩
          exact okV_tup (fun y hy => (key y hy).1) (fun y hy => (key y hy).2) (by simp [dN_len]; omega)
      have len2 : (r1 ++ [D.tup ((dN sz).map incD)]).length = 14 := by simp [len1]
      refine ⟨D.tup ((dN sz).map incD), rfl, ?_⟩
      dsimp only [List.set_cons_zero, List.set_cons_succ]
      generalize r1 ++ [D.tup ((dN sz).map incD)] = r2 at ok2 len2
      walk_at "d"
      refine ⟨Vd, mo, p, r2.length, m', rfl, np, rfl, by rw [len2]; decide, by rw [len2]; decide, rfl, fun j hj => ?_⟩
      obtain ⟨d, hd⟩ : ∃ d, r2[j]? = some d := ⟨_, List.getElem?_eq_getElem hj⟩
      refine ops_ixL rfl (atN hd) ⟨rfl, hΦ d (ok2 d (List.mem_of_getElem? hd))⟩


end
end Pf
set_option Elab.async false
set_option linter.all false
set_option maxRecDepth 100000
set_option maxHeartbeats 1000000
namespace Pf
open PySem PySem.Spec PyProof.Rows L2 DL
local macro_rules | `(tactic| walk_at "len") => `(tactic| with_unfolding_all first | exact Nat.le_of_ble_eq_true rfl | (simp; done) | (simp; omega))
local macro_rules | `(tactic| walk_at "side") => `(tactic| with_unfolding_all first | exact Or.inr ⟨by omega, by omega⟩ | exact Or.inl ⟨by omega, by omega⟩ | exact ⟨by omega, by omega⟩ | exact ⟨by omega, by omega, by omega⟩ | (show (0 : Int) < _; omega) | decide)
local macro_rules | `(tactic| walk_at "d1") => `(tactic| with_reducible first
  | (refine ds_seq ?_; try dsimp only [List.set_cons_zero, List.set_cons_succ, List.cons_append, List.nil_append, O.frz])
  | refine ds_asg ?_
  | refine ds_ret ?_
  | refine ds_retN ?_
  | refine ds_next ?_
  | refine ds_dropC ?_
  | refine ds_drop0 ?_
  | refine ds_dropB ?_
  | refine ds_if ?_
  | refine dt_test ?_
  | refine dt_B ?_
  | refine dt_not ?_
  | refine dt_and ?_
  | refine dt_or ?_
  | refine dt_yes ?_
  | refine de_int ?_
  | refine de_bl ?_
  | refine de_str ?_
  | refine de_non ?_
  | refine de_varD (by with_unfolding_all rfl) ?_
  | refine de_varO (by with_unfolding_all rfl) ?_
  | refine de_varA (by with_unfolding_all rfl) ?_
  | refine de_varV (by with_unfolding_all rfl) ?_
  | refine de_isi ?_
  | refine de_dget ?_
  | refine de_din ?_
  | refine de_dnew ?_
  | refine de_cb ?_
  | refine de_call0G ?_
  | refine de_callG ?_
  | refine de_andB ?_
  | refine de_orB ?_
  | refine de_notV ?_
  | refine de_ifE ?_
  | refine de_chain ?_
  | refine de_op ?_
  | refine de_neg ?_
  | refine de_tupG ?_
  | refine de_lstG ?_
  | refine de_slL ?_
  | refine de_slT ?_
  | refine do_none ?_
  | refine do_some ?_
  | refine da_cons ?_
  | refine da_nil ?_
  | refine lk_dat ?_
  | refine lk_nil ?_
  | refine ak_dat ?_
  | refine ak_nil ?_
  | refine ak_at ?_
  | refine ak_lst ?_
  | refine lk_lst ?_
  | refine ak_dK ?_
  | refine lk_dK ?_
  | refine da_star ?_
  | refine di_rng1 ?_
  | refine di_rng2 ?_
  | refine di_list ?_
  | refine di_tup ?_
  | refine di_seq ?_
  | refine di_zip ?_
  | refine ops_int ?_
  | (refine ops_cat (by with_unfolding_all rfl) (by with_unfolding_all rfl) ?side ?_; (case side => walk_at "len"))
  | (refine ops_catA ?side ?_; (case side => walk_at "len"))
  | refine ops_eqI ?_
  | refine ops_neI ?_
  | refine ops_bool ?_
  | (refine ops_intC ?side ?_; (case side => walk_at "side"))
  | refine cb_lenL (by with_unfolding_all rfl) ?_
  | refine cb_lenT (by with_unfolding_all rfl) ?_
  | refine cb_lenK (by with_unfolding_all rfl) ?_
  | refine cb_max2 ?_
  | refine cb_min2 ?_
  | refine cb_int ?_
  | refine ⟨fun _ => ?_, fun z => Bool.noConfusion z⟩
  | refine ⟨fun z => Bool.noConfusion z, fun _ => ?_⟩
  | refine ⟨rfl, ?_⟩
  | refine ⟨_, rfl, ?_⟩
  | refine ⟨_, Or.inl (by with_unfolding_all rfl), ?_⟩
  | (with_unfolding_all refine ⟨_, true, rfl, (fun _ z => by cases z), rfl, ?_⟩)
  | (with_unfolding_all refine ⟨_, false, rfl, (fun _ z => by cases z), rfl, ?_⟩))
local macro_rules | `(tactic| walk_at "d") => `(tactic| repeat walk_at "d1")
local macro_rules | `(tactic| walk_at "wk") => `(tactic| repeat first | exact Wk.nil | refine Wk.keep ?_ | refine Wk.drop ?_)
section
variable {P : Program} {w : World} {K : PySem.W.Frag} {mg : Str → Option Value} {base : Heap} {f : Addr} {fd : FuncData} {a_BadSizes a_BadGames a_TooMany a_BadKind : Addr}
def prow (i : Nat) : D := .lst (dN ((List.range (i + 1)).map (KM.ch i)))
theorem atLast {l : List D} {d : D} (h : l.getLast? = some d) : atI l (-1) = some d := by
  rw [List.getLast?_eq_getElem?] at h
  have hi := (List.getElem?_eq_some_iff.mp h).1
  have e : ixN l.length (-1) = some (l.length - 1) := by
    unfold ixN
    rw [if_neg (by omega), if_pos (by omega)]
    congr 1
    omega
  unfold atI
  rw [e]
  exact h
def kN : D → List Nat
  | .tup xs => xs.map fun | .int i => i.toNat | _ => 0
  | _ => []
theorem kN_tD (k : List Nat) : kN (tD k) = k := by
  show (dN k).map _ = k
  unfold dN
  rw [List.map_map]
  conv => rhs; rw [← List.map_id k]
  apply List.map_congr_left
  intro a _
  simp
def dueD (sz : List Nat) (gs : List (Nat × Nat)) (d : D) : D := .int (due sz gs (kN d) : Nat)
theorem dueD_map (sz : List Nat) (gs : List (Nat × Nat)) (l : List (List Nat)) : (l.map tD).map (dueD sz gs) = dN (l.map (due sz gs)) := by
  unfold dN
  rw [List.map_map, List.map_map]
  apply List.map_congr_left
  intro k _
  simp [dueD, kN_tD]
def sumRow (l : List Nat) (d : D) : D := match d with
  | .int i => .int ((l.getD i.toNat 0 + l.getD (i.toNat + 1) 0 : Nat) : Int)
  | _ => .non
def chD (n : Nat) (d : D) : D := match d with
  | .int i => .int (KM.ch n i.toNat : Nat)
  | _ => .non
theorem okD_tD (k : List Nat) : okD (tD k) := ⟨fun _ z => (by cases z), fun xs e x hx ds => by
  cases e
  obtain ⟨n, _, rfl⟩ := dN_mem hx
  exact fun z => by cases z⟩

def C_law : Fc := fun W m ss Φ Ξ => ∃ ns, ss = [.dat (.scr ns)] ∧ (∀ a, ¬ W.L a) ∧ Φ m (.dat (.bl true))

abbrev s_law : Stmt := (top 39)
abbrev N_law : List Str := ["_law_script", "_law_source_here", "_law_rows", "_law_many", "_law_cell_here", "_law_row", "_law_kinds_here", "_law_dues", "_law_whole", "_law_k", "_law_sizes", "_law_games", "_law_value", "_law_right", "_law_told", "_law_kind", "_law_few", "_law_team"]
theorem sc_law : FnScope N_law ["_law_script"] (defScope s_law) := ⟨rfl, rfl, rfl, by decide +kernel, rfl, by decide +kernel, by decide +kernel⟩
theorem ok_law (F : FnP K "law" s_law f fd) (b : BI mg) (c_law_source : Cl P w K mg base CX0 1 "_law_source" ["_law_cell_here"] C_law_source) (c_law_cell : Cl P w K mg base CX0 1 "_law_cell" ["_law_script", "_law_place"] C_law_cell) (c_law_draw : Cl P w K mg base CX0 1 "_law_draw" ["_law_source_here", "_law_limit"] C_law_draw) (c_choices : Cl P w K mg base CX0 1 "choices" ["many", "few"] C_choices) (c_law_setting : Cl P w K mg base CX0 2 "_law_setting" ["_law_source_here"] C_law_setting) (c_law_kinds : Cl P w K mg base CX0 2 "_law_kinds" ["_law_sizes", "_law_games"] C_law_kinds) (c_all_kinds : Cl P w K mg base (L2.CX P w) 5 "all_kinds" ["sizes", "games"] C_all_kinds) (c_is_kind : Cl P w K mg base (L2.CX P w) 5 "is_kind" ["sizes", "games", "value"] C_is_kind) (c_law_due : Cl P w K mg base CX0 2 "_law_due" ["_law_sizes", "_law_games", "_law_kind"] C_law_due) (c_due_of : Cl P w K mg base (L2.CX P w) 6 "due_of" ["sizes", "games", "kind"] (C_due_of a_BadKind)) (c_law_choose : Cl P w K mg base CX0 1 "_law_choose" ["_law_many", "_law_few"] C_law_choose) (c_team_count : Cl P w K mg base (L2.CX P w) 5 "team_count" ["sizes", "games"] C_team_count) (c_law_odd : Cl P w K mg base CX0 2 "_law_odd" ["_law_source_here", "_law_kinds_here", "_law_sizes"] C_law_odd) (c_law_is_right : Cl P w K mg base CX0 1 "_law_is_right" ["_law_kinds_here", "_law_value"] C_law_is_right) (c_law_due_told : Cl P w K mg base CX0 7 "_law_due_told" ["_law_sizes", "_law_games", "_law_value"] C_law_due_told) : FnOk P w K mg base CX0 8 f fd ["_law_script"] (spF K C_law) := by
  have hlen := spF_len (K := K) (C := C_law) (m := 1) fun W m ss Φ Ξ ⟨ns, e, _⟩ => by first | exact e | (rw [e]; rfl)
  refine F.ok sc_law hlen ?_
  intro cdv A outer s H vs Q E hr h
  refine ⟨_, PSs.nox (pss_cons (ps_set (i := 1) sc_law.nd rfl (by first | exact Or.inl rfl | exact Or.inr rfl) (k_cl0 c_law_source rfl hr (pa_cons (k_cl0 c_law_cell rfl hr (pa_cons (pv 0) (pa_cons pe_int pa_nil))) pa_nil)))
      (pss_cons (ps_set (i := 2) sc_law.nd rfl (by first | exact Or.inl rfl | exact Or.inr rfl) (pe_lst (pa_cons (pe_lst (pa_cons pe_int pa_nil)) pa_nil)))
      (pss_cons (ps_for PassesOwn.never rfl (pi_range2 rfl b.range (pa_cons pe_int (pa_cons pe_int pa_nil))) (pg_name (i := 3) sc_law.nd rfl (by first | exact Or.inl rfl | exact Or.inr rfl))
      (pss_cons (ps_set (i := 5) sc_law.nd rfl (by first | exact Or.inl rfl | exact Or.inr rfl) (pe_ix (k_ixL (K := K) rfl) (pv 2) (pe_un un_neg pe_int) (fun _ _ => rfl)))
      (pss_one (ps_expr (k_app (K := K) rfl (pv 2) (pa_cons (pe_op op_cat (pe_op op_cat (pe_lst (pa_cons pe_int pa_nil)) (pe_lc (own := [("_law_k", 9)]) rfl sc_law.nd (pi_range1 rfl b.range (pa_cons (pe_op op_sub (pv 3) pe_int) pa_nil)) (blkOk_by (own := [("_law_k", 9)]) (N := N_law) (sc := (defScope s_law)) (by decide +kernel)) (fun _ _ _ _ _ => (pg_name (i := 9) sc_law.nd rfl (by first | exact Or.inl rfl | exact Or.inr rfl))) (fun _ _ _ _ _ => pts_nil) (fun _ _ _ _ _ => (pe_op op_add (pe_ix (k_ixL (K := K) rfl) (pv 5) (pv 9) (fun _ _ => rfl)) (pe_ix (k_ixL (K := K) rfl) (pv 5) (pe_op op_add (pv 9) pe_int) (fun _ _ => rfl)))))) (pe_lst (pa_cons pe_int pa_nil))) pa_nil))))))
      (pss_cons (ps_set (i := 3) sc_law.nd rfl (by first | exact Or.inl rfl | exact Or.inr rfl) (k_cl0 c_law_draw rfl hr (pa_cons (pv 1) (pa_cons pe_int pa_nil))))
      (pss_cons (ps_if (PW.pt (pw_or (pt_cmpR (k_neD (K := K) rfl hr.units) (pe_lc (own := [("_law_few", 16)]) rfl sc_law.nd (pi_range1 rfl b.range (pa_cons (pe_op op_add (pv 3) pe_int) pa_nil)) (blkOk_by (own := [("_law_few", 16)]) (N := N_law) (sc := (defScope s_law)) (by decide +kernel)) (fun _ _ _ _ _ => (pg_name (i := 16) sc_law.nd rfl (by first | exact Or.inl rfl | exact Or.inr rfl))) (fun _ _ _ _ _ => pts_nil) (fun _ _ _ _ _ => (k_cl0 c_choices rfl hr (pa_cons (pv 3) (pa_cons (pv 16) pa_nil))))) (pe_ix (k_ixL (K := K) rfl) (pv 2) (pv 3) (fun _ _ => rfl)) (nomark _)) (pw_or1 (pt_cmpR (k_neD (K := K) rfl hr.units) (k_cl0 c_choices rfl hr (pa_cons (pe_callB (call_min2 rfl) rfl b.min boot_min (pa_cons (pv 3) (pa_cons pe_int pa_nil))) (pa_cons pe_int pa_nil))) pe_int (nomark _))))) (pss_one (ps_ret pe_bl)) pss_nil)
      (pss_cons (ps_for PassesOwn.never rfl (k_piL (K := K) rfl (pe_slice (k_slL (K := K) rfl) (pv 0) po_none (po_some pe_int))) (pg_name (i := 4) sc_law.nd rfl (by first | exact Or.inl rfl | exact Or.inr rfl))
      (pss_cons (ps_set (i := 1) sc_law.nd rfl (by first | exact Or.inl rfl | exact Or.inr rfl) (k_cl0 c_law_source rfl hr (pa_cons (pv 4) pa_nil)))
      (pss_cons (ps_asg (k_cl0 c_law_setting rfl hr (pa_cons (pv 1) pa_nil)) (k_gTup (K := K) (n := 2) rfl rfl (pgs_cons (pg_name (i := 10) sc_law.nd rfl (by first | exact Or.inl rfl | exact Or.inr rfl)) (pgs_cons (pg_name (i := 11) sc_law.nd rfl (by first | exact Or.inl rfl | exact Or.inr rfl)) pgs_nil))))
      (pss_cons (ps_set (i := 6) sc_law.nd rfl (by first | exact Or.inl rfl | exact Or.inr rfl) (k_cl0 c_law_kinds rfl hr (pa_cons (pv 10) (pa_cons (pv 11) pa_nil))))
      (pss_cons (ps_expr (pe_bm0 PySem.F.plainAttrs_list PySem.F.slot_list_clear PySem.F.type_list_clear mt_clear (k_clL c_all_kinds rfl hr (pa_cons (pv 10) (pa_cons (pv 11) pa_nil)))))
      (pss_cons (ps_if (PW.pt (pw_or (pt_cmpR (k_neD (K := K) rfl hr.units) (k_clL c_all_kinds rfl hr (pa_cons (pv 10) (pa_cons (pv 11) pa_nil))) (pv 6) (nomark _)) (pw_or1 (pt_cmpR (k_neD (K := K) rfl hr.units) (k_clL c_all_kinds rfl hr (pa_cons (pe_callTy (k_tupleOf (K := K) rfl) rfl b.tuple_ boot_tuple (pa_cons (pv 10) pa_nil)) (pa_cons (pe_callTy call_dictD rfl b.dict_ boot_dict (pa_cons (pv 11) pa_nil)) pa_nil))) (pv 6) (nomark _))))) (pss_one (ps_ret pe_bl)) pss_nil)
      (pss_cons (ps_if (pt_cmpR (k_neD (K := K) rfl hr.units) (pe_lc (own := [("_law_kind", 15)]) rfl sc_law.nd (k_piL (K := K) rfl (pv 6)) (blkOk_by (own := [("_law_kind", 15)]) (N := N_law) (sc := (defScope s_law)) (by decide +kernel)) (fun _ _ _ _ _ => (pg_name (i := 15) sc_law.nd rfl (by first | exact Or.inl rfl | exact Or.inr rfl))) (fun _ _ _ _ _ => pts_nil) (fun _ _ _ _ _ => (k_clL c_is_kind rfl hr (pa_cons (pe_callTy (k_tupleOf (K := K) rfl) rfl b.tuple_ boot_tuple (pa_cons (pv 10) pa_nil)) (pa_cons (pv 11) (pa_cons (pv 15) pa_nil)))))) (pe_op op_rep (pe_lst (pa_cons pe_bl pa_nil)) (pe_callB (k_len (K := K) rfl) rfl b.len boot_len (pa_cons (pv 6) pa_nil))) (nomark _)) (pss_one (ps_ret pe_bl)) pss_nil)
      (pss_cons (ps_setLc (i := 7) (own := [("_law_kind", 15)]) rfl sc_law.nd rfl rfl (sw_true rfl rfl rfl (by decide +kernel)) (k_piL (K := K) rfl (pv 6)) (blkOk_by (own := [("_law_kind", 15)]) (N := N_law) (sc := (defScope s_law)) (by decide +kernel)) (fun _ _ _ _ _ => (pg_name (i := 15) sc_law.nd rfl (by first | exact Or.inl rfl | exact Or.inr rfl))) (fun _ _ _ _ _ => pts_nil) (fun _ _ _ _ _ => (k_cl0 c_law_due rfl hr (pa_cons (pv 10) (pa_cons (pv 11) (pa_cons (pv 15) pa_nil))))))
      (pss_cons (ps_if (pt_cmpR (k_neD (K := K) rfl hr.units) (pe_lc (own := [("_law_kind", 15)]) rfl sc_law.nd (k_piL (K := K) rfl (pv 6)) (blkOk_by (own := [("_law_kind", 15)]) (N := N_law) (sc := (defScope s_law)) (by decide +kernel)) (fun _ _ _ _ _ => (pg_name (i := 15) sc_law.nd rfl (by first | exact Or.inl rfl | exact Or.inr rfl))) (fun _ _ _ _ _ => pts_nil) (fun _ _ _ _ _ => (k_clL c_due_of rfl hr (pa_cons (pe_callTy (k_tupleOf (K := K) rfl) rfl b.tuple_ boot_tuple (pa_cons (pv 10) pa_nil)) (pa_cons (pv 11) (pa_cons (pv 15) pa_nil)))))) (pv 7) (nomark _)) (pss_one (ps_ret pe_bl)) pss_nil)
      (pss_cons (ps_set (i := 8) sc_law.nd rfl (by first | exact Or.inl rfl | exact Or.inr rfl) (pe_callB (k_sum (K := K) rfl rfl) rfl b.sum boot_sum (pa_cons (pe_lock (pe_lc (own := [("_law_team", 17)]) rfl sc_law.nd (pi_keys (pv 11)) (blkOk_by (own := [("_law_team", 17)]) (N := N_law) (sc := (defScope s_law)) (by decide +kernel)) (fun _ _ _ _ _ => (pg_name (i := 17) sc_law.nd rfl (by first | exact Or.inl rfl | exact Or.inr rfl))) (fun _ _ _ _ _ => pts_nil) (fun _ _ _ _ _ => (pe_op op_mul (pe_dget (hu_of hr) (pv 11) (pv 17) (fun _ _ => rfl)) (k_cl0 c_law_choose rfl hr (pa_cons (pe_callB (k_sum (K := K) rfl rfl) rfl b.sum boot_sum (pa_cons (pv 10) pa_nil)) (pa_cons (pv 17) pa_nil))))))) pa_nil)))
      (pss_cons (ps_if (PW.pt (pw_or (pt_cmpR (k_neD (K := K) rfl hr.units) (k_clL c_team_count rfl hr (pa_cons (pv 10) (pa_cons (pv 11) pa_nil))) (pv 8) (nomark _)) (pw_or1 (pt_cmpR (k_neD (K := K) rfl hr.units) (pe_callB (k_sum (K := K) rfl rfl) rfl b.sum boot_sum (pa_cons (pv 7) pa_nil)) (pv 8) (nomark _))))) (pss_one (ps_ret pe_bl)) pss_nil)
      (pss_one (ps_for PassesOwn.never rfl (pi_range1 rfl b.range (pa_cons pe_int pa_nil)) (pg_name (i := 9) sc_law.nd rfl (by first | exact Or.inl rfl | exact Or.inr rfl))
      (pss_cons (ps_set (i := 12) sc_law.nd rfl (by first | exact Or.inl rfl | exact Or.inr rfl) (k_cl0 c_law_odd rfl hr (pa_cons (pv 1) (pa_cons (pv 6) (pa_cons (pv 10) pa_nil)))))
      (pss_cons (ps_set (i := 13) sc_law.nd rfl (by first | exact Or.inl rfl | exact Or.inr rfl) (k_cl0 c_law_is_right rfl hr (pa_cons (pv 6) (pa_cons (pv 12) pa_nil))))
      (pss_cons (ps_set (i := 14) sc_law.nd rfl (by first | exact Or.inl rfl | exact Or.inr rfl) (k_clL c_is_kind rfl hr (pa_cons (pv 10) (pa_cons (pv 11) (pa_cons (pv 12) pa_nil)))))
      (pss_cons (ps_if (PW.pt (pw_or (pt_not (pt_val (pe_callB (k_isi (K := K) rfl) rfl b.isinstance boot_isinstance (pa_cons (pv 14) (pa_cons (pe_bltn (v := .ty "bool") rfl b.bool_ boot_bool rfl) pa_nil))))) (pw_or1 (pt_cmpR (k_neD (K := K) rfl hr.units) (pv 14) (pv 13) (nomark _))))) (pss_one (ps_ret pe_bl)) pss_nil)
      (pss_one (ps_if (PW.pt (pw_and (pt_not (pt_val (pv 13))) (pw_and1 (pt_cmpR (k_neD (K := K) rfl hr.units) (k_cl0 c_law_due_told rfl hr (pa_cons (pv 10) (pa_cons (pv 11) (pa_cons (pv 12) pa_nil)))) (pe_tup (pa_cons pe_str (pa_cons pe_bl pa_nil))) (nomark _))))) (pss_one (ps_ret pe_bl)) pss_nil)))))))))))))))))))
      (pss_one (ps_ret pe_bl)))))))), ?_⟩
  refine DL.run_fnP  [.no, .no, .no, .no, .no, .no, .no, .no, .no, .no, .no, .no, .no, .no, .no, .no, .no] (Nm := N_law) (n := 1) (k := 17) rfl (hlen _ _ _ _ h) rfl h fun W m ss Φ Ξ G hc => ?_
  try dsimp only [cxOf, Cx.nox, Cx.wish, Cx.blk]
  obtain ⟨ns, rfl, hL, hΦ⟩ := hc
  walk_at "d"
  refine ⟨ns, 0, rfl, fun x => ?_⟩
  walk_at "d"
  refine ⟨x, rfl, rfl, ?_⟩
  walk_at "d"
  refine ds_for (vs := [3]) ?_
  walk_at "d"
  refine ⟨_, _, rfl, by decide, ?_⟩
  refine ⟨fun i m' ρ => m' = m ∧ ∃ s3 s5, ρ = [.dat (.scr ns), .own (.lst [.int x, .int x, .int 0]), .own (.lst ((List.range (i + 1)).map prow)), s3, .no, s5, .no, .no, .no, .no, .no, .no, .no, .no, .no, .no, .no, .no] ∧ plS s3 = true ∧ plS s5 = true, ⟨rfl, .no, .no, rfl, rfl, rfl⟩, ?_, ?_⟩
  · rintro i d m' ρ hd ⟨rfl, s3, s5, rfl, h3, h5⟩
    obtain ⟨hi, rfl⟩ := rng_at hd
    have hi : i < 60 := hi
    refine ⟨_, dg_name (by simp), ?_⟩
    walk_at "d"
    refine ops_ixL (d := prow i) rfl (atLast (by rw [List.range_succ]; simp)) ?_
    walk_at "d"
    refine ds_app (i := 2) (ds := (List.range (i + 1)).map prow) rfl rfl (by simp; omega) ?_
    walk_at "d"
    refine de_lcMap (f := sumRow ((List.range (i + 1)).map (KM.ch i))) ?_
    walk_at "d"
    refine ⟨by omega, by omega, by rw [rng_len]; omega, fun e he => ⟨_, dg_name (by simp), ?_⟩, ?_⟩
    · obtain ⟨q, hq, rfl⟩ := List.mem_map.mp he
      have hq : q < i := by have := List.mem_range.mp hq; omega
      have g1 : (dN ((List.range (i + 1)).map (KM.ch i)))[q]? = some (D.int (KM.ch i q : Nat)) := by rw [dN_get, List.getElem?_map, List.getElem?_range (by omega)]; rfl
      have g2 : (dN ((List.range (i + 1)).map (KM.ch i)))[q + 1]? = some (D.int (KM.ch i (q + 1) : Nat)) := by rw [dN_get, List.getElem?_map, List.getElem?_range (by omega)]; rfl
      walk_at "d"
      rw [Int.zero_add]
      refine ops_ixL rfl (atN g1) ?_
      walk_at "d"
      rw [show ((q : Nat) : Int) + 1 = ((q + 1 : Nat) : Int) by omega]
      refine ops_ixL rfl (atN g2) ?_
      walk_at "d"
      show S.dat _ = S.dat _
      simp [sumRow, List.getD, List.getElem?_range (show q < i + 1 by omega), List.getElem?_range (show q + 1 < i + 1 by omega)]
    · have e1 : (rngD 0 (1 + (i : Nat) - 1 : Int).toNat).map (sumRow ((List.range (i + 1)).map (KM.ch i))) = dN ((List.range i).map fun k => KM.ch i k + KM.ch i (k + 1)) := by
        rw [show (1 + (i : Nat) - 1 : Int).toNat = i by omega]
        unfold rngD dN
        rw [List.map_map, List.map_map]
        apply List.map_congr_left
        intro q hq
        have hq := List.mem_range.mp hq
        simp [sumRow, List.getD, List.getElem?_range (show q < i + 1 by omega), List.getElem?_range (show q + 1 < i + 1 by omega)]
      rw [e1]
      refine ops_cat rfl rfl (by simp [dN_len]; omega) ?_
      walk_at "d"
      refine ops_cat rfl rfl (by simp [dN_len]; omega) ?_
      have e2 : D.lst ([D.int 1] ++ dN ((List.range i).map fun k => KM.ch i k + KM.ch i (k + 1)) ++ [D.int 1]) = prow (i + 1) := by
        unfold prow
        rw [prow_succ]
        simp [dN]
      refine ⟨prow (i + 1), congrArg S.dat e2, rfl, .dat (.int (1 + (i : Nat))), .dat (prow i), ?_, rfl, rfl⟩
      rw [List.range_succ (n := i + 1), List.map_append]
      rfl
  · rintro m' ρ ⟨rfl, s3, s5, rfl, h3, h5⟩
    rw [rng_len]
    refine ds_forget (ρ' := [.dat (.scr ns), .own (.lst [.int x, .int x, .int 0]), .own (.lst ((List.range 61).map prow)), .no, .no, .no, .no, .no, .no, .no, .no, .no, .no, .no, .no, .no, .no, .no]) (by walk_at "wk") ?_
    refine ds_frz (i := 2) rfl rfl (ds_src (i := 1) 1 rfl ⟨by decide, by decide⟩ rfl fun p G0 H0 np => ?_)
    dsimp only [List.set_cons_zero, List.set_cons_succ, O.frz]
    walk_at "d"
    refine ⟨W, m', p, 61, 0, rfl, np, rfl, by decide, by decide, rfl, fun many hm => ?_⟩
    walk_at "d"
    refine de_lcMap (f := chD many) ?_
    walk_at "d"
    refine ⟨by omega, by omega, by rw [rng_len]; omega, fun e he => ⟨_, dg_name (by simp), ?_⟩, ?_⟩
    · obtain ⟨q, hq, rfl⟩ := List.mem_map.mp he
      have hq : q < many + 1 := by have := List.mem_range.mp hq; omega
      walk_at "d"
      rw [Int.zero_add]
      refine ⟨many, q, rfl, by omega, by omega, rfl, ?_⟩
      simp [chD, S.frz]
    · walk_at "d"
      refine ops_ixL rfl (atN (d := prow many) (by rw [List.getElem?_map, List.getElem?_range (by omega)]; rfl)) ?_
      have e1 : (rngD 0 ((many : Nat) + 1 : Int).toNat).map (chD many) = dN ((List.range (many + 1)).map (KM.ch many)) := by
        rw [show ((many : Nat) + 1 : Int).toNat = many + 1 by omega]
        unfold rngD dN
        rw [List.map_map, List.map_map]
        apply List.map_congr_left
        intro q _
        simp [chD]
      rw [e1]
      refine ops_neSelf (d := prow many) (.lst fun e he => by obtain ⟨j, _, rfl⟩ := dN_mem he; exact .int _) rfl rfl ?_
      walk_at "d"
      refine ⟨min many 59, 60, by rw [show min ((many : Nat) : Int) 59 = ((min many 59 : Nat) : Int) by omega]; rfl, by omega, by omega, ?_⟩
      rw [KM.ch_gt (by omega)]
      walk_at "d"
      refine ds_forW (vs := [4]) ?_
      walk_at "d"
      refine ⟨fun i mm ρ => mm = 0 ∧ ρ = [.dat (.scr ns), .no, .no, .no, .no, .no, .no, .no, .no, .no, .no, .no, .no, .no, .no, .no, .no, .no], ⟨_, by walk_at "wk", rfl, rfl⟩, ?_, ?_⟩
      · rintro i d mm ρ hd ⟨rfl, rfl⟩
        obtain ⟨y, _, rfl⟩ := List.mem_map.mp (cutD_mem (List.mem_of_getElem? hd))
        refine ⟨_, dg_name (by simp), ?_⟩
        walk_at "d"
        refine ⟨y, rfl, rfl, ?_⟩
        have np' : ∀ a, ¬ (srcW W m' p).L a := hL
        refine ds_src (i := 1) 200 rfl ⟨by decide, by decide⟩ rfl fun p2 G2 H2 np2 => ?_
        dsimp only [List.set_cons_zero, List.set_cons_succ]
        walk_at "d"
        refine ds_asgU (vs := [10, 11]) (d := .non) ?_
        walk_at "d"
        refine ⟨srcW W m' p, 0, p2, 100, rfl, np2, np', rfl, rfl, fun sz gs m2 hm2 hgd hsum => ⟨_, _, rfl, dg_tup2 (by simp) (by simp), ?_⟩⟩
        obtain ⟨hz, hg, ht⟩ := id hgd
        have hnL : ∀ a, ¬ (srcW (srcW W m' p) 0 p2).L a := hL
        have hAl := AK_len hz.2.2 hg.l2
        have hPl : Pl 64 (.lst ((AK sz gs).map tD)) := .lst fun e he => by
          obtain ⟨k, _, rfl⟩ := List.mem_map.mp he
          exact .tup fun x hx => by obtain ⟨n, _, rfl⟩ := dN_mem hx; exact .int _
        walk_at "d"
        refine ⟨sz, gs, rfl, hgd, rfl, ds_frz (i := 6) rfl rfl ?_⟩
        walk_at "d"
        refine de_clear ?_
        walk_at "d"
        refine ⟨_, sz, gs, rfl, .inl rfl, hgd, hnL, ⟨_, rfl⟩, ?_⟩
        walk_at "d"
        refine ⟨_, sz, gs, rfl, .inl rfl, hgd, hnL, ?_⟩
        walk_at "d"
        refine ops_neSelf hPl rfl rfl ?_
        walk_at "d"
        refine cb_tuple (ds := dN sz) (.inl rfl) ?_
        walk_at "d"
        refine cb_dict (ds := gD gs) rfl ?_
        walk_at "d"
        refine ⟨_, sz, gs, rfl, .inr rfl, hgd, hnL, ?_⟩
        walk_at "d"
        refine ops_neSelf hPl rfl rfl ?_
        walk_at "d"
        refine de_lcMap (f := fun _ => .bl true) ?_
        walk_at "d"
        refine ⟨by simp; omega, fun e he => ⟨_, dg_name (by simp), ?_⟩, ?_⟩
        · obtain ⟨k, hk, rfl⟩ := List.mem_map.mp he
          obtain ⟨hb, v, hv⟩ := AK_mem.mp hk
          walk_at "d"
          refine cb_tuple (ds := dN sz) (.inl rfl) ?_
          walk_at "d"
          exact ⟨_, sz, gs, tD k, true, rfl, .inr rfl, hgd, hnL, okD_tD k, isK_iff.mpr ⟨k, v, rfl, hb, gv_mem hg.nd hv⟩, rfl, rfl⟩
        · walk_at "d"
          rw [List.length_map]
          refine ops_rep (ds := [.bl true]) rfl ⟨by omega, by omega⟩ (by simp; omega) ?_
          rw [show (List.replicate ((AK sz gs).length : Int).toNat [D.bl true]).flatten = ((AK sz gs).map tD).map (fun _ => D.bl true) by simp [Function.comp_def, List.map_const']]
          refine ops_neSelf (d := .lst (((AK sz gs).map tD).map (fun _ => D.bl true))) (.lst fun e he => by obtain ⟨_, _, rfl⟩ := List.mem_map.mp he; exact .bl _) rfl rfl ?_
          walk_at "d"
          refine de_lcMap (f := dueD sz gs) ?_
          walk_at "d"
          refine ⟨by simp; omega, fun e he => ⟨_, dg_name (by simp), ?_⟩, ?_⟩
          · obtain ⟨k, hk, rfl⟩ := List.mem_map.mp he
            obtain ⟨hb, v, hv⟩ := AK_mem.mp hk
            walk_at "d"
            refine ⟨sz, gs, k, v, rfl, hz, hb, gv_mem hg.nd hv, rfl, ?_⟩
            simp [dueD, kN_tD, due, gv_mem hg.nd hv, S.frz]
          · rw [dueD_map]
            refine ⟨rfl, ?_⟩
            refine ds_frz (i := 7) rfl rfl ?_
            walk_at "d"
            refine de_lcMap (f := dueD sz gs) ?_
            walk_at "d"
            refine ⟨by simp; omega, fun e he => ⟨_, dg_name (by simp), ?_⟩, ?_⟩
            · obtain ⟨k, hk, rfl⟩ := List.mem_map.mp he
              obtain ⟨hb, v, hv⟩ := AK_mem.mp hk
              have hgv := gv_mem hg.nd hv
              walk_at "d"
              refine cb_tuple (ds := dN sz) (.inl rfl) ?_
              walk_at "d"
              refine ⟨_, sz, gs, tD k, rfl, .inr rfl, hgd, hnL, okD_tD k, fun k' v' e' hb' hv' => ?_, fun hk' => ?_⟩
              · obtain rfl : k = k' := by rw [← kN_tD k, e', kN_tD]
                rw [hgv] at hv'
                cases hv'
                exact ⟨rfl, by simp [dueD, kN_tD, due, hgv, S.frz]⟩
              · rw [isK_iff.mpr ⟨k, v, rfl, hb, hgv⟩] at hk'
                cases hk'
            · rw [dueD_map]
              walk_at "d"
              refine ops_neSelf (d := .lst (dN ((AK sz gs).map (due sz gs)))) (.lst fun e he => by obtain ⟨n, _, rfl⟩ := dN_mem he; exact .int _) rfl rfl ?_
              walk_at "d"
              have g2 := hg.l2
              refine de_lcK (atF sz.sum gs) rfl hnL (by rw [gD_len]; omega) (fun d E Ξ G1 H1 q hp => ⟨_, dg_name (by simp), ?_⟩) ?_
              · obtain ⟨t, v, htv, rfl⟩ := gD_mem hp
                obtain ⟨o1, o2, o3, o4, o5⟩ := hg.ok t v htv
                walk_at "d"
                refine ⟨_, Sum.inl (t : Int), D.int (v : Nat), rfl, rfl, by rw [gD_val, gv_mem hg.nd htv]; rfl, ?_⟩
                walk_at "d"
                refine cb_sumN (.inl rfl) ?_
                walk_at "d"
                refine ⟨sz.sum, t, rfl, by omega, by omega, ?_⟩
                walk_at "d"
                simp [atF, keyD, gv_mem hg.nd htv, S.frz]
              · walk_at "d"
                rw [atF_eq hg.nd]
                refine cb_sumN (.inl rfl) ?_
                rw [show (gs.map fun p => p.2 * KM.ch sz.sum p.1).sum = tot sz.sum gs from rfl]
                walk_at "d"
                refine ⟨_, sz, gs, rfl, .inl rfl, hgd, hnL, ?_⟩
                walk_at "d"
                rw [show (!decide (((tot sz.sum gs : Nat) : Int) = (tot sz.sum gs : Nat))) = false by simp]
                walk_at "d"
                refine cb_sumN (.inl rfl) ?_
                rw [dues_tot hg.nd]
                walk_at "d"
                rw [show (!decide (((tot sz.sum gs : Nat) : Int) = (tot sz.sum gs : Nat))) = false by simp]
                walk_at "d"
                refine ds_forW (vs := [9]) ?_
                walk_at "d"
                refine ⟨by decide, by decide, ?_⟩
                refine ⟨fun i mm ρ => mm + 3 * i = m2 ∧ ρ = [.dat (.scr ns), .at_ p2, .no, .no, .no, .no, .dat (.lst ((AK sz gs).map tD)), .no, .no, .no, .dat (.lst (dN sz)), .dat (.dic (gD gs)), .no, .no, .no, .no, .no, .no], ⟨_, by walk_at "wk", rfl, rfl⟩, ?_, ?_⟩
                · rintro i d mm ρ hd ⟨hmm, rfl⟩
                  obtain ⟨hi, rfl⟩ := rng_at hd
                  have hi : i < 6 := hi
                  obtain ⟨m3, rfl⟩ : ∃ m3, mm = m3 + 3 := ⟨mm - 3, by omega⟩
                  refine ⟨_, dg_name (by simp), ?_⟩
                  walk_at "d"
                  refine ⟨srcW W m' p, 0, p2, m3, sz, gs, rfl, np2, rfl, hgd, rfl, fun d hd => ?_⟩
                  walk_at "d"
                  refine ⟨sz, gs, d, _, rfl, hgd, hd, rfl, ?_⟩
                  walk_at "d"
                  refine ⟨_, sz, gs, d, _, rfl, .inl rfl, hgd, hnL, hd.1, rfl, ?_⟩
                  walk_at "d"
                  refine ops_neSelf (d := .bl (isK sz gs d)) (.bl _) rfl rfl ?_
                  walk_at "d"
                  cases hk : isK sz gs d with
                  | true =>
                    walk_at "d"
                    exact ⟨_, by walk_at "wk", by omega, rfl⟩
                  | false =>
                    walk_at "d"
                    refine ⟨sz, gs, d, rfl, hgd, hnL, hd.1, hd.2.1, hk, ?_⟩
                    walk_at "d"
                    refine ops_neSelf (d := .tup [.str ("kind" : Str), .bl true]) (.tup fun e he => ?_) rfl rfl ?_
                    · simp only [List.mem_cons, List.not_mem_nil, or_false] at he
                      rcases he with rfl | rfl
                      · exact .str (by decide +kernel)
                      · exact .bl _
                    · walk_at "d"
                      exact ⟨_, by walk_at "wk", by omega, rfl⟩
                · rintro mm ρ ⟨hmm, rfl⟩
                  exact ⟨_, by walk_at "wk", rfl, rfl⟩
      · rintro mm ρ ⟨rfl, rfl⟩
        walk_at "d"
        exact hΦ


end
end Pf
set_option Elab.async false
set_option linter.all false
set_option maxRecDepth 100000
set_option maxHeartbeats 0
namespace Pf
open PySem PySem.Spec PyProof.Rows L2 DL
section
variable {P : Program} {w : World} {K : PySem.W.Frag} {mg : Str → Option Value} {base : Heap} {f : Addr} {fd : FuncData}
abbrev si_BadGames : Stmt := (inClass (top 3) 0)
theorem sci_BadGames : FnScope ["self", "value"] ["self", "value"] (defScope si_BadGames) := ⟨rfl, rfl, rfl, by decide +kernel, rfl, by decide +kernel, by decide +kernel⟩
theorem ini_BadGames {C : Addr} (F : FunD K "__init__" "BadGames.__init__" (defArgs si_BadGames) (defBody si_BadGames) (defScope si_BadGames) [] [] f fd) (T : OexC K C) (n0 : PySem.W.findIn K (.ref C) "value" = some none) : FnOk P w K mg base CX0 1 f fd ["self", "value"] (spX C ["value"]) := by
  refine F.ok sci_BadGames (fun vs H Q E h => by obtain ⟨a, ws, rfl, hl, _⟩ := h; simp [hl]) ?_
  intro cdv A outer s H vs Q E hr h
  exact ⟨_, PSs.nox (pss_one (ps_ost (pv 0) (pv 1))), init1 T n0 h⟩
abbrev si_BadKind : Stmt := (inClass (top 5) 0)
theorem sci_BadKind : FnScope ["self", "value"] ["self", "value"] (defScope si_BadKind) := ⟨rfl, rfl, rfl, by decide +kernel, rfl, by decide +kernel, by decide +kernel⟩
theorem ini_BadKind {C : Addr} (F : FunD K "__init__" "BadKind.__init__" (defArgs si_BadKind) (defBody si_BadKind) (defScope si_BadKind) [] [] f fd) (T : OexC K C) (n0 : PySem.W.findIn K (.ref C) "value" = some none) : FnOk P w K mg base CX0 1 f fd ["self", "value"] (spX C ["value"]) := by
  refine F.ok sci_BadKind (fun vs H Q E h => by obtain ⟨a, ws, rfl, hl, _⟩ := h; simp [hl]) ?_
  intro cdv A outer s H vs Q E hr h
  exact ⟨_, PSs.nox (pss_one (ps_ost (pv 0) (pv 1))), init1 T n0 h⟩
abbrev si_BadSizes : Stmt := (inClass (top 2) 0)
theorem sci_BadSizes : FnScope ["self", "value"] ["self", "value"] (defScope si_BadSizes) := ⟨rfl, rfl, rfl, by decide +kernel, rfl, by decide +kernel, by decide +kernel⟩
theorem ini_BadSizes {C : Addr} (F : FunD K "__init__" "BadSizes.__init__" (defArgs si_BadSizes) (defBody si_BadSizes) (defScope si_BadSizes) [] [] f fd) (T : OexC K C) (n0 : PySem.W.findIn K (.ref C) "value" = some none) : FnOk P w K mg base CX0 1 f fd ["self", "value"] (spX C ["value"]) := by
  refine F.ok sci_BadSizes (fun vs H Q E h => by obtain ⟨a, ws, rfl, hl, _⟩ := h; simp [hl]) ?_
  intro cdv A outer s H vs Q E hr h
  exact ⟨_, PSs.nox (pss_one (ps_ost (pv 0) (pv 1))), init1 T n0 h⟩
abbrev si_TooMany : Stmt := (inClass (top 4) 0)
theorem sci_TooMany : FnScope ["self", "count"] ["self", "count"] (defScope si_TooMany) := ⟨rfl, rfl, rfl, by decide +kernel, rfl, by decide +kernel, by decide +kernel⟩
theorem ini_TooMany {C : Addr} (F : FunD K "__init__" "TooMany.__init__" (defArgs si_TooMany) (defBody si_TooMany) (defScope si_TooMany) [] [] f fd) (T : OexC K C) (n0 : PySem.W.findIn K (.ref C) "count" = some none) : FnOk P w K mg base CX0 1 f fd ["self", "count"] (spX C ["count"]) := by
  refine F.ok sci_TooMany (fun vs H Q E h => by obtain ⟨a, ws, rfl, hl, _⟩ := h; simp [hl]) ?_
  intro cdv A outer s H vs Q E hr h
  exact ⟨_, PSs.nox (pss_one (ps_ost (pv 0) (pv 1))), init1 T n0 h⟩
end
def d_law_source : He.DefD := ⟨("_law_source", none), "_law_source", "_law_source", defArgs (top 29), defBody (top 29), defScope (top 29), [], []⟩
def d_law_cell : He.DefD := ⟨("_law_cell", none), "_law_cell", "_law_cell", defArgs (top 28), defBody (top 28), defScope (top 28), [], []⟩
def d_law_draw : He.DefD := ⟨("_law_draw", none), "_law_draw", "_law_draw", defArgs (top 30), defBody (top 30), defScope (top 30), [], []⟩
def d_choices : He.DefD := ⟨("choices", none), "choices", "choices", defArgs (top 13), defBody (top 13), defScope (top 13), [], []⟩
def d_law_choose : He.DefD := ⟨("_law_choose", none), "_law_choose", "_law_choose", defArgs (top 31), defBody (top 31), defScope (top 31), [], []⟩
def d_law_setting : He.DefD := ⟨("_law_setting", none), "_law_setting", "_law_setting", defArgs (top 35), defBody (top 35), defScope (top 35), [], []⟩
def d_law_tuples : He.DefD := ⟨("_law_tuples", none), "_law_tuples", "_law_tuples", defArgs (top 32), defBody (top 32), defScope (top 32), [], []⟩
def d_law_kinds : He.DefD := ⟨("_law_kinds", none), "_law_kinds", "_law_kinds", defArgs (top 33), defBody (top 33), defScope (top 33), [], []⟩
def d_is_list : He.DefD := ⟨("is_list", none), "is_list", "is_list", defArgs (top 12), defBody (top 12), defScope (top 12), [], []⟩
def d_is_between : He.DefD := ⟨("is_between", none), "is_between", "is_between", defArgs (top 11), defBody (top 11), defScope (top 11), [], []⟩
def d_are_sizes : He.DefD := ⟨("are_sizes", none), "are_sizes", "are_sizes", defArgs (top 14), defBody (top 14), defScope (top 14), [], []⟩
def d_check_sizes : He.DefD := ⟨("check_sizes", none), "check_sizes", "check_sizes", defArgs (top 17), defBody (top 17), defScope (top 17), [], []⟩
def d_are_games : He.DefD := ⟨("are_games", none), "are_games", "are_games", defArgs (top 15), defBody (top 15), defScope (top 15), [], []⟩
def d_all_teams : He.DefD := ⟨("all_teams", none), "all_teams", "all_teams", defArgs (top 16), defBody (top 16), defScope (top 16), [], []⟩
def d_check_games : He.DefD := ⟨("check_games", none), "check_games", "check_games", defArgs (top 18), defBody (top 18), defScope (top 18), [], []⟩
def d_check_setting : He.DefD := ⟨("check_setting", none), "check_setting", "check_setting", defArgs (top 19), defBody (top 19), defScope (top 19), [], []⟩
def d_tuples_below : He.DefD := ⟨("tuples_below", none), "tuples_below", "tuples_below", defArgs (top 21), defBody (top 21), defScope (top 21), [], []⟩
def d_all_kinds : He.DefD := ⟨("all_kinds", none), "all_kinds", "all_kinds", defArgs (top 22), defBody (top 22), defScope (top 22), [], []⟩
def d_is_tuple_below : He.DefD := ⟨("is_tuple_below", none), "is_tuple_below", "is_tuple_below", defArgs (top 23), defBody (top 23), defScope (top 23), [], []⟩
def d_is_kind : He.DefD := ⟨("is_kind", none), "is_kind", "is_kind", defArgs (top 24), defBody (top 24), defScope (top 24), [], []⟩
def d_law_due : He.DefD := ⟨("_law_due", none), "_law_due", "_law_due", defArgs (top 34), defBody (top 34), defScope (top 34), [], []⟩
def d_ways_of : He.DefD := ⟨("ways_of", none), "ways_of", "ways_of", defArgs (top 25), defBody (top 25), defScope (top 25), [], []⟩
def d_due_of : He.DefD := ⟨("due_of", none), "due_of", "due_of", defArgs (top 26), defBody (top 26), defScope (top 26), [], []⟩
def d_team_count : He.DefD := ⟨("team_count", none), "team_count", "team_count", defArgs (top 20), defBody (top 20), defScope (top 20), [], []⟩
def d_law_odd : He.DefD := ⟨("_law_odd", none), "_law_odd", "_law_odd", defArgs (top 36), defBody (top 36), defScope (top 36), [], []⟩
def d_law_is_right : He.DefD := ⟨("_law_is_right", none), "_law_is_right", "_law_is_right", defArgs (top 37), defBody (top 37), defScope (top 37), [], []⟩
def d_law_due_told : He.DefD := ⟨("_law_due_told", none), "_law_due_told", "_law_due_told", defArgs (top 38), defBody (top 38), defScope (top 38), [], []⟩
def d_law : He.DefD := ⟨("law", none), "law", "law", defArgs (top 39), defBody (top 39), defScope (top 39), [], []⟩
def d_BadGames___init : He.DefD := ⟨("BadGames", some "__init__"), "__init__", "BadGames.__init__", defArgs (inClass (top 3) 0), defBody (inClass (top 3) 0), defScope (inClass (top 3) 0), [], []⟩
def d_BadKind___init : He.DefD := ⟨("BadKind", some "__init__"), "__init__", "BadKind.__init__", defArgs (inClass (top 5) 0), defBody (inClass (top 5) 0), defScope (inClass (top 5) 0), [], []⟩
def d_BadSizes___init : He.DefD := ⟨("BadSizes", some "__init__"), "__init__", "BadSizes.__init__", defArgs (inClass (top 2) 0), defBody (inClass (top 2) 0), defScope (inClass (top 2) 0), [], []⟩
def d_TooMany___init : He.DefD := ⟨("TooMany", some "__init__"), "__init__", "TooMany.__init__", defArgs (inClass (top 4) 0), defBody (inClass (top 4) 0), defScope (inClass (top 4) 0), [], []⟩
def fn : List He.DefD := [d_law_source, d_law_cell, d_law_draw, d_choices, d_law_choose, d_law_setting, d_law_tuples, d_law_kinds, d_is_list, d_is_between, d_are_sizes, d_check_sizes, d_are_games, d_all_teams, d_check_games, d_check_setting, d_tuples_below, d_all_kinds, d_is_tuple_below, d_is_kind, d_law_due, d_ways_of, d_due_of, d_team_count, d_law_odd, d_law_is_right, d_law_due_told, d_law, d_BadGames___init, d_BadKind___init, d_BadSizes___init, d_TooMany___init]
def fa : List He.Fa := [.glo "law", .free "len", .free "isinstance", .free "int", .free "bool", .free "list", .free "tuple", .free "dict", .free "range", .free "max", .free "min", .free "sum", .free "all", .free "any", .free "sorted", .free "zip", .int "MOST_PEOPLE" 10, .int "MOST_SIZE" 4, .int "MOST_TEAMS" 130, .int "MOST_TIMES" 3, .noat "BadGames" "value", .glo "BadGames", .exm "BadGames" "BadGames" true, .meth "BadGames" "__init__", .noat "BadKind" "value", .glo "BadKind", .exm "BadKind" "BadKind" true, .meth "BadKind" "__init__", .noat "BadSizes" "value", .glo "BadSizes", .exm "BadSizes" "BadSizes" true, .meth "BadSizes" "__init__", .noat "TooMany" "count", .glo "TooMany", .exm "TooMany" "TooMany" true, .meth "TooMany" "__init__", .glo "_law_source", .glo "_law_cell", .glo "_law_draw", .glo "choices", .glo "_law_choose", .glo "_law_setting", .glo "_law_tuples", .glo "_law_kinds", .glo "is_list", .glo "is_between", .glo "are_sizes", .glo "check_sizes", .glo "are_games", .glo "all_teams", .glo "check_games", .glo "check_setting", .glo "tuples_below", .glo "all_kinds", .glo "is_tuple_below", .glo "is_kind", .glo "_law_due", .glo "ways_of", .glo "due_of", .glo "team_count", .glo "_law_odd", .glo "_law_is_right", .glo "_law_due_told"]
def ex (K : PySem.W.Frag) : Bool := oexB K (He.ga K "BadGames") && (oexB K (He.ga K "BadKind") && (oexB K (He.ga K "BadSizes") && (oexB K (He.ga K "TooMany"))))
abbrev R : PySem.W.OpenRow := PySem.W.OpenLaw.row PySem.Challenge.rw_allteams_k01_choices_kinds_and_dues
abbrev hk : PySem.W.Hook := He.hookX 5 fa fn [] [] ex
def ob (s : PySem.W.SharedT) : He.AlX := He.obsX 5 fa fn [] [] ex (HandSHeadRun.getT s)
theorem ob_eq (s : PySem.W.SharedT) : ob s = hk.obs s.abs := He.obsX_eq (HandSHeadRun.getT_eq s)
def loose0 : List Str := ["TeamError", "BadSizes", "BadGames", "TooMany", "BadKind", "MOST_PEOPLE", "MOST_SIZE", "MOST_TIMES", "MOST_TEAMS", "is_between", "is_list", "choices", "are_sizes", "are_games", "all_teams", "check_sizes", "check_games", "check_setting", "team_count", "tuples_below", "all_kinds", "is_tuple_below", "is_kind", "ways_of", "due_of", "_law_cell", "_law_source", "_law_draw", "_law_choose", "_law_tuples"]
def loose1 : List Str := ["_law_kinds", "_law_due", "_law_setting", "_law_odd", "_law_is_right", "_law_due_told"]
abbrev loose : List Str := loose0 ++ loose1
theorem run (w : World) : HandSHeadRun.RunEq R (PySem.W.view R.prog [39]) hk ob 4000 loose w := by
  intro os
  kernel_rfl
theorem facts {P : Program} {w : World} {K : PySem.W.Frag} {h : Heap} {mg : Str → Option Value} {f : Addr} (X : K.In h) (G : h.Ns mainGlobals mg) (hfa : mg ("law" : Str) = some (.ref f)) (c : He.SaysX fa fn [] [] ex w h K) :
    ∃ fd : FuncData, (∀ (s : Shared) (v : Value), BindsTo s fd ⟨[v], []⟩ [("_law_script", v)]) ∧ ∀ base : Heap, K.In base → base.Ns mainGlobals mg → FnOk P w K mg base CX0 8 f fd ["_law_script"] (spF K C_law) := by
  obtain ⟨fd_law_source, F_law_source⟩ := c.t.d.def_ 0 (d := d_law_source) rfl
  obtain ⟨fd_law_cell, F_law_cell⟩ := c.t.d.def_ 1 (d := d_law_cell) rfl
  obtain ⟨fd_law_draw, F_law_draw⟩ := c.t.d.def_ 2 (d := d_law_draw) rfl
  obtain ⟨fd_choices, F_choices⟩ := c.t.d.def_ 3 (d := d_choices) rfl
  obtain ⟨fd_law_choose, F_law_choose⟩ := c.t.d.def_ 4 (d := d_law_choose) rfl
  obtain ⟨fd_law_setting, F_law_setting⟩ := c.t.d.def_ 5 (d := d_law_setting) rfl
  obtain ⟨fd_law_tuples, F_law_tuples⟩ := c.t.d.def_ 6 (d := d_law_tuples) rfl
  obtain ⟨fd_law_kinds, F_law_kinds⟩ := c.t.d.def_ 7 (d := d_law_kinds) rfl
  obtain ⟨fd_is_list, F_is_list⟩ := c.t.d.def_ 8 (d := d_is_list) rfl
  obtain ⟨fd_is_between, F_is_between⟩ := c.t.d.def_ 9 (d := d_is_between) rfl
  obtain ⟨fd_are_sizes, F_are_sizes⟩ := c.t.d.def_ 10 (d := d_are_sizes) rfl
  obtain ⟨fd_check_sizes, F_check_sizes⟩ := c.t.d.def_ 11 (d := d_check_sizes) rfl
  obtain ⟨fd_are_games, F_are_games⟩ := c.t.d.def_ 12 (d := d_are_games) rfl
  obtain ⟨fd_all_teams, F_all_teams⟩ := c.t.d.def_ 13 (d := d_all_teams) rfl
  obtain ⟨fd_check_games, F_check_games⟩ := c.t.d.def_ 14 (d := d_check_games) rfl
  obtain ⟨fd_check_setting, F_check_setting⟩ := c.t.d.def_ 15 (d := d_check_setting) rfl
  obtain ⟨fd_tuples_below, F_tuples_below⟩ := c.t.d.def_ 16 (d := d_tuples_below) rfl
  obtain ⟨fd_all_kinds, F_all_kinds⟩ := c.t.d.def_ 17 (d := d_all_kinds) rfl
  obtain ⟨fd_is_tuple_below, F_is_tuple_below⟩ := c.t.d.def_ 18 (d := d_is_tuple_below) rfl
  obtain ⟨fd_is_kind, F_is_kind⟩ := c.t.d.def_ 19 (d := d_is_kind) rfl
  obtain ⟨fd_law_due, F_law_due⟩ := c.t.d.def_ 20 (d := d_law_due) rfl
  obtain ⟨fd_ways_of, F_ways_of⟩ := c.t.d.def_ 21 (d := d_ways_of) rfl
  obtain ⟨fd_due_of, F_due_of⟩ := c.t.d.def_ 22 (d := d_due_of) rfl
  obtain ⟨fd_team_count, F_team_count⟩ := c.t.d.def_ 23 (d := d_team_count) rfl
  obtain ⟨fd_law_odd, F_law_odd⟩ := c.t.d.def_ 24 (d := d_law_odd) rfl
  obtain ⟨fd_law_is_right, F_law_is_right⟩ := c.t.d.def_ 25 (d := d_law_is_right) rfl
  obtain ⟨fd_law_due_told, F_law_due_told⟩ := c.t.d.def_ 26 (d := d_law_due_told) rfl
  obtain ⟨fd_law, F_law⟩ := c.t.d.def_ 27 (d := d_law) rfl
  obtain ⟨fd_BadGames___init, F_BadGames___init⟩ := c.t.d.def_ 28 (d := d_BadGames___init) rfl
  obtain ⟨fd_BadKind___init, F_BadKind___init⟩ := c.t.d.def_ 29 (d := d_BadKind___init) rfl
  obtain ⟨fd_BadSizes___init, F_BadSizes___init⟩ := c.t.d.def_ 30 (d := d_BadSizes___init) rfl
  obtain ⟨fd_TooMany___init, F_TooMany___init⟩ := c.t.d.def_ 31 (d := d_TooMany___init) rfl
  have e := hfa.symm.trans (He.glo_ok X G (c.t.d.fact 0 rfl))
  cases e
  have bb := FunD.bindsA (ps := ["_law_script"]) F_law fun _ _ _ _ _ _ us hl => match us, hl with | [_], _ => rfl
  refine ⟨fd_law, fun s v => bb s [v] rfl, fun base _ _ => ?_⟩
  have b : BI mg := ⟨He.free_ok X G (c.t.d.fact 1 rfl), He.free_ok X G (c.t.d.fact 2 rfl), He.free_ok X G (c.t.d.fact 3 rfl), He.free_ok X G (c.t.d.fact 4 rfl), He.free_ok X G (c.t.d.fact 5 rfl), He.free_ok X G (c.t.d.fact 6 rfl), He.free_ok X G (c.t.d.fact 7 rfl), He.free_ok X G (c.t.d.fact 8 rfl), He.free_ok X G (c.t.d.fact 9 rfl), He.free_ok X G (c.t.d.fact 10 rfl), He.free_ok X G (c.t.d.fact 11 rfl), He.free_ok X G (c.t.d.fact 12 rfl), He.free_ok X G (c.t.d.fact 13 rfl), He.free_ok X G (c.t.d.fact 14 rfl), He.free_ok X G (c.t.d.fact 15 rfl)⟩
  have k_MOST_PEOPLE : ∃ u, mg "MOST_PEOPLE" = some u ∧ RelV (.int 10) u := by obtain ⟨tk, e⟩ := He.int_ok X G (c.t.d.fact 16 rfl); exact ⟨_, e, ⟨tk, rfl⟩⟩
  have k_MOST_SIZE : ∃ u, mg "MOST_SIZE" = some u ∧ RelV (.int 4) u := by obtain ⟨tk, e⟩ := He.int_ok X G (c.t.d.fact 17 rfl); exact ⟨_, e, ⟨tk, rfl⟩⟩
  have k_MOST_TEAMS : ∃ u, mg "MOST_TEAMS" = some u ∧ RelV (.int 130) u := by obtain ⟨tk, e⟩ := He.int_ok X G (c.t.d.fact 18 rfl); exact ⟨_, e, ⟨tk, rfl⟩⟩
  have k_MOST_TIMES : ∃ u, mg "MOST_TIMES" = some u ∧ RelV (.int 3) u := by obtain ⟨tk, e⟩ := He.int_ok X G (c.t.d.fact 19 rfl); exact ⟨_, e, ⟨tk, rfl⟩⟩
  have hx := c.more
  unfold ex at hx
  obtain ⟨hx0, hx⟩ := He.ba hx
  obtain ⟨hx1, hx⟩ := He.ba hx
  obtain ⟨hx2, hx⟩ := He.ba hx
  have hx3 := hx
  have x_BadGames : Xc P w K mg base "BadGames" (He.ga K "BadGames") ["value"] := ⟨(oexB_ok hx0).1, (oexB_ok hx0).2, He.glo_ok X G (c.t.d.fact 21 rfl), He.exm_ok (c.t.d.fact 22 rfl), ⟨_, fd_BadGames___init, (He.meth_ok (c.t.d.fact 23 rfl)).at_, isFn_ok (He.meth_ok (c.t.d.fact 23 rfl)).fn, ini_BadGames F_BadGames___init (oexB_ok hx0).1 (He.noat_ok (c.t.d.fact 20 rfl)), F_BadGames___init.bindsN fun _ _ _ _ _ _ us hl => match us, hl with | [_, _], _ => rfl⟩, fun f hf => by simp only [List.mem_cons, List.not_mem_nil, or_false] at hf; rcases hf with rfl; exact He.noat_ok (c.t.d.fact 20 rfl)⟩
  have x_BadKind : Xc P w K mg base "BadKind" (He.ga K "BadKind") ["value"] := ⟨(oexB_ok hx1).1, (oexB_ok hx1).2, He.glo_ok X G (c.t.d.fact 25 rfl), He.exm_ok (c.t.d.fact 26 rfl), ⟨_, fd_BadKind___init, (He.meth_ok (c.t.d.fact 27 rfl)).at_, isFn_ok (He.meth_ok (c.t.d.fact 27 rfl)).fn, ini_BadKind F_BadKind___init (oexB_ok hx1).1 (He.noat_ok (c.t.d.fact 24 rfl)), F_BadKind___init.bindsN fun _ _ _ _ _ _ us hl => match us, hl with | [_, _], _ => rfl⟩, fun f hf => by simp only [List.mem_cons, List.not_mem_nil, or_false] at hf; rcases hf with rfl; exact He.noat_ok (c.t.d.fact 24 rfl)⟩
  have x_BadSizes : Xc P w K mg base "BadSizes" (He.ga K "BadSizes") ["value"] := ⟨(oexB_ok hx2).1, (oexB_ok hx2).2, He.glo_ok X G (c.t.d.fact 29 rfl), He.exm_ok (c.t.d.fact 30 rfl), ⟨_, fd_BadSizes___init, (He.meth_ok (c.t.d.fact 31 rfl)).at_, isFn_ok (He.meth_ok (c.t.d.fact 31 rfl)).fn, ini_BadSizes F_BadSizes___init (oexB_ok hx2).1 (He.noat_ok (c.t.d.fact 28 rfl)), F_BadSizes___init.bindsN fun _ _ _ _ _ _ us hl => match us, hl with | [_, _], _ => rfl⟩, fun f hf => by simp only [List.mem_cons, List.not_mem_nil, or_false] at hf; rcases hf with rfl; exact He.noat_ok (c.t.d.fact 28 rfl)⟩
  have x_TooMany : Xc P w K mg base "TooMany" (He.ga K "TooMany") ["count"] := ⟨(oexB_ok hx3).1, (oexB_ok hx3).2, He.glo_ok X G (c.t.d.fact 33 rfl), He.exm_ok (c.t.d.fact 34 rfl), ⟨_, fd_TooMany___init, (He.meth_ok (c.t.d.fact 35 rfl)).at_, isFn_ok (He.meth_ok (c.t.d.fact 35 rfl)).fn, ini_TooMany F_TooMany___init (oexB_ok hx3).1 (He.noat_ok (c.t.d.fact 32 rfl)), F_TooMany___init.bindsN fun _ _ _ _ _ _ us hl => match us, hl with | [_, _], _ => rfl⟩, fun f hf => by simp only [List.mem_cons, List.not_mem_nil, or_false] at hf; rcases hf with rfl; exact He.noat_ok (c.t.d.fact 32 rfl)⟩
  have c_law_source : Cl P w K mg base CX0 1 "_law_source" ["_law_cell_here"] C_law_source := ⟨_, fd_law_source, ok_law_source F_law_source b, He.glo_ok X G (c.t.d.fact 36 rfl), F_law_source.kp, F_law_source.bindsN fun _ _ _ _ _ _ us hl => match us, hl with | [_], _ => rfl⟩
  have c_law_cell : Cl P w K mg base CX0 1 "_law_cell" ["_law_script", "_law_place"] C_law_cell := ⟨_, fd_law_cell, ok_law_cell F_law_cell b, He.glo_ok X G (c.t.d.fact 37 rfl), F_law_cell.kp, F_law_cell.bindsN fun _ _ _ _ _ _ us hl => match us, hl with | [_, _], _ => rfl⟩
  have c_law_draw : Cl P w K mg base CX0 1 "_law_draw" ["_law_source_here", "_law_limit"] C_law_draw := ⟨_, fd_law_draw, ok_law_draw F_law_draw b, He.glo_ok X G (c.t.d.fact 38 rfl), F_law_draw.kp, F_law_draw.bindsN fun _ _ _ _ _ _ us hl => match us, hl with | [_, _], _ => rfl⟩
  have c_choices : Cl P w K mg base CX0 1 "choices" ["many", "few"] C_choices := ⟨_, fd_choices, ok_choices F_choices b, He.glo_ok X G (c.t.d.fact 39 rfl), F_choices.kp, F_choices.bindsN fun _ _ _ _ _ _ us hl => match us, hl with | [_, _], _ => rfl⟩
  have c_law_choose : Cl P w K mg base CX0 1 "_law_choose" ["_law_many", "_law_few"] C_law_choose := ⟨_, fd_law_choose, ok_law_choose F_law_choose b, He.glo_ok X G (c.t.d.fact 40 rfl), F_law_choose.kp, F_law_choose.bindsN fun _ _ _ _ _ _ us hl => match us, hl with | [_, _], _ => rfl⟩
  have c_law_setting : Cl P w K mg base CX0 2 "_law_setting" ["_law_source_here"] C_law_setting := ⟨_, fd_law_setting, ok_law_setting F_law_setting b c_law_draw c_law_choose, He.glo_ok X G (c.t.d.fact 41 rfl), F_law_setting.kp, F_law_setting.bindsN fun _ _ _ _ _ _ us hl => match us, hl with | [_], _ => rfl⟩
  have c_law_tuples : Cl P w K mg base CX0 1 "_law_tuples" ["_law_sizes"] C_law_tuples := ⟨_, fd_law_tuples, ok_law_tuples F_law_tuples b, He.glo_ok X G (c.t.d.fact 42 rfl), F_law_tuples.kp, F_law_tuples.bindsN fun _ _ _ _ _ _ us hl => match us, hl with | [_], _ => rfl⟩
  have c_law_kinds : Cl P w K mg base CX0 2 "_law_kinds" ["_law_sizes", "_law_games"] C_law_kinds := ⟨_, fd_law_kinds, ok_law_kinds F_law_kinds b c_law_tuples, He.glo_ok X G (c.t.d.fact 43 rfl), F_law_kinds.kp, F_law_kinds.bindsN fun _ _ _ _ _ _ us hl => match us, hl with | [_, _], _ => rfl⟩
  have c_is_list : Cl P w K mg base CX0 1 "is_list" ["value"] C_is_list := ⟨_, fd_is_list, ok_is_list F_is_list b, He.glo_ok X G (c.t.d.fact 44 rfl), F_is_list.kp, F_is_list.bindsN fun _ _ _ _ _ _ us hl => match us, hl with | [_], _ => rfl⟩
  have c_is_between : Cl P w K mg base CX0 1 "is_between" ["value", "least", "most"] C_is_between := ⟨_, fd_is_between, ok_is_between F_is_between b, He.glo_ok X G (c.t.d.fact 45 rfl), F_is_between.kp, F_is_between.bindsN fun _ _ _ _ _ _ us hl => match us, hl with | [_, _, _], _ => rfl⟩
  have c_are_sizes : Cl P w K mg base CX0 2 "are_sizes" ["value"] C_are_sizes := ⟨_, fd_are_sizes, ok_are_sizes F_are_sizes b k_MOST_PEOPLE c_is_list c_is_between, He.glo_ok X G (c.t.d.fact 46 rfl), F_are_sizes.kp, F_are_sizes.bindsN fun _ _ _ _ _ _ us hl => match us, hl with | [_], _ => rfl⟩
  have c_check_sizes : Cl P w K mg base (L2.CX P w) 3 "check_sizes" ["sizes"] C_check_sizes := ⟨_, fd_check_sizes, ok_check_sizes F_check_sizes b x_BadSizes c_are_sizes, He.glo_ok X G (c.t.d.fact 47 rfl), F_check_sizes.kp, F_check_sizes.bindsN fun _ _ _ _ _ _ us hl => match us, hl with | [_], _ => rfl⟩
  have c_are_games : Cl P w K mg base CX0 2 "are_games" ["people", "value"] C_are_games := ⟨_, fd_are_games, ok_are_games F_are_games b k_MOST_SIZE k_MOST_TIMES c_is_between, He.glo_ok X G (c.t.d.fact 48 rfl), F_are_games.kp, F_are_games.bindsN fun _ _ _ _ _ _ us hl => match us, hl with | [_, _], _ => rfl⟩
  have c_all_teams : Cl P w K mg base CX0 2 "all_teams" ["people", "games"] C_all_teams := ⟨_, fd_all_teams, ok_all_teams F_all_teams b c_choices, He.glo_ok X G (c.t.d.fact 49 rfl), F_all_teams.kp, F_all_teams.bindsN fun _ _ _ _ _ _ us hl => match us, hl with | [_, _], _ => rfl⟩
  have c_check_games : Cl P w K mg base (L2.CX P w) 3 "check_games" ["people", "games"] C_check_games := ⟨_, fd_check_games, ok_check_games F_check_games b k_MOST_TEAMS x_BadGames x_TooMany c_are_games c_all_teams, He.glo_ok X G (c.t.d.fact 50 rfl), F_check_games.kp, F_check_games.bindsN fun _ _ _ _ _ _ us hl => match us, hl with | [_, _], _ => rfl⟩
  have c_check_setting : Cl P w K mg base (L2.CX P w) 4 "check_setting" ["sizes", "games"] C_check_setting := ⟨_, fd_check_setting, ok_check_setting F_check_setting b c_check_sizes c_check_games, He.glo_ok X G (c.t.d.fact 51 rfl), F_check_setting.kp, F_check_setting.bindsN fun _ _ _ _ _ _ us hl => match us, hl with | [_, _], _ => rfl⟩
  have c_tuples_below : Cl P w K mg base CX0 1 "tuples_below" ["sizes"] C_tuples_below := ⟨_, fd_tuples_below, ok_tuples_below F_tuples_below b, He.glo_ok X G (c.t.d.fact 52 rfl), F_tuples_below.kp, F_tuples_below.bindsN fun _ _ _ _ _ _ us hl => match us, hl with | [_], _ => rfl⟩
  have c_all_kinds : Cl P w K mg base (L2.CX P w) 5 "all_kinds" ["sizes", "games"] C_all_kinds := ⟨_, fd_all_kinds, ok_all_kinds F_all_kinds b c_check_setting c_tuples_below, He.glo_ok X G (c.t.d.fact 53 rfl), F_all_kinds.kp, F_all_kinds.bindsN fun _ _ _ _ _ _ us hl => match us, hl with | [_, _], _ => rfl⟩
  have c_is_tuple_below : Cl P w K mg base CX0 2 "is_tuple_below" ["sizes", "value"] C_is_tuple_below := ⟨_, fd_is_tuple_below, ok_is_tuple_below F_is_tuple_below b c_is_between, He.glo_ok X G (c.t.d.fact 54 rfl), F_is_tuple_below.kp, F_is_tuple_below.bindsN fun _ _ _ _ _ _ us hl => match us, hl with | [_, _], _ => rfl⟩
  have c_is_kind : Cl P w K mg base (L2.CX P w) 5 "is_kind" ["sizes", "games", "value"] C_is_kind := ⟨_, fd_is_kind, ok_is_kind F_is_kind b c_check_setting c_is_tuple_below, He.glo_ok X G (c.t.d.fact 55 rfl), F_is_kind.kp, F_is_kind.bindsN fun _ _ _ _ _ _ us hl => match us, hl with | [_, _, _], _ => rfl⟩
  have c_law_due : Cl P w K mg base CX0 2 "_law_due" ["_law_sizes", "_law_games", "_law_kind"] C_law_due := ⟨_, fd_law_due, ok_law_due F_law_due b c_law_choose, He.glo_ok X G (c.t.d.fact 56 rfl), F_law_due.kp, F_law_due.bindsN fun _ _ _ _ _ _ us hl => match us, hl with | [_, _, _], _ => rfl⟩
  have c_ways_of : Cl P w K mg base CX0 2 "ways_of" ["sizes", "kind"] C_ways_of := ⟨_, fd_ways_of, ok_ways_of F_ways_of b c_choices, He.glo_ok X G (c.t.d.fact 57 rfl), F_ways_of.kp, F_ways_of.bindsN fun _ _ _ _ _ _ us hl => match us, hl with | [_, _], _ => rfl⟩
  have c_due_of : Cl P w K mg base (L2.CX P w) 6 "due_of" ["sizes", "games", "kind"] (C_due_of (He.ga K "BadKind")) := ⟨_, fd_due_of, ok_due_of F_due_of b x_BadKind c_is_kind c_ways_of, He.glo_ok X G (c.t.d.fact 58 rfl), F_due_of.kp, F_due_of.bindsN fun _ _ _ _ _ _ us hl => match us, hl with | [_, _, _], _ => rfl⟩
  have c_team_count : Cl P w K mg base (L2.CX P w) 5 "team_count" ["sizes", "games"] C_team_count := ⟨_, fd_team_count, ok_team_count F_team_count b c_check_setting c_all_teams, He.glo_ok X G (c.t.d.fact 59 rfl), F_team_count.kp, F_team_count.bindsN fun _ _ _ _ _ _ us hl => match us, hl with | [_, _], _ => rfl⟩
  have c_law_odd : Cl P w K mg base CX0 2 "_law_odd" ["_law_source_here", "_law_kinds_here", "_law_sizes"] C_law_odd := ⟨_, fd_law_odd, ok_law_odd F_law_odd b c_law_draw, He.glo_ok X G (c.t.d.fact 60 rfl), F_law_odd.kp, F_law_odd.bindsN fun _ _ _ _ _ _ us hl => match us, hl with | [_, _, _], _ => rfl⟩
  have c_law_is_right : Cl P w K mg base CX0 1 "_law_is_right" ["_law_kinds_here", "_law_value"] C_law_is_right := ⟨_, fd_law_is_right, ok_law_is_right F_law_is_right b, He.glo_ok X G (c.t.d.fact 61 rfl), F_law_is_right.kp, F_law_is_right.bindsN fun _ _ _ _ _ _ us hl => match us, hl with | [_, _], _ => rfl⟩
  have c_law_due_told : Cl P w K mg base CX0 7 "_law_due_told" ["_law_sizes", "_law_games", "_law_value"] C_law_due_told := ⟨_, fd_law_due_told, ok_law_due_told F_law_due_told b x_BadKind c_due_of, He.glo_ok X G (c.t.d.fact 62 rfl), F_law_due_told.kp, F_law_due_told.bindsN fun _ _ _ _ _ _ us hl => match us, hl with | [_, _, _], _ => rfl⟩
  exact ok_law F_law b c_law_source c_law_cell c_law_draw c_choices c_law_setting c_law_kinds c_all_kinds c_is_kind c_law_due c_due_of c_law_choose c_team_count c_law_odd c_law_is_right c_law_due_told
end Pf
open PySem PySem.W PySem.Calls PyProof.Rows
theorem PySem.Challenge.cw_allteams_k01_choices_kinds_and_dues_holds : PySem.Challenge.rw_allteams_k01_choices_kinds_and_dues.Holds := by
  w_on; o_law
  refine HandSHeadRun.head_any (r := OpenLaw.row PySem.Challenge.rw_allteams_k01_choices_kinds_and_dues) (q := view (OpenLaw.row PySem.Challenge.rw_allteams_k01_choices_kinds_and_dues).prog [39]) (H := Pf.hk) (ob := Pf.ob) (M := 4000) (loose := Pf.loose) (d := HandSHeadRun.topDef (OpenLaw.row PySem.Challenge.rw_allteams_k01_choices_kinds_and_dues).prog 39) (kwd := []) Pf.ob_eq
    (by kernel_rfl) (fun s => by kernel_rfl) Pf.run (by kernel_rfl) (by kernel_rfl) (by kernel_rfl) (by rfl) (by first | assumption | decide +kernel) (by decide +kernel) ⟨rfl, rfl, rfl, rfl, rfl, by decide +kernel⟩ ?hw ?hc
  case hw => w_witness2
  case hc =>
    refine L2.walk_ofE (l := PySem.Challenge.rw_allteams_k01_choices_kinds_and_dues) (n := 63) (k := 8) (x := "_law_script") (CX := L2.CX0) rfl (by decide) (by kernel_rfl) ⟨rfl, by decide, by decide⟩ ?F (fun _ _ _ _ z => z)
    intro w mg fa h Y G hmg0
    obtain ⟨K, KX, c⟩ := Y
    have hmg : mg ("law" : PySem.Str) = some (.ref fa) := by
      have e : (HandSHeadRun.topDef (OpenLaw.row PySem.Challenge.rw_allteams_k01_choices_kinds_and_dues).prog 39).name = ("law" : PySem.Str) := by kernel_rfl
      rw [← e]
      exact hmg0
    obtain ⟨fd, hb, hF⟩ := Pf.facts (P := (PySem.Challenge.rw_allteams_k01_choices_kinds_and_dues).prog) (w := w) KX G hmg c
    exact ⟨K, fd, DL.spF K Pf.C_law, KX, hb, fun H a ns hl _ hS => DL.start_law hS ⟨ns, rfl, fun _ z => z, rfl⟩, hF⟩
