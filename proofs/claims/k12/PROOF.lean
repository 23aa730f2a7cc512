import PyProof.Rows.All
import Wide.All
import OpenK.AllK
import Wide.FinOn
import HandS.ForMost
import HandS.Exc
import HandS.ExcInit
import HandS.ExcField
import HandS.More
import HandS.WordsExc
import HandS.IsInst
import HandS.Star
import HandS.Conv
import HandS.Zip
import HandS.Evl
import HandS.Wide
import HandS.CallSlots
import HandS.ExcOwn
import KE.KTupSum
import HandS.SortInts
import HandS.Defaults
import HandS.Codes
import HandS.Deep
import KE.GoesNew
import KE.GoesMore
import KE.GoesEnum
import HandS.TupAny
import HandS.TupSets
import KE.DataEq
import KE.KStateDown
import HandS.Head0
import HandS.Head1
import HandS.Head2
import HandS.HeadEnd
import HandS.HeadHook1
import HandS.HeadHook2
import HandS.HeadHook3
import HandS.HeadHook4
import KE.SortData
import HandS.Property
import HandS.Style
import KE.KCount
import HandS.DictComp
import PyProof.TupleOfSeq
import HandS.DictTup
import KE.KDictSum
import KE.KDictCopyH
import KE.KDictOf
import KE.KDictPairs
import PyProof.InstNe
import OpenK.KOps
import PyProof.P3Eq
import KE.DataFind
import HandS.Finally
import PyProof.ReprRoads
import HandS.ListEq
import HandS.DictEq
import KE.KEqNest
import PyProof.NeKinds
import PyProof.ReprLen
import PySem.Challenge.RW_allteams_k12_plans_refused
set_option Elab.async false
set_option linter.all false
set_option maxRecDepth 100000
set_option maxHeartbeats 1000000
namespace DL
open PySem L2 Evl
/-! ### data -/
inductive D where
  | non | bl (b : Bool) | int (i : Int) | str (x : Str)
  | lst (xs : List D) | tup (xs : List D)
  | dic (kvs : List (Key × D)) | dit (kvs : List (List Key × D))
  | scr (ns : List Int)
  | ins (C : Addr) (fs : List (Str × D))

mutual
inductive Rp (K : PySem.W.Frag) (G : Hp) : V → D → Prop
  | non : Rp K G .non .non
  | bl (b : Bool) : Rp K G (.bl b) (.bl b)
  | int (i : Int) : Rp K G (.int i) (.int i)
  | str (x : Str) : Rp K G (.str x) (.str x)
  | lst {a : Addr} {xs : List V} {ds : List D} : G a = some (.lst xs) → RpL K G xs ds → Rp K G (.ref a) (.lst ds)
  | tup {a : Addr} {xs : List V} {ds : List D} : G a = some (.tup xs) → RpL K G xs ds → Rp K G (.ref a) (.tup ds)
  | dic {a : Addr} {kvs : List (Key × V)} {ds : List (Key × D)} : Rd G a (.dK kvs) → kvs.map (·.1) = ds.map (·.1) → RpL K G (kvs.map (·.2)) (ds.map (·.2)) → Rp K G (.ref a) (.dic ds)
  | dit {a : Addr} {kvs : List (List Key × V)} {ds : List (List Key × D)} : Rd G a (.dT kvs) → kvs.map (·.1) = ds.map (·.1) → RpL K G (kvs.map (·.2)) (ds.map (·.2)) → Rp K G (.ref a) (.dit ds)
  | scr {a : Addr} {ns : List Int} : SqL K G a (ns.map V.int) → Rp K G (.ref a) (.scr ns)
  | ins {a dx C : Addr} {fv : List (Str × V)} {fs : List (Str × D)} : G a = some (.ins C dx fv) → G dx = some (.own a) → fv.map (·.1) = fs.map (·.1) → RpL K G (fv.map (·.2)) (fs.map (·.2)) → Rp K G (.ref a) (.ins C fs)
inductive RpL (K : PySem.W.Frag) (G : Hp) : List V → List D → Prop
  | nil : RpL K G [] []
  | cons {v : V} {vs : List V} {d : D} {ds : List D} : Rp K G v d → RpL K G vs ds → RpL K G (v :: vs) (d :: ds)
end

mutual
theorem Rp.mono {K : PySem.W.Frag} {G G' : Hp} (e : Ex G G') : ∀ {v : V} {d : D}, Rp K G v d → Rp K G' v d
  | _, _, .non => .non
  | _, _, .bl b => .bl b
  | _, _, .int i => .int i
  | _, _, .str x => .str x
  | _, _, .lst h r => .lst (e _ _ h) (RpL.mono e r)
  | _, _, .tup h r => .tup (e _ _ h) (RpL.mono e r)
  | _, _, .dic h k r => .dic (ex_rd e h) k (RpL.mono e r)
  | _, _, .dit h k r => .dit (ex_rd e h) k (RpL.mono e r)
  | _, _, .scr h => .scr (ex_l e h)
  | _, _, .ins h h2 k r => .ins (e _ _ h) (e _ _ h2) k (RpL.mono e r)
theorem RpL.mono {K : PySem.W.Frag} {G G' : Hp} (e : Ex G G') : ∀ {vs : List V} {ds : List D}, RpL K G vs ds → RpL K G' vs ds
  | _, _, .nil => .nil
  | _, _, .cons h r => .cons (Rp.mono e h) (RpL.mono e r)
end
theorem RpL.length {K : PySem.W.Frag} {G : Hp} : ∀ {vs : List V} {ds : List D}, RpL K G vs ds → vs.length = ds.length
  | _, _, .nil => rfl
  | _, _, .cons _ r => by simp [RpL.length r]
theorem RpL.get {K : PySem.W.Frag} {G : Hp} : ∀ {vs : List V} {ds : List D}, RpL K G vs ds → ∀ {i : Nat} {v : V}, vs[i]? = some v → ∃ d, ds[i]? = some d ∧ Rp K G v d
  | _, _, .nil, i, v, h => by simp at h
  | _, _, .cons h r, 0, v, e => by simp at e; subst e; exact ⟨_, rfl, h⟩
  | _, _, .cons h r, i + 1, v, e => by
    obtain ⟨d, h1, h2⟩ := RpL.get r (i := i) (v := v) (by simpa using e)
    exact ⟨d, by simpa using h1, h2⟩
theorem RpL.getD {K : PySem.W.Frag} {G : Hp} : ∀ {vs : List V} {ds : List D}, RpL K G vs ds → ∀ {i : Nat} {d : D}, ds[i]? = some d → ∃ v, vs[i]? = some v ∧ Rp K G v d
  | _, _, .nil, i, v, h => by simp at h
  | _, _, .cons h r, 0, v, e => by simp at e; subst e; exact ⟨_, rfl, h⟩
  | _, _, .cons h r, i + 1, v, e => by
    obtain ⟨d, h1, h2⟩ := RpL.getD r (i := i) (d := v) (by simpa using e)
    exact ⟨d, by simpa using h1, h2⟩
theorem RpL.append {K : PySem.W.Frag} {G : Hp} : ∀ {vs ws : List V} {ds es : List D}, RpL K G vs ds → RpL K G ws es → RpL K G (vs ++ ws) (ds ++ es)
  | _, _, _, _, .nil, s => s
  | _, _, _, _, .cons h r, s => .cons h (RpL.append r s)
theorem RpL.one {K : PySem.W.Frag} {G : Hp} {v : V} {d : D} (h : Rp K G v d) : RpL K G [v] [d] := .cons h .nil
theorem RpL.ints {K : PySem.W.Frag} {G : Hp} : ∀ {vs : List V} {ns : List Int}, RpL K G vs (ns.map D.int) → vs = ns.map V.int
  | _, [], .nil => rfl
  | _, n :: ns, .cons h r => by
    cases h
    rw [RpL.ints r]
    rfl
theorem RpL.ofInts {K : PySem.W.Frag} {G : Hp} : ∀ (ns : List Int), RpL K G (ns.map V.int) (ns.map D.int)
  | [] => .nil
  | n :: ns => .cons (.int n) (RpL.ofInts ns)
theorem RpL.bools {K : PySem.W.Frag} {G : Hp} : ∀ {vs : List V} {ns : List Bool}, RpL K G vs (ns.map D.bl) → vs = ns.map V.bl
  | _, [], .nil => rfl
  | _, n :: ns, .cons h r => by
    cases h
    rw [RpL.bools r]
    rfl
theorem RpL.strs {K : PySem.W.Frag} {G : Hp} : ∀ {vs : List V} {ns : List Str}, RpL K G vs (ns.map D.str) → vs = ns.map V.str
  | _, [], .nil => rfl
  | _, n :: ns, .cons h r => by
    cases h
    rw [RpL.strs r]
    rfl
theorem RpL.ofStrs {K : PySem.W.Frag} {G : Hp} : ∀ (ns : List Str), RpL K G (ns.map V.str) (ns.map D.str)
  | [] => .nil
  | n :: ns => .cons (.str n) (RpL.ofStrs ns)
theorem RpL.set {K : PySem.W.Frag} {G : Hp} {v : V} {d : D} (h : Rp K G v d) : ∀ {vs : List V} {ds : List D} (i : Nat), RpL K G vs ds → RpL K G (vs.set i v) (ds.set i d)
  | _, _, _, .nil => .nil
  | _, _, 0, .cons _ r => .cons h r
  | _, _, i + 1, .cons a r => .cons a (RpL.set h i r)
theorem RpL.drop {K : PySem.W.Frag} {G : Hp} : ∀ {vs : List V} {ds : List D} (n : Nat), RpL K G vs ds → RpL K G (vs.drop n) (ds.drop n)
  | _, _, 0, r => r
  | _, _, _ + 1, .nil => .nil
  | _, _, n + 1, .cons _ r => RpL.drop n r
theorem RpL.take {K : PySem.W.Frag} {G : Hp} : ∀ {vs : List V} {ds : List D} (n : Nat), RpL K G vs ds → RpL K G (vs.take n) (ds.take n)
  | _, _, 0, _ => .nil
  | _, _, _ + 1, .nil => .nil
  | _, _, n + 1, .cons h r => .cons h (RpL.take n r)
theorem RpL.reverse {K : PySem.W.Frag} {G : Hp} : ∀ {vs : List V} {ds : List D}, RpL K G vs ds → RpL K G vs.reverse ds.reverse
  | _, _, .nil => .nil
  | _, _, .cons h r => by
    rw [List.reverse_cons, List.reverse_cons]
    exact (RpL.reverse r).append (.one h)

/-! ### a dict is locked, and unlocked: data stays -/
def isDct : HO → Bool
  | .dK _ => true | .dT _ => true | _ => false
/-- G' is G with the dict at a locked or unlocked -/
structure Swp (G G' : Hp) (a : Addr) (u : HO) : Prop where
  dct : isDct u = true
  ne : ∀ b, b ≠ a → G' b = G b
  here : Rd G a u
  there : Rd G' a u
theorem Swp.not {G G' : Hp} {a b : Addr} {u o : HO} (s : Swp G G' a u) (h : G b = some o) (h1 : o ≠ u) (h2 : ∀ x, o ≠ .frz x u) : b ≠ a := fun z => by
  subst z
  rcases s.here with e | ⟨x, e⟩
  · rw [h] at e; exact h1 (Option.some.inj e)
  · rw [h] at e; exact h2 x (Option.some.inj e)
theorem Swp.rd {G G' : Hp} {a b : Addr} {u o : HO} (s : Swp G G' a u) (ho : ∀ x w, o ≠ .frz x w) (h : Rd G b o) : Rd G' b o := by
  by_cases z : b = a
  · subst z
    have e : o = u := by
      rcases h with h | ⟨x, h⟩
      · rcases s.here with e | ⟨y, e⟩
        · rw [h] at e; exact Option.some.inj e
        · rw [h] at e; exact absurd (Option.some.inj e) (ho y u)
      · rcases s.here with e | ⟨y, e⟩
        · rw [h] at e; have := Option.some.inj e; have d := s.dct; rw [← this] at d; cases d
        · rw [h] at e; have := Option.some.inj e; injection this
    rw [e]; exact s.there
  · unfold Rd; rw [s.ne b z]; exact h
mutual
theorem Rp.swap {K : PySem.W.Frag} {G G' : Hp} {a : Addr} {u : HO} (s : Swp G G' a u) : ∀ {v : V} {d : D}, Rp K G v d → Rp K G' v d
  | _, _, .non => .non
  | _, _, .bl b => .bl b
  | _, _, .int i => .int i
  | _, _, .str x => .str x
  | _, _, .lst (a := b) e r => .lst (by
      rw [s.ne b]; exact e
      exact s.not e (fun z => by have d := s.dct; rw [← z] at d; cases d) (fun x z => by cases z)) (RpL.swap s r)
  | _, _, .tup (a := b) e r => .tup (by
      rw [s.ne b]; exact e
      exact s.not e (fun z => by have d := s.dct; rw [← z] at d; cases d) (fun x z => by cases z)) (RpL.swap s r)
  | _, _, .dic e k r => .dic (s.rd (fun _ _ z => by cases z) e) k (RpL.swap s r)
  | _, _, .dit e k r => .dit (s.rd (fun _ _ z => by cases z) e) k (RpL.swap s r)
  | _, _, .scr (a := b) e => .scr (by
      rcases e with e | e
      · exact .inl (s.rd (fun _ _ z => by cases z) e)
      · exact .inr e)
  | _, _, .ins (a := b) (dx := dx) e e2 k r => .ins (by
      rw [s.ne b]; exact e
      exact s.not e (fun z => by have d := s.dct; rw [← z] at d; cases d) (fun x z => by cases z)) (by
      rw [s.ne dx]; exact e2
      exact s.not e2 (fun z => by have d := s.dct; rw [← z] at d; cases d) (fun x z => by cases z)) k (RpL.swap s r)
theorem RpL.swap {K : PySem.W.Frag} {G G' : Hp} {a : Addr} {u : HO} (s : Swp G G' a u) : ∀ {vs : List V} {ds : List D}, RpL K G vs ds → RpL K G' vs ds
  | _, _, .nil => .nil
  | _, _, .cons x r => .cons (Rp.swap s x) (RpL.swap s r)
end

/-- data of G is data of G' -/
def Up (K : PySem.W.Frag) (G G' : Hp) : Prop := ∀ v d, Rp K G v d → Rp K G' v d
theorem Up.ex {K : PySem.W.Frag} {G G' : Hp} (e : Ex G G') : Up K G G' := fun _ _ r => r.mono e
theorem Up.sw {K : PySem.W.Frag} {G G' : Hp} {a : Addr} {u : HO} (s : Swp G G' a u) : Up K G G' := fun _ _ r => r.swap s
theorem RpL.up {K : PySem.W.Frag} {G G' : Hp} (e : Up K G G') : ∀ {vs : List V} {ds : List D}, RpL K G vs ds → RpL K G' vs ds
  | _, _, .nil => .nil
  | _, _, .cons x r => .cons (e _ _ x) (RpL.up e r)
/-! ### what may change beside the data: a world with states -/
def noTup : HO → Bool
  | .tup _ => false | _ => true
structure Wd (ι : Type) where
  M : Addr → Prop
  L : Addr → Prop
  I : ι → Hp → Hp → Prop
  dep : ∀ (m : ι) (G G' H H' : Hp), Ex G G' → (∀ a, M a → H' a = H a) → I m G H → I m G' H'
  has : ∀ m G H a, I m G H → M a → ∃ u, H a = some u ∧ noTup u = true
  sw : ∀ (m : ι) (G G' H : Hp) (a : Addr) (u : HO), Swp G G' a u → I m G H → I m G' H
  pin : Addr → HO → Prop
  pinned : ∀ m G H a o, I m G H → pin a o → H a = some o
def W0 : Wd Unit := ⟨fun _ => False, fun _ => False, fun _ _ _ => True, fun _ _ _ _ _ _ _ _ => trivial, fun _ _ _ _ _ h => h.elim, fun _ _ _ _ _ _ _ _ => trivial, fun _ _ => False, fun _ _ _ _ _ _ h => h.elim⟩
theorem Wd.ne {ι : Type} {W : Wd ι} {m : ι} {G H : Hp} {a : Addr} (h : W.I m G H) (ha : W.M a) : H a ≠ none := by
  obtain ⟨u, e, _⟩ := W.has m G H a h ha
  rw [e]; exact fun z => by cases z
structure Ok {ι : Type} (W : Wd ι) (m : ι) (G H : Hp) : Prop where
  ex : Ex G H
  inv : W.I m G H
  off : ∀ a, W.M a → G a = none
  lk : ∀ a o u, G a = some (.frz o u) → (∀ xs, u ≠ .lst xs) → W.L a
structure Grow {ι : Type} (W : Wd ι) (G H : Hp) (m : ι) (G' H' : Hp) : Prop where
  ex : Ex G G'
  sub : Ex G' H'
  fresh : ∀ a o, H a = some o → noTup o = true → G a = none → G' a = none
  keep : ∀ a o, ¬ W.M a → H a = some o → H' a = some o
  inv : W.I m G' H'
  lk : ∀ a o u, G' a = some (.frz o u) → (∀ xs, u ≠ .lst xs) → W.L a ∨ G a = some (.frz o u)
section
variable {ι : Type} {W : Wd ι} {m m' m1 m2 : ι} {G H G' H' G1 H1 G2 H2 : Hp}
theorem Ok.refl (h : Ok W m G H) : Grow W G H m G H := ⟨Ex.refl G, h.ex, fun _ _ _ _ q => q, fun _ _ _ q => q, h.inv, fun _ _ _ q _ => .inr q⟩
theorem Grow.ok (g : Grow W G H m' G' H') (h : Ok W m G H) : Ok W m' G' H' := ⟨g.sub, g.inv, fun a m => by obtain ⟨u, e, t⟩ := W.has _ _ _ a h.inv m; exact g.fresh a u e t (h.off a m), fun a o u q n => (g.lk a o u q n).elim (fun z => z) fun z => h.lk a o u z n⟩
theorem Grow.there (g : Grow W G H m' G' H') {a : Addr} (h : H a ≠ none) : H' a ≠ none := by
  by_cases m : W.M a
  · exact W.ne g.inv m
  · cases e : H a with
    | none => exact absurd e h
    | some o => rw [g.keep a o m e]; exact fun z => by cases z
theorem Grow.back (g : Grow W G H m' G' H') {a : Addr} (h : H' a = none) : H a = none := by
  cases e : H a with
  | none => rfl
  | some o => exact absurd h (g.there (by rw [e]; exact fun z => by cases z))
theorem Grow.trans (a : Grow W G H m1 G1 H1) (b : Grow W G1 H1 m2 G2 H2) : Grow W G H m2 G2 H2 :=
  ⟨a.ex.trans b.ex, b.sub, fun c o h t n => by
    by_cases mc : W.M c
    · obtain ⟨u, e, t2⟩ := W.has _ _ _ c a.inv mc
      exact b.fresh c u e t2 (a.fresh c o h t n)
    · exact b.fresh c o (a.keep c o mc h) t (a.fresh c o h t n), fun c o m h => b.keep c o m (a.keep c o m h), b.inv, fun c o u q n => (b.lk c o u q n).elim .inl fun z => a.lk c o u z n⟩
/-- something new, not data -/
theorem Grow.new (h : Ok W m G H) {p : Addr} {o : HO} (hp : H p = none) : Grow W G H m G (upd H p o) :=
  ⟨Ex.refl G, h.ex.trans (Ex.new hp), fun _ _ _ _ q => q, fun a u _ e => by rw [upd_ne (ne_of_none e hp)]; exact e,
    W.dep _ _ _ _ _ (Ex.refl _) (fun a m => upd_ne fun z => W.ne h.inv m (by rw [z]; exact hp)) h.inv, fun _ _ _ q _ => .inr q⟩
/-- something new, data -/
theorem Grow.newD (h : Ok W m G H) {p : Addr} {o : HO} (hp : H p = none) (nf : ∀ x u, o ≠ .frz x u) : Grow W G H m (upd G p o) (upd H p o) :=
  have gp : G p = none := fresh_back h.ex hp
  ⟨Ex.new gp, fun a u e => by
    by_cases z : a = p
    · subst z; rw [upd_same] at e ⊢; exact e
    · rw [upd_ne z] at e ⊢; exact h.ex a u e, fun a o q _ n => by
    have z : a ≠ p := fun z => by rw [z, hp] at q; cases q
    rw [upd_ne z]; exact n, fun a u _ e => by rw [upd_ne (ne_of_none e hp)]; exact e,
    W.dep _ _ _ _ _ (Ex.new gp) (fun a m => upd_ne fun z => W.ne h.inv m (by rw [z]; exact hp)) h.inv, fun a x u q _ => by
    by_cases z : a = p
    · subst z; rw [upd_same] at q; exact absurd (Option.some.inj q) (nf x u)
    · rw [upd_ne z] at q; exact .inr q⟩
/-- a store at what is neither data nor the world's -/
theorem Grow.mut (g : Grow W G H m' G' H') {p : Addr} {o : HO} (h0 : H p = none) (n : G' p = none) (mp : ¬ W.M p) : Grow W G H m' G' (upd H' p o) :=
  ⟨g.ex, g.sub.mut n, g.fresh, fun b w mb q => by rw [upd_ne (ne_of_none q h0)]; exact g.keep b w mb q, W.dep _ _ _ _ _ (Ex.refl _) (fun b mb => upd_ne fun z => mp (by rw [← z]; exact mb)) g.inv, g.lk⟩
/-- what is new becomes data, as it stands -/
theorem Grow.frz (g : Grow W G H m' G' H') {p : Addr} {u : HO} (h0 : H p = none) (n : G' p = none) (e : H' p = some u) (nf : ∀ x y, u ≠ .frz x y) : Grow W G H m' (upd G' p u) H' :=
  ⟨g.ex.trans (Ex.new n), fun a w q => by
    by_cases z : a = p
    · subst z; rw [upd_same] at q; rw [e]; exact q
    · rw [upd_ne z] at q; exact g.sub a w q, fun a o q t w => by
    have z : a ≠ p := fun z => by rw [z, h0] at q; cases q
    rw [upd_ne z]; exact g.fresh a o q t w, g.keep, W.dep _ _ _ _ _ (Ex.new n) (fun _ _ => rfl) g.inv, fun a x y q n => by
    by_cases z : a = p
    · subst z; rw [upd_same] at q; exact absurd (Option.some.inj q) (nf x y)
    · rw [upd_ne z] at q; exact g.lk a x y q n⟩
end

/-! ### objects of one's own -/
inductive O1 where
  | lst (ds : List D) | dK (kvs : List (Key × D)) | dT (kvs : List (List Key × D))
def O1.frz : O1 → D
  | .lst ds => .lst ds
  | .dK kvs => .dic kvs
  | .dT kvs => .dit kvs
/-- an item, a field: data or an object of one's own -/
inductive It where
  | d (d : D) | o (o : O1)
def It.frz : It → D
  | .d x => x
  | .o x => x.frz
inductive O where
  | one (o : O1) | nest (its : List It) | ins (C : Addr) (fs : List (Str × It))
abbrev O.lst (ds : List D) : O := .one (.lst ds)
abbrev O.dK (kvs : List (Key × D)) : O := .one (.dK kvs)
abbrev O.dT (kvs : List (List Key × D)) : O := .one (.dT kvs)
def O.frz : O → D
  | .one o => o.frz
  | .nest its => .lst (its.map It.frz)
  | .ins C fs => .ins C (fs.map fun f => (f.1, f.2.frz))
section
variable {K : PySem.W.Frag} {F F' : Addr → Prop} {G G' H H' : Hp} {p q : Addr}
def Ob1 (K : PySem.W.Frag) (G H : Hp) (p : Addr) : O1 → Prop
  | .lst ds => ∃ xs, H p = some (.lst xs) ∧ RpL K G xs ds
  | .dK ds => ∃ kvs, H p = some (.dK kvs) ∧ kvs.map (·.1) = ds.map (·.1) ∧ RpL K G (kvs.map (·.2)) (ds.map (·.2))
  | .dT ds => ∃ kvs, H p = some (.dT kvs) ∧ kvs.map (·.1) = ds.map (·.1) ∧ RpL K G (kvs.map (·.2)) (ds.map (·.2))
/-- of which kind -/
def pln : HO → Bool
  | .lst _ => true | .dK _ => true | .dT _ => true | .ins _ _ _ => true | _ => false
theorem Ob1.at (h : Ob1 K G H p o) : ∃ u, H p = some u ∧ pln u = true := by
  cases o with
  | lst ds => obtain ⟨_, e, _⟩ := h; exact ⟨_, e, rfl⟩
  | dK ds => obtain ⟨_, e, _⟩ := h; exact ⟨_, e, rfl⟩
  | dT ds => obtain ⟨_, e, _⟩ := h; exact ⟨_, e, rfl⟩
theorem Ob1.up {o : O1} (e : Up K G G') (hp : H' p = H p) (h : Ob1 K G H p o) : Ob1 K G' H' p o := by
  cases o with
  | lst ds => obtain ⟨xs, a, b⟩ := h; exact ⟨xs, hp.trans a, b.up e⟩
  | dK ds => obtain ⟨xs, a, k, b⟩ := h; exact ⟨xs, hp.trans a, k, b.up e⟩
  | dT ds => obtain ⟨xs, a, k, b⟩ := h; exact ⟨xs, hp.trans a, k, b.up e⟩
theorem Ob1.mono {o : O1} (e : Ex G G') (hp : H' p = H p) (h : Ob1 K G H p o) : Ob1 K G' H' p o := h.up (Up.ex e) hp
def RIt (K : PySem.W.Frag) (F : Addr → Prop) (G H : Hp) (v : V) : It → Prop
  | .d d => Rp K G v d
  | .o o => ∃ q, v = .ref q ∧ F q ∧ Ob1 K G H q o
inductive RIts (K : PySem.W.Frag) (F : Addr → Prop) (G H : Hp) : List V → List It → Prop
  | nil : RIts K F G H [] []
  | cons {v : V} {vs : List V} {i : It} {is : List It} : RIt K F G H v i → RIts K F G H vs is → RIts K F G H (v :: vs) (i :: is)
/-- where the own items stand -/
def kids : List V → List It → List Addr
  | .ref q :: vs, .o _ :: is => q :: kids vs is
  | _ :: vs, _ :: is => kids vs is
  | _, _ => []
theorem kids_d (v : V) (vs : List V) (d : D) (is : List It) : kids (v :: vs) (.d d :: is) = kids vs is := by cases v <;> rfl
theorem kids_o (q : Addr) (vs : List V) (o : O1) (is : List It) : kids (.ref q :: vs) (.o o :: is) = q :: kids vs is := rfl
theorem RIts.kid : ∀ {vs : List V} {is : List It}, RIts K F G H vs is → ∀ {a : Addr}, a ∈ kids vs is → F a ∧ ∃ u, H a = some u ∧ pln u = true
  | _, _, .nil, a, h => by cases h
  | _, _, .cons (i := .d d) r rs, a, h => by rw [kids_d] at h; exact rs.kid h
  | _, _, .cons (i := .o o) r rs, a, h => by
    obtain ⟨q, rfl, f, ob⟩ := r
    rw [kids_o] at h
    rcases List.mem_cons.mp h with rfl | h
    · exact ⟨f, ob.at⟩
    · exact rs.kid h
theorem RIts.upA (e : Up K G G') : ∀ {vs : List V} {is : List It}, (∀ a ∈ kids vs is, H' a = H a ∧ F' a) → RIts K F G H vs is → RIts K F' G' H' vs is
  | [], [], _, _ => .nil
  | [], _ :: _, _, z => by cases z
  | _ :: _, [], _, z => by cases z
  | v :: vs, .d d :: is, k, z => by
    cases z with
    | cons r rs => exact .cons (e _ _ r) (rs.upA e fun a ha => k a (by rw [kids_d]; exact ha))
  | v :: vs, .o o :: is, k, z => by
    cases z with
    | cons r rs =>
      obtain ⟨q, rfl, f, ob⟩ := r
      obtain ⟨k1, k2⟩ := k q (by rw [kids_o]; simp)
      exact .cons ⟨q, rfl, k2, ob.up e k1⟩ (rs.upA e fun a ha => k a (by rw [kids_o]; simp [ha]))
theorem RIts.monoA (e : Ex G G') {vs : List V} {is : List It} (k : ∀ a ∈ kids vs is, H' a = H a ∧ F' a) (r : RIts K F G H vs is) : RIts K F' G' H' vs is := r.upA (Up.ex e) k
theorem RIts.length : ∀ {vs : List V} {is : List It}, RIts K F G H vs is → vs.length = is.length
  | _, _, .nil => rfl
  | _, _, .cons _ r => by simp [r.length]
theorem RIts.getD : ∀ {vs : List V} {is : List It}, RIts K F G H vs is → ∀ {j : Nat} {i : It}, is[j]? = some i → ∃ v, vs[j]? = some v ∧ RIt K F G H v i
  | _, _, .nil, j, i, h => by simp at h
  | _, _, .cons h r, 0, v, e => by simp at e; subst e; exact ⟨_, rfl, h⟩
  | _, _, .cons h r, i + 1, v, e => by
    obtain ⟨d, h1, h2⟩ := r.getD (j := i) (i := v) (by simpa using e)
    exact ⟨d, by simpa using h1, h2⟩
def OwnAt (K : PySem.W.Frag) (F : Addr → Prop) (G H : Hp) (p : Addr) : O → Prop
  | .one o => F p ∧ Ob1 K G H p o
  | .nest its => F p ∧ ∃ vs, H p = some (.lst vs) ∧ RIts K F G H vs its ∧ (p :: kids vs its).Nodup
  | .ins C fs => F p ∧ ∃ dx fv, F dx ∧ H p = some (.ins C dx fv) ∧ H dx = some (.own p) ∧ fv.map (·.1) = fs.map (·.1) ∧ RIts K F G H (fv.map (·.2)) (fs.map (·.2)) ∧ (kids (fv.map (·.2)) (fs.map (·.2))).Nodup
def Ads (H : Hp) (p : Addr) : O → Addr → Prop
  | .one _, a => a = p
  | .nest its, a => a = p ∨ ∃ vs, H p = some (.lst vs) ∧ a ∈ kids vs its
  | .ins C fs, a => a = p ∨ ∃ dx fv, H p = some (.ins C dx fv) ∧ (a = dx ∨ a ∈ kids (fv.map (·.2)) (fs.map (·.2)))
def pln2 (p : Addr) : HO → Bool
  | .own x => decide (x = p) | u => pln u
theorem OwnAt.root {o : O} (h : OwnAt K F G H p o) : F p ∧ ∃ u, H p = some u ∧ pln u = true := by
  cases o with
  | one o => exact ⟨h.1, h.2.at⟩
  | nest its => obtain ⟨f, vs, e, _⟩ := h; exact ⟨f, _, e, rfl⟩
  | ins C fs => obtain ⟨f, dx, fv, _, e, _⟩ := h; exact ⟨f, _, e, rfl⟩
theorem OwnAt.ads {o : O} {a : Addr} (h : OwnAt K F G H p o) (ha : Ads H p o a) : F a ∧ ∃ u, H a = some u ∧ pln2 p u = true := by
  have up : ∀ {b}, (F b ∧ ∃ u, H b = some u ∧ pln u = true) → F b ∧ ∃ u, H b = some u ∧ pln2 p u = true := fun ⟨f, u, e, q⟩ => ⟨f, u, e, by cases u <;> first | exact q | cases q⟩
  cases o with
  | one o => obtain rfl : a = p := ha; exact up h.root
  | nest its =>
    obtain ⟨f, vs, e, r, nd⟩ := id h
    rcases ha with rfl | ⟨vs', e', hk⟩
    · exact up h.root
    · rw [e] at e'; cases e'; exact up (r.kid hk)
  | ins C fs =>
    obtain ⟨f, dx, fv, fx, e, ex, k, r, nd⟩ := id h
    rcases ha with rfl | ⟨dx', fv', e', hk⟩
    · exact up h.root
    · rw [e] at e'
      cases e'
      rcases hk with rfl | hk
      · exact ⟨fx, _, ex, by simp [pln2]⟩
      · exact up (r.kid hk)
theorem Ads.root (o : O) : Ads H p o p := by cases o with
  | one o => rfl
  | nest its => exact .inl rfl
  | ins C fs => exact .inl rfl
theorem OwnAt.upA {o : O} (e : Up K G G') (k : ∀ a, Ads H p o a → H' a = H a ∧ F' a) (h : OwnAt K F G H p o) : OwnAt K F' G' H' p o := by
  obtain ⟨k1, k2⟩ := k p (Ads.root o)
  cases o with
  | one o =>
    obtain ⟨f, ob⟩ := h
    exact ⟨k2, ob.up e k1⟩
  | nest its =>
    obtain ⟨f, vs, eh, r, nd⟩ := h
    exact ⟨k2, vs, k1.trans eh, r.upA e fun a ha => k a (.inr ⟨vs, eh, ha⟩), nd⟩
  | ins C fs =>
    obtain ⟨f, dx, fv, fx, eh, ex, kk, r, nd⟩ := h
    obtain ⟨k3, k4⟩ := k dx (.inr ⟨dx, fv, eh, .inl rfl⟩)
    exact ⟨k2, dx, fv, k4, k1.trans eh, k3.trans ex, kk, r.upA e fun a ha => k a (.inr ⟨dx, fv, eh, .inr ha⟩), nd⟩
theorem OwnAt.monoA {o : O} (e : Ex G G') (k : ∀ a, Ads H p o a → H' a = H a ∧ F' a) (h : OwnAt K F G H p o) : OwnAt K F' G' H' p o := h.upA (Up.ex e) k
theorem pln_t {u : HO} (h : pln u = true) : noTup u = true := by cases u <;> first | rfl | cases h
theorem pln2_t {p : Addr} {u : HO} (h : pln2 p u = true) : noTup u = true := by cases u <;> first | rfl | cases h
theorem OwnAt.mono {o : O} (e : Ex G G') (k : ∀ a, F a → (∃ u, H a = some u ∧ noTup u = true) → H' a = H a ∧ F' a) (h : OwnAt K F G H p o) : OwnAt K F' G' H' p o :=
  h.monoA e fun a ha => by
    obtain ⟨f, u, hu, hk⟩ := h.ads ha
    exact k a f ⟨u, hu, pln2_t hk⟩
theorem Ads.eq {o : O} {a : Addr} (hp : H' p = H p) (h : Ads H' p o a) : Ads H p o a := by
  cases o with
  | one o => exact h
  | nest its => rcases h with h | ⟨vs, e, k⟩; exact .inl h; exact .inr ⟨vs, hp.symm.trans e, k⟩
  | ins C fs => rcases h with h | ⟨dx, fv, e, k⟩; exact .inl h; exact .inr ⟨dx, fv, hp.symm.trans e, k⟩
end

/-! ### what a name, a value is -/
inductive S where
  | no | dat (d : D) | own (o : O) | vw (o : O) | at_ (p : Addr) | xc (C a d : Addr) (fs : List (Str × D)) | el (i j : Nat) | lk (o : O1)
def S.frz : S → S
  | .own o => .dat o.frz
  | s => s
section
variable {ι : Type}
def Fr (W : Wd ι) (H0 G : Hp) (q : Addr) : Prop := H0 q = none ∧ G q = none ∧ ¬ W.M q
def Fv (W : Wd ι) (G : Hp) (q : Addr) : Prop := G q = none ∧ ¬ W.M q
/-- a dict that is locked, as the world knows -/
def LkOb (K : PySem.W.Frag) (G : Hp) (u : HO) : O1 → Prop
  | .lst _ => False
  | .dK ds => ∃ kvs, u = .dK kvs ∧ kvs.map (·.1) = ds.map (·.1) ∧ RpL K G (kvs.map (·.2)) (ds.map (·.2))
  | .dT ds => ∃ kvs, u = .dT kvs ∧ kvs.map (·.1) = ds.map (·.1) ∧ RpL K G (kvs.map (·.2)) (ds.map (·.2))
theorem LkOb.up {K : PySem.W.Frag} {G G' : Hp} {u : HO} {o : O1} (e : Up K G G') (h : LkOb K G u o) : LkOb K G' u o := by
  cases o with
  | lst ds => exact h.elim
  | dK ds => obtain ⟨kvs, a, b, c⟩ := h; exact ⟨kvs, a, b, c.up e⟩
  | dT ds => obtain ⟨kvs, a, b, c⟩ := h; exact ⟨kvs, a, b, c.up e⟩
def RelS (K : PySem.W.Frag) (W : Wd ι) (H0 G H : Hp) (v : V) : S → Prop
  | .no => True
  | .dat d => Rp K G v d
  | .own o => ∃ p, v = .ref p ∧ OwnAt K (Fr W H0 G) G H p o
  | .vw o => ∃ p, v = .ref p ∧ OwnAt K (Fv W G) G H p o
  | .at_ p => v = .ref p
  | .xc _ a d fs => v = .ref a ∧ G d = none ∧ ¬ W.M d ∧ ∃ fv, H d = some (.xd fv) ∧ fv.map (·.1) = fs.map (·.1) ∧ RpL K G (fv.map (·.2)) (fs.map (·.2))
  | .el _ _ => True
  | .lk o => ∃ p x u, v = .ref p ∧ W.pin p (.frz x u) ∧ LkOb K G u o
variable {K : PySem.W.Frag} {W : Wd ι} {m m' m1 m2 : ι} {H0 G H G' H' G1 H1 G2 H2 : Hp} {v : V} {s : S}
theorem grow_at (g : Grow W G H m' G' H') {p : Addr} (m : ¬ W.M p) (h : H p ≠ none) : H' p = H p := by
  cases e : H p with
  | none => exact absurd e h
  | some o => exact g.keep p o m e
theorem Grow.fr (g : Grow W G H m' G' H') (a : Addr) (f : Fr W H0 G a) (h : ∃ u, H a = some u ∧ noTup u = true) : H' a = H a ∧ Fr W H0 G' a := by
  obtain ⟨u, e, t⟩ := h
  exact ⟨grow_at g f.2.2 (by rw [e]; exact fun z => by cases z), f.1, g.fresh a u e t f.2.1, f.2.2⟩
theorem Grow.fv (g : Grow W G H m' G' H') (a : Addr) (f : Fv W G a) (h : ∃ u, H a = some u ∧ noTup u = true) : H' a = H a ∧ Fv W G' a := by
  obtain ⟨u, e, t⟩ := h
  exact ⟨grow_at g f.2 (by rw [e]; exact fun z => by cases z), g.fresh a u e t f.1, f.2⟩
theorem RelS.grow (g : Grow W G H m' G' H') (r : RelS K W H0 G H v s) : RelS K W H0 G' H' v s := by
  cases s with
  | no => trivial
  | el i j => trivial
  | dat d => exact Rp.mono g.ex r
  | own o => obtain ⟨p, rfl, ob⟩ := r; exact ⟨p, rfl, ob.mono g.ex g.fr⟩
  | vw o => obtain ⟨p, rfl, ob⟩ := r; exact ⟨p, rfl, ob.mono g.ex g.fv⟩
  | lk o => obtain ⟨p, x, u, rfl, n, ob⟩ := r; exact ⟨p, x, u, rfl, n, ob.up (Up.ex g.ex)⟩
  | at_ p => exact r
  | xc C a d fs =>
    obtain ⟨e, n, m, fv, h, k, b⟩ := r
    exact ⟨e, g.fresh d _ h rfl n, m, fv, g.keep d _ m h, k, b.mono g.ex⟩
theorem RelS.back (g : Grow W G H m1 G1 H1) (r : RelS K W H1 G2 H2 v s) : RelS K W H G2 H2 v s := by
  cases s with
  | own o =>
    obtain ⟨p, rfl, ob⟩ := r
    exact ⟨p, rfl, ob.mono (Ex.refl _) fun a f _ => ⟨rfl, g.back f.1, f.2⟩⟩
  | no => trivial
  | el i j => trivial
  | dat d => exact r
  | vw o => exact r
  | lk o => exact r
  | at_ p => exact r
  | xc C a d fs => exact r
/-- what an object of one's own is as data -/
theorem frz_1 {p : Addr} {o : O1} (g : Grow W G H m1 G1 H1) (f : Fr W H G1 p) (ob : Ob1 K G1 H1 p o) : ∃ G2, Grow W G H m1 G2 H1 ∧ Rp K G2 (.ref p) o.frz ∧ Ex G1 G2 ∧ ∀ q, q ≠ p → G2 q = G1 q := by
  obtain ⟨u, hu, hk⟩ := ob.at
  have nf : ∀ x y, u ≠ .frz x y := fun x y z => by rw [z] at hk; cases hk
  have x : Ex G1 (upd G1 p u) := Ex.new f.2.1
  refine ⟨upd G1 p u, g.frz f.1 f.2.1 hu nf, ?_, x, fun q hq => upd_ne hq⟩
  cases o with
  | lst ds => obtain ⟨xs, e, b⟩ := ob; rw [hu] at e; cases e; exact Rp.lst upd_same (b.mono x)
  | dK ds => obtain ⟨xs, e, k, b⟩ := ob; rw [hu] at e; cases e; exact Rp.dic (.inl upd_same) k (b.mono x)
  | dT ds => obtain ⟨xs, e, k, b⟩ := ob; rw [hu] at e; cases e; exact Rp.dit (.inl upd_same) k (b.mono x)
theorem frz_its : ∀ {vs : List V} {is : List It} {G1 : Hp}, Grow W G H m1 G1 H1 → RIts K (Fr W H G1) G1 H1 vs is → (kids vs is).Nodup →
    ∃ G2, Grow W G H m1 G2 H1 ∧ RpL K G2 vs (is.map It.frz) ∧ Ex G1 G2 ∧ ∀ q, q ∉ kids vs is → G2 q = G1 q
  | [], [], G1, g, _, _ => ⟨G1, g, .nil, Ex.refl _, fun _ _ => rfl⟩
  | [], _ :: _, _, _, z, _ => by cases z
  | _ :: _, [], _, _, z, _ => by cases z
  | v :: vs, .d d :: is, G1, g, z, nd => by
    cases z with
    | cons r rs =>
      rw [kids_d] at nd
      obtain ⟨G2, g2, r2, e2, k2⟩ := frz_its g rs nd
      exact ⟨G2, g2, .cons (Rp.mono e2 r) r2, e2, fun q hq => k2 q (by rw [kids_d] at hq; exact hq)⟩
  | v :: vs, .o o :: is, G1, g, z, nd => by
    cases z with
    | cons r rs =>
      obtain ⟨p, rfl, f, ob⟩ := r
      rw [kids_o] at nd
      obtain ⟨n1, n2⟩ := List.nodup_cons.mp nd
      obtain ⟨G2, g2, r2, e2, k2⟩ := frz_its g rs n2
      have f2 : Fr W H G2 p := ⟨f.1, by rw [k2 p n1]; exact f.2.1, f.2.2⟩
      obtain ⟨G3, g3, r3, e3, k3⟩ := frz_1 g2 f2 (ob.mono e2 rfl)
      refine ⟨G3, g3, .cons r3 (r2.mono e3), e2.trans e3, fun q hq => ?_⟩
      rw [kids_o, List.mem_cons, not_or] at hq
      rw [k3 q hq.1, k2 q hq.2]
theorem zip_map_eq {α β γ : Type} {l : List (α × β)} {f : β → γ} : (l.map fun x => (x.1, f x.2)).map (·.1) = l.map (·.1) ∧ (l.map fun x => (x.1, f x.2)).map (·.2) = (l.map (·.2)).map f := by simp [List.map_map, Function.comp_def]
theorem frz_own {p : Addr} {o : O} (g : Grow W G H m1 G1 H1) (ob : OwnAt K (Fr W H G1) G1 H1 p o) : ∃ G2, Grow W G H m1 G2 H1 ∧ Rp K G2 (.ref p) o.frz ∧ Ex G1 G2 ∧ ∀ q, ¬ Ads H1 p o q → G2 q = G1 q := by
  cases o with
  | one o =>
    obtain ⟨G2, a, b, c, d⟩ := frz_1 g ob.1 ob.2
    exact ⟨G2, a, b, c, fun q hq => d q hq⟩
  | nest its =>
    obtain ⟨f, vs, e, r, nd⟩ := ob
    obtain ⟨n1, n2⟩ := List.nodup_cons.mp nd
    obtain ⟨G2, g2, r2, e2, k2⟩ := frz_its g r n2
    have n : G2 p = none := by rw [k2 p n1]; exact f.2.1
    refine ⟨upd G2 p (.lst vs), g2.frz f.1 n e (fun _ _ z => by cases z), Rp.lst upd_same (r2.mono (Ex.new n)), e2.trans (Ex.new n), fun q hq => ?_⟩
    have q1 : q ≠ p := fun z => hq (.inl z)
    rw [upd_ne q1, k2 q fun z => hq (.inr ⟨vs, e, z⟩)]
  | ins C fs =>
    obtain ⟨f, dx, fv, fx, e, ex, kk, r, nd⟩ := ob
    obtain ⟨G2, g2, r2, e2, k2⟩ := frz_its g r nd
    have nk : p ∉ kids (fv.map (·.2)) (fs.map (·.2)) := fun z => by
      obtain ⟨_, u, hu, hk⟩ := r.kid z
      rw [e] at hu
      cases hu
      have : ∀ {vs is}, RIts K (Fr W H G1) G1 H1 vs is → p ∈ kids vs is → False := fun {vs is} rr => by
        induction rr with
        | nil => intro h; cases h
        | @cons v vs i is r1 _ ih =>
          intro h
          cases i with
          | d d => rw [kids_d] at h; exact ih h
          | o o =>
            obtain ⟨q, rfl, _, ob⟩ := r1
            rw [kids_o] at h
            rcases List.mem_cons.mp h with rfl | h
            · cases o with
              | lst ds => obtain ⟨_, z, _⟩ := ob; rw [e] at z; cases z
              | dK ds => obtain ⟨_, z, _⟩ := ob; rw [e] at z; cases z
              | dT ds => obtain ⟨_, z, _⟩ := ob; rw [e] at z; cases z
            · exact ih h
      exact this r z
    have nx : dx ∉ kids (fv.map (·.2)) (fs.map (·.2)) := fun z => by
      obtain ⟨_, u, hu, hk⟩ := r.kid z
      rw [ex] at hu
      cases hu
      cases hk
    have pd : p ≠ dx := fun z => by rw [z, ex] at e; cases e
    have n : G2 p = none := by rw [k2 p nk]; exact f.2.1
    have n2 : upd G2 p (.ins C dx fv) dx = none := by rw [upd_ne (Ne.symm pd), k2 dx nx]; exact fx.2.1
    have g3 := (g2.frz f.1 n e (fun _ _ z => by cases z)).frz fx.1 n2 ex (fun _ _ z => by cases z)
    have e3 : Ex G2 (upd (upd G2 p (.ins C dx fv)) dx (.own p)) := (Ex.new n).trans (Ex.new n2)
    refine ⟨_, g3, Rp.ins (dx := dx) (fv := fv) (by rw [upd_ne pd]; exact upd_same) upd_same (by rw [zip_map_eq.1]; exact kk) (by rw [zip_map_eq.2]; exact r2.mono e3), e2.trans e3, fun q hq => ?_⟩
    have q1 : q ≠ p := fun z => hq (.inl z)
    have q2 : q ≠ dx := fun z => hq (.inr ⟨dx, fv, e, .inl z⟩)
    rw [upd_ne q2, upd_ne q1, k2 q fun z => hq (.inr ⟨dx, fv, e, .inr z⟩)]
theorem RelS.freezeX (g : Grow W G H m1 G1 H1) (r : RelS K W H G1 H1 v s) : ∃ G2, Grow W G H m1 G2 H1 ∧ RelS K W H G2 H1 v s.frz ∧ Ex G1 G2 := by
  cases s with
  | own o => obtain ⟨p, rfl, ob⟩ := r; obtain ⟨G2, a, b, x, _⟩ := frz_own g ob; exact ⟨G2, a, b, x⟩
  | no => exact ⟨G1, g, trivial, Ex.refl _⟩
  | el i j => exact ⟨G1, g, trivial, Ex.refl _⟩
  | dat d => exact ⟨G1, g, r, Ex.refl _⟩
  | vw o => exact ⟨G1, g, r, Ex.refl _⟩
  | lk o => exact ⟨G1, g, r, Ex.refl _⟩
  | at_ p => exact ⟨G1, g, r, Ex.refl _⟩
  | xc C a d fs => exact ⟨G1, g, r, Ex.refl _⟩
theorem RelS.freeze (g : Grow W G H m1 G1 H1) (r : RelS K W H G1 H1 v s) : ∃ G2, Grow W G H m1 G2 H1 ∧ RelS K W H G2 H1 v s.frz := by
  obtain ⟨G2, a, b, _⟩ := r.freezeX g
  exact ⟨G2, a, b⟩
end
end DL
set_option Elab.async false
set_option linter.all false
set_option maxRecDepth 100000
set_option maxHeartbeats 1000000
namespace DL
open PySem L2 Evl
/-! ### where one stands -/
abbrev Xp (ι : Type) := ι → Addr → List (Str × D) → Prop
section
variable {ι : Type}
def ExcQ (K : PySem.W.Frag) (W : Wd ι) (G H : Hp) (Ξ : Xp ι) (E : XK) : Prop := ∀ (C d : Addr) (fv : List (Str × V)) (fs : List (Str × D)) (m' : ι) (G' H' : Hp), Grow W G H m' G' H' → G' d = none → ¬ W.M d → H' d = some (.xd fv) → fv.map (·.1) = fs.map (·.1) → RpL K G' (fv.map (·.2)) (fs.map (·.2)) → Ξ m' C fs → E (.ref C) (some d) H'
theorem ExcQ.grow {K : PySem.W.Frag} {W : Wd ι} {m' : ι} {G H G' H' : Hp} {Ξ : Xp ι} {E : XK} (g : Grow W G H m' G' H') (h : ExcQ K W G H Ξ E) : ExcQ K W G' H' Ξ E :=
  fun C d fv fs m2 G2 H2 g2 => h C d fv fs m2 G2 H2 (g.trans g2)
end
structure Cc (ι : Type) where
  K : PySem.W.Frag
  W : Wd ι
  E : XK
  Ξ : Xp ι
  m0 : ι
  G0 : Hp
  H0 : Hp
section
variable {ι : Type}
/-- slot k is item j of the list in slot i -/
def ElAt (H : Hp) (σ : L2.St) (ρ : List S) (k i j : Nat) : Prop := ∃ its p vs q o, ρ[i]? = some (.own (.nest its)) ∧ σ[i]? = some (some (.ref p)) ∧ H p = some (.lst vs) ∧ vs[j]? = some (.ref q) ∧ its[j]? = some (.o o) ∧ σ[k]? = some (some (.ref q))
structure EnvOk (c : Cc ι) (m : ι) (G H : Hp) (σ : L2.St) (ρ : List S) : Prop where
  ok0 : Ok c.W c.m0 c.G0 c.H0
  gr : Grow c.W c.G0 c.H0 m G H
  exc : ExcQ c.K c.W c.G0 c.H0 c.Ξ c.E
  len : σ.length = ρ.length
  at_ : ∀ (i : Nat) (s : S), ρ[i]? = some s → (s = .no ∨ ∃ v, σ[i]? = some (some v) ∧ RelS c.K c.W c.H0 G H v s)
  sep : ∀ (i j : Nat) (o o' : O) (p q : Addr), i ≠ j → ρ[i]? = some (.own o) → ρ[j]? = some (.own o') → σ[i]? = some (some (.ref p)) → σ[j]? = some (some (.ref q)) → ∀ a, Ads H p o a → ¬ Ads H q o' a
  els : ∀ (k i j : Nat), ρ[k]? = some (.el i j) → ElAt H σ ρ k i j
  vws : ∀ (k : Nat) (o : O) (p : Addr), ρ[k]? = some (.vw o) → σ[k]? = some (some (.ref p)) → ∀ a, Ads H p o a → c.H0 a ≠ none
variable {c : Cc ι} {m m' m1 : ι} {G H G' H' : Hp} {σ : L2.St} {ρ : List S}
theorem EnvOk.ok (e : EnvOk c m G H σ ρ) : Ok c.W m G H := e.gr.ok e.ok0
theorem EnvOk.refl (e : EnvOk c m G H σ ρ) : Grow c.W G H m G H := e.ok.refl
theorem EnvOk.own (e : EnvOk c m G H σ ρ) {i : Nat} {o : O} (hi : ρ[i]? = some (.own o)) : ∃ p, σ[i]? = some (some (.ref p)) ∧ OwnAt c.K (Fr c.W c.H0 G) G H p o := by
  rcases e.at_ i _ hi with z | ⟨v, a, p, rfl, ob⟩
  · cases z
  · exact ⟨p, a, ob⟩
theorem OwnAt.here {K : PySem.W.Frag} {F : Addr → Prop} {p : Addr} {o : O} (h : OwnAt K F G H p o) : H p ≠ none := by
  obtain ⟨_, u, e, _⟩ := h.root
  rw [e]; exact fun z => by cases z
theorem OwnAt.hereT {K : PySem.W.Frag} {F : Addr → Prop} {p : Addr} {o : O} (h : OwnAt K F G H p o) : ∃ u, H p = some u ∧ noTup u = true := by
  obtain ⟨_, u, e, t⟩ := h.root
  exact ⟨u, e, pln_t t⟩
theorem EnvOk.grow (g : Grow c.W G H m' G' H') (e : EnvOk c m G H σ ρ) : EnvOk c m' G' H' σ ρ := by
  have kp : ∀ {i : Nat} {o : O} {p : Addr}, ρ[i]? = some (.own o) → σ[i]? = some (some (.ref p)) → H' p = H p := fun {i o p} hi hp => by
    obtain ⟨p', hp', ob⟩ := e.own hi
    rw [hp] at hp'
    cases hp'
    exact (g.fr p ob.root.1 ob.hereT).1
  refine ⟨e.ok0, e.gr.trans g, e.exc, e.len, fun i s h => (e.at_ i s h).imp_right fun ⟨v, a, r⟩ => ⟨v, a, r.grow g⟩, fun i j o o' p q hij hi hj pi pj a ha hb => ?_, fun k i j h => ?_, fun k o p hk hp a ha => ?_⟩
  · exact e.sep i j o o' p q hij hi hj pi pj a (ha.eq (kp hi pi)) (hb.eq (kp hj pj))
  · obtain ⟨its, p, vs, q, o, h1, h2, h3, h4⟩ := e.els k i j h
    exact ⟨its, p, vs, q, o, h1, h2, (kp h1 h2).trans h3, h4⟩
  · rcases e.at_ k _ hk with z | ⟨v, hv, p', rfl, ob⟩
    · cases z
    · rw [hp] at hv
      cases hv
      exact e.vws k o p hk hp a (ha.eq (g.fv p ob.root.1 ob.hereT).1)
theorem EnvOk.excq (e : EnvOk c m G H σ ρ) : ExcQ c.K c.W G H c.Ξ c.E := e.exc.grow e.gr

/-! ### judgements -/
def De (c : Cc ι) (m : ι) (te : TE) (ρ : List S) (Φ : ι → S → Prop) : Prop := ∀ σ G H, EnvOk c m G H σ ρ → ∀ Q : VK, (∀ v s m' G' H', Grow c.W G H m' G' H' → RelS c.K c.W H G' H' v s → Φ m' s → Q v H') → te σ H Q
def DT (c : Cc ι) (m : ι) (tt : TT) (ρ : List S) (Φ : ι → Bool → Prop) : Prop := ∀ σ G H, EnvOk c m G H σ ρ → ∀ Q : Bool → Hp → Prop, (∀ b m' G' H', Grow c.W G H m' G' H' → Φ m' b → Q b H') → tt σ H Q
inductive RelSs (K : PySem.W.Frag) (W : Wd ι) (H0 G H : Hp) : List V → List S → Prop
  | nil : RelSs K W H0 G H [] []
  | cons {v : V} {vs : List V} {s : S} {ss : List S} : RelS K W H0 G H v s → RelSs K W H0 G H vs ss → RelSs K W H0 G H (v :: vs) (s :: ss)
theorem RelSs.grow {K : PySem.W.Frag} {W : Wd ι} {H0 G H G' H' : Hp} (g : Grow W G H m' G' H') : ∀ {vs : List V} {ss : List S}, RelSs K W H0 G H vs ss → RelSs K W H0 G' H' vs ss
  | _, _, .nil => .nil
  | _, _, .cons h r => .cons (h.grow g) (r.grow g)
theorem RelSs.back {K : PySem.W.Frag} {W : Wd ι} {G H G1 H1 G2 H2 : Hp} (g : Grow W G H m1 G1 H1) : ∀ {vs : List V} {ss : List S}, RelSs K W H1 G2 H2 vs ss → RelSs K W H G2 H2 vs ss
  | _, _, .nil => .nil
  | _, _, .cons h r => .cons (h.back g) (r.back g)
theorem RelSs.length {K : PySem.W.Frag} {W : Wd ι} {H0 G H : Hp} : ∀ {vs : List V} {ss : List S}, RelSs K W H0 G H vs ss → vs.length = ss.length
  | _, _, .nil => rfl
  | _, _, .cons _ r => by simp [RelSs.length r]
def DA (c : Cc ι) (m : ι) (ta : TA) (ρ : List S) (Φ : ι → List S → Prop) : Prop := ∀ σ G H, EnvOk c m G H σ ρ → ∀ Q : List V → Hp → Prop, (∀ vs ss m' G' H', Grow c.W G H m' G' H' → RelSs c.K c.W H G' H' vs ss → Φ m' ss → Q vs H') → ta σ H Q
def Ds (c : Cc ι) (m : ι) (ts : TS) (ρ : List S) (N : ι → List S → Prop) (R : ι → S → Prop) (B C : ι → List S → Prop) : Prop := ∀ (D : Ends) σ G H, EnvOk c m G H σ ρ →
  (∀ ρ' σ' m' G' H', N m' ρ' → Ex G G' → EnvOk c m' G' H' σ' ρ' → D.nx σ' H') →
  (∀ s v m' G' H', R m' s → Ex G G' → Grow c.W c.G0 c.H0 m' G' H' → RelS c.K c.W c.H0 G' H' v s → D.rt v H') →
  (∀ ρ' σ' m' G' H', B m' ρ' → Ex G G' → EnvOk c m' G' H' σ' ρ' → D.bk σ' H') →
  (∀ ρ' σ' m' G' H', C m' ρ' → Ex G G' → EnvOk c m' G' H' σ' ρ' → D.ct σ' H') → ts D σ H

variable {Φ : ι → S → Prop} {te ta tb : TE}
theorem De.imp {Ψ : ι → S → Prop} (h : De c m te ρ Φ) (i : ∀ m s, Φ m s → Ψ m s) : De c m te ρ Ψ := fun σ G H e Q q => h σ G H e Q fun v s m' G' H' g r p => q v s m' G' H' g r (i m' s p)
theorem de_frz (h : De c m te ρ fun m s => Φ m s.frz) : De c m te ρ Φ := fun σ G H e Q q => h σ G H e Q fun v s m1 G1 H1 g r p => by
  obtain ⟨G2, g2, r2⟩ := r.freeze g
  exact q v _ m1 G2 H1 g2 r2 p
theorem OwnAt.vw {K : PySem.W.Frag} {W : Wd ι} {H0 : Hp} {p : Addr} {o : O} (h : OwnAt K (Fr W H0 G) G H p o) : OwnAt K (Fv W G) G H p o := h.mono (Ex.refl _) fun a f _ => ⟨rfl, f.2⟩
theorem de_varD {i : Nat} {d : D} (hs : ρ[i]? = some (.dat d)) (h : Φ m (.dat d)) : De c m (tVar i) ρ Φ := fun σ G H e Q q => by
  rcases e.at_ i _ hs with hz | ⟨v, a, r⟩
  · cases hz
  · exact ⟨v, a, q v (.dat d) m G H e.refl r h⟩
theorem de_varO {i : Nat} {o : O} (hs : ρ[i]? = some (.own o)) (h : Φ m (.vw o)) : De c m (tVar i) ρ Φ := fun σ G H e Q q => by
  obtain ⟨p, a, ob⟩ := e.own hs
  exact ⟨.ref p, a, q _ (.vw o) m G H e.refl ⟨p, rfl, ob.vw⟩ h⟩
theorem de_varV {i : Nat} {o : O} (hs : ρ[i]? = some (.vw o)) (h : Φ m (.vw o)) : De c m (tVar i) ρ Φ := fun σ G H e Q q => by
  rcases e.at_ i _ hs with hz | ⟨v, a, r⟩
  · cases hz
  · exact ⟨v, a, q v (.vw o) m G H e.refl r h⟩
theorem de_varA {i : Nat} {p : Addr} (hs : ρ[i]? = some (.at_ p)) (h : Φ m (.at_ p)) : De c m (tVar i) ρ Φ := fun σ G H e Q q => by
  rcases e.at_ i _ hs with hz | ⟨v, a, r⟩
  · cases hz
  · exact ⟨v, a, q v (.at_ p) m G H e.refl r h⟩
/-- an item of an own list -/
theorem de_varE {k i j : Nat} {its : List It} {o : O1} (hs : ρ[k]? = some (.el i j)) (hi : ρ[i]? = some (.own (.nest its))) (hj : its[j]? = some (.o o)) (h : Φ m (.vw (.one o))) : De c m (tVar k) ρ Φ := fun σ G H e Q q => by
  obtain ⟨its', p, vs, a, o', h1, h2, h3, h4, h5, h6⟩ := e.els k i j hs
  rw [hi] at h1
  cases h1
  rw [hj] at h5
  cases h5
  obtain ⟨p', hp', f, vs', e', r, nd⟩ := e.own hi
  rw [h2] at hp'
  cases hp'
  rw [h3] at e'
  cases e'
  obtain ⟨v, hv, a', ev, fa, ob⟩ := r.getD hj
  rw [h4] at hv
  cases hv
  cases ev
  exact ⟨.ref a, h6, q _ (.vw (.one o)) m G H e.refl ⟨a, rfl, fa.2, ob⟩ h⟩
theorem de_int {i : Int} (h : Φ m (.dat (.int i))) : De c m (tC (.int i)) ρ Φ := fun σ G H e Q q => q _ (.dat (.int i)) m G H e.refl (Rp.int i) h
theorem de_bl {b : Bool} (h : Φ m (.dat (.bl b))) : De c m (tC (.bl b)) ρ Φ := fun σ G H e Q q => q _ (.dat (.bl b)) m G H e.refl (Rp.bl b) h
theorem de_str {x : Str} (h : Φ m (.dat (.str x))) : De c m (tC (.str x)) ρ Φ := fun σ G H e Q q => q _ (.dat (.str x)) m G H e.refl (Rp.str x) h
theorem de_non (h : Φ m (.dat .non)) : De c m (tC .non) ρ Φ := fun σ G H e Q q => q _ (.dat .non) m G H e.refl Rp.non h

/-! operations on values -/
def OpS (K : PySem.W.Frag) (W : Wd ι) (m : ι) (r : R2) (s1 s2 : S) (Φ : ι → S → Prop) : Prop := ∀ H0 G H v1 v2, Ok W m G H → RelS K W H0 G H v1 s1 → RelS K W H0 G H v2 s2 → ∀ Q : VK, (∀ v s m' G' H', Grow W G H m' G' H' → RelS K W H G' H' v s → Φ m' s → Q v H') → r v1 v2 H Q
theorem de_op {r : R2} (h : De c m ta ρ fun m s1 => De c m tb ρ fun m s2 => OpS c.K c.W m r s1 s2 Φ) : De c m (tOp r ta tb) ρ Φ := fun σ G H e Q q =>
  h σ G H e _ fun v1 s1 m1 G1 H1 g1 r1 h1 => h1 σ G1 H1 (e.grow g1) _ fun v2 s2 m2 G2 H2 g2 r2 h2 =>
    h2 H G2 H2 v1 v2 ((e.grow g1).grow g2).ok (r1.grow g2) (r2.back g1) Q fun v s m3 G3 H3 g3 r3 p => q v s m3 G3 H3 ((g1.trans g2).trans g3) ((r3.back g2).back g1) p
theorem de_un {r : V → Hp → VK → Prop} (h : De c m ta ρ fun m s1 => ∀ H0 G H v1, Ok c.W m G H → RelS c.K c.W H0 G H v1 s1 → ∀ Q : VK, (∀ v s m' G' H', Grow c.W G H m' G' H' → RelS c.K c.W H G' H' v s → Φ m' s → Q v H') → r v1 H Q) : De c m (tUn r ta) ρ Φ := fun σ G H e Q q =>
  h σ G H e _ fun v1 s1 m1 G1 H1 g1 r1 h1 => h1 H G1 H1 v1 (e.grow g1).ok r1 Q fun v s m3 G3 H3 g3 r3 p => q v s m3 G3 H3 (g1.trans g3) (r3.back g1) p
theorem de_neg (h : De c m ta ρ fun m s => ∃ i, s = .dat (.int i) ∧ Φ m (.dat (.int (-i)))) : De c m (tUn (rU fun i => .int (-i)) ta) ρ Φ := de_un (h.imp fun m s ⟨i, e, p⟩ H0 G H v1 ok r Q q => by
  subst e
  cases r
  exact ⟨i, rfl, q _ (.dat (.int (-i))) m G H ok.refl (Rp.int (-i)) p⟩)
end
end DL
set_option Elab.async false
set_option linter.all false
set_option maxRecDepth 100000
set_option maxHeartbeats 1000000
namespace DL
open PySem L2 Evl
variable {ι : Type} {m m' m1 m2 : ι}
section
variable {K : PySem.W.Frag} {W : Wd ι} {Φ : ι → S → Prop}
theorem ops_l {r r' : R2} {s1 s2 : S} (h : OpS K W m r s1 s2 Φ) : OpS K W m (fun x y H Q => r x y H Q ∨ r' x y H Q) s1 s2 Φ := fun H0 G H v1 v2 ok r1 r2 Q q => .inl (h H0 G H v1 v2 ok r1 r2 Q q)
theorem ops_r {r r' : R2} {s1 s2 : S} (h : OpS K W m r' s1 s2 Φ) : OpS K W m (fun x y H Q => r x y H Q ∨ r' x y H Q) s1 s2 Φ := fun H0 G H v1 v2 ok r1 r2 Q q => .inr (h H0 G H v1 v2 ok r1 r2 Q q)
theorem ops_int {f : Int → Int → Int} {i j : Int} (h : Φ m (.dat (.int (f i j)))) : OpS K W m (rI0 fun i j => .int (f i j)) (.dat (.int i)) (.dat (.int j)) Φ := fun H0 G H v1 v2 ok r1 r2 Q q => by
  cases r1; cases r2
  exact ⟨i, j, rfl, rfl, q _ (.dat (.int (f i j))) m G H ok.refl (Rp.int _) h⟩
theorem ops_bool {f : Int → Int → Bool} {i j : Int} (h : Φ m (.dat (.bl (f i j)))) : OpS K W m (rI0 fun i j => .bl (f i j)) (.dat (.int i)) (.dat (.int j)) Φ := fun H0 G H v1 v2 ok r1 r2 Q q => by
  cases r1; cases r2
  exact ⟨i, j, rfl, rfl, q _ (.dat (.bl (f i j))) m G H ok.refl (Rp.bl _) h⟩
theorem ops_intC {C : Int → Int → Prop} {f : Int → Int → Int} {i j : Int} (hc : C i j) (h : Φ m (.dat (.int (f i j)))) : OpS K W m (rI C fun i j => .int (f i j)) (.dat (.int i)) (.dat (.int j)) Φ := fun H0 G H v1 v2 ok r1 r2 Q q => by
  cases r1; cases r2
  exact ⟨i, j, rfl, rfl, hc, q _ (.dat (.int (f i j))) m G H ok.refl (Rp.int _) h⟩

/-! ### == of data -/
mutual
def D.py : D → Option PyData
  | .non => some .none
  | .bl b => some (.bool b)
  | .int i => some (.int i)
  | .str x => some (.str x)
  | .lst ds => (D.pys ds).map .list
  | .tup ds => (D.pys ds).map .tuple
  | .scr ns => some (.list (ns.map .int))
  | _ => none
def D.pys : List D → Option (List PyData)
  | [] => some []
  | d :: ds => (D.py d).bind fun x => (D.pys ds).map fun xs => x :: xs
end
theorem dp_ints {K : PySem.W.Frag} {H : Hp} : ∀ ns : List Int, DpAll K H (ns.map V.int) (ns.map PyData.int)
  | [] => .nil
  | n :: ns => .cons (.int n) (dp_ints ns)
mutual
theorem Rp.dp {K : PySem.W.Frag} {G H : Hp} (e : Ex G H) : ∀ {v : V} {d : D} {x : PyData}, Rp K G v d → d.py = some x → Dp K H v x
  | _, _, x, .non, q => by unfold D.py at q; cases q; exact .non
  | _, _, x, .bl b, q => by unfold D.py at q; cases q; exact .bl b
  | _, _, x, .int i, q => by unfold D.py at q; cases q; exact .int i
  | _, _, x, .str s, q => by unfold D.py at q; cases q; exact .str s
  | _, _, x, .lst (ds := ds) h r, q => by
    unfold D.py at q
    cases z : D.pys ds with
    | none => rw [z] at q; cases q
    | some xs => rw [z] at q; cases q; exact .lst (SqL.of (e _ _ h)) (RpL.dp e r z)
  | _, _, x, .tup (ds := ds) h r, q => by
    unfold D.py at q
    cases z : D.pys ds with
    | none => rw [z] at q; cases q
    | some xs => rw [z] at q; cases q; exact .tup (SqT.of (e _ _ h)) (RpL.dp e r z)
  | _, _, x, .dic _ _ _, q => by unfold D.py at q; cases q
  | _, _, x, .dit _ _ _, q => by unfold D.py at q; cases q
  | _, _, x, .scr h, q => by unfold D.py at q; cases q; exact .lst (ex_l e h) (dp_ints _)
theorem RpL.dp {K : PySem.W.Frag} {G H : Hp} (e : Ex G H) : ∀ {vs : List V} {ds : List D} {xs : List PyData}, RpL K G vs ds → D.pys ds = some xs → DpAll K H vs xs
  | _, _, xs, .nil, q => by unfold D.pys at q; cases q; exact .nil
  | _, _, xs, .cons (d := d) (ds := ds) h r, q => by
    unfold D.pys at q
    cases z : d.py with
    | none => rw [z] at q; cases q
    | some y =>
      rw [z] at q
      cases z2 : D.pys ds with
      | none => rw [z2] at q; cases q
      | some ys => rw [z2] at q; cases q; exact .cons (Rp.dp e h z) (RpL.dp e r z2)
end
/-- data of a value that is read -/
def S.view : S → Option D
  | .dat d => some d
  | .own o => some o.frz
  | .vw o => some o.frz
  | .lk o => some o.frz
  | _ => none
theorem Ob1.rp {G H : Hp} {p : Addr} {o : O1} (e : Ex G H) (h : Ob1 K G H p o) : Rp K H (.ref p) o.frz := by
  cases o with
  | lst ds => obtain ⟨xs, a, b⟩ := h; exact .lst a (b.mono e)
  | dK ds => obtain ⟨xs, a, k, b⟩ := h; exact .dic (.inl a) k (b.mono e)
  | dT ds => obtain ⟨xs, a, k, b⟩ := h; exact .dit (.inl a) k (b.mono e)
theorem RIts.rp {F : Addr → Prop} {G H : Hp} (e : Ex G H) : ∀ {vs : List V} {is : List It}, RIts K F G H vs is → RpL K H vs (is.map It.frz)
  | _, _, .nil => .nil
  | _, _, .cons (i := .d d) r rs => .cons (Rp.mono e r) (rs.rp e)
  | _, _, .cons (i := .o o) r rs => .cons (by obtain ⟨q, rfl, _, ob⟩ := r; exact ob.rp e) (rs.rp e)
theorem OwnAt.rp {F : Addr → Prop} {G H : Hp} {p : Addr} {o : O} (e : Ex G H) (h : OwnAt K F G H p o) : Rp K H (.ref p) o.frz := by
  cases o with
  | one o => exact h.2.rp e
  | nest its => obtain ⟨_, vs, a, r, _⟩ := h; exact .lst a (r.rp e)
  | ins C fs =>
    obtain ⟨_, dx, fv, _, a, b, k, r, _⟩ := h
    exact .ins a b (by rw [zip_map_eq.1]; exact k) (by rw [zip_map_eq.2]; exact r.rp e)
/-- what is read is data of the heap -/
theorem RelS.rd {H0 G H : Hp} {v : V} {s : S} {d : D} (ok : Ok W m G H) (r : RelS K W H0 G H v s) (hs : s.view = some d) : Rp K H v d := by
  cases s with
  | dat d' => cases hs; exact Rp.mono ok.ex r
  | own o => cases hs; obtain ⟨p, rfl, ob⟩ := r; exact ob.rp ok.ex
  | vw o => cases hs; obtain ⟨p, rfl, ob⟩ := r; exact ob.rp ok.ex
  | lk o =>
    cases hs
    obtain ⟨p, x, u, rfl, n, ob⟩ := r
    have e := W.pinned _ _ _ _ _ ok.inv n
    cases o with
    | lst ds => exact ob.elim
    | dK ds => obtain ⟨kvs, rfl, b, c⟩ := ob; exact .dic (.inr ⟨x, e⟩) b (c.mono ok.ex)
    | dT ds => obtain ⟨kvs, rfl, b, c⟩ := ob; exact .dit (.inr ⟨x, e⟩) b (c.mono ok.ex)
  | no => cases hs
  | el i j => cases hs
  | at_ p => cases hs
  | xc _ _ _ _ => cases hs
theorem RelS.dp {H0 G H : Hp} {v : V} {s : S} {d : D} {x : PyData} (ok : Ok W m G H) (r : RelS K W H0 G H v s) (hs : s.view = some d) (hx : d.py = some x) : Dp K H v x := Rp.dp (Ex.refl H) (r.rd ok hs) hx
theorem ops_eqD {s1 s2 : S} {d1 d2 : D} {x1 x2 : PyData} (h1 : s1.view = some d1) (h2 : s2.view = some d2) (e1 : d1.py = some x1) (e2 : d2.py = some x2) (c1 : SeqAt.shaped x1 = true) (c2 : SeqAt.shaped x2 = true) (h : Φ m (.dat (.bl (PyData.eqv x1 x2)))) :
    OpS K W m (rEqD K) s1 s2 Φ := fun H0 G H v1 v2 ok r1 r2 Q q => ⟨x1, x2, r1.dp ok h1 e1, r2.dp ok h2 e2, c1, c2, q _ (.dat (.bl _)) m G H ok.refl (Rp.bl _) h⟩
theorem ops_neD {s1 s2 : S} {d1 d2 : D} {x1 x2 : PyData} (h1 : s1.view = some d1) (h2 : s2.view = some d2) (e1 : d1.py = some x1) (e2 : d2.py = some x2) (c1 : SeqAt.shaped x1 = true) (c2 : SeqAt.shaped x2 = true) (h : Φ m (.dat (.bl (!PyData.eqv x1 x2)))) :
    OpS K W m (rNeD K) s1 s2 Φ := fun H0 G H v1 v2 ok r1 r2 Q q => ⟨x1, x2, r1.dp ok h1 e1, r2.dp ok h2 e2, c1, c2, q _ (.dat (.bl _)) m G H ok.refl (Rp.bl _) h⟩

/-! ### sequences -/
/-- a list that is read: its items -/
def S.lst? : S → Option (List D)
  | .dat (.lst ds) => some ds
  | .dat (.scr ns) => some (ns.map .int)
  | .own (.one (.lst ds)) => some ds
  | .vw (.one (.lst ds)) => some ds
  | _ => none
def S.tup? : S → Option (List D)
  | .dat (.tup ds) => some ds
  | _ => none
theorem RelS.lstV {H0 G H : Hp} {v : V} {s : S} {ds : List D} (ok : Ok W m G H) (r : RelS K W H0 G H v s) (h : s.lst? = some ds) : ∃ p xs, v = .ref p ∧ SqL K H p xs ∧ RpL K G xs ds := by
  cases s with
  | no => cases h
  | at_ p => cases h
  | xc _ _ _ _ => cases h
  | dat d =>
    cases d <;> first | cases h | skip
    · have r : Rp K G v _ := r
      cases r with
      | lst a b => exact ⟨_, _, rfl, SqL.of (ok.ex _ _ a), b⟩
    · have r : Rp K G v _ := r
      cases r with
      | scr a => exact ⟨_, _, rfl, ex_l ok.ex a, RpL.ofInts _⟩
  | el i j => cases h
  | lk o => cases h
  | own o =>
    cases o <;> first | cases h | skip
    rename_i o
    cases o <;> first | cases h | skip
    obtain ⟨p, rfl, _, xs, a, b⟩ := r
    exact ⟨p, xs, rfl, SqL.of a, b⟩
  | vw o =>
    cases o <;> first | cases h | skip
    rename_i o
    cases o <;> first | cases h | skip
    obtain ⟨p, rfl, _, xs, a, b⟩ := r
    exact ⟨p, xs, rfl, SqL.of a, b⟩
theorem RelS.tupV {H0 G H : Hp} {v : V} {s : S} {ds : List D} (ok : Ok W m G H) (r : RelS K W H0 G H v s) (h : s.tup? = some ds) : ∃ p xs, v = .ref p ∧ SqT K H p xs ∧ RpL K G xs ds := by
  cases s with
  | dat d =>
    cases d <;> first | cases h | skip
    have r : Rp K G v _ := r
    cases r with
    | tup a b => exact ⟨_, _, rfl, SqT.of (ok.ex _ _ a), b⟩
  | no => cases h
  | at_ p => cases h
  | xc _ _ _ _ => cases h
  | own o => cases h
  | vw o => cases h
  | el i j => cases h
  | lk o => cases h
/-- a plain list (tracked) -/
def S.raw? : S → Option (List D)
  | .dat (.lst ds) => some ds
  | .own (.one (.lst ds)) => some ds
  | .vw (.one (.lst ds)) => some ds
  | _ => none
theorem RelS.rawV {H0 G H : Hp} {v : V} {s : S} {ds : List D} (ok : Ok W m G H) (r : RelS K W H0 G H v s) (h : s.raw? = some ds) : ∃ p xs, v = .ref p ∧ H p = some (.lst xs) ∧ RpL K G xs ds := by
  cases s with
  | no => cases h
  | at_ p => cases h
  | xc _ _ _ _ => cases h
  | dat d =>
    cases d <;> first | cases h | skip
    have r : Rp K G v _ := r
    cases r with
    | lst a b => exact ⟨_, _, rfl, ok.ex _ _ a, b⟩
  | el i j => cases h
  | lk o => cases h
  | own o =>
    cases o <;> first | cases h | skip
    rename_i o
    cases o <;> first | cases h | skip
    obtain ⟨p, rfl, _, xs, a, b⟩ := r
    exact ⟨p, xs, rfl, a, b⟩
  | vw o =>
    cases o <;> first | cases h | skip
    rename_i o
    cases o <;> first | cases h | skip
    obtain ⟨p, rfl, _, xs, a, b⟩ := r
    exact ⟨p, xs, rfl, a, b⟩
theorem sz {n : Nat} (h : n ≤ 1000000) : n ≤ sizeLine := Nat.le_trans h (by decide)
theorem szl {n : Nat} (h : n < 1000000) : n < sizeLine := Nat.lt_of_lt_of_le h (by decide)
/-- a new list, one's own -/
theorem new_lst {H0 G H : Hp} {xs : List V} {ds : List D} {Q : VK} (ok : Ok W m G H) (r : RpL K G xs ds) (h : Φ m (.own (.lst ds))) (q : ∀ v s m' G' H', Grow W G H m' G' H' → RelS K W H G' H' v s → Φ m' s → Q v H') (p : Addr) (hp : H p = none) : Q (.ref p) (upd H p (.lst xs)) :=
  q (.ref p) (.own (.lst ds)) m G _ (Grow.new ok hp) ⟨p, rfl, ⟨hp, fresh_back ok.ex hp, fun m => W.ne ok.inv m hp⟩, xs, upd_same, r⟩ h
/-- a new tuple -/
theorem new_tup {H0 G H : Hp} {xs : List V} {ds : List D} {Q : VK} (ok : Ok W m G H) (r : RpL K G xs ds) (h : Φ m (.dat (.tup ds))) (q : ∀ v s m' G' H', Grow W G H m' G' H' → RelS K W H G' H' v s → Φ m' s → Q v H') (p : Addr) (hp : H p = none) : Q (.ref p) (upd H p (.tup xs)) :=
  q (.ref p) (.dat (.tup ds)) m (upd G p (.tup xs)) _ (Grow.newD ok hp fun _ _ z => by cases z) (Rp.tup upd_same (r.mono (Ex.new (fresh_back ok.ex hp)))) h
theorem ops_cat {s1 s2 : S} {ds es : List D} (h1 : s1.raw? = some ds) (h2 : s2.raw? = some es) (hl : ds.length + es.length ≤ 1000000) (h : Φ m (.own (.lst (ds ++ es)))) : OpS K W m rCat s1 s2 Φ := fun H0 G H v1 v2 ok r1 r2 Q q => by
  obtain ⟨p, xs, rfl, a1, b1⟩ := r1.rawV ok h1
  obtain ⟨p2, ys, rfl, a2, b2⟩ := r2.rawV ok h2
  exact ⟨p, p2, xs, ys, rfl, rfl, a1, a2, by rw [b1.length, b2.length]; exact sz hl, new_lst (H0 := H0) ok (b1.append b2) h q⟩
theorem ops_catT {s1 s2 : S} {ds es : List D} (h1 : s1 = .dat (.tup ds)) (h2 : s2 = .dat (.tup es)) (h0 : ds ≠ []) (hl : ds.length + es.length ≤ 1000000) (h : Φ m (.dat (.tup (ds ++ es)))) : OpS K W m (rCatT K) s1 s2 Φ := fun H0 G H v1 v2 ok r1 r2 Q q => by
  subst h1; subst h2
  obtain ⟨p, xs, rfl, a1, b1⟩ := r1.tupV ok rfl
  obtain ⟨p2, ys, rfl, a2, b2⟩ := r2.tupV ok rfl
  refine ⟨p, p2, xs, ys, rfl, rfl, a1, a2, fun z => h0 ?_, by rw [b1.length, b2.length]; exact sz hl, fun z => ?_, fun _ => new_tup (H0 := H0) ok (b1.append b2) h q⟩
  · subst z; cases b1; rfl
  · subst z
    cases b2
    rw [List.append_nil] at h
    exact q _ (.dat (.tup ds)) m G H ok.refl r1 h
theorem atI_rp {G : Hp} {xs : List V} {ds : List D} {i : Int} {d : D} (r : RpL K G xs ds) (h : atI ds i = some d) : ∃ v, atI xs i = some v ∧ Rp K G v d := by
  unfold atI at h ⊢
  rw [r.length]
  cases e : ixN ds.length i with
  | none => rw [e] at h; cases h
  | some j =>
    rw [e] at h
    exact r.getD h
theorem ops_ixL {s1 : S} {ds : List D} {i : Int} {d : D} (h1 : s1.lst? = some ds) (hi : atI ds i = some d) (h : Φ m (.dat d)) : OpS K W m (rIxL K) s1 (.dat (.int i)) Φ := fun H0 G H v1 v2 ok r1 r2 Q q => by
  obtain ⟨p, xs, rfl, a1, b1⟩ := r1.lstV ok h1
  cases r2
  obtain ⟨v, e, r⟩ := atI_rp b1 hi
  exact ⟨p, xs, i, v, rfl, rfl, a1, e, q v (.dat d) m G H ok.refl r h⟩
theorem ops_ixT {ds : List D} {i : Int} {d : D} (hi : atI ds i = some d) (h : Φ m (.dat d)) : OpS K W m (rIxT K) (.dat (.tup ds)) (.dat (.int i)) Φ := fun H0 G H v1 v2 ok r1 r2 Q q => by
  obtain ⟨p, xs, rfl, a1, b1⟩ := r1.tupV ok rfl
  cases r2
  obtain ⟨v, e, r⟩ := atI_rp b1 hi
  exact ⟨p, xs, i, v, rfl, rfl, a1, e, q v (.dat d) m G H ok.refl r h⟩
end

section
variable {c : Cc ι} {ρ : List S} {Φ : ι → S → Prop} {te ta tb : TE}
/-! ### tests -/
theorem de_andV (h : De c m ta ρ fun m s => (s = .dat (.bl true) ∧ De c m tb ρ Φ) ∨ (s = .dat (.bl false) ∧ Φ m (.dat (.bl false)))) : De c m (tAndV ta tb) ρ Φ := fun σ G H e Q q =>
  h σ G H e _ fun v s m1 G1 H1 g1 r1 h1 => by
    rcases h1 with ⟨rfl, h1⟩ | ⟨rfl, h1⟩
    · cases r1
      exact ⟨true, rfl, by rw [if_pos rfl]; exact h1 σ G1 H1 (e.grow g1) Q fun v s m' G' H' g r p => q v s m' G' H' (g1.trans g) (r.back g1) p⟩
    · cases r1
      exact ⟨false, rfl, by rw [if_neg Bool.false_ne_true]; exact q _ (.dat (.bl false)) m1 G1 H1 g1 (Rp.bl false) h1⟩
theorem de_orV (h : De c m ta ρ fun m s => (s = .dat (.bl false) ∧ De c m tb ρ Φ) ∨ (s = .dat (.bl true) ∧ Φ m (.dat (.bl true)))) : De c m (tOrV ta tb) ρ Φ := fun σ G H e Q q =>
  h σ G H e _ fun v s m1 G1 H1 g1 r1 h1 => by
    rcases h1 with ⟨rfl, h1⟩ | ⟨rfl, h1⟩
    · cases r1
      exact ⟨false, rfl, by rw [if_neg Bool.false_ne_true]; exact h1 σ G1 H1 (e.grow g1) Q fun v s m' G' H' g r p => q v s m' G' H' (g1.trans g) (r.back g1) p⟩
    · cases r1
      exact ⟨true, rfl, by rw [if_pos rfl]; exact q _ (.dat (.bl true)) m1 G1 H1 g1 (Rp.bl true) h1⟩
/-- by cases on a known bool -/
theorem de_andB (h : De c m ta ρ fun m s => ∃ b, s = .dat (.bl b) ∧ (b = true → De c m tb ρ Φ) ∧ (b = false → Φ m (.dat (.bl false)))) : De c m (tAndV ta tb) ρ Φ := de_andV (h.imp fun m s ⟨b, e, h1, h2⟩ => by
  cases b with
  | true => exact .inl ⟨e, h1 rfl⟩
  | false => exact .inr ⟨e, h2 rfl⟩)
theorem de_orB (h : De c m ta ρ fun m s => ∃ b, s = .dat (.bl b) ∧ (b = false → De c m tb ρ Φ) ∧ (b = true → Φ m (.dat (.bl true)))) : De c m (tOrV ta tb) ρ Φ := de_orV (h.imp fun m s ⟨b, e, h1, h2⟩ => by
  cases b with
  | true => exact .inr ⟨e, h2 rfl⟩
  | false => exact .inl ⟨e, h1 rfl⟩)
theorem de_notV (h : De c m ta ρ fun m s => ∃ b, s = .dat (.bl b) ∧ Φ m (.dat (.bl (!b)))) : De c m (tNotV ta) ρ Φ := fun σ G H e Q q =>
  h σ G H e _ fun v s m1 G1 H1 g1 r1 ⟨b, e1, h1⟩ => by
    subst e1
    cases r1
    exact ⟨b, rfl, q _ (.dat (.bl (!b))) m1 G1 H1 g1 (Rp.bl _) h1⟩
variable {tt tu : TT} {Ψ : ι → Bool → Prop}
theorem DT.imp {Ψ' : ι → Bool → Prop} (h : DT c m tt ρ Ψ) (i : ∀ m b, Ψ m b → Ψ' m b) : DT c m tt ρ Ψ' := fun σ G H e Q q => h σ G H e Q fun b m' G' H' g p => q b m' G' H' g (i m' b p)
theorem dt_test (h : De c m te ρ fun m s => ∃ b, s = .dat (.bl b) ∧ Ψ m b) : DT c m (tTest te) ρ Ψ := fun σ G H e Q q => h σ G H e _ fun v s m1 G1 H1 g1 r1 ⟨b, e1, h1⟩ => by
  subst e1
  cases r1
  exact ⟨b, rfl, q b m1 G1 H1 g1 h1⟩
theorem dt_B (h : De c m te ρ fun m s => ∃ b, s = .dat (.bl b) ∧ Ψ m b) : DT c m (tB te) ρ Ψ := dt_test h
theorem dt_not (h : DT c m tt ρ fun m b => Ψ m (!b)) : DT c m (tNot tt) ρ Ψ := fun σ G H e Q q => h σ G H e _ fun b m1 G1 H1 g1 h1 => q (!b) m1 G1 H1 g1 h1
theorem dt_and (h : DT c m tt ρ fun m b => (b = true → DT c m tu ρ Ψ) ∧ (b = false → Ψ m false)) : DT c m (tAnd tt tu) ρ Ψ := fun σ G H e Q q => h σ G H e _ fun b m1 G1 H1 g1 ⟨h1, h2⟩ => by
  cases b with
  | true => rw [if_pos rfl]; exact h1 rfl σ G1 H1 (e.grow g1) Q fun b m' G' H' g p => q b m' G' H' (g1.trans g) p
  | false => rw [if_neg Bool.false_ne_true]; exact q false m1 G1 H1 g1 (h2 rfl)
theorem dt_or (h : DT c m tt ρ fun m b => (b = false → DT c m tu ρ Ψ) ∧ (b = true → Ψ m true)) : DT c m (tOr tt tu) ρ Ψ := fun σ G H e Q q => h σ G H e _ fun b m1 G1 H1 g1 ⟨h1, h2⟩ => by
  cases b with
  | false => rw [if_neg Bool.false_ne_true]; exact h1 rfl σ G1 H1 (e.grow g1) Q fun b m' G' H' g p => q b m' G' H' (g1.trans g) p
  | true => rw [if_pos rfl]; exact q true m1 G1 H1 g1 (h2 rfl)
theorem dt_yes (h : Ψ m true) : DT c m tYes ρ Ψ := fun σ G H e Q q => q true m G H e.refl h
theorem de_ifE (h : DT c m tt ρ fun m b => (b = true → De c m ta ρ Φ) ∧ (b = false → De c m tb ρ Φ)) : De c m (tIf tt ta tb) ρ Φ := fun σ G H e Q q => h σ G H e _ fun b m1 G1 H1 g1 ⟨h1, h2⟩ => by
  cases b with
  | true => rw [if_pos rfl]; exact h1 rfl σ G1 H1 (e.grow g1) Q fun v s m' G' H' g r p => q v s m' G' H' (g1.trans g) (r.back g1) p
  | false => rw [if_neg Bool.false_ne_true]; exact h2 rfl σ G1 H1 (e.grow g1) Q fun v s m' G' H' g r p => q v s m' G' H' (g1.trans g) (r.back g1) p
theorem de_chain {r r' : R2} {tc : TE} (h : De c m ta ρ fun m s1 => De c m tb ρ fun m s2 => OpS c.K c.W m r s1 s2 fun m s => ∃ k, s = .dat (.bl k) ∧ (k = true → De c m tc ρ fun m s3 => OpS c.K c.W m r' s2 s3 Φ) ∧ (k = false → Φ m (.dat (.bl false)))) : De c m (tChain r r' ta tb tc) ρ Φ := fun σ G H e Q q =>
  h σ G H e _ fun v1 s1 m1 G1 H1 g1 r1 h1 => h1 σ G1 H1 (e.grow g1) _ fun v2 s2 m2 G2 H2 g2 r2 h2 =>
    h2 H G2 H2 v1 v2 ((e.grow g1).grow g2).ok (r1.grow g2) (r2.back g1) _ fun v s m3 G3 H3 g3 r3 ⟨k, ek, h3, h4⟩ => by
      subst ek
      cases r3
      refine ⟨k, rfl, ?_⟩
      cases k with
      | true =>
        rw [if_pos rfl]
        exact h3 rfl σ G3 H3 (((e.grow g1).grow g2).grow g3) _ fun v3 s3 m4 G4 H4 g4 r4 h5 => h5 H G4 H4 v2 v3 ((((e.grow g1).grow g2).grow g3).grow g4).ok ((((r2.back g1).grow g3)).grow g4) (((r4.back g3).back g2).back g1) Q fun v s m5 G5 H5 g5 r5 p =>
          q v s m5 G5 H5 ((((g1.trans g2).trans g3).trans g4).trans g5) ((((r5.back g4).back g3).back g2).back g1) p
      | false =>
        rw [if_neg Bool.false_ne_true]
        exact q _ (.dat (.bl false)) m3 G3 H3 ((g1.trans g2).trans g3) (Rp.bl false) (h4 rfl)

/-! ### argument lists, displays -/
variable {tr : TA} {Θ : ι → List S → Prop}
theorem da_nil (h : Θ m []) : DA c m tNil ρ Θ := fun σ G H e Q q => q [] [] m G H e.refl .nil h
theorem da_cons (h : De c m ta ρ fun m s => DA c m tr ρ fun m ss => Θ m (s :: ss)) : DA c m (tCons ta tr) ρ Θ := fun σ G H e Q q =>
  h σ G H e _ fun v s m1 G1 H1 g1 r1 h1 => h1 σ G1 H1 (e.grow g1) _ fun vs ss m2 G2 H2 g2 r2 h2 => q (v :: vs) (s :: ss) m2 G2 H2 (g1.trans g2) (.cons (r1.grow g2) (r2.back g1)) h2
theorem relss_dat {K : PySem.W.Frag} {W : Wd ι} {H0 G H : Hp} : ∀ {vs : List V} {ds : List D}, RelSs K W H0 G H vs (ds.map S.dat) → RpL K G vs ds
  | _, [], .nil => .nil
  | _, _ :: _, .cons h r => .cons h (relss_dat r)
theorem de_tup (h : DA c m tr ρ fun m ss => ∃ ds : List D, ss = ds.map S.dat ∧ ds.length ≤ 1000000 ∧ Φ m (.dat (.tup ds))) : De c m (tTup tr) ρ Φ := fun σ G H e Q q => h σ G H e _ fun vs ss m1 G1 H1 g1 r1 ⟨ds, es, hl, p⟩ => by
  subst es
  have r2 := relss_dat r1
  exact ⟨by rw [r2.length]; exact sz hl, new_tup (H0 := H) (e.grow g1).ok r2 p fun v s m' G' H' g r p => q v s m' G' H' (g1.trans g) (r.back g1) p⟩
theorem de_lst (h : DA c m tr ρ fun m ss => ∃ ds : List D, ss = ds.map S.dat ∧ ds.length ≤ 1000000 ∧ Φ m (.own (.lst ds))) : De c m (tLst tr) ρ Φ := fun σ G H e Q q => h σ G H e _ fun vs ss m1 G1 H1 g1 r1 ⟨ds, es, hl, p⟩ => by
  subst es
  have r2 := relss_dat r1
  exact ⟨by rw [r2.length]; exact sz hl, new_lst (H0 := H) (e.grow g1).ok r2 p fun v s m' G' H' g r p => q v s m' G' H' (g1.trans g) (r.back g1) p⟩
theorem da_star (h : De c m ta ρ fun m s => ∃ ds, (s.tup? = some ds ∨ s.lst? = some ds) ∧ DA c m tr ρ fun m ss => Θ m (ds.map S.dat ++ ss)) : DA c m (StX.tStar c.K ta tr) ρ Θ := fun σ G H e Q q =>
  h σ G H e _ fun v s m1 G1 H1 g1 r1 ⟨ds, hs, h1⟩ => by
    have key : ∃ p xs, v = .ref p ∧ (SqT c.K H1 p xs ∨ SqL c.K H1 p xs) ∧ RpL c.K G1 xs ds := by
      rcases hs with hs | hs
      · obtain ⟨p, xs, a, b, d⟩ := r1.tupV (e.grow g1).ok hs
        exact ⟨p, xs, a, .inl b, d⟩
      · obtain ⟨p, xs, a, b, d⟩ := r1.lstV (e.grow g1).ok hs
        exact ⟨p, xs, a, .inr b, d⟩
    obtain ⟨p, xs, ev, hx, r⟩ := key
    refine ⟨p, xs, ev, hx, h1 σ G1 H1 (e.grow g1) _ fun vs ss m2 G2 H2 g2 r2 h2 => q (xs ++ vs) _ m2 G2 H2 (g1.trans g2) ?_ h2⟩
    have app : ∀ {xs : List V} {ds : List D}, RpL c.K G1 xs ds → RelSs c.K c.W H G2 H2 (xs ++ vs) (ds.map S.dat ++ ss) := by
      intro xs ds r
      induction xs generalizing ds with
      | nil => cases r; exact r2.back g1
      | cons x xs ih =>
        cases r with
        | cons a b => exact .cons (Rp.mono g2.ex a) (ih b)
    exact app r

/-! ### calls of defs -/
abbrev Fc := (ι : Type) → Wd ι → ι → List S → (ι → S → Prop) → Xp ι → Prop
def RelA (K : PySem.W.Frag) (G : Hp) (v : V) : S → Prop
  | .dat d => Rp K G v d
  | .at_ p => v = .ref p
  | _ => False
def argS : S → Bool
  | .dat _ => true
  | .at_ _ => true
  | .vw _ => true
  | _ => false
def spF (K : PySem.W.Frag) (C : Fc) : Sp := fun vs H Q E => ∃ (κ : Type) (W : Wd κ) (m : κ) (G : Hp) (ss : List S) (Φ : κ → S → Prop) (Ξ : Xp κ), Ok W m G H ∧ RelSs K W H G H vs ss ∧ ss.all argS = true ∧ C κ W m ss Φ Ξ ∧ (∀ v s m' G' H', Grow W G H m' G' H' → RelS K W H G' H' v s → Φ m' s → Q v H') ∧ ExcQ K W G H Ξ E
theorem relss_arg {K : PySem.W.Frag} {W : Wd ι} {H0 H1 G H : Hp} : ∀ {vs : List V} {ss : List S}, RelSs K W H0 G H vs ss → ss.all argS = true → RelSs K W H1 G H vs ss
  | _, _, .nil, _ => .nil
  | _, s :: ss, .cons h r, q => by
    rw [List.all_cons] at q
    obtain ⟨q1, q2⟩ := Bool.and_eq_true_iff.mp q
    refine .cons ?_ (relss_arg r q2)
    cases s <;> first | exact h | cases q1
theorem de_call {C : Fc} (h : DA c m tr ρ fun m ss => ss.all argS = true ∧ C ι c.W m ss Φ c.Ξ) : De c m (tCall (spF c.K C) [] c.E tr) ρ Φ := fun σ G H e Q q => h σ G H e _ fun vs ss m1 G1 H1 g1 r1 ⟨ha, hc⟩ => by
  rw [List.append_nil]
  exact ⟨ι, c.W, m1, G1, ss, Φ, c.Ξ, (e.grow g1).ok, relss_arg r1 ha, ha, hc, fun v s m' G' H' g r p => q v s m' G' H' (g1.trans g) (r.back g1) p, (e.grow g1).excq⟩
/-- a call that raises nothing -/
theorem de_call0 {C : Fc} (h : DA c m tr ρ fun m ss => ss.all argS = true ∧ C ι c.W m ss Φ fun _ _ _ => False) : De c m (tCall (spF c.K C) [] E0 tr) ρ Φ := fun σ G H e Q q => h σ G H e _ fun vs ss m1 G1 H1 g1 r1 ⟨ha, hc⟩ => by
  rw [List.append_nil]
  exact ⟨ι, c.W, m1, G1, ss, Φ, _, (e.grow g1).ok, relss_arg r1 ha, ha, hc, fun v s m' G' H' g r p => q v s m' G' H' (g1.trans g) (r.back g1) p, fun _ _ _ _ _ _ _ _ _ _ _ _ _ z => z.elim⟩
/-! ### calls of built-ins -/
def CbS (K : PySem.W.Frag) (W : Wd ι) (m : ι) (r : List V → Hp → VK → Prop) (ss : List S) (Φ : ι → S → Prop) : Prop := ∀ H0 G H vs, Ok W m G H → RelSs K W H0 G H vs ss → ∀ Q : VK, (∀ v s m' G' H', Grow W G H m' G' H' → RelS K W H G' H' v s → Φ m' s → Q v H') → r vs H Q
theorem de_cb {r : List V → Hp → VK → Prop} (h : DA c m tr ρ fun m ss => CbS c.K c.W m r ss Φ) : De c m (tCB r tr) ρ Φ := fun σ G H e Q q => h σ G H e _ fun vs ss m1 G1 H1 g1 r1 h1 => h1 H G1 H1 vs (e.grow g1).ok r1 Q fun v s m' G' H' g r p => q v s m' G' H' (g1.trans g) (r.back g1) p
end
end DL
set_option Elab.async false
set_option linter.all false
set_option maxRecDepth 100000
set_option maxHeartbeats 1000000
namespace DL
open PySem L2 Evl
variable {ι : Type} {m m' m1 m2 : ι}
/-! ### what is walked -/
def ItD (K : PySem.W.Frag) (W : Wd ι) (G1 : Hp) (J : L2.It) (ds : List D) : Prop := ∀ m G H, Ex G1 G → Ok W m G H → ∀ i : Nat, (∀ d, ds[i]? = some d → J.go i H ∧ ∀ x H', J.yld i H x H' → ∃ G', Grow W G H m G' H' ∧ Rp K G' x d) ∧ (i = ds.length → J.stop i H)
def DI (c : Cc ι) (m : ι) (wi : TI) (ρ : List S) (Φ : ι → List D → Prop) : Prop := ∀ σ G H, EnvOk c m G H σ ρ → ∀ R : L2.It → Hp → Prop, (∀ J ds m' G' H', Grow c.W G H m' G' H' → ItD c.K c.W G' J ds → Φ m' ds → R J H') → wi σ H R
section
variable {c : Cc ι} {ρ : List S} {te ta tb : TE} {tr : TA} {Φ : ι → List D → Prop}
theorem itd_list' {K : PySem.W.Frag} {W : Wd ι} {G1 : Hp} {a : Addr} {xs : List V} {ds : List D} (h : SqL K G1 a xs) (r : RpL K G1 xs ds) : ItD K W G1 (Itl K a) ds := fun m G H e ok i => by
  have hx : SqL K H a xs := ex_l (e.trans ok.ex) h
  refine ⟨fun d hd => ?_, fun hl => ⟨xs, hx, by rw [r.length]; exact Nat.le_of_eq hl.symm⟩⟩
  obtain ⟨v, hv, rv⟩ := r.getD hd
  refine ⟨⟨xs, v, hx, hv⟩, fun x H' y => ?_⟩
  obtain ⟨eh, y⟩ := y
  have z := y xs hx
  rw [hv] at z
  cases z
  subst eh
  exact ⟨G, ok.refl, rv.mono e⟩
theorem itd_tup {K : PySem.W.Frag} {W : Wd ι} {G1 : Hp} {a : Addr} {xs : List V} {ds : List D} (h : SqT K G1 a xs) (r : RpL K G1 xs ds) : ItD K W G1 (Itt K a) ds := fun m G H e ok i => by
  have hx : SqT K H a xs := ex_t (e.trans ok.ex) h
  refine ⟨fun d hd => ?_, fun hl => ⟨xs, hx, by rw [r.length]; exact Nat.le_of_eq hl.symm⟩⟩
  obtain ⟨v, hv, rv⟩ := r.getD hd
  refine ⟨⟨xs, v, hx, hv⟩, fun x H' y => ?_⟩
  obtain ⟨eh, y⟩ := y
  have z := y xs hx
  rw [hv] at z
  cases z
  subst eh
  exact ⟨G, ok.refl, rv.mono e⟩
/-- a list that is data -/
def S.dlst? : S → Option (List D)
  | .dat (.lst ds) => some ds
  | .dat (.scr ns) => some (ns.map .int)
  | _ => none
theorem RelS.dlst {K : PySem.W.Frag} {W : Wd ι} {H0 G H : Hp} {v : V} {s : S} {ds : List D} (r : RelS K W H0 G H v s) (h : s.dlst? = some ds) : ∃ p xs, v = .ref p ∧ SqL K G p xs ∧ RpL K G xs ds := by
  cases s with
  | dat d =>
    cases d <;> first | cases h | skip
    · have r : Rp K G v _ := r
      cases r with
      | lst a b => exact ⟨_, _, rfl, SqL.of a, b⟩
    · have r : Rp K G v _ := r
      cases r with
      | scr a => exact ⟨_, _, rfl, a, RpL.ofInts _⟩
  | no => cases h
  | at_ p => cases h
  | xc _ _ _ _ => cases h
  | own o => cases h
  | vw o => cases h
  | el i j => cases h
  | lk o => cases h
theorem di_list (h : De c m te ρ fun m s => ∃ ds, s.frz.dlst? = some ds ∧ Φ m ds) : DI c m (iList c.K te) ρ Φ := fun σ G H e R q => h σ G H e _ fun v s m1 G1 H1 g1 r1 ⟨ds, hs, p⟩ => by
  obtain ⟨G2, g2, r2⟩ := r1.freeze g1
  obtain ⟨a, xs, rfl, hx, rx⟩ := r2.dlst hs
  exact ⟨a, rfl, ⟨xs, ex_l g2.sub hx⟩, q _ ds m1 G2 H1 g2 (itd_list' hx rx) p⟩
theorem di_tup (h : De c m te ρ fun m s => ∃ ds, s = .dat (.tup ds) ∧ Φ m ds) : DI c m (iTup c.K te) ρ Φ := fun σ G H e R q => h σ G H e _ fun v s m1 G1 H1 g1 r1 ⟨ds, hs, p⟩ => by
  subst hs
  have r1 : Rp c.K G1 v _ := r1
  cases r1 with
  | tup hx rx => exact ⟨_, rfl, ⟨_, SqT.of (g1.sub _ _ hx)⟩, q _ ds m1 G1 H1 g1 (itd_tup (SqT.of hx) rx) p⟩
def rngD (lo : Int) (n : Nat) : List D := (List.range n).map fun i => .int (lo + (i : Nat))
theorem itd_rng {K : PySem.W.Frag} {W : Wd ι} {G1 : Hp} {lo : Int} {n : Nat} : ItD K W G1 (Itr lo n) (rngD lo n) := fun m G H e ok i => by
  refine ⟨fun d hd => ?_, fun hl => by
    have hl' : n ≤ i := by rw [hl]; simp [rngD]
    exact hl'⟩
  have hi : i < n := by
    have := (List.getElem?_eq_some_iff.mp hd).1
    simpa [rngD] using this
  refine ⟨hi, fun x H' y => ?_⟩
  obtain ⟨eh, ex⟩ := y
  subst eh ex
  have : d = .int (lo + (i : Nat)) := by
    unfold rngD at hd
    rw [List.getElem?_map, List.getElem?_range hi] at hd
    exact (Option.some.inj hd).symm
  subst this
  exact ⟨G, ok.refl, .int _⟩
theorem di_rng1 (h : DA c m tr ρ fun m ss => ∃ n : Int, ss = [.dat (.int n)] ∧ -(2 ^ 62) ≤ n ∧ n < 2 ^ 62 ∧ Φ m (rngD 0 n.toNat)) : DI c m (iRng1 tr) ρ Φ := fun σ G H e R q => h σ G H e _ fun vs ss m1 G1 H1 g1 r1 ⟨n, es, h1, h2, p⟩ => by
  subst es
  cases r1 with
  | cons a b =>
    cases b
    cases a
    exact ⟨n, rfl, h1, h2, q _ _ m1 G1 H1 g1 itd_rng p⟩
theorem di_rng2 (h : DA c m tr ρ fun m ss => ∃ l n : Int, ss = [.dat (.int l), .dat (.int n)] ∧ (-(2 ^ 62) ≤ l ∧ l < 2 ^ 62 ∧ -(2 ^ 62) ≤ n ∧ n < 2 ^ 62) ∧ Φ m (rngD l (n - l).toNat)) : DI c m (iRng2 tr) ρ Φ := fun σ G H e R q => h σ G H e _ fun vs ss m1 G1 H1 g1 r1 ⟨m, n, es, h1, p⟩ => by
  subst es
  cases r1 with
  | cons a b =>
    cases b with
    | cons b d =>
      cases d
      cases a
      cases b
      exact ⟨m, n, rfl, h1, q _ _ m1 G1 H1 g1 itd_rng p⟩
end

/-! ### slots -/
def wipeS (ρ : List S) : List Nat → List S
  | [] => ρ
  | v :: vs => (wipeS ρ vs).set v .no
theorem wipe_get (σ : L2.St) : ∀ (vs : List Nat) (i : Nat), (wipe σ vs)[i]? = if i ∈ vs then (σ[i]?).map (fun _ => none) else σ[i]?
  | [], i => by simp [wipe]
  | v :: vs, i => by
    have ih := wipe_get σ vs i
    unfold wipe
    by_cases hi : v = i
    · subst hi
      rw [if_pos List.mem_cons_self, List.getElem?_set_self', wipe_get σ vs v]
      by_cases hm : v ∈ vs
      · rw [if_pos hm]; cases σ[v]? <;> rfl
      · rw [if_neg hm]
        cases σ[v]? <;> rfl
    · rw [List.getElem?_set_ne hi, ih]
      have : (i ∈ v :: vs) ↔ i ∈ vs := by simp [Ne.symm hi]
      simp only [this]
theorem wipe_wipe (σ : L2.St) (vs : List Nat) : wipe (wipe σ vs) vs = wipe σ vs := by
  apply List.ext_getElem?
  intro i
  rw [wipe_get, wipe_get]
  by_cases h : i ∈ vs
  · rw [if_pos h, if_pos h]; cases σ[i]? <;> rfl
  · rw [if_neg h, if_neg h]
/-- no item's name speaks of slot i -/
def noEl (i : Nat) (ρ : List S) : Bool := ρ.all fun s => match s with
  | .el a _ => a != i
  | _ => true
def noEls (vs : List Nat) (ρ : List S) : Bool := vs.all fun v => noEl v ρ
theorem noEl_ok {i : Nat} {ρ : List S} (h : noEl i ρ = true) {k a j : Nat} (hk : ρ[k]? = some (.el a j)) : a ≠ i := by
  have := List.all_eq_true.mp h _ (List.mem_of_getElem? hk)
  simpa using this
section
variable {c : Cc ι} {G H G' H' : Hp} {σ : L2.St} {ρ : List S}
theorem set_get {α : Type} {l : List α} {i j : Nat} {x y : α} (h : (l.set i x)[j]? = some y) : (i = j ∧ y = x ∧ i < l.length) ∨ (i ≠ j ∧ l[j]? = some y) := by
  by_cases hi : i = j
  · subst hi
    rw [List.getElem?_set] at h
    simp only [if_true] at h
    split at h
    · rename_i hl; cases h; exact .inl ⟨rfl, rfl, hl⟩
    · cases h
  · rw [List.getElem?_set_ne hi] at h
    exact .inr ⟨hi, h⟩
/-- a slot gets a value: all that is to be shown -/
theorem EnvOk.set0 {i : Nat} {x : Option V} {s : S} (e : EnvOk c m G H σ ρ) (hr : s = .no ∨ ∃ v, x = some v ∧ RelS c.K c.W c.H0 G H v s) (hs : ∀ o p, s = .own o → x = some (.ref p) → ∀ j o' q, j ≠ i → ρ[j]? = some (.own o') → σ[j]? = some (some (.ref q)) → ∀ a, Ads H p o a → ¬ Ads H q o' a)
    (hn : noEl i ρ = true) (he : ∀ a j, s = .el a j → a ≠ i ∧ ∃ q, x = some (.ref q) ∧ ∃ its p vs o, ρ[a]? = some (.own (.nest its)) ∧ σ[a]? = some (some (.ref p)) ∧ H p = some (.lst vs) ∧ vs[j]? = some (.ref q) ∧ its[j]? = some (.o o)) (hv : ∀ o, s ≠ .vw o) : EnvOk c m G H (σ.set i x) (ρ.set i s) := by
  have sg : ∀ {k : Nat} {y : Option V}, i ≠ k → σ[k]? = some y → (σ.set i x)[k]? = some y := fun hk h => by rw [List.getElem?_set_ne hk]; exact h
  have gs : ∀ {k : Nat} {y : Option V}, i ≠ k → (σ.set i x)[k]? = some y → σ[k]? = some y := fun hk h => by rwa [List.getElem?_set_ne hk] at h
  have here : i < ρ.length → (σ.set i x)[i]? = some x := fun hl => by rw [List.getElem?_set]; simp only [if_true]; rw [if_pos (by rw [e.len]; exact hl)]
  refine ⟨e.ok0, e.gr, e.exc, by rw [List.length_set, List.length_set]; exact e.len, fun j t ht => ?_, fun j k o o' p q hjk hj hk pj pk => ?_, fun k a j hk => ?_, fun k o p hk hp a ha => ?_⟩
  · rcases set_get ht with ⟨rfl, rfl, hl⟩ | ⟨hi, ht⟩
    · rcases hr with hr | ⟨v, rfl, hr⟩
      · exact .inl hr
      · exact .inr ⟨v, here hl, hr⟩
    · exact (e.at_ j t ht).imp_right fun ⟨v, a, r⟩ => ⟨v, sg hi a, r⟩
  · rcases set_get hj with ⟨rfl, h1, hl⟩ | ⟨h1, hj⟩
    · rcases set_get hk with ⟨rfl, _⟩ | ⟨h2, hk⟩
      · exact absurd rfl hjk
      · rw [here hl] at pj
        exact hs o p h1.symm (Option.some.inj pj) k o' q (Ne.symm h2) hk (gs h2 pk)
    · rcases set_get hk with ⟨rfl, h2, hl⟩ | ⟨h2, hk⟩
      · rw [here hl] at pk
        intro a ha hb
        exact hs o' q h2.symm (Option.some.inj pk) j o p (Ne.symm h1) hj (gs h1 pj) a hb ha
      · exact e.sep j k o o' p q hjk hj hk (gs h1 pj) (gs h2 pk)
  · rcases set_get hk with ⟨rfl, h1, hl⟩ | ⟨h1, hk⟩
    · obtain ⟨na, q, rfl, its, p, vs, o, e1, e2, e3, e4, e5⟩ := he a j h1.symm
      exact ⟨its, p, vs, q, o, by rw [List.getElem?_set_ne (Ne.symm na)]; exact e1, sg (Ne.symm na) e2, e3, e4, e5, here hl⟩
    · have na := noEl_ok hn hk
      obtain ⟨its, p, vs, q, o, e1, e2, e3, e4, e5, e6⟩ := e.els k a j hk
      exact ⟨its, p, vs, q, o, by rw [List.getElem?_set_ne (Ne.symm na)]; exact e1, sg (Ne.symm na) e2, e3, e4, e5, sg h1 e6⟩
  · rcases set_get hk with ⟨rfl, h1, hl⟩ | ⟨h1, hk⟩
    · exact absurd h1.symm (hv o)
    · exact e.vws k o p hk (gs h1 hp) a ha
theorem EnvOk.set {i : Nat} {v : V} {s : S} (e : EnvOk c m G H σ ρ) (r : RelS c.K c.W c.H0 G H v s) (hn : noEl i ρ = true) (ho : ∀ o, s ≠ .own o) (he : ∀ a j, s ≠ .el a j) (hv : ∀ o, s ≠ .vw o) : EnvOk c m G H (σ.set i (some v)) (ρ.set i s) :=
  e.set0 (.inr ⟨v, rfl, r⟩) (fun o p z => absurd z (ho o)) hn (fun a j z => absurd z (he a j)) hv
theorem EnvOk.setD {i : Nat} {v : V} {d : D} (e : EnvOk c m G H σ ρ) (hn : noEl i ρ = true) (r : Rp c.K G v d) : EnvOk c m G H (σ.set i (some v)) (ρ.set i (.dat d)) := e.set (s := .dat d) r hn (fun o z => by cases z) (fun _ _ z => by cases z) (fun _ z => by cases z)
/-- a fresh own thing into a slot -/
theorem EnvOk.setF {i : Nat} {v : V} {s : S} (e : EnvOk c m G H σ ρ) (g : Grow c.W G H m' G' H') (r : RelS c.K c.W H G' H' v s) (hn : noEl i ρ = true) (he : ∀ a j, s ≠ .el a j) (hv : ∀ o, s ≠ .vw o) : EnvOk c m' G' H' (σ.set i (some v)) (ρ.set i s) := by
  refine (e.grow g).set0 (.inr ⟨v, rfl, r.back e.gr⟩) (fun o p es ev j o' q hj hs hσ a ha hb => ?_) hn (fun a j z => absurd z (he a j)) hv
  subst es
  cases ev
  obtain ⟨p', e1, ob⟩ := r
  cases e1
  obtain ⟨f1, _⟩ := ob.ads ha
  obtain ⟨q', hq', ob2⟩ := e.own hs
  rw [hσ] at hq'
  cases hq'
  have hb' := hb.eq (grow_at g ob2.root.1.2.2 ob2.here)
  obtain ⟨_, u, hu, _⟩ := ob2.ads hb'
  rw [f1.1] at hu
  cases hu
/-- a slot is forgotten -/
theorem EnvOk.unset {i : Nat} (e : EnvOk c m G H σ ρ) (x : Option V) (hn : noEl i ρ = true) : EnvOk c m G H (σ.set i x) (ρ.set i .no) :=
  e.set0 (.inl rfl) (fun o p z => by cases z) hn (fun a j z => by cases z) (fun _ z => by cases z)
theorem noEl_set {i k : Nat} {ρ : List S} (h : noEl i ρ = true) : noEl i (ρ.set k .no) = true := by
  unfold noEl at h ⊢
  rw [List.all_eq_true] at h ⊢
  intro s hs
  rcases List.mem_or_eq_of_mem_set hs with hs | rfl
  · exact h s hs
  · rfl
theorem noEl_wipe {i : Nat} {ρ : List S} (h : noEl i ρ = true) : ∀ vs, noEl i (wipeS ρ vs) = true
  | [] => h
  | v :: vs => noEl_set (noEl_wipe h vs)
theorem EnvOk.wipe (e : EnvOk c m G H σ ρ) : ∀ vs : List Nat, noEls vs ρ = true → EnvOk c m G H (wipe σ vs) (wipeS ρ vs)
  | [], _ => e
  | v :: vs, h => by
    have h : (noEl v ρ && noEls vs ρ) = true := h
    obtain ⟨h1, h2⟩ := Bool.and_eq_true_iff.mp h
    exact (EnvOk.wipe e vs h2).unset none (noEl_wipe h1 vs)
end
/-! ### targets -/
def DG (c : Cc ι) (m : ι) (g : TG) (vs : List Nat) (d : D) (ρ ρ' : List S) : Prop := ∀ v σ G H, EnvOk c m G H σ ρ → Rp c.K G v d → ∀ Q : L2.St → Hp → Prop, (∀ σ', (∀ m' G' H', Ex G G' → EnvOk c m' G' H' σ ρ → EnvOk c m' G' H' σ' ρ') → wipe σ' vs = wipe σ vs → Q σ' H) → g v σ H Q
theorem wipe_set {σ : L2.St} {vs : List Nat} {i : Nat} {x : Option V} (h : i ∈ vs) : wipe (σ.set i x) vs = wipe σ vs := by
  apply List.ext_getElem?
  intro j
  rw [wipe_get, wipe_get]
  by_cases hj : j ∈ vs
  · rw [if_pos hj, if_pos hj, List.getElem?_set]
    split
    · rename_i z
      subst z
      split
      · rename_i hl
        rw [List.getElem?_eq_getElem hl]
        rfl
      · rename_i hl
        rw [List.getElem?_eq_none (by omega)]
    · rfl
  · rw [if_neg hj, if_neg hj, List.getElem?_set_ne fun z => hj (by rw [← z]; exact h)]
theorem dg_name {c : Cc ι} {j : Nat} {vs : List Nat} {d : D} {ρ : List S} (hj : j ∈ vs) (hn : noEl j ρ = true := by with_unfolding_all rfl) : DG c m (gName j) vs d ρ (ρ.set j (.dat d)) := fun v σ G H e r Q q => q _ (fun _ _ _ x e => e.setD hn (r.mono x)) (wipe_set hj)
theorem noEl_dat {i k : Nat} {d : D} {ρ : List S} (h : noEl i ρ = true) : noEl i (ρ.set k (.dat d)) = true := by
  unfold noEl at h ⊢
  rw [List.all_eq_true] at h ⊢
  intro s hs
  rcases List.mem_or_eq_of_mem_set hs with hs | rfl
  · exact h s hs
  · rfl
theorem dg_tup2 {c : Cc ι} {i j : Nat} {vs : List Nat} {d1 d2 : D} {ρ : List S} (hi : i ∈ vs) (hj : j ∈ vs) (n1 : noEl i ρ = true := by with_unfolding_all rfl) (n2 : noEl j ρ = true := by with_unfolding_all rfl) : DG c m (gTup c.K 2 (gCons (gName i) (gCons (gName j) gNil))) vs (.tup [d1, d2]) ρ ((ρ.set i (.dat d1)).set j (.dat d2)) := fun v σ G H e r Q q => by
  cases r with
  | tup h r =>
    cases r with
    | cons a r =>
      cases r with
      | cons b r =>
        cases r
        exact ⟨_, _, rfl, SqT.of (e.ok.ex _ _ h), rfl, _, _, rfl, _, _, rfl, rfl, q _ (fun _ _ _ x e => (e.setD n1 (Rp.mono x a)).setD (noEl_dat n2) (Rp.mono x b)) ((wipe_set hj).trans (wipe_set hi))⟩
/-! ### comprehensions -/
section
variable {c : Cc ι} {ρ : List S} {Φ : ι → S → Prop} {te : TE} {tt : TT} {wi : TI} {g : TG} {vs : List Nat}
theorem lc_run {σ : L2.St} {m1 : ι} {G H G1 H1 : Hp} {I : L2.It} {ds : List D} {Q : VK} (e1 : EnvOk c m1 G1 H1 σ ρ) (g1 : Grow c.W G H m1 G1 H1) (it : ItD c.K c.W G1 I ds) (q : ∀ v s m' G' H', Grow c.W G H m' G' H' → RelS c.K c.W H G' H' v s → Φ m' s → Q v H')
    (hw : noEls vs ρ = true) (hl : ds.length < 1000000) (J : Nat → ι → List D → Prop) (j0 : J 0 m1 [])
    (jt : ∀ i d m acc, ds[i]? = some d → J i m acc → ∃ ρ', DG c m g vs d (wipeS ρ vs) ρ' ∧ DT c m tt ρ' fun m b => (b = true → De c m te ρ' fun m s => ∃ d', s.frz = .dat d' ∧ J (i + 1) m (acc ++ [d'])) ∧ (b = false → J (i + 1) m acc))
    (jd : ∀ m acc, J ds.length m acc → Φ m (.own (.lst acc))) (Dd : Addr) (hD : H1 Dd = none) :
    ∃ W : Nat → Nat → Hp → Prop, (∃ m, W 0 m (upd H1 Dd (.lst []))) ∧ ∀ i m H, W i m H →
      (I.stop i H ∧ Q (.ref Dd) H) ∨ (I.go i H ∧ ∃ Nx : Hp → Prop, (∀ H', Nx H' → ∃ m', m' < m ∧ W (i + 1) m' H') ∧ ∀ x H', I.yld i H x H' → g x (wipe σ vs) H' fun σ2 H2 => wipe σ2 vs = wipe σ vs ∧ tt σ2 H2 fun b H3 =>
        if b = true then te σ2 H3 fun y H4 => ∃ acc, H4 Dd = some (.lst acc) ∧ acc.length < sizeLine ∧ Nx (upd H4 Dd (.lst (acc ++ [y]))) else Nx H3) := by
  let W : Nat → Nat → Hp → Prop := fun i m H2 => m = ds.length - i ∧ i ≤ ds.length ∧ ∃ m2 G2 xs acc, Grow c.W G1 H1 m2 G2 H2 ∧ H2 Dd = some (.lst xs) ∧ G2 Dd = none ∧ RpL c.K G2 xs acc ∧ acc.length ≤ i ∧ J i m2 acc
  have mD : ¬ c.W.M Dd := fun m => c.W.ne e1.ok.inv m hD
  have up : ∀ {m2 : ι} {G2 H2 : Hp} {ys : List V}, Grow c.W G1 H1 m2 G2 H2 → G2 Dd = none → Grow c.W G1 H1 m2 G2 (upd H2 Dd (.lst ys)) := fun {m2 G2 H2 ys} g2 n =>
    ⟨g2.ex, g2.sub.mut n, g2.fresh, fun a o m q => by rw [upd_ne (ne_of_none q hD)]; exact g2.keep a o m q, c.W.dep _ _ _ _ _ (Ex.refl _) (fun a m => upd_ne fun z => mD (by rw [← z]; exact m)) g2.inv, g2.lk⟩
  refine ⟨W, ⟨ds.length, by simp, Nat.zero_le _, m1, G1, [], [], up e1.refl (fresh_back e1.ok.ex hD), upd_same, fresh_back e1.ok.ex hD, .nil, Nat.le_refl _, j0⟩, ?_⟩
  rintro i m H2 ⟨em, hi, m2, G2, xs, acc, g2, hx, hn, rx, ha, j⟩
  have e2 := e1.grow g2
  obtain ⟨ih1, ih2⟩ := it m2 G2 H2 g2.ex e2.ok i
  by_cases hlt : i < ds.length
  · right
    have hd : ds[i]? = some ds[i] := by simp [hlt]
    obtain ⟨go, yl⟩ := ih1 _ hd
    refine ⟨go, W (i + 1) (m - 1), fun H' w => ⟨m - 1, by omega, w⟩, fun x H' y => ?_⟩
    obtain ⟨G3, g3, r3⟩ := yl x H' y
    obtain ⟨ρ', dg, ht⟩ := jt i _ m2 acc hd j
    have e3 := (e2.grow g3).wipe vs hw
    have keepD : ∀ {m4 : ι} {G4 H4 : Hp}, Grow c.W G2 H2 m4 G4 H4 → H4 Dd = some (.lst xs) ∧ G4 Dd = none := fun g4 => ⟨g4.keep _ _ mD hx, g4.fresh _ _ hx rfl hn⟩
    refine dg x _ G3 H' e3 r3 _ fun σ' f4 hw => ⟨hw.trans (wipe_wipe σ vs), ?_⟩
    have e4 := f4 _ _ _ (Ex.refl _) e3
    refine ht σ' G3 H' e4 _ fun b m4 G4 H4 g4 ⟨hb1, hb2⟩ => ?_
    cases b with
    | true =>
      rw [if_pos rfl]
      refine hb1 rfl σ' G4 H4 (e4.grow g4) _ fun v s m5 G5 H5 g5 r5 ⟨d', es, j'⟩ => ?_
      obtain ⟨G6, g6, r6⟩ := r5.freeze g5
      rw [es] at r6
      obtain ⟨k1, k2⟩ := keepD ((g3.trans g4).trans g6)
      refine ⟨xs, k1, szl (by rw [rx.length]; omega), by omega, hlt, m5, G6, xs ++ [v], acc ++ [d'], up (((g2.trans g3).trans g4).trans g6) k2, upd_same, k2, (rx.mono ((g3.trans g4).trans g6).ex).append (.one r6), by rw [List.length_append]; show acc.length + 1 ≤ i + 1; omega, j'⟩
    | false =>
      rw [if_neg Bool.false_ne_true]
      obtain ⟨k1, k2⟩ := keepD (g3.trans g4)
      exact ⟨by omega, hlt, m4, G4, xs, acc, (g2.trans g3).trans g4, k1, k2, rx.mono (g3.trans g4).ex, by omega, hb2 rfl⟩
  · left
    have hl2 : i = ds.length := by omega
    refine ⟨ih2 hl2, ?_⟩
    subst hl2
    exact q (.ref Dd) (.own (.lst acc)) m2 G2 H2 (g1.trans g2) ⟨Dd, rfl, ⟨g1.back hD, hn, mD⟩, xs, hx, rx⟩ (jd m2 acc j)
theorem de_lc (hw : noEls vs ρ = true) (h : DI c m wi ρ fun m ds => ds.length < 1000000 ∧ ∃ J : Nat → ι → List D → Prop, J 0 m [] ∧
    (∀ i d m acc, ds[i]? = some d → J i m acc → ∃ ρ', DG c m g vs d (wipeS ρ vs) ρ' ∧ DT c m tt ρ' fun m b => (b = true → De c m te ρ' fun m s => ∃ d', s.frz = .dat d' ∧ J (i + 1) m (acc ++ [d'])) ∧ (b = false → J (i + 1) m acc)) ∧
    ∀ m acc, J ds.length m acc → Φ m (.own (.lst acc))) : De c m (tLc wi g tt te vs) ρ Φ := fun σ G H e Q q => h σ G H e _ fun I ds m1 G1 H1 g1 it ⟨hl, J, j0, jt, jd⟩ => fun Dd hD => lc_run (e.grow g1) g1 it q hw hl J j0 jt jd Dd hD
/-- [f x for x in ..] -/
theorem de_lcMap {f : D → D} (h : DI c m wi ρ fun m ds => ds.length < 1000000 ∧ (∀ d ∈ ds, ∃ ρ', DG c m g vs d (wipeS ρ vs) ρ' ∧ De c m te ρ' fun m' s => m' = m ∧ s.frz = .dat (f d)) ∧ Φ m (.own (.lst (ds.map f)))) (hw : noEls vs ρ = true := by with_unfolding_all rfl) : De c m (tLc wi g tYes te vs) ρ Φ :=
  de_lc hw fun σ G H e R q => h σ G H e R fun J ds m' G' H' gg it ⟨hl, h1, h2⟩ => q J ds m' G' H' gg it ⟨hl, fun i m2 acc => m2 = m' ∧ acc = (ds.take i).map f, by simp, fun i d m2 acc hd ⟨em, ha⟩ => by
    subst em
    obtain ⟨ρ', h3, h4⟩ := h1 d (List.mem_of_getElem? hd)
    refine ⟨ρ', h3, dt_yes ⟨fun _ => h4.imp fun m3 s ⟨em, hs⟩ => ⟨f d, hs, em, ?_⟩, fun z => by cases z⟩⟩
    show acc ++ [f d] = (ds.take (i + 1)).map f
    rw [ha, List.take_add_one, hd]
    simp, fun m2 acc ⟨em, ha⟩ => by rw [em, ha, List.take_length]; exact h2⟩
/-- [f x for x in .. if t x] -/
theorem de_lcIf {f : D → D} {t : D → Bool} (h : DI c m wi ρ fun m ds => ds.length < 1000000 ∧ (∀ d ∈ ds, ∃ ρ', DG c m g vs d (wipeS ρ vs) ρ' ∧ DT c m tt ρ' fun m' b => m' = m ∧ b = t d ∧ (t d = true → De c m te ρ' fun m' s => m' = m ∧ s.frz = .dat (f d))) ∧ Φ m (.own (.lst ((ds.filter t).map f)))) (hw : noEls vs ρ = true := by with_unfolding_all rfl) : De c m (tLc wi g tt te vs) ρ Φ :=
  de_lc hw fun σ G H e R q => h σ G H e R fun J ds m' G' H' gg it ⟨hl, h1, h2⟩ => q J ds m' G' H' gg it ⟨hl, fun i m2 acc => m2 = m' ∧ acc = ((ds.take i).filter t).map f, by simp, fun i d m2 acc hd ⟨em, ha⟩ => by
    subst em
    obtain ⟨ρ', h3, h4⟩ := h1 d (List.mem_of_getElem? hd)
    refine ⟨ρ', h3, h4.imp fun m3 b ⟨em3, eb, h5⟩ => ?_⟩
    subst em3
    refine ⟨fun ht => (h5 (by rw [← eb]; exact ht)).imp fun m4 s ⟨em, hs⟩ => ⟨f d, hs, em, ?_⟩, fun hf => ⟨rfl, ?_⟩⟩
    · show acc ++ [f d] = ((ds.take (i + 1)).filter t).map f
      rw [ha, List.take_add_one, hd]
      have : t d = true := by rw [← eb]; exact ht
      simp [List.filter_append, this]
    · show acc = ((ds.take (i + 1)).filter t).map f
      rw [ha, List.take_add_one, hd]
      have : t d = false := by rw [← eb]; exact hf
      simp [List.filter_append, this], fun m2 acc ⟨em, ha⟩ => by rw [em, ha, List.take_length]; exact h2⟩
end
end DL
set_option Elab.async false
set_option linter.all false
set_option maxRecDepth 100000
set_option maxHeartbeats 1000000
namespace DL
open PySem L2 Evl
variable {ι : Type} {m m' m1 m2 : ι}
/-! ### statements -/
def S.ok : S → Bool
  | .vw _ => false
  | .no => false
  | .el _ _ => false
  | .lk _ => false
  | _ => true
section
variable {c : Cc ι} {ρ : List S} {te ta tb : TE} {t u : TS} {tt : TT} {N B C : ι → List S → Prop} {R : ι → S → Prop} {wi : TI} {g : TG}
theorem Ds.imp {N' : ι → List S → Prop} {R' : ι → S → Prop} {B' C' : ι → List S → Prop} (h : Ds c m t ρ N R B C) (hn : ∀ m ρ, N m ρ → N' m ρ) (hr : ∀ m s, R m s → R' m s) (hb : ∀ m ρ, B m ρ → B' m ρ) (hc : ∀ m ρ, C m ρ → C' m ρ) : Ds c m t ρ N' R' B' C' := fun D σ G H e k1 k2 k3 k4 =>
  h D σ G H e (fun ρ' σ' m' G' H' n => k1 ρ' σ' m' G' H' (hn _ _ n)) (fun s v m' G' H' r => k2 s v m' G' H' (hr _ _ r)) (fun ρ' σ' m' G' H' n => k3 ρ' σ' m' G' H' (hb _ _ n)) (fun ρ' σ' m' G' H' n => k4 ρ' σ' m' G' H' (hc _ _ n))
theorem ds_seq (h : Ds c m t ρ (fun m ρ' => Ds c m u ρ' N R B C) R B C) : Ds c m (tSeq t u) ρ N R B C := fun D σ G H e k1 k2 k3 k4 =>
  h { D with nx := u D } σ G H e (fun ρ' σ' m' G' H' n x e' => n D σ' G' H' e' (fun a b m c' d n y z => k1 a b m c' d n (x.trans y) z) (fun s v m' G' H' r y gg rr => k2 s v m' G' H' r (x.trans y) gg rr) (fun a b m c' d n y z => k3 a b m c' d n (x.trans y) z) (fun a b m c' d n y z => k4 a b m c' d n (x.trans y) z)) k2 k3 k4
theorem ds_next (h : N m ρ) : Ds c m tNext ρ N R B C := fun D σ G H e k1 _ _ _ => k1 ρ σ m G H h (Ex.refl G) e
theorem ds_break (h : B m ρ) : Ds c m tBreak ρ N R B C := fun D σ G H e _ _ k3 _ => k3 ρ σ m G H h (Ex.refl G) e
theorem ds_cont (h : C m ρ) : Ds c m tCont ρ N R B C := fun D σ G H e _ _ _ k4 => k4 ρ σ m G H h (Ex.refl G) e
theorem ds_ret (h : De c m te ρ fun m s => s.ok = true ∧ R m s) : Ds c m (tRet te) ρ N R B C := fun D σ G H e _ k2 _ _ => h σ G H e _ fun v s m' G' H' g r ⟨_, p⟩ => k2 s v m' G' H' p g.ex (e.gr.trans g) (r.back e.gr)
theorem ds_retN (h : R m (.dat .non)) : Ds c m tRetN ρ N R B C := fun D σ G H e _ k2 _ _ => k2 (.dat .non) .non m G H h (Ex.refl G) e.gr Rp.non
theorem ds_retVar {i : Nat} {o : O} (hi : ρ[i]? = some (.own o)) (h : R m (.own o)) : Ds c m (tRet (tVar i)) ρ N R B C := fun D σ G H e _ k2 _ _ => by
  rcases e.at_ i _ hi with z | ⟨v, a, r⟩
  · cases z
  · exact ⟨v, a, k2 _ v m G H h (Ex.refl G) e.gr r⟩
theorem ds_asg {i : Nat} (h : De c m te ρ fun m s => s.ok = true ∧ N m (ρ.set i s)) (hn : noEl i ρ = true := by with_unfolding_all rfl) : Ds c m (tAsg te (gName i)) ρ N R B C := fun D σ G H e k1 _ _ _ => h σ G H e _ fun v s m' G' H' g r ⟨hs, p⟩ =>
  k1 _ _ m' G' H' p g.ex (e.setF g r hn (fun a j z => by rw [z] at hs; cases hs) (fun o z => by rw [z] at hs; cases hs))
theorem ds_drop (h : De c m te ρ fun m _ => N m ρ) : Ds c m (tDrop te) ρ N R B C := fun D σ G H e k1 _ _ _ => h σ G H e _ fun v s m' G' H' g r p => k1 ρ σ m' G' H' p g.ex (e.grow g)
theorem ds_if (h : DT c m tt ρ fun m b => (b = true → Ds c m t ρ N R B C) ∧ (b = false → Ds c m u ρ N R B C)) : Ds c m (tIfS tt t u) ρ N R B C := fun D σ G H e k1 k2 k3 k4 => h σ G H e _ fun b m' G' H' g ⟨h1, h2⟩ => by
  cases b with
  | true => rw [if_pos rfl]; exact h1 rfl D σ G' H' (e.grow g) (fun a b m c' d n y z => k1 a b m c' d n (g.ex.trans y) z) (fun s v m' G' H' r y gg rr => k2 s v m' G' H' r (g.ex.trans y) gg rr) (fun a b m c' d n y z => k3 a b m c' d n (g.ex.trans y) z) (fun a b m c' d n y z => k4 a b m c' d n (g.ex.trans y) z)
  | false => rw [if_neg Bool.false_ne_true]; exact h2 rfl D σ G' H' (e.grow g) (fun a b m c' d n y z => k1 a b m c' d n (g.ex.trans y) z) (fun s v m' G' H' r y gg rr => k2 s v m' G' H' r (g.ex.trans y) gg rr) (fun a b m c' d n y z => k3 a b m c' d n (g.ex.trans y) z) (fun a b m c' d n y z => k4 a b m c' d n (g.ex.trans y) z)
/-- an own thing is from here on data -/
theorem ds_frz {i : Nat} {o : O} (hi : ρ[i]? = some (.own o)) (h : Ds c m t (ρ.set i (.dat o.frz)) N R B C) (hn : noEl i ρ = true := by with_unfolding_all rfl) : Ds c m t ρ N R B C := fun D σ G H e k1 k2 k3 k4 => by
  obtain ⟨p, hp, ob⟩ := e.own hi
  have ob0 : OwnAt c.K (Fr c.W c.H0 G) G H p o := ob
  obtain ⟨G2, g2, r2, x, nq⟩ := frz_own e.gr ob
  have hl : i < ρ.length := (List.getElem?_eq_some_iff.mp hi).1
  have e2 : EnvOk c m G2 H σ (ρ.set i (.dat o.frz)) := by
    refine ⟨e.ok0, g2, e.exc, by rw [List.length_set]; exact e.len, fun j s hs => ?_, fun j k o1 o2 p1 p2 hjk hj hk pj pk => ?_, fun k a j hk => ?_, fun k o1 p1 hk hp1 => ?_⟩
    · rcases set_get hs with ⟨rfl, rfl, _⟩ | ⟨hj, hs⟩
      · exact .inr ⟨_, hp, r2⟩
      · rcases e.at_ j s hs with z | ⟨w, aw, rw'⟩
        · exact .inl z
        · refine .inr ⟨w, aw, ?_⟩
          cases s with
          | no => trivial
          | el a b => trivial
          | dat d => exact Rp.mono x rw'
          | at_ q => exact rw'
          | own o' =>
            obtain ⟨q, rfl, zo⟩ := rw'
            refine ⟨q, rfl, zo.monoA x fun a ha => ⟨rfl, ?_⟩⟩
            have na : ¬ Ads H p o a := fun z => e.sep i j o o' p q hj hi hs hp aw a z ha
            obtain ⟨f, _⟩ := zo.ads ha
            exact ⟨f.1, by rw [nq a na]; exact f.2.1, f.2.2⟩
          | vw o' =>
            obtain ⟨q, rfl, zo⟩ := rw'
            refine ⟨q, rfl, zo.monoA x fun a ha => ⟨rfl, ?_⟩⟩
            have na : ¬ Ads H p o a := fun z => e.vws j o' q hs aw a ha (ob0.ads z).1.1
            obtain ⟨f, _⟩ := zo.ads ha
            exact ⟨by rw [nq a na]; exact f.1, f.2⟩
          | lk o' => obtain ⟨q, xq, uq, e1, e2, zo⟩ := rw'; exact ⟨q, xq, uq, e1, e2, zo.up (Up.ex x)⟩
          | xc C a d fs =>
            obtain ⟨e1, e2, e3, fv, e4, e5, e6⟩ := rw'
            have na : ¬ Ads H p o d := fun z => by obtain ⟨_, u, hu, hk⟩ := ob0.ads z; rw [e4] at hu; cases hu; cases hk
            exact ⟨e1, by rw [nq d na]; exact e2, e3, fv, e4, e5, e6.mono x⟩
    · rcases set_get hj with ⟨_, z, _⟩ | ⟨h1, hj⟩
      · cases z
      · rcases set_get hk with ⟨_, z, _⟩ | ⟨h2, hk⟩
        · cases z
        · exact e.sep j k o1 o2 p1 p2 hjk hj hk pj pk
    · rcases set_get hk with ⟨_, z, _⟩ | ⟨h1, hk⟩
      · cases z
      · obtain ⟨its, p', vs, q, o', e1, e2⟩ := e.els k a j hk
        exact ⟨its, p', vs, q, o', by rw [List.getElem?_set_ne (Ne.symm (noEl_ok hn hk))]; exact e1, e2⟩
    · rcases set_get hk with ⟨_, z, _⟩ | ⟨h1, hk⟩
      · cases z
      · exact e.vws k o1 p1 hk hp1
  exact h D σ G2 H e2 (fun a b m c' d n y z => k1 a b m c' d n (x.trans y) z) (fun s v m' G' H' r y gg rr => k2 s v m' G' H' r (x.trans y) gg rr) (fun a b m c' d n y z => k3 a b m c' d n (x.trans y) z) (fun a b m c' d n y z => k4 a b m c' d n (x.trans y) z)
/-! ### loops -/
theorem for_run {vs : List Nat} {m1 : ι} {σ : L2.St} {G1 H1 : Hp} {I : L2.It} {ds : List D} {D0 : Ends} (e1 : EnvOk c m1 G1 H1 σ ρ) (it : ItD c.K c.W G1 I ds) (J : Nat → ι → List S → Prop) (j0 : J 0 m1 ρ)
    (jt : ∀ i d m ρ', ds[i]? = some d → J i m ρ' → ∃ ρ2, DG c m g vs d ρ' ρ2 ∧ Ds c m t ρ2 (J (i + 1)) R N (J (i + 1))) (jd : ∀ m ρ', J ds.length m ρ' → N m ρ')
    (k1 : ∀ ρ' σ' m' G' H', N m' ρ' → Ex G1 G' → EnvOk c m' G' H' σ' ρ' → D0.nx σ' H') (k2 : ∀ s v m' G' H', R m' s → Ex G1 G' → Grow c.W c.G0 c.H0 m' G' H' → RelS c.K c.W c.H0 G' H' v s → D0.rt v H') :
    ∃ W : Nat → Nat → L2.St → Hp → Prop, (∃ m, W 0 m σ H1) ∧ ∀ i m σ H, W i m σ H → (I.stop i H ∧ D0.nx σ H) ∨ (I.go i H ∧ ∃ N : L2.St → Hp → Prop, (∀ σ' H', N σ' H' → ∃ m', m' < m ∧ W (i + 1) m' σ' H') ∧ ∀ x H', I.yld i H x H' → g x σ H' fun σ2 H2 => t { D0 with nx := N, ct := N, bk := D0.nx } σ2 H2) := by
  refine ⟨fun i m σ2 H2 => m = ds.length - i ∧ i ≤ ds.length ∧ ∃ m2 ρ2 G2, Ex G1 G2 ∧ EnvOk c m2 G2 H2 σ2 ρ2 ∧ J i m2 ρ2, ⟨ds.length, by simp, Nat.zero_le _, m1, ρ, G1, Ex.refl _, e1, j0⟩, ?_⟩
  rintro i m σ2 H2 ⟨em, hi, m2, ρ2, G2, x2, e2, j⟩
  obtain ⟨ih1, ih2⟩ := it m2 G2 H2 x2 e2.ok i
  by_cases hlt : i < ds.length
  · right
    have hd : ds[i]? = some ds[i] := by simp [hlt]
    obtain ⟨go, yl⟩ := ih1 _ hd
    refine ⟨go, fun σ' H' => ∃ m3 ρ3 G3, Ex G1 G3 ∧ EnvOk c m3 G3 H' σ' ρ3 ∧ J (i + 1) m3 ρ3, fun σ' H' ⟨m3, ρ3, G3, x3, e3, j3⟩ => ⟨m - 1, by omega, by omega, hlt, m3, ρ3, G3, x3, e3, j3⟩, fun v H' y => ?_⟩
    obtain ⟨G3, g3, r3⟩ := yl v H' y
    obtain ⟨ρ3, dg, hb⟩ := jt i _ m2 ρ2 hd j
    refine dg v σ2 G3 H' (e2.grow g3) r3 _ fun σ' f4 _ => ?_
    have e4 := f4 _ _ _ (Ex.refl _) (e2.grow g3)
    exact hb _ σ' G3 H' e4 (fun ρ' σ'' m' G' H'' n y z => ⟨_, ρ', G', (x2.trans g3.ex).trans y, z, n⟩) (fun s v m' G' H' r y gg rr => k2 s v m' G' H' r ((x2.trans g3.ex).trans y) gg rr) (fun ρ' σ'' m' G' H'' n y z => k1 ρ' σ'' m' G' H'' n ((x2.trans g3.ex).trans y) z) (fun ρ' σ'' m' G' H'' n y z => ⟨_, ρ', G', (x2.trans g3.ex).trans y, z, n⟩)
  · left
    have hl2 : i = ds.length := by omega
    subst hl2
    exact ⟨ih2 rfl, k1 ρ2 σ2 m2 G2 H2 (jd m2 ρ2 j) x2 e2⟩
theorem ds_for {vs : List Nat} (h : DI c m wi ρ fun m ds => ∃ J : Nat → ι → List S → Prop, J 0 m ρ ∧ (∀ i d m ρ', ds[i]? = some d → J i m ρ' → ∃ ρ2, DG c m g vs d ρ' ρ2 ∧ Ds c m t ρ2 (J (i + 1)) R N (J (i + 1))) ∧ ∀ m ρ', J ds.length m ρ' → N m ρ') : Ds c m (tFor wi g t) ρ N R B C := fun D σ G H e k1 k2 k3 k4 =>
  h σ G H e _ fun I ds m1 G1 H1 g1 it ⟨J, j0, jt, jd⟩ => for_run (e.grow g1) it J j0 jt jd (fun ρ' σ' m' G' H' n x z => k1 ρ' σ' m' G' H' n (g1.ex.trans x) z) (fun s v m' G' H' r y gg rr => k2 s v m' G' H' r (g1.ex.trans y) gg rr)
theorem ds_while (J : Nat → ι → List S → Prop) (n0 : Nat) (h0 : J n0 m ρ) (h : ∀ n m ρ', J n m ρ' → DT c m tt ρ' fun m b => (b = true → Ds c m t ρ' (fun m ρ2 => ∃ n', n' < n ∧ J n' m ρ2) R N (fun m ρ2 => ∃ n', n' < n ∧ J n' m ρ2)) ∧ (b = false → N m ρ')) : Ds c m (tWhile tt t) ρ N R B C := fun D σ G H e k1 k2 k3 k4 => by
  refine ⟨fun n σ2 H2 => ∃ m2 ρ2 G2, Ex G G2 ∧ EnvOk c m2 G2 H2 σ2 ρ2 ∧ J n m2 ρ2, ⟨n0, m, ρ, G, Ex.refl _, e, h0⟩, ?_⟩
  rintro n σ2 H2 ⟨m2, ρ2, G2, x2, e2, j⟩
  refine h n m2 ρ2 j σ2 G2 H2 e2 _ fun b m3 G3 H3 g3 ⟨h1, h2⟩ => ?_
  cases b with
  | true =>
    rw [if_pos rfl]
    refine ⟨fun σ' H' => ∃ n', n' < n ∧ ∃ m3 ρ3 G3, Ex G G3 ∧ EnvOk c m3 G3 H' σ' ρ3 ∧ J n' m3 ρ3, fun σ' H' z => z, ?_⟩
    exact h1 rfl _ σ2 G3 H3 (e2.grow g3) (fun ρ' σ'' m' G' H'' ⟨n', hm, n⟩ y z => ⟨n', hm, _, ρ', G', (x2.trans g3.ex).trans y, z, n⟩) (fun s v m' G' H' r y gg rr => k2 s v m' G' H' r ((x2.trans g3.ex).trans y) gg rr) (fun ρ' σ'' m' G' H'' n y z => k1 ρ' σ'' m' G' H'' n ((x2.trans g3.ex).trans y) z) (fun ρ' σ'' m' G' H'' ⟨n', hm, n⟩ y z => ⟨n', hm, _, ρ', G', (x2.trans g3.ex).trans y, z, n⟩)
  | false =>
    rw [if_neg Bool.false_ne_true]
    exact k1 ρ2 σ2 m3 G3 H3 (h2 rfl) (x2.trans g3.ex) (e2.grow g3)
/-- x += e, x an int -/
theorem ds_augI {i : Nat} {f : Int → Int → Int} {a : Int} (hi : ρ[i]? = some (.dat (.int a))) (h : De c m te ρ fun m s => ∃ b, s = .dat (.int b) ∧ N m (ρ.set i (.dat (.int (f a b))))) (hn : noEl i ρ = true := by with_unfolding_all rfl) : Ds c m (tAug i te (ipI f)) ρ N R B C := fun D σ G H e k1 _ _ _ => by
  rcases e.at_ i _ hi with z | ⟨v, ha, r⟩
  · cases z
  · have r : Rp c.K G v (.int a) := r
    cases r
    refine ⟨_, ha, h σ G H e _ fun v s m' G' H' g r ⟨b, es, p⟩ => ?_⟩
    subst es
    cases r
    exact ⟨a, b, rfl, rfl, k1 _ _ m' G' H' p g.ex ((e.grow g).setD hn (.int _))⟩
/-- a, b = e -/
theorem ds_asgU {vs : List Nat} (h : De c m te ρ fun m s => ∃ d ρ', s.frz = .dat d ∧ DG c m g vs d ρ ρ' ∧ N m ρ') : Ds c m (tAsg te g) ρ N R B C := fun D σ G H e k1 _ _ _ => h σ G H e _ fun v s m' G' H' gg r ⟨d, ρ', es, dg, p⟩ => by
  obtain ⟨G2, g2, r2⟩ := r.freeze gg
  rw [es] at r2
  exact dg v σ G2 H' (e.grow g2) r2 _ fun σ' f' _ => k1 ρ' σ' _ G2 H' p g2.ex (f' _ _ _ (Ex.refl _) (e.grow g2))

/-! ### an own thing changes -/
theorem EnvOk.mut {G H : Hp} {σ : L2.St} {i : Nat} {o o' : O} {p a0 : Addr} {u : HO} (e : EnvOk c m G H σ ρ) (hi : ρ[i]? = some (.own o)) (hp : σ[i]? = some (some (.ref p))) (ha : Ads H p o a0) (hu : OwnAt c.K (Fr c.W c.H0 G) G (upd H a0 u) p o')
    (hA : ∀ a, Ads (upd H a0 u) p o' a → Ads H p o a) (hel : ∀ (its : List It) (vs : List V), o = .nest its → H p = some (.lst vs) → ∃ (its' : List It) (vs' : List V), o' = .nest its' ∧ upd H a0 u p = some (.lst vs') ∧ ∀ (j : Nat) (q : Addr) (o1 : O1), vs[j]? = some (V.ref q) → its[j]? = some (It.o o1) → vs'[j]? = some (V.ref q) ∧ ∃ o2, its'[j]? = some (It.o o2)) : EnvOk c m G (upd H a0 u) σ (ρ.set i (.own o')) := by
  obtain ⟨p', hp', ob⟩ := e.own hi
  rw [hp] at hp'
  cases hp'
  obtain ⟨f0, u0, hu0, hk0⟩ := ob.ads ha
  have hl : i < ρ.length := (List.getElem?_eq_some_iff.mp hi).1
  have ne : ∀ {j : Nat} {o2 : O} {q : Addr}, i ≠ j → ρ[j]? = some (.own o2) → σ[j]? = some (some (.ref q)) → ∀ a, Ads H q o2 a → a ≠ a0 := fun hij hj hq a h z => by
    rw [z] at h
    exact e.sep i _ o _ p _ hij hi hj hp hq a0 ha h
  refine ⟨e.ok0, e.gr.mut f0.1 f0.2.1 f0.2.2, e.exc, by rw [List.length_set]; exact e.len, fun j s hs => ?_, fun j k o1 o2 p1 p2 hjk hj hk pj pk a h1 h2 => ?_, fun k a j hk => ?_, fun k o1 p1 hk hp1 a ha1 => ?_⟩
  · rcases set_get hs with ⟨rfl, rfl, _⟩ | ⟨hj, hs⟩
    · exact .inr ⟨_, hp, p, rfl, hu⟩
    · rcases e.at_ j s hs with z | ⟨w, aw, rw'⟩
      · exact .inl z
      · refine .inr ⟨w, aw, ?_⟩
        cases s with
        | no => trivial
        | el a b => trivial
        | dat d => exact rw'
        | at_ q => exact rw'
        | own o2 =>
          obtain ⟨q, rfl, zo⟩ := rw'
          exact ⟨q, rfl, zo.monoA (Ex.refl G) fun a h => ⟨upd_ne (ne hj hs aw a h), (zo.ads h).1⟩⟩
        | vw o2 =>
          obtain ⟨q, rfl, zo⟩ := rw'
          exact ⟨q, rfl, zo.monoA (Ex.refl G) fun a h => ⟨upd_ne (fun z => e.vws j o2 q hs aw a h (by rw [z]; exact f0.1)), (zo.ads h).1⟩⟩
        | lk o2 => exact rw'
        | xc C a d fs =>
          obtain ⟨e1, e2, e3, fv, e4, e5, e6⟩ := rw'
          exact ⟨e1, e2, e3, fv, (upd_ne (fun z => by rw [z, hu0] at e4; cases e4; cases hk0)).trans e4, e5, e6⟩
  · have back : ∀ {j : Nat} {o1 : O} {p1 : Addr}, i ≠ j → ρ[j]? = some (.own o1) → σ[j]? = some (some (.ref p1)) → Ads (upd H a0 u) p1 o1 a → Ads H p1 o1 a := fun hij hj pj h => h.eq (upd_ne (ne hij hj pj _ (Ads.root _)))
    rcases set_get hj with ⟨rfl, z, _⟩ | ⟨n1, hj⟩
    · cases z
      rw [hp] at pj
      cases pj
      rcases set_get hk with ⟨rfl, _⟩ | ⟨n2, hk⟩
      · exact hjk rfl
      · exact e.sep i k o o2 p p2 hjk hi hk hp pk a (hA a h1) (back n2 hk pk h2)
    · rcases set_get hk with ⟨rfl, z, _⟩ | ⟨n2, hk⟩
      · cases z
        rw [hp] at pk
        cases pk
        exact e.sep j i o1 o p1 p hjk hj hi pj hp a (back n1 hj pj h1) (hA a h2)
      · exact e.sep j k o1 o2 p1 p2 hjk hj hk pj pk a (back n1 hj pj h1) (back n2 hk pk h2)
  · rcases set_get hk with ⟨_, z, _⟩ | ⟨n1, hk⟩
    · cases z
    · obtain ⟨its, p1, vs, q, o1, e1, e2, e3, e4, e5, e6⟩ := e.els k a j hk
      by_cases hai : i = a
      · subst hai
        rw [hi] at e1
        cases e1
        rw [hp] at e2
        cases e2
        obtain ⟨its', vs', rfl, h4, h5⟩ := hel its vs rfl e3
        obtain ⟨h6, o2, h7⟩ := h5 j q o1 e4 e5
        exact ⟨its', p, vs', q, o2, by rw [List.getElem?_set]; simp only [if_true]; rw [if_pos hl], hp, h4, h6, h7, e6⟩
      · exact ⟨its, p1, vs, q, o1, by rw [List.getElem?_set_ne hai]; exact e1, e2, (upd_ne (ne hai e1 e2 p1 (Ads.root _))).trans e3, e4, e5, e6⟩
  · rcases set_get hk with ⟨_, z, _⟩ | ⟨n1, hk⟩
    · cases z
    · have np : p1 ≠ a0 := fun z => e.vws k o1 p1 hk hp1 p1 (Ads.root _) (by rw [z]; exact f0.1)
      exact e.vws k o1 p1 hk hp1 a (ha1.eq (upd_ne np))
/-- a plain own thing changes -/
theorem EnvOk.mut1 {G H : Hp} {σ : L2.St} {i : Nat} {o o' : O1} {p : Addr} {u : HO} (e : EnvOk c m G H σ ρ) (hi : ρ[i]? = some (.own (.one o))) (hp : σ[i]? = some (some (.ref p))) (hu : Ob1 c.K G (upd H p u) p o') : EnvOk c m G (upd H p u) σ (ρ.set i (.own (.one o'))) := by
  obtain ⟨p', hp', ob⟩ := e.own hi
  rw [hp] at hp'
  cases hp'
  exact e.mut hi hp rfl ⟨ob.root.1, hu⟩ (fun a h => h) (fun its vs z => by cases z)
/-- kids as a place -/
theorem kid_at {K : PySem.W.Frag} {F : Addr → Prop} {G H : Hp} : ∀ {vs : List V} {is : List It}, RIts K F G H vs is → ∀ {j : Nat} {q : Addr} {o : O1}, vs[j]? = some (.ref q) → is[j]? = some (.o o) → q ∈ kids vs is
  | _, _, .nil, j, q, o, h, _ => by simp at h
  | _, _, .cons (i := i) r rs, 0, q, o, h, h2 => by simp at h h2; subst h h2; rw [kids_o]; simp
  | v :: vs, i :: is, .cons r rs, j + 1, q, o, h, h2 => by
    have ih := kid_at rs (j := j) (q := q) (o := o) (by simpa using h) (by simpa using h2)
    cases i with
    | d d => rw [kids_d]; exact ih
    | o o1 => obtain ⟨q1, rfl, _⟩ := r; rw [kids_o]; simp [ih]
theorem kid_put {K : PySem.W.Frag} {F : Addr → Prop} {G H H' : Hp} {q : Addr} {o o' : O1} (hne : ∀ a, a ≠ q → H' a = H a) (ob : Ob1 K G H' q o') : ∀ {vs : List V} {is : List It}, RIts K F G H vs is → (kids vs is).Nodup → ∀ {j : Nat}, vs[j]? = some (.ref q) → is[j]? = some (.o o) →
    RIts K F G H' vs (is.set j (.o o')) ∧ kids vs (is.set j (.o o')) = kids vs is
  | [], [], _, _, j, h, _ => by simp at h
  | [], _ :: _, z, _, _, _, _ => by cases z
  | _ :: _, [], z, _, _, _, _ => by cases z
  | v :: vs, i :: is, z, nd, 0, h, h2 => by
    cases z with
    | cons r rs =>
      simp at h h2
      subst h h2
      obtain ⟨q1, e1, f1, _⟩ := r
      cases e1
      rw [kids_o] at nd
      obtain ⟨n1, n2⟩ := List.nodup_cons.mp nd
      rw [List.set_cons_zero]
      exact ⟨.cons ⟨q, rfl, f1, ob⟩ (rs.monoA (Ex.refl _) fun a ha => ⟨hne a fun z => n1 (by rw [← z]; exact ha), (rs.kid ha).1⟩), rfl⟩
  | v :: vs, i :: is, z, nd, j + 1, h, h2 => by
    cases z with
    | cons r rs =>
      have h : vs[j]? = some (.ref q) := by simpa using h
      have h2 : is[j]? = some (.o o) := by simpa using h2
      rw [List.set_cons_succ]
      cases i with
      | d d =>
        rw [kids_d] at nd
        obtain ⟨a, b⟩ := kid_put hne ob rs nd h h2
        exact ⟨.cons r a, by rw [kids_d, kids_d, b]⟩
      | o o1 =>
        obtain ⟨q1, rfl, f1, ob1⟩ := r
        rw [kids_o] at nd
        obtain ⟨n1, n2⟩ := List.nodup_cons.mp nd
        obtain ⟨a, b⟩ := kid_put hne ob rs n2 h h2
        have hq : q1 ≠ q := fun z => n1 (by rw [z]; exact kid_at rs h h2)
        exact ⟨.cons ⟨q1, rfl, f1, ob1.mono (Ex.refl _) (hne q1 hq)⟩ a, by rw [kids_o, kids_o, b]⟩
/-- an item of an own list changes -/
theorem EnvOk.mutE {G H : Hp} {σ : L2.St} {k i j : Nat} {its : List It} {o o' : O1} {q : Addr} {u : HO} (e : EnvOk c m G H σ ρ) (hk : ρ[k]? = some (.el i j)) (hi : ρ[i]? = some (.own (.nest its))) (hj : its[j]? = some (.o o)) (hq : σ[k]? = some (some (.ref q))) (hu : Ob1 c.K G (upd H q u) q o') :
    EnvOk c m G (upd H q u) σ (ρ.set i (.own (.nest (its.set j (.o o'))))) := by
  obtain ⟨its', p, vs, q', o1, h1, h2, h3, h4, h5, h6⟩ := e.els k i j hk
  rw [hi] at h1
  cases h1
  rw [hq] at h6
  cases h6
  rw [hj] at h5
  cases h5
  obtain ⟨p', hp', f, vs', e', r, nd⟩ := e.own hi
  rw [h2] at hp'
  cases hp'
  rw [h3] at e'
  cases e'
  obtain ⟨n1, n2⟩ := List.nodup_cons.mp nd
  have hkid := kid_at r h4 hj
  have pq : p ≠ q := fun z => n1 (by rw [z]; exact hkid)
  obtain ⟨r2, k2⟩ := kid_put (H' := upd H q u) (fun a ha => upd_ne ha) hu r n2 h4 hj
  refine e.mut hi h2 (.inr ⟨vs, h3, hkid⟩) ⟨f, vs, (upd_ne pq).trans h3, r2, by rw [k2]; exact nd⟩ (fun a ha => ?_) (fun its2 vs2 z hz => ?_)
  · rcases ha with ha | ⟨vs2, hv, ha⟩
    · exact .inl ha
    · rw [upd_ne pq, h3] at hv
      cases hv
      rw [k2] at ha
      exact .inr ⟨vs, h3, ha⟩
  · cases z
    rw [h3] at hz
    cases hz
    refine ⟨_, vs, rfl, (upd_ne pq).trans h3, fun j2 q2 o2 a b => ⟨a, ?_⟩⟩
    by_cases hjj : j = j2
    · subst hjj
      exact ⟨o', by rw [List.getElem?_set]; simp only [if_true]; rw [if_pos (List.getElem?_eq_some_iff.mp b).1]⟩
    · exact ⟨o2, by rw [List.getElem?_set_ne hjj]; exact b⟩
/-- x = rows[e] -/
theorem ds_asgEl {k i : Nat} {its : List It} (hi : ρ[i]? = some (.own (.nest its))) (hki : i ≠ k) (h : De c m te ρ fun m s => ∃ (n : Int) (j : Nat) (o : O1), s = .dat (.int n) ∧ ixN its.length n = some j ∧ its[j]? = some (.o o) ∧ N m (ρ.set k (.el i j))) (hn : noEl k ρ = true := by with_unfolding_all rfl) :
    Ds c m (tAsg (tOp (rIxL c.K) (tVar i) te) (gName k)) ρ N R B C := fun D σ G H e k1 _ _ _ => by
  obtain ⟨p, hp, ob⟩ := e.own hi
  refine ⟨_, hp, h σ G H e _ fun v s m1 G1 H1 g1 r1 ⟨n, j, o, es, hj, ho, hN⟩ => ?_⟩
  subst es
  cases r1
  have e1 := e.grow g1
  obtain ⟨p', hp', f, vs, ev, r, nd⟩ := e1.own hi
  rw [hp] at hp'
  cases hp'
  obtain ⟨w, hw, q, rfl, fq, obq⟩ := r.getD ho
  refine ⟨p, vs, n, .ref q, rfl, rfl, SqL.of ev, ?_, k1 _ _ m1 G1 H1 hN g1.ex ?_⟩
  · unfold atI
    rw [r.length, hj]
    exact hw
  · exact e1.set0 (.inr ⟨_, rfl, trivial⟩) (fun o p z => by cases z) hn (fun a b z => by
      cases z
      exact ⟨hki, q, rfl, its, p, vs, o, hi, hp, ev, hw, ho⟩) (fun _ z => by cases z)
/-- xs.append(e) -/
theorem ds_app {i : Nat} {ds : List D} (hi : ρ[i]? = some (.own (.lst ds))) (hl : ds.length < 1000000) (h : De c m te ρ fun m s => ∃ d, s.frz = .dat d ∧ N m (ρ.set i (.own (.lst (ds ++ [d]))))) : Ds c m (tDrop (tBM c.K "list" rAppend (tVar i) (tCons te tNil))) ρ N R B C := fun D σ G H e k1 _ _ _ => by
  obtain ⟨p, a, f, xs, hx, rx⟩ := e.own hi
  refine ⟨_, a, .inl ⟨rfl, xs, SqL.of hx⟩, h σ G H e _ fun v s m' G' H' g r ⟨d, es, hn⟩ => ?_⟩
  obtain ⟨G2, g2, r2⟩ := r.freeze g
  rw [es] at r2
  have e2 := e.grow g2
  have hx2 := g2.keep _ _ f.2.2 hx
  exact ⟨p, xs, v, rfl, rfl, hx2, szl (by rw [rx.length]; exact hl), k1 _ σ _ G2 _ hn g2.ex (e2.mut1 hi a ⟨_, upd_same, (rx.mono g2.ex).append (.one r2)⟩)⟩
/-- row.append(e), row an item of an own list -/
theorem ds_appE {k i j : Nat} {its : List It} {ds : List D} (hk : ρ[k]? = some (.el i j)) (hi : ρ[i]? = some (.own (.nest its))) (hj : its[j]? = some (.o (.lst ds))) (hl : ds.length < 1000000) (h : De c m te ρ fun m s => ∃ d, s.frz = .dat d ∧ N m (ρ.set i (.own (.nest (its.set j (.o (.lst (ds ++ [d]))))))))
    : Ds c m (tDrop (tBM c.K "list" rAppend (tVar k) (tCons te tNil))) ρ N R B C := fun D σ G H e k1 _ _ _ => by
  have look : ∀ {m : ι} {G H : Hp}, EnvOk c m G H σ ρ → ∃ q xs, σ[k]? = some (some (.ref q)) ∧ H q = some (.lst xs) ∧ RpL c.K G xs ds := fun {m G H} e => by
    obtain ⟨its', p, vs, q, o1, h1, h2, h3, h4, h5, h6⟩ := e.els k i j hk
    rw [hi] at h1
    cases h1
    obtain ⟨p', hp', f, vs', e', r, nd⟩ := e.own hi
    rw [h2] at hp'
    cases hp'
    rw [h3] at e'
    cases e'
    obtain ⟨w, hw, q', rfl, fq, xs, hx, rx⟩ := r.getD hj
    rw [h4] at hw
    cases hw
    exact ⟨q, xs, h6, hx, rx⟩
  obtain ⟨q, xs, a, hx, rx⟩ := look e
  refine ⟨_, a, .inl ⟨rfl, xs, SqL.of hx⟩, h σ G H e _ fun v s m' G' H' g r ⟨d, es, hn⟩ => ?_⟩
  obtain ⟨G2, g2, r2⟩ := r.freeze g
  rw [es] at r2
  have e2 := e.grow g2
  obtain ⟨q', xs2, a2, hx2, rx2⟩ := look e2
  rw [a] at a2
  cases a2
  exact ⟨q, xs2, v, rfl, rfl, hx2, szl (by rw [rx2.length]; exact hl), k1 _ σ _ G2 _ hn g2.ex (e2.mutE hk hi hj a ⟨_, upd_same, rx2.append (.one r2)⟩)⟩
/-- xs.extend(e) -/
theorem ds_ext {i : Nat} {ds : List D} (hi : ρ[i]? = some (.own (.lst ds))) (h : De c m te ρ fun m s => ∃ es, s.frz = .dat (.lst es) ∧ ds.length + es.length ≤ 1000000 ∧ N m (ρ.set i (.own (.lst (ds ++ es))))) : Ds c m (tDrop (tBM c.K "list" rExtend (tVar i) (tCons te tNil))) ρ N R B C := fun D σ G H e k1 _ _ _ => by
  obtain ⟨p, a, f, xs, hx, rx⟩ := e.own hi
  refine ⟨_, a, .inl ⟨rfl, xs, SqL.of hx⟩, h σ G H e _ fun v s m' G' H' g r ⟨ds2, es, hl, hn⟩ => ?_⟩
  obtain ⟨G2, g2, r2⟩ := r.freeze g
  rw [es] at r2
  have r2 : Rp c.K G2 v (.lst ds2) := r2
  cases r2 with
  | lst hy ry =>
    have e2 := e.grow g2
    have hx2 := g2.keep _ _ f.2.2 hx
    exact ⟨p, _, xs, _, rfl, rfl, hx2, g2.sub _ _ hy, sz (by rw [rx.length, ry.length]; exact hl), k1 _ σ _ G2 _ hn g2.ex (e2.mut1 hi a ⟨_, upd_same, (rx.mono g2.ex).append ry⟩)⟩
/-- xs[k] = e -/
theorem ds_setL {i : Nat} {ds : List D} {tk : TE} (hi : ρ[i]? = some (.own (.lst ds))) (h : De c m te ρ fun m s => De c m tk ρ fun m s2 => ∃ d n j, s.frz = .dat d ∧ s2 = .dat (.int n) ∧ ixN ds.length n = some j ∧ N m (ρ.set i (.own (.lst (ds.set j d))))) : Ds c m (tAsg te (gSub (tVar i) tk rSetL)) ρ N R B C := fun D σ G H e k1 _ _ _ => by
  refine h σ G H e _ fun v s m1 G1 H1 g1 r1 h1 => ?_
  have e1 := e.grow g1
  obtain ⟨p, a, _⟩ := e1.own hi
  refine ⟨_, a, h1 σ G1 H1 e1 _ fun v2 s2 m2 G2 H2 g2 r2 ⟨d, n, j, es, es2, hj, hN⟩ => ?_⟩
  subst es2
  cases r2
  obtain ⟨G3, g3, r3⟩ := (r1.grow g2).freeze (g1.trans g2)
  rw [es] at r3
  have e3 := e.grow g3
  obtain ⟨p', a', f, xs, hx, rx⟩ := e3.own hi
  rw [a] at a'
  cases a'
  exact ⟨p, xs, n, j, rfl, rfl, hx, by rw [rx.length]; exact hj, k1 _ σ m2 G3 _ hN g3.ex (e3.mut1 hi a ⟨_, upd_same, rx.set r3 j⟩)⟩
/-- f(..).clear() -/
theorem de_clear (h : De c m te ρ fun m s => (∃ ds, s = .own (.lst ds)) ∧ Φ' m (.dat .non)) : De c m (tBM0 c.K "list" rClear te) ρ Φ' := fun σ G H e Q q => h σ G H e _ fun v s m1 G1 H1 g1 r1 ⟨⟨ds, es⟩, p⟩ => by
  subst es
  obtain ⟨p1, rfl, f, xs, hx, rx⟩ := r1
  exact ⟨.inl ⟨rfl, xs, SqL.of hx⟩, p1, xs, rfl, rfl, hx, q _ (.dat .non) m1 G1 _ (g1.mut f.1 f.2.1 f.2.2) Rp.non p⟩
/-! ### a def's body -/
theorem relss_get {K : PySem.W.Frag} {W : Wd ι} {H0 G H : Hp} : ∀ {vs : List V} {ss : List S}, RelSs K W H0 G H vs ss → ∀ {i : Nat} {s : S}, ss[i]? = some s → ∃ v, vs[i]? = some v ∧ RelS K W H0 G H v s
  | _, _, .nil, i, s, h => by simp at h
  | _, _, .cons h r, 0, s, e => by simp at e; subst e; exact ⟨_, rfl, h⟩
  | _, _, .cons h r, i + 1, s, e => by
    obtain ⟨v, h1, h2⟩ := relss_get r (i := i) (s := s) (by simpa using e)
    exact ⟨v, by simpa using h1, h2⟩
theorem run_fn {K : PySem.W.Frag} {F : Fc} {Nm : List Str} {t : TS} {vs : List V} {H : Hp} {Q : VK} {E : XK} (hl : vs.length ≤ Nm.length) (h : spF K F vs H Q E)
    (body : ∀ κ W m ss Φ Ξ G, F κ W m ss Φ Ξ → Ds ⟨K, W, E, Ξ, m, G, H⟩ m t (ss ++ List.replicate (Nm.length - ss.length) .no) (fun m _ => Φ m (.dat .non)) Φ (fun _ _ => False) (fun _ _ => False)) :
    t { nx := fun _ H' => Q .non H', rt := Q } (L2.start Nm vs) H := by
  obtain ⟨κ, W, m, G, ss, Φ, Ξ, ok, rs, ha, hf, hq, he⟩ := h
  have hlen := rs.length
  refine body κ W m ss Φ Ξ G hf _ (L2.start Nm vs) G H ?_ (fun ρ' σ' m' G' H' n x e' => hq .non (.dat .non) m' G' H' e'.gr Rp.non n) (fun s v m' G' H' r _ g rr => hq v s m' G' H' g rr r) (fun _ _ _ _ _ z => z.elim) (fun _ _ _ _ _ z => z.elim)
  have arg : ∀ {i : Nat} {s : S}, (ss ++ List.replicate (Nm.length - ss.length) S.no)[i]? = some s → (argS s = true ∧ ss[i]? = some s) ∨ s = .no := fun {i s} z => by
    by_cases hi : i < ss.length
    · rw [List.getElem?_append_left hi] at z
      exact .inl ⟨List.all_eq_true.mp ha _ (List.mem_of_getElem? z), z⟩
    · rw [List.getElem?_append_right (by omega), List.getElem?_replicate] at z
      split at z <;> first | (cases z; exact .inr rfl) | cases z
  have sig : ∀ {i : Nat} {v : V}, vs[i]? = some v → (L2.start Nm vs)[i]? = some (some v) := fun {i v} hv => by
    unfold L2.start
    rw [List.getElem?_append_left (by rw [List.length_map]; exact (List.getElem?_eq_some_iff.mp hv).1), List.getElem?_map, hv]
    rfl
  refine ⟨ok, ok.refl, he, ?_, fun i s hs => ?_, fun i j o o' p q _ hi => ?_, fun k i j hk => ?_, fun k o p hk hp a ha2 => ?_⟩
  · unfold L2.start
    rw [List.length_append, List.length_append, List.length_map, List.length_replicate, List.length_replicate, hlen]
  · rcases arg hs with ⟨_, h1⟩ | rfl
    · obtain ⟨v, hv, r⟩ := relss_get rs h1
      exact .inr ⟨v, sig hv, r⟩
    · exact .inl rfl
  · rcases arg hi with ⟨z, _⟩ | z <;> cases z
  · rcases arg hk with ⟨z, _⟩ | z <;> cases z
  · rcases arg hk with ⟨_, h1⟩ | z
    · obtain ⟨v, hv, p', rfl, ob⟩ := relss_get rs h1
      have e := sig hv
      rw [hp] at e
      cases e
      obtain ⟨_, u, hu, _⟩ := ob.ads ha2
      rw [show (Cc.H0 _) = H from rfl, hu]
      exact fun z => by cases z
    · cases z
end
end DL
set_option Elab.async false
set_option linter.all false
set_option maxRecDepth 100000
set_option maxHeartbeats 1000000
namespace DL
open PySem L2 Evl
/-! ### a dict is locked while it is walked -/
def lkH (X : Hp) (d : Addr) (o : HO) : Hp := fun b => if b = d ∧ X d ≠ none then some o else X b
section
variable {X : Hp} {d b : Addr} {o : HO}
theorem lkH_ne (h : b ≠ d) : lkH X d o b = X b := if_neg fun z => h z.1
theorem lkH_none (h : X d = none) : lkH X d o = X := by
  funext b
  exact if_neg fun z => z.2 h
theorem lkH_some (h : X d ≠ none) : lkH X d o = upd X d o := by
  funext b
  by_cases e : b = d
  · subst e; rw [upd_same]; exact if_pos ⟨rfl, h⟩
  · rw [upd_ne e]; exact lkH_ne e
end
def lockW {ι : Type} (W : Wd ι) (d : Addr) : Wd ι := { W with L := fun a => W.L a ∨ a = d }
theorem dct_frz {u : HO} (h : isDct u = true) : (∀ x w, u ≠ .frz x w) ∧ noTup u = true ∧ ∀ xs, u ≠ .lst xs := by
  cases u with
  | dK kvs => exact ⟨(fun _ _ z => by cases z), rfl, (fun _ z => by cases z)⟩
  | dT kvs => exact ⟨(fun _ _ z => by cases z), rfl, (fun _ z => by cases z)⟩
  | _ => cases h
theorem swp_lk {G : Hp} {d : Addr} {u : HO} {od : Obj} (hu : isDct u = true) (h : G d = some u) : Swp G (upd G d (.frz od u)) d u := ⟨hu, fun b hb => upd_ne hb, .inl h, .inr ⟨od, upd_same⟩⟩
theorem swp_un {G : Hp} {d : Addr} {u : HO} {od : Obj} (hu : isDct u = true) (h : G d = some (.frz od u)) : Swp G (upd G d u) d u := ⟨hu, fun b hb => upd_ne hb, .inr ⟨od, h⟩, .inl upd_same⟩
section
variable {ι : Type} {W : Wd ι} {m m0 m' : ι} {A B G H G' H' : Hp} {d : Addr} {u : HO} {od : Obj}
theorem up_lk {K : PySem.W.Frag} (hu : isDct u = true) (h : G d = some u ∨ G d = none) : Up K G (lkH G d (.frz od u)) := by
  rcases h with h | h
  · rw [lkH_some (by rw [h]; exact fun z => by cases z)]; exact Up.sw (swp_lk hu h)
  · rw [lkH_none h]; exact Up.ex (Ex.refl _)
theorem up_un {K : PySem.W.Frag} (hu : isDct u = true) (h : G d = some (.frz od u) ∨ G d = none) : Up K G (lkH G d u) := by
  rcases h with h | h
  · rw [lkH_some (by rw [h]; exact fun z => by cases z)]; exact Up.sw (swp_un hu h)
  · rw [lkH_none h]; exact Up.ex (Ex.refl _)
theorem inv_lk (hu : isDct u = true) (md : ¬ W.M d) (hg : G d = some u ∨ G d = none) (h : W.I m G H) : W.I m (lkH G d (.frz od u)) (lkH H d (.frz od u)) := by
  have h1 : W.I m G (lkH H d (.frz od u)) := W.dep _ _ _ _ _ (Ex.refl _) (fun a ha => lkH_ne fun z => md (by rw [← z]; exact ha)) h
  rcases hg with hg | hg
  · rw [lkH_some (X := G) (by rw [hg]; exact fun z => by cases z)]; exact W.sw _ _ _ _ d u (swp_lk hu hg) h1
  · rw [lkH_none (X := G) hg]; exact h1
theorem inv_un (hu : isDct u = true) (md : ¬ W.M d) (hg : G d = some (.frz od u) ∨ G d = none) (h : W.I m G H) : W.I m (lkH G d u) (upd H d u) := by
  have h1 : W.I m G (upd H d u) := W.dep _ _ _ _ _ (Ex.refl _) (fun a ha => upd_ne fun z => md (by rw [← z]; exact ha)) h
  rcases hg with hg | hg
  · rw [lkH_some (X := G) (by rw [hg]; exact fun z => by cases z)]; exact W.sw _ _ _ _ d u (swp_un hu hg) h1
  · rw [lkH_none (X := G) hg]; exact h1
theorem lock_ok (hu : isDct u = true) (md : ¬ W.M d) (ok : Ok W m A B) (ha : A d = some u ∨ A d = none) (hb : A d = some u → B d ≠ none) : Ok (lockW W d) m (lkH A d (.frz od u)) (lkH B d (.frz od u)) := by
  refine ⟨fun b o h => ?_, inv_lk hu md ha ok.inv, fun a h => ?_, fun a o w h n => ?_⟩
  · by_cases z : b = d
    · subst z
      rcases ha with ha | ha
      · rw [lkH_some (by rw [ha]; exact fun z => by cases z), upd_same] at h
        rw [lkH_some (hb ha), upd_same]; exact h
      · rw [lkH_none ha, ha] at h; cases h
    · rw [lkH_ne z] at h ⊢; exact ok.ex b o h
  · rw [lkH_ne fun z => md (by rw [← z]; exact h)]; exact ok.off a h
  · by_cases z : a = d
    · exact .inr z
    · rw [lkH_ne z] at h; exact .inl (ok.lk a o w h n)
theorem lock_grow (hu : isDct u = true) (md : ¬ W.M d) (g : Grow W A B m G H) (hd : H d = some u) (hg : G d = some u ∨ G d = none) (ok : Ok W m0 A B) : Grow (lockW W d) (lkH A d (.frz od u)) (lkH B d (.frz od u)) m (lkH G d (.frz od u)) (lkH H d (.frz od u)) := by
  have hA : A d = some u ∨ A d = none := by
    cases e : A d with
    | none => exact .inr rfl
    | some o => have := g.sub d o (g.ex d o e); rw [hd] at this; exact .inl (by rw [← Option.some.inj this])
  have hH : H d ≠ none := by rw [hd]; exact fun z => by cases z
  refine ⟨fun b o h => ?_, fun b o h => ?_, fun b o h t n => ?_, fun b o mb h => ?_, inv_lk hu md hg g.inv, fun b o w h n => ?_⟩
  · by_cases z : b = d
    · subst z
      rcases hA with ha | ha
      · rw [lkH_some (by rw [ha]; exact fun z => by cases z), upd_same] at h
        rw [lkH_some (by rw [g.ex _ _ ha]; exact fun z => by cases z), upd_same]; exact h
      · rw [lkH_none ha, ha] at h; cases h
    · rw [lkH_ne z] at h ⊢; exact g.ex b o h
  · by_cases z : b = d
    · subst z
      rcases hg with hg | hg
      · rw [lkH_some (by rw [hg]; exact fun z => by cases z), upd_same] at h
        rw [lkH_some hH, upd_same]; exact h
      · rw [lkH_none hg, hg] at h; cases h
    · rw [lkH_ne z] at h ⊢; exact g.sub b o h
  · by_cases z : b = d
    · subst z
      have na : A b = none := by
        rcases hA with ha | ha
        · rw [lkH_some (by rw [ha]; exact fun z => by cases z), upd_same] at n; cases n
        · exact ha
      have nb : B b = some u := by
        cases e : B b with
        | none => rw [lkH_none e, e] at h; cases h
        | some o2 => have := g.keep b o2 md e; rw [hd] at this; rw [← Option.some.inj this]
      have ng := g.fresh b u nb (dct_frz hu).2.1 na
      rw [lkH_none ng]; exact ng
    · rw [lkH_ne z] at h n ⊢; exact g.fresh b o h t n
  · by_cases z : b = d
    · subst z
      cases e : B b with
      | none => rw [lkH_none e, e] at h; cases h
      | some o2 =>
        rw [lkH_some (by rw [e]; exact fun z => by cases z), upd_same] at h
        rw [lkH_some hH, upd_same]; exact h
    · rw [lkH_ne z] at h ⊢; exact g.keep b o mb h
  · by_cases z : b = d
    · exact .inl (.inr z)
    · rw [lkH_ne z] at h ⊢
      exact (g.lk b o w h n).imp .inl fun q => q
theorem unlock_grow (hu : isDct u = true) (md : ¬ W.M d) (hA : A d = some u ∨ A d = none) (hB : B d = some u ∨ B d = none) (hAB : A d = some u → B d = some u) (g : Grow (lockW W d) (lkH A d (.frz od u)) (lkH B d (.frz od u)) m' G' H') (hH' : H' d = some (.frz od u)) (hG' : G' d = some (.frz od u) ∨ G' d = none) :
    Grow W A B m' (lkH G' d u) (upd H' d u) := by
  have su : ∀ {x : Option HO}, x = some u → x ≠ none := fun h => by rw [h]; exact fun z => by cases z
  refine ⟨fun b o h => ?_, fun b o h => ?_, fun b o h t n => ?_, fun b o mb h => ?_, inv_un hu md hG' g.inv, fun b o w h n => ?_⟩
  · by_cases z : b = d
    · subst z
      rcases hA with ha | ha
      · have e : lkH A b (.frz od u) b = some (.frz od u) := by rw [lkH_some (su ha), upd_same]
        have e2 := g.ex b _ e
        rw [lkH_some (by rw [e2]; exact fun z => by cases z), upd_same, ← h, ha]
      · rw [ha] at h; cases h
    · rw [lkH_ne z]; exact g.ex b o (by rw [lkH_ne z]; exact h)
  · by_cases z : b = d
    · subst z
      rw [upd_same]
      rcases hG' with hg | hg
      · rw [lkH_some (by rw [hg]; exact fun z => by cases z), upd_same] at h; exact h
      · rw [lkH_none hg, hg] at h; cases h
    · rw [lkH_ne z] at h; rw [upd_ne z]; exact g.sub b o h
  · by_cases z : b = d
    · subst z
      have e : lkH B b (.frz od u) b = some (.frz od u) := by rw [lkH_some (by rw [h]; exact fun z => by cases z), upd_same]
      have ng := g.fresh b _ e rfl (by rw [lkH_none n]; exact n)
      rw [lkH_none ng]; exact ng
    · rw [lkH_ne z]; exact g.fresh b o (by rw [lkH_ne z]; exact h) t (by rw [lkH_ne z]; exact n)
  · by_cases z : b = d
    · subst z
      rw [upd_same]
      rcases hB with hb | hb
      · rw [← h, hb]
      · rw [hb] at h; cases h
    · rw [upd_ne z]; exact g.keep b o mb (by rw [lkH_ne z]; exact h)
  · have z : b ≠ d := fun z => by
      subst z
      rcases hG' with hg | hg
      · rw [lkH_some (by rw [hg]; exact fun z => by cases z), upd_same] at h; exact (dct_frz hu).1 _ _ (Option.some.inj h)
      · rw [lkH_none hg, hg] at h; cases h
    rw [lkH_ne z] at h
    rcases g.lk b o w h n with (q | q) | q
    · exact .inl q
    · exact absurd q z
    · rw [lkH_ne z] at q; exact .inr q
end
section
variable {ι : Type} {c : Cc ι} {m m' : ι} {ρ : List S} {G H G' H' : Hp} {σ : L2.St} {d : Addr} {u : HO} {od : Obj}
/-- within the lock -/
abbrev lockC (c : Cc ι) (d : Addr) (F : HO) : Cc ι := ⟨c.K, lockW c.W d, c.E, fun _ _ _ => False, c.m0, lkH c.G0 d F, lkH c.H0 d F⟩
/-- what is known of a dict that may be locked -/
structure Lkb (c : Cc ι) (G H : Hp) (d : Addr) (u : HO) : Prop where
  hu : isDct u = true
  md : ¬ c.W.M d
  hd : H d = some u
  hg : G d = some u ∨ G d = none
theorem Lkb.base (k : Lkb c G H d u) (e : EnvOk c m G H σ ρ) : (c.G0 d = some u ∨ c.G0 d = none) ∧ (c.H0 d = some u ∨ c.H0 d = none) ∧ (c.G0 d = some u → c.H0 d = some u) := by
  have h2 : c.H0 d = some u ∨ c.H0 d = none := by
    cases q : c.H0 d with
    | none => exact .inr rfl
    | some o => have := e.gr.keep d o k.md q; rw [k.hd] at this; exact .inl (by rw [← Option.some.inj this])
  refine ⟨?_, h2, fun h => e.ok0.ex _ _ h⟩
  cases q : c.G0 d with
  | none => exact .inr rfl
  | some o =>
    have := e.gr.sub d o (e.gr.ex d o q)
    rw [k.hd] at this
    exact .inl (by rw [← Option.some.inj this])
/-- the slots within the lock, if those of own things and views have nothing to do with the dict -/
theorem EnvOk.lock {ρ1 : List S} (k : Lkb c G H d u) (e : EnvOk c m G H σ ρ) (hl : ρ1.length = ρ.length)
    (hs : ∀ (j : Nat) (s : S), ρ1[j]? = some s → s = .no ∨ (∃ v, σ[j]? = some (some v) ∧ RelS c.K (lockW c.W d) (lkH c.H0 d (.frz od u)) (lkH G d (.frz od u)) (lkH H d (.frz od u)) v s) ∧ ((∃ o, s = .lk o) ∨ ρ[j]? = some s))
    (hel : ∀ (k i j : Nat), ρ1[k]? = some (S.el i j) → ∀ its, ρ[i]? = some (S.own (.nest its)) → ρ1[i]? = some (S.own (.nest its)))
    (hne : ∀ (j : Nat) (o : O) (p : Addr), (ρ1[j]? = some (.own o) ∨ ρ1[j]? = some (.vw o)) → σ[j]? = some (some (.ref p)) → ∀ a, Ads H p o a → a ≠ d) : EnvOk (lockC c d (.frz od u)) m (lkH G d (.frz od u)) (lkH H d (.frz od u)) σ ρ1 := by
  obtain ⟨b1, b2, b3⟩ := k.base e
  have down : ∀ {j : Nat} {s : S}, ρ1[j]? = some s → s ≠ .no → (∀ o, s ≠ .lk o) → ρ[j]? = some s := fun h n1 n2 => by
    rcases hs _ _ h with z | ⟨_, ⟨o, z⟩ | z⟩
    · exact absurd z n1
    · exact absurd z (n2 o)
    · exact z
  refine ⟨lock_ok k.hu k.md e.ok0 b1 (fun z => by rw [b3 z]; exact fun z => by cases z), lock_grow k.hu k.md e.gr k.hd k.hg e.ok0, fun _ _ _ _ _ _ _ _ _ _ _ _ _ z => z.elim, by rw [hl]; exact e.len, fun j s h => (hs j s h).imp_right fun z => z.1, fun i j o o' p q hij hi hj pi pj a ha hb => ?_, fun kk i j hk => ?_, fun kk o p hk hp a ha => ?_⟩
  · have hi' := down hi (fun z => by cases z) (fun _ z => by cases z)
    have hj' := down hj (fun z => by cases z) (fun _ z => by cases z)
    exact e.sep i j o o' p q hij hi' hj' pi pj a (ha.eq (lkH_ne (hne i o p (.inl hi) pi p (Ads.root _)))) (hb.eq (lkH_ne (hne j o' q (.inl hj) pj q (Ads.root _))))
  · obtain ⟨its, p, vs, q, o, h1, h2, h3, h4, h5, h6⟩ := e.els kk i j (down hk (fun z => by cases z) (fun _ z => by cases z))
    have h1' := hel kk i j hk its h1
    exact ⟨its, p, vs, q, o, h1', h2, (lkH_ne (hne i _ p (.inl h1') h2 p (Ads.root _))).trans h3, h4, h5, h6⟩
  · have hk' := down hk (fun z => by cases z) (fun _ z => by cases z)
    have hp' := hne kk o p (.inr hk) hp
    have q := e.vws kk o p hk' hp a (ha.eq (lkH_ne (hp' p (Ads.root _))))
    show lkH c.H0 d (.frz od u) a ≠ none
    by_cases z : a = d
    · subst z; rw [lkH_some q, upd_same]; exact fun z => by cases z
    · rw [lkH_ne z]; exact q
/-- a value, locked and unlocked -/
theorem RelS.lock {K : PySem.W.Frag} {W : Wd ι} {H0 : Hp} {v : V} {s : S} (hu : isDct u = true) (hd : H d = some u) (hg : G d = some u ∨ G d = none) (hne : ∀ o p, (s = .own o ∨ s = .vw o) → v = .ref p → ∀ a, Ads H p o a → a ≠ d) (r : RelS K W H0 G H v s) : RelS K (lockW W d) (lkH H0 d (.frz od u)) (lkH G d (.frz od u)) (lkH H d (.frz od u)) v s := by
  have up := up_lk (K := K) (od := od) hu hg
  cases s with
  | no => trivial
  | el i j => trivial
  | at_ p => exact r
  | dat x => exact up _ _ r
  | own o =>
    obtain ⟨p, rfl, ob⟩ := r
    refine ⟨p, rfl, ob.upA up fun a ha => ?_⟩
    have n := hne o p (.inl rfl) rfl a ha
    obtain ⟨f, _⟩ := ob.ads ha
    exact ⟨lkH_ne n, (lkH_ne n).trans f.1, (lkH_ne n).trans f.2.1, f.2.2⟩
  | vw o =>
    obtain ⟨p, rfl, ob⟩ := r
    refine ⟨p, rfl, ob.upA up fun a ha => ?_⟩
    have n := hne o p (.inr rfl) rfl a ha
    obtain ⟨f, _⟩ := ob.ads ha
    exact ⟨lkH_ne n, (lkH_ne n).trans f.1, f.2⟩
  | lk o => obtain ⟨p, x, w, e1, e2, ob⟩ := r; exact ⟨p, x, w, e1, e2, ob.up up⟩
  | xc C a x fs =>
    obtain ⟨e, n, mp, fv, h, k, b⟩ := r
    have z : x ≠ d := fun z => by rw [z, hd] at h; cases h; cases hu
    exact ⟨e, (lkH_ne z).trans n, mp, fv, (lkH_ne z).trans h, k, b.up up⟩
theorem RelS.unlock {K : PySem.W.Frag} {W : Wd ι} {H0 : Hp} {v : V} {s : S} (hu : isDct u = true) (hd : H' d = some (.frz od u)) (hg : G' d = some (.frz od u) ∨ G' d = none) (r : RelS K (lockW W d) (lkH H0 d (.frz od u)) G' H' v s) : RelS K W H0 (lkH G' d u) (upd H' d u) v s := by
  have up := up_un (K := K) hu hg
  have ne : ∀ {a : Addr} {w : HO} {p : Addr}, H' a = some w → pln2 p w = true → a ≠ d := fun h t z => by rw [z, hd] at h; cases h; cases t
  have h0 : ∀ a, lkH H0 d (.frz od u) a = none → H0 a = none := fun a h => by
    by_cases z : a = d
    · subst z
      cases q : H0 a with
      | none => rfl
      | some o => rw [lkH_some (by rw [q]; exact fun z => by cases z), upd_same] at h; cases h
    · rw [lkH_ne z] at h; exact h
  cases s with
  | no => trivial
  | el i j => trivial
  | at_ p => exact r
  | dat x => exact up _ _ r
  | own o =>
    obtain ⟨p, rfl, ob⟩ := r
    refine ⟨p, rfl, ob.upA up fun a ha => ?_⟩
    obtain ⟨f, w, hw, t⟩ := ob.ads ha
    have n := ne hw t
    exact ⟨upd_ne n, h0 a f.1, (lkH_ne n).trans f.2.1, f.2.2⟩
  | vw o =>
    obtain ⟨p, rfl, ob⟩ := r
    refine ⟨p, rfl, ob.upA up fun a ha => ?_⟩
    obtain ⟨f, w, hw, t⟩ := ob.ads ha
    have n := ne hw t
    exact ⟨upd_ne n, (lkH_ne n).trans f.1, f.2⟩
  | lk o => obtain ⟨p, x, w, e1, e2, ob⟩ := r; exact ⟨p, x, w, e1, e2, ob.up up⟩
  | xc C a x fs =>
    obtain ⟨e, n, mp, fv, h, k, b⟩ := r
    have z : x ≠ d := fun z => by rw [z, hd] at h; cases h
    exact ⟨e, (lkH_ne z).trans n, mp, fv, (upd_ne z).trans h, k, b.up up⟩
end
end DL
set_option Elab.async false
set_option linter.all false
set_option maxRecDepth 100000
set_option maxHeartbeats 1000000
namespace DL
open PySem L2 Evl
/-! ### keys -/
def keyD : Key → D
  | .inl i => .int i
  | .inr x => .str x
def keyT (k : List Key) : D := .tup (k.map keyD)
theorem rp_key {K : PySem.W.Frag} {G : Hp} : ∀ k : Key, Rp K G (kV k) (keyD k)
  | .inl i => .int i
  | .inr x => .str x
theorem rp_keys {K : PySem.W.Frag} {G : Hp} : ∀ k : List Key, RpL K G (k.map kV) (k.map keyD)
  | [] => .nil
  | a :: k => .cons (rp_key a) (rp_keys k)
section
variable {ι : Type} {W : Wd ι} {m : ι} {G H : Hp}
/-- a tuple of the heap is data -/
theorem Grow.tup {q : Addr} {xs : List V} (ok : Ok W m G H) (hq : H q = some (.tup xs)) : ∃ G', Grow W G H m G' H ∧ G' q = some (.tup xs) ∧ Ex G G' := by
  cases e : G q with
  | some o =>
    have := ok.ex q o e
    rw [hq] at this
    cases this
    exact ⟨G, ok.refl, e, Ex.refl _⟩
  | none =>
    have x : Ex G (upd G q (.tup xs)) := Ex.new e
    refine ⟨upd G q (.tup xs), ⟨x, fun a o h => ?_, fun a o h t n => ?_, fun _ _ _ h => h, W.dep _ _ _ _ _ x (fun _ _ => rfl) ok.inv, fun a o u h n => ?_⟩, upd_same, x⟩
    · by_cases z : a = q
      · subst z; rw [upd_same] at h; rw [hq]; exact h
      · rw [upd_ne z] at h; exact ok.ex a o h
    · have z : a ≠ q := fun z => by subst z; rw [hq] at h; cases h; cases t
      rw [upd_ne z]; exact n
    · by_cases z : a = q
      · subst z; rw [upd_same] at h; cases h
      · rw [upd_ne z] at h; exact .inr h
end
/-! ### paths: what is read without a call -/
section
variable {ι : Type} {c : Cc ι} {m m' : ι} {ρ : List S}
def DP (c : Cc ι) (m : ι) (td : TE) (ρ : List S) (d : D) : Prop := ∀ σ G H, EnvOk c m G H σ ρ → ∃ v, (∀ H', (∀ b o, G b = some o → isDct o = false → H' b = some o) → ∀ Q : VK, Q v H' → td σ H' Q) ∧ Rp c.K G v d
theorem dp_var {i : Nat} {d : D} (hi : ρ[i]? = some (.dat d)) : DP c m (tVar i) ρ d := fun σ G H e => by
  rcases e.at_ i _ hi with z | ⟨v, a, r⟩
  · cases z
  · exact ⟨v, fun H' _ Q q => ⟨v, a, q⟩, r⟩
theorem dp_int {n : Int} : DP c m (tC (.int n)) ρ (.int n) := fun σ G H e => ⟨.int n, fun H' _ Q q => q, .int n⟩
theorem dp_ix {td ti : TE} {ds : List D} {n : Int} {d : D} (h1 : DP c m td ρ (.lst ds)) (h2 : DP c m ti ρ (.int n)) (hd : atI ds n = some d) : DP c m (tOp (rIxL c.K) td ti) ρ d := fun σ G H e => by
  obtain ⟨v1, q1, r1⟩ := h1 σ G H e
  obtain ⟨v2, q2, r2⟩ := h2 σ G H e
  cases r2
  cases r1 with
  | @lst a xs _ ha rx =>
    obtain ⟨v, hv, rv⟩ := atI_rp rx hd
    exact ⟨v, fun H' hH Q q => q1 H' hH _ (q2 H' hH _ ⟨a, xs, n, v, rfl, rfl, SqL.of (hH a _ ha rfl), hv, q⟩), rv⟩
theorem lookup_rp {K : PySem.W.Frag} {G : Hp} {f : Str} {d : D} : ∀ {fv : List (Str × V)} {fs : List (Str × D)}, fv.map (·.1) = fs.map (·.1) → RpL K G (fv.map (·.2)) (fs.map (·.2)) → fs.lookup f = some d → ∃ v, fv.lookup f = some v ∧ Rp K G v d
  | [], [], _, _, h => by cases h
  | [], _ :: _, h, _, _ => by cases h
  | _ :: _, [], h, _, _ => by cases h
  | (a, v) :: fv, (b, x) :: fs, h, r, hl => by
    rw [List.map_cons, List.map_cons] at h r
    obtain ⟨h1, h2⟩ := List.cons.inj h
    have h1 : a = b := h1
    subst h1
    cases r with
    | cons r1 r2 =>
      by_cases z : f = a
      · subst z
        have e1 : List.lookup f ((f, x) :: fs) = some x := by simp [List.lookup]
        rw [e1] at hl
        cases hl
        exact ⟨v, by simp [List.lookup], r1⟩
      · have zb : (f == a) = false := by simpa using z
        have e1 : List.lookup f ((a, x) :: fs) = List.lookup f fs := by simp [List.lookup, zb]
        rw [e1] at hl
        obtain ⟨w, hw, rw'⟩ := lookup_rp h2 r2 hl
        exact ⟨w, by simp [List.lookup, zb]; exact hw, rw'⟩
theorem dp_fld {td : TE} {C : Addr} {fs : List (Str × D)} {f : Str} {d : D} (h : DP c m td ρ (.ins C fs)) (hc : Cls c.K C) (hn : NoAttr c.K C f) (hf : fs.lookup f = some d) : DP c m (tFld c.K td f) ρ d := fun σ G H e => by
  obtain ⟨v1, q1, r1⟩ := h σ G H e
  cases r1 with
  | ins ha hx hk rx =>
    obtain ⟨v, hv, rv⟩ := lookup_rp hk rx hf
    exact ⟨v, fun H' hH Q q => q1 H' hH _ ⟨_, C, _, _, v, rfl, hH _ _ ha rfl, hc, hn, hv, q⟩, rv⟩
/-- a path as a value -/
theorem de_path {td : TE} {d : D} {Φ : ι → S → Prop} (h : DP c m td ρ d) (hΦ : Φ m (.dat d)) : De c m td ρ Φ := fun σ G H e Q q => by
  obtain ⟨v, k, r⟩ := h σ G H e
  exact k H (fun b o hb _ => e.ok.ex b o hb) Q (q v (.dat d) m G H e.refl r hΦ)
end
/-! ### walks over a locked dict -/
def RpU (K : PySem.W.Frag) (G : Hp) (u : HO) : D → Prop
  | .dic ds => ∃ kvs, u = .dK kvs ∧ kvs.map (·.1) = ds.map (·.1) ∧ RpL K G (kvs.map (·.2)) (ds.map (·.2))
  | .dit ds => ∃ kvs, u = .dT kvs ∧ kvs.map (·.1) = ds.map (·.1) ∧ RpL K G (kvs.map (·.2)) (ds.map (·.2))
  | _ => False
theorem RpU.up {K : PySem.W.Frag} {G G' : Hp} {u : HO} {d : D} (e : Up K G G') (h : RpU K G u d) : RpU K G' u d := by
  cases d <;> first | exact h.elim | (obtain ⟨kvs, a, b, c⟩ := h; exact ⟨kvs, a, b, c.up e⟩)
def Walks (wi : TI) (td : TE) (dd : D) (ds : List D) : Prop := ∀ {κ : Type} {K : PySem.W.Frag} {W : Wd κ} {G H : Hp} {σ : L2.St} {d : Addr} {od : Obj} {u : HO}, (∀ m G' H', Ex G G' → Ok W m G' H' → H' d = some (.frz od u)) → H d = some (.frz od u) → RpU K G u dd → (∀ Q : VK, Q (.ref d) H → td σ H Q) → ∀ R : L2.It → Hp → Prop, (∀ J, ItD K W G J ds → R J H) → wi σ H R
theorem walks_keysK {td : TE} {ds : List (Key × D)} : Walks (iKeys td) td (.dic ds) (ds.map fun p => keyD p.1) := fun {κ K W G H σ d od u} hs hd ru ht R q => by
  obtain ⟨kvs, rfl, hk, rv⟩ := ru
  refine ht _ ⟨d, od, rfl, .inl ⟨kvs, hd, q _ fun m G' H' x ok j => ?_⟩⟩
  have hh := hs m G' H' x ok
  have hlen : kvs.length = ds.length := by
    have := congrArg List.length hk
    rwa [List.length_map, List.length_map] at this
  refine ⟨fun y hy => ?_, fun hl => ⟨hh, by rw [hlen, hl, List.length_map]; exact Nat.le_refl _⟩⟩
  rw [List.getElem?_map] at hy
  cases hj : ds[j]? with
  | none => rw [hj] at hy; cases hy
  | some p =>
    rw [hj] at hy
    cases hy
    have hjl : j < kvs.length := by rw [hlen]; exact (List.getElem?_eq_some_iff.mp hj).1
    refine ⟨⟨hh, hjl⟩, fun y H2 z => ?_⟩
    obtain ⟨eh, k, v, hv, ey⟩ := z
    subst eh ey
    have ek : k = p.1 := by
      have h1 : (kvs.map (·.1))[j]? = some k := by rw [List.getElem?_map, hv]; rfl
      rw [hk, List.getElem?_map, hj] at h1
      exact (Option.some.inj h1).symm
    rw [ek]
    exact ⟨G', ok.refl, rp_key _⟩
theorem walks_keysT {td : TE} {ds : List (List Key × D)} : Walks (iKeys td) td (.dit ds) (ds.map fun p => keyT p.1) := fun {κ K W G H σ d od u} hs hd ru ht R q => by
  obtain ⟨kvs, rfl, hk, rv⟩ := ru
  refine ht _ ⟨d, od, rfl, .inr ⟨kvs, hd, q _ fun m G' H' x ok j => ?_⟩⟩
  have hh := hs m G' H' x ok
  have hlen : kvs.length = ds.length := by
    have := congrArg List.length hk
    rwa [List.length_map, List.length_map] at this
  refine ⟨fun y hy => ?_, fun hl => ⟨hh, by rw [hlen, hl, List.length_map]; exact Nat.le_refl _⟩⟩
  rw [List.getElem?_map] at hy
  cases hj : ds[j]? with
  | none => rw [hj] at hy; cases hy
  | some p =>
    rw [hj] at hy
    cases hy
    have hjl : j < kvs.length := by rw [hlen]; exact (List.getElem?_eq_some_iff.mp hj).1
    refine ⟨⟨hh, hjl⟩, fun y H2 z => ?_⟩
    obtain ⟨eh, k, v, a, hv, ey, ha⟩ := z
    subst eh ey
    have ek : k = p.1 := by
      have h1 : (kvs.map (·.1))[j]? = some k := by rw [List.getElem?_map, hv]; rfl
      rw [hk, List.getElem?_map, hj] at h1
      exact (Option.some.inj h1).symm
    subst ek
    obtain ⟨G2, g2, e2, _⟩ := Grow.tup ok ha
    exact ⟨G2, g2, Rp.tup e2 (rp_keys _)⟩
theorem walks_itemsK {td : TE} {ds : List (Key × D)} : Walks (iItems td) td (.dic ds) (ds.map fun p => .tup [keyD p.1, p.2]) := fun {κ K W G H σ d od u} hs hd ru ht R q => by
  obtain ⟨kvs, rfl, hk, rv⟩ := ru
  refine ht _ ⟨d, od, kvs, rfl, hd, q _ fun m G' H' x ok j => ?_⟩
  have hh := hs m G' H' x ok
  have hlen : kvs.length = ds.length := by
    have := congrArg List.length hk
    rwa [List.length_map, List.length_map] at this
  refine ⟨fun y hy => ?_, fun hl => ⟨hh, by rw [hlen, hl, List.length_map]; exact Nat.le_refl _⟩⟩
  rw [List.getElem?_map] at hy
  cases hj : ds[j]? with
  | none => rw [hj] at hy; cases hy
  | some p =>
    rw [hj] at hy
    cases hy
    have hjl : j < kvs.length := by rw [hlen]; exact (List.getElem?_eq_some_iff.mp hj).1
    refine ⟨⟨hh, hjl⟩, fun y H2 z => ?_⟩
    obtain ⟨T, k, v, hv, ey, hT, eh⟩ := z
    subst eh ey
    have ek : k = p.1 := by
      have h1 : (kvs.map (·.1))[j]? = some k := by rw [List.getElem?_map, hv]; rfl
      rw [hk, List.getElem?_map, hj] at h1
      exact (Option.some.inj h1).symm
    have rv2 : Rp K G v p.2 := by
      obtain ⟨w, hw, rw'⟩ := rv.getD (i := j) (d := p.2) (by rw [List.getElem?_map, hj]; rfl)
      rw [List.getElem?_map, hv] at hw
      cases hw
      exact rw'
    subst ek
    have x1 : Ex G' (upd G' T (.tup [kV p.1, v])) := Ex.new (fresh_back ok.ex hT)
    exact ⟨_, Grow.newD ok hT (fun _ _ z => by cases z), Rp.tup upd_same (.cons (rp_key _) (.cons (rv2.mono (x.trans x1)) .nil))⟩
/-! ### locks: data -/
section
variable {ι : Type} {c : Cc ι} {m m' : ι} {ρ : List S} {G H G' H' : Hp} {σ : L2.St} {d : Addr} {u : HO} {od : Obj}
theorem EnvOk.lockD (k : Lkb c G H d u) (hg : G d = some u) (e : EnvOk c m G H σ ρ) : EnvOk (lockC c d (.frz od u)) m (lkH G d (.frz od u)) (lkH H d (.frz od u)) σ ρ := by
  have gd : ∀ {a : Addr}, G a = none → a ≠ d := fun h z => by rw [z, hg] at h; cases h
  have ne : ∀ (j : Nat) (o : O) (p : Addr), (ρ[j]? = some (.own o) ∨ ρ[j]? = some (.vw o)) → σ[j]? = some (some (.ref p)) → ∀ a, Ads H p o a → a ≠ d := fun j o p hj hp a ha => by
    rcases hj with hj | hj
    · obtain ⟨p', hp', ob⟩ := e.own hj
      rw [hp] at hp'
      cases hp'
      exact gd (ob.ads ha).1.2.1
    · rcases e.at_ j _ hj with z | ⟨v, hv, p', rfl, ob⟩
      · cases z
      · rw [hp] at hv
        cases hv
        exact gd (ob.ads ha).1.1
  refine e.lock k rfl (fun j s h => (e.at_ j s h).imp_right fun ⟨v, a, r⟩ => ⟨⟨v, a, r.lock k.hu k.hd k.hg fun o p ho hv => ?_⟩, .inr h⟩) (fun _ _ _ _ _ h => h) ne
  subst hv
  rcases ho with rfl | rfl
  · exact ne j o p (.inl h) a
  · exact ne j o p (.inr h) a
theorem EnvOk.unlock {σ' : L2.St} {ρ' : List S} (k : Lkb c G H d u) (e : EnvOk c m G H σ ρ) (hH' : H' d = some (.frz od u)) (hG' : G' d = some (.frz od u) ∨ G' d = none) (e' : EnvOk (lockC c d (.frz od u)) m' G' H' σ' ρ') : EnvOk c m' (lkH G' d u) (upd H' d u) σ' ρ' := by
  obtain ⟨b1, b2, b3⟩ := k.base e
  have ne : ∀ {j : Nat} {o : O} {p : Addr}, ρ'[j]? = some (.own o) → σ'[j]? = some (some (.ref p)) → p ≠ d := fun hj hp z => by
    obtain ⟨p', hp', ob⟩ := e'.own hj
    rw [hp] at hp'
    cases hp'
    obtain ⟨_, w, hw, t⟩ := ob.root
    rw [z, hH'] at hw
    cases hw
    cases t
  have nv : ∀ {j : Nat} {o : O} {p : Addr}, ρ'[j]? = some (.vw o) → σ'[j]? = some (some (.ref p)) → p ≠ d := fun hj hp z => by
    rcases e'.at_ _ _ hj with y | ⟨v, hv, p', rfl, ob⟩
    · cases y
    · rw [hp] at hv
      cases hv
      obtain ⟨_, w, hw, t⟩ := ob.root
      rw [z, hH'] at hw
      cases hw
      cases t
  refine ⟨e.ok0, unlock_grow k.hu k.md b1 b2 b3 e'.gr hH' hG', e.exc, e'.len, fun j s h => (e'.at_ j s h).imp_right fun ⟨v, a, r⟩ => ⟨v, a, r.unlock k.hu hH' hG'⟩, fun i j o o' p q hij hi hj pi pj a ha hb => ?_, fun kk i j hk => ?_, fun kk o p hk hp a ha => ?_⟩
  · exact e'.sep i j o o' p q hij hi hj pi pj a (ha.eq (upd_ne (ne hi pi))) (hb.eq (upd_ne (ne hj pj)))
  · obtain ⟨its, p, vs, q, o, h1, h2, h3, h4, h5, h6⟩ := e'.els kk i j hk
    exact ⟨its, p, vs, q, o, h1, h2, (upd_ne (ne h1 h2)).trans h3, h4, h5, h6⟩
  · have q := e'.vws kk o p hk hp a (ha.eq (upd_ne (nv hk hp)))
    intro z
    have q : lkH c.H0 d (.frz od u) a ≠ none := q
    by_cases y : a = d
    · subst y; rw [lkH_none z] at q; exact q z
    · rw [lkH_ne y] at q; exact q z
/-- a data dict that may be locked -/
theorem lkb_of {dd : D} {v : V} (e : EnvOk c m G H σ ρ) (hL : ∀ a, ¬ c.W.L a) (r : Rp c.K G v dd) (hd : (∃ ds, dd = .dic ds) ∨ ∃ ds, dd = .dit ds) : ∃ d u, v = .ref d ∧ Lkb c G H d u ∧ G d = some u ∧ RpU c.K G u dd ∧ Mut (some u) := by
  have mk : ∀ {d u}, isDct u = true → Rd G d u → Lkb c G H d u ∧ G d = some u := fun {d u} hu hr => by
    have h : G d = some u := by
      rcases hr with h | ⟨o, h⟩
      · exact h
      · exact absurd (e.ok.lk d o u h fun xs z => by rw [z] at hu; cases hu) (hL d)
    exact ⟨⟨hu, (fun z => by rw [e.ok.off d z] at h; cases h), e.ok.ex _ _ h, .inl h⟩, h⟩
  rcases hd with ⟨ds, rfl⟩ | ⟨ds, rfl⟩
  · cases r with
    | dic h k rv => obtain ⟨a, b⟩ := mk (u := .dK _) rfl h; exact ⟨_, _, rfl, a, b, ⟨_, rfl, k, rv⟩, trivial⟩
  · cases r with
    | dit h k rv => obtain ⟨a, b⟩ := mk (u := .dT _) rfl h; exact ⟨_, _, rfl, a, b, ⟨_, rfl, k, rv⟩, trivial⟩
variable {Φ : ι → S → Prop} {td te : TE} {tt : TT} {wi : TI} {g : TG} {vs : List Nat} {t : TS} {N B C : ι → List S → Prop} {R : ι → S → Prop}
theorem frzG (k : Lkb c G H d u) (hg : G d = some u) (g' : Grow (lockW c.W d) (lkH G d (.frz od u)) (lkH H d (.frz od u)) m' G' H') : H' d = some (.frz od u) ∧ G' d = some (.frz od u) := by
  have e1 : lkH G d (.frz od u) d = some (.frz od u) := by rw [lkH_some (by rw [hg]; exact fun z => by cases z), upd_same]
  have e2 := g'.ex _ _ e1
  exact ⟨g'.sub _ _ e2, e2⟩
theorem de_lockLc {dd : D} {ds : List D} (hp : DP c m td ρ dd) (hd : (∃ ds, dd = .dic ds) ∨ ∃ ds, dd = .dit ds) (hL : ∀ a, ¬ c.W.L a) (hwk : Walks wi td dd ds) (hl : ds.length < 1000000) (J : Nat → ι → List D → Prop) (j0 : J 0 m [])
    (jt : ∀ d F i x m acc, ds[i]? = some x → J i m acc → ∃ ρ', DG (lockC c d F) m g vs x (wipeS ρ vs) ρ' ∧ DT (lockC c d F) m tt ρ' fun m b => (b = true → De (lockC c d F) m te ρ' fun m s => ∃ d', s.frz = .dat d' ∧ J (i + 1) m (acc ++ [d'])) ∧ (b = false → J (i + 1) m acc))
    (jd : ∀ m acc, J ds.length m acc → Φ m (.own (.lst acc))) (hw : noEls vs ρ = true := by with_unfolding_all rfl) : De c m (tLockE (tLc wi g tt te vs)) ρ Φ := fun σ G H e Q q => by
  obtain ⟨v, kp, rv⟩ := hp σ G H e
  obtain ⟨d, u, rfl, k, hg, ru, mu⟩ := lkb_of e hL rv hd
  refine ⟨d, u, k.hd, mu, fun od => ?_⟩
  have e1 := e.lockD (od := od) k hg
  have hh : upd H d (.frz od u) = lkH H d (.frz od u) := (lkH_some (by rw [k.hd]; exact fun z => by cases z)).symm
  rw [hh]
  have gd : lkH G d (.frz od u) d = some (.frz od u) := by rw [lkH_some (by rw [hg]; exact fun z => by cases z), upd_same]
  refine hwk (W := lockW c.W d) (G := lkH G d (.frz od u)) (fun m G' H' x ok => ok.ex _ _ (x _ _ gd)) (e1.ok.ex _ _ gd) (ru.up (up_lk k.hu (.inl hg))) (fun Q q => kp _ (fun b o hb ho => ?_) Q q) _ fun I it => fun Dd hD =>
    lc_run (c := lockC c d (.frz od u)) (Φ := Φ) (Q := fun v H' => H' d = some (.frz od u) ∧ Q v (upd H' d u)) e1 e1.refl it (fun v s m' G' H' g' r p => ?_) hw hl J j0 (jt d _) jd Dd hD
  · have z : b ≠ d := fun z => by rw [z, hg] at hb; cases hb; rw [k.hu] at ho; cases ho
    rw [lkH_ne z]; exact e.ok.ex _ _ hb
  · obtain ⟨f1, f2⟩ := frzG k hg g'
    have ug := unlock_grow k.hu k.md (.inl hg) (.inl k.hd) (fun _ => k.hd) g' f1 (.inl f2)
    exact ⟨f1, q v s m' _ _ ug (r.unlock k.hu f1 (.inl f2)) p⟩
/-- [f x for x in d] -/
theorem de_lcKM {dd : D} {ds : List D} (f : D → D) (hp : DP c m td ρ dd) (hd : (∃ ds, dd = .dic ds) ∨ ∃ ds, dd = .dit ds) (hL : ∀ a, ¬ c.W.L a) (hwk : Walks wi td dd ds) (hl : ds.length < 1000000)
    (h : ∀ d F x, x ∈ ds → ∃ ρ', DG (lockC c d F) m g vs x (wipeS ρ vs) ρ' ∧ De (lockC c d F) m te ρ' fun m' s => m' = m ∧ s.frz = .dat (f x))
    (hΦ : Φ m (.own (.lst (ds.map f)))) (hw : noEls vs ρ = true := by with_unfolding_all rfl) : De c m (tLockE (tLc wi g tYes te vs)) ρ Φ :=
  de_lockLc hp hd hL hwk hl (fun i m2 acc => m2 = m ∧ acc = (ds.take i).map f) (by simp)
    (fun d F i x m2 acc hx ⟨em, ha⟩ => by
      subst em
      obtain ⟨ρ', h3, h4⟩ := h d F x (List.mem_of_getElem? hx)
      refine ⟨ρ', h3, dt_yes ⟨fun _ => h4.imp fun m3 s ⟨em, hs⟩ => ⟨f x, hs, em, ?_⟩, fun z => by cases z⟩⟩
      rw [ha, List.take_add_one, hx]
      simp)
    (fun m2 acc ⟨em, ha⟩ => by
      subst em
      rw [ha, List.take_length]
      exact hΦ) hw
/-- for x in d: .. -/
theorem ds_lockFor {dd : D} {ds : List D} (hp : DP c m td ρ dd) (hd : (∃ ds, dd = .dic ds) ∨ ∃ ds, dd = .dit ds) (hL : ∀ a, ¬ c.W.L a) (hwk : Walks wi td dd ds) (J : Nat → ι → List S → Prop) (j0 : J 0 m ρ)
    (jt : ∀ d F i x m ρ', ds[i]? = some x → J i m ρ' → ∃ ρ2, DG (lockC c d F) m g vs x ρ' ρ2 ∧ Ds (lockC c d F) m t ρ2 (J (i + 1)) R N (J (i + 1)))
    (jd : ∀ m ρ', J ds.length m ρ' → N m ρ') : Ds c m (tLock (tFor wi g t)) ρ N R B C := fun D σ G H e k1 k2 k3 k4 => by
  obtain ⟨v, kp, rv⟩ := hp σ G H e
  obtain ⟨d, u, rfl, k, hg, ru, mu⟩ := lkb_of e hL rv hd
  refine ⟨d, u, k.hd, mu, fun od => ?_⟩
  have e1 := e.lockD (od := od) k hg
  have hh : upd H d (.frz od u) = lkH H d (.frz od u) := (lkH_some (by rw [k.hd]; exact fun z => by cases z)).symm
  rw [hh]
  have gd : lkH G d (.frz od u) d = some (.frz od u) := by rw [lkH_some (by rw [hg]; exact fun z => by cases z), upd_same]
  have upx : ∀ {G'}, Ex (lkH G d (.frz od u)) G' → G' d = some (.frz od u) → Ex G (lkH G' d u) := fun {G'} x f2 a o h => by
    by_cases z : a = d
    · subst z
      rw [hg] at h
      rw [lkH_some (by rw [f2]; exact fun z => by cases z), upd_same]; exact h
    · rw [lkH_ne z]; exact x a o (by rw [lkH_ne z]; exact h)
  refine hwk (W := lockW c.W d) (G := lkH G d (.frz od u)) (fun m G' H' x ok => ok.ex _ _ (x _ _ gd)) (e1.ok.ex _ _ gd) (ru.up (up_lk k.hu (.inl hg))) (fun Q q => kp _ (fun b o hb ho => ?_) Q q) _ fun I it =>
    for_run (c := lockC c d (.frz od u)) (vs := vs) (N := N) (R := R) e1 it J j0 (jt d _) jd (fun ρ' σ' m' G' H' n x e' => ?_) (fun s v m' G' H' r x g' rr => ?_)
  · have z : b ≠ d := fun z => by rw [z, hg] at hb; cases hb; rw [k.hu] at ho; cases ho
    rw [lkH_ne z]; exact e.ok.ex _ _ hb
  · have f2 := x _ _ gd
    have f1 := e'.ok.ex _ _ f2
    exact ⟨f1, k1 ρ' σ' m' _ _ n (upx x f2) (e.unlock k f1 (.inl f2) e')⟩
  · obtain ⟨b1, b2, b3⟩ := k.base e
    have f2 := x _ _ gd
    have f1 := g'.sub _ _ f2
    exact ⟨f1, k2 s v m' _ _ r (upx x f2) (unlock_grow k.hu k.md b1 b2 b3 g' f1 (.inl f2)) (rr.unlock k.hu f1 (.inl f2))⟩
end
end DL
set_option Elab.async false
set_option linter.all false
set_option maxRecDepth 100000
set_option maxHeartbeats 1000000
namespace DL
open PySem L2 Evl
/-! ### dicts -/
section
variable {κ : Type} [DecidableEq κ]
def valD (kvs : List (κ × D)) (k : κ) : Option D := (kvs.find? fun kv => decide (kv.1 = k)).map (·.2)
def putD (kvs : List (κ × D)) (k : κ) (v : D) : List (κ × D) :=
  if (kvs.any fun kv => decide (kv.1 = k)) = true then kvs.map (fun kv => if kv.1 = k then (kv.1, v) else kv) else kvs ++ [(k, v)]
theorem rpk_val {K : PySem.W.Frag} {G : Hp} : ∀ {kvs : List (κ × V)} {ds : List (κ × D)} (k : κ), kvs.map (·.1) = ds.map (·.1) → RpL K G (kvs.map (·.2)) (ds.map (·.2)) → (valV kvs k = none ∧ valD ds k = none) ∨ ∃ v d, valV kvs k = some v ∧ valD ds k = some d ∧ Rp K G v d
  | [], [], k, _, _ => .inl ⟨rfl, rfl⟩
  | [], _ :: _, k, h, _ => by cases h
  | _ :: _, [], k, h, _ => by cases h
  | (a, v) :: kvs, (b, d) :: ds, k, h, r => by
    rw [List.map_cons, List.map_cons] at h r
    obtain ⟨h1, h2⟩ := List.cons.inj h
    cases r with
    | cons r1 r2 =>
      have h1 : a = b := h1
      subst h1
      by_cases e : a = k
      · exact .inr ⟨v, d, by simp [valV, e], by simp [valD, e], r1⟩
      · have ih := rpk_val k h2 r2
        have e1 : valV ((a, v) :: kvs) k = valV kvs k := by simp [valV, e]
        have e2 : valD ((a, d) :: ds) k = valD ds k := by simp [valD, e]
        rw [e1, e2]
        exact ih
theorem rpk_any : ∀ {kvs : List (κ × V)} {ds : List (κ × D)} (k : κ), kvs.map (·.1) = ds.map (·.1) → (kvs.any fun kv => decide (kv.1 = k)) = (ds.any fun kv => decide (kv.1 = k))
  | [], [], k, _ => rfl
  | [], _ :: _, k, h => by cases h
  | _ :: _, [], k, h => by cases h
  | (a, v) :: kvs, (b, d) :: ds, k, h => by
    rw [List.map_cons, List.map_cons] at h
    obtain ⟨h1, h2⟩ := List.cons.inj h
    have h1 : a = b := h1
    subst h1
    rw [List.any_cons, List.any_cons, rpk_any k h2]
theorem rpk_put {K : PySem.W.Frag} {G : Hp} {kvs : List (κ × V)} {ds : List (κ × D)} {k : κ} {v : V} {d : D} (h : kvs.map (·.1) = ds.map (·.1)) (r : RpL K G (kvs.map (·.2)) (ds.map (·.2))) (rv : Rp K G v d) :
    (putK kvs k v).map (·.1) = (putD ds k d).map (·.1) ∧ RpL K G ((putK kvs k v).map (·.2)) ((putD ds k d).map (·.2)) := by
  unfold putK putD
  rw [rpk_any k h]
  split
  · constructor
    · have key : ∀ {α : Type} (l : List (κ × α)) (x : α), (l.map fun kv => if kv.1 = k then (kv.1, x) else kv).map (·.1) = l.map (·.1) := by
        intro α l x
        rw [List.map_map]
        apply List.map_congr_left
        intro a _
        show (if a.1 = k then (a.1, x) else a).1 = a.1
        split <;> rfl
      rw [key, key]
      exact h
    · rename_i hx
      clear hx
      induction kvs generalizing ds with
      | nil =>
        cases ds with
        | nil => exact .nil
        | cons _ _ => cases h
      | cons p kvs ih =>
        cases ds with
        | nil => cases h
        | cons q ds =>
          rw [List.map_cons, List.map_cons] at h r
          obtain ⟨h1, h2⟩ := List.cons.inj h
          cases r with
          | cons r1 r2 =>
            rw [List.map_cons, List.map_cons, List.map_cons, List.map_cons]
            refine .cons ?_ (ih h2 r2)
            have h1 : p.1 = q.1 := h1
            rw [h1]
            split
            · exact rv
            · exact r1
  · rw [List.map_append, List.map_append, List.map_append, List.map_append, h]
    exact ⟨rfl, r.append (.one rv)⟩
end
/-- a dict as it is read -/
inductive DV where
  | K (ds : List (Key × D)) | T (ds : List (List Key × D))
def S.dct? : S → Option DV
  | .dat (.dic ds) => some (.K ds)
  | .dat (.dit ds) => some (.T ds)
  | .own (.one (.dK ds)) => some (.K ds)
  | .vw (.one (.dK ds)) => some (.K ds)
  | .own (.one (.dT ds)) => some (.T ds)
  | .vw (.one (.dT ds)) => some (.T ds)
  | .lk (.dK ds) => some (.K ds)
  | .lk (.dT ds) => some (.T ds)
  | _ => none
/-- what is found at a key -/
inductive Look : DV → D → Option D → Prop
  | k {ds : List (Key × D)} (k : Key) : Look (.K ds) (keyD k) (valD ds k)
  | t {ds : List (List Key × D)} (k : List Key) : Look (.T ds) (keyT k) (valD ds k)
def RpDV (K : PySem.W.Frag) (G H : Hp) (a : Addr) : DV → Prop
  | .K ds => ∃ kvs, Rd H a (.dK kvs) ∧ kvs.map (·.1) = ds.map (·.1) ∧ RpL K G (kvs.map (·.2)) (ds.map (·.2))
  | .T ds => ∃ kvs, Rd H a (.dT kvs) ∧ kvs.map (·.1) = ds.map (·.1) ∧ RpL K G (kvs.map (·.2)) (ds.map (·.2))
section
variable {ι : Type} {m : ι} {K : PySem.W.Frag} {W : Wd ι} {Φ : ι → S → Prop} {H0 G H : Hp} {v : V} {s : S}
theorem RelS.dct {dv : DV} (ok : Ok W m G H) (r : RelS K W H0 G H v s) (h : s.dct? = some dv) : ∃ a, v = .ref a ∧ RpDV K G H a dv := by
  have o1 : ∀ {p o}, Ob1 K G H p o → (∀ dv, (match o with | .dK ds => some (DV.K ds) | .dT ds => some (.T ds) | _ => none) = some dv → RpDV K G H p dv) := fun {p o} ob dv h => by
    cases o with
    | lst ds => cases h
    | dK ds => cases h; obtain ⟨kvs, a, k, b⟩ := ob; exact ⟨kvs, .inl a, k, b⟩
    | dT ds => cases h; obtain ⟨kvs, a, k, b⟩ := ob; exact ⟨kvs, .inl a, k, b⟩
  cases s with
  | dat d =>
    have r : Rp K G v d := r
    cases d <;> first | cases h | skip
    · cases r with
      | dic a k b => exact ⟨_, rfl, _, ex_rd ok.ex a, k, b⟩
    · cases r with
      | dit a k b => exact ⟨_, rfl, _, ex_rd ok.ex a, k, b⟩
  | own o =>
    obtain ⟨p, rfl, ob⟩ := r
    cases o <;> first | cases h | skip
    rename_i o
    refine ⟨p, rfl, o1 ob.2 dv ?_⟩
    cases o <;> exact h
  | vw o =>
    obtain ⟨p, rfl, ob⟩ := r
    cases o <;> first | cases h | skip
    rename_i o
    refine ⟨p, rfl, o1 ob.2 dv ?_⟩
    cases o <;> exact h
  | lk o =>
    obtain ⟨p, x, u, rfl, n, ob⟩ := r
    have e := W.pinned _ _ _ _ _ ok.inv n
    cases o <;> first | cases h | skip
    · obtain ⟨kvs, rfl, k, b⟩ := ob; exact ⟨p, rfl, kvs, .inr ⟨x, e⟩, k, b⟩
    · obtain ⟨kvs, rfl, k, b⟩ := ob; exact ⟨p, rfl, kvs, .inr ⟨x, e⟩, k, b⟩
  | no => cases h
  | el i j => cases h
  | at_ p => cases h
  | xc _ _ _ _ => cases h
theorem RpDV.isD {a : Addr} {dv : DV} (h : RpDV K G H a dv) : IsD H a := by
  cases dv with
  | K ds => obtain ⟨kvs, e, _⟩ := h; exact .inl ⟨kvs, e⟩
  | T ds => obtain ⟨kvs, e, _⟩ := h; exact .inr ⟨kvs, e⟩
theorem key_inv {k : Key} {v : V} (r : Rp K G v (keyD k)) : v = kV k := by cases k <;> (cases r; rfl)
theorem keys_inv : ∀ {k : List Key} {vs : List V}, RpL K G vs (k.map keyD) → vs = k.map kV
  | [], _, .nil => rfl
  | a :: k, _, .cons h r => by rw [key_inv h, keys_inv r]; rfl
theorem keyT_inv {k : List Key} {v : V} (r : Rp K G v (keyT k)) : ∃ b, v = .ref b ∧ G b = some (.tup (k.map kV)) := by
  unfold keyT at r
  cases r with
  | tup h rx => rw [keys_inv rx] at h; exact ⟨_, rfl, h⟩
/-- a look at a dict -/
theorem look_get {a : Addr} {dv : DV} {kd : D} {o : Option D} {y : V} (e : Ex G H) (h : RpDV K G H a dv) (l : Look dv kd o) (ry : Rp K G y kd) : ∃ w, DGet H a y w ∧ ((w = none ∧ o = none) ∨ ∃ v d, w = some v ∧ o = some d ∧ Rp K G v d) := by
  cases l with
  | k k =>
    obtain ⟨kvs, hd, hk, rv⟩ := h
    refine ⟨valV kvs k, .inl ⟨kvs, k, hd, key_inv ry, rfl⟩, ?_⟩
    exact rpk_val k hk rv
  | t k =>
    obtain ⟨kvs, hd, hk, rv⟩ := h
    obtain ⟨b, rfl, hb⟩ := keyT_inv ry
    refine ⟨valV kvs k, .inr ⟨kvs, k, b, hd, rfl, e _ _ hb, rfl⟩, ?_⟩
    exact rpk_val k hk rv
end
section
variable {ι : Type} {c : Cc ι} {m : ι} {ρ : List S} {Φ : ι → S → Prop} {td ty tx te : TE} {N B C : ι → List S → Prop} {R : ι → S → Prop}
/-- d[k] -/
theorem de_dget (h : De c m td ρ fun m s => De c m ty ρ fun m s2 => ∃ dv kd d, s.dct? = some dv ∧ s2 = .dat kd ∧ Look dv kd (some d) ∧ Φ m (.dat d)) : De c m (tDGet td ty) ρ Φ := fun σ G H e Q q =>
  h σ G H e _ fun v s m1 G1 H1 g1 r1 h1 => h1 σ G1 H1 (e.grow g1) _ fun v2 s2 m2 G2 H2 g2 r2 ⟨dv, kd, d, hs, es, hl, p⟩ => by
    subst es
    have e2 := (e.grow g1).grow g2
    obtain ⟨a, rfl, hd⟩ := (r1.grow g2).dct e2.ok hs
    obtain ⟨w, hw, ⟨_, z⟩ | ⟨x, d', rfl, hd', rx⟩⟩ := look_get e2.ok.ex hd hl r2
    · cases z
    · cases hd'
      exact ⟨a, x, rfl, hw, q x (.dat d) m2 G2 H2 (g1.trans g2) rx p⟩
/-- d.get(k, x) -/
theorem de_dget2 (h : De c m td ρ fun m s => (∃ dv, s.dct? = some dv ∧ De c m ty ρ fun m s2 => De c m tx ρ fun m s3 => ∃ kd o x, s2 = .dat kd ∧ s3 = .dat x ∧ Look dv kd o ∧ Φ m (.dat (o.getD x)))) : De c m (tDGet2 td ty tx) ρ Φ := fun σ G H e Q q =>
  h σ G H e _ fun v s m1 G1 H1 g1 r1 ⟨dv, hs, h1⟩ => by
    obtain ⟨a, rfl, hd0⟩ := r1.dct (e.grow g1).ok hs
    refine ⟨a, rfl, hd0.isD, h1 σ G1 H1 (e.grow g1) _ fun v2 s2 m2 G2 H2 g2 r2 h2 => h2 σ G2 H2 ((e.grow g1).grow g2) _ fun v3 s3 m3 G3 H3 g3 r3 ⟨kd, o, x, es, es3, hl, p⟩ => ?_⟩
    subst es es3
    have e3 := ((e.grow g1).grow g2).grow g3
    obtain ⟨a', ea, hd⟩ := ((r1.grow g2).grow g3).dct e3.ok hs
    cases ea
    obtain ⟨w, hw, z⟩ := look_get e3.ok.ex hd hl (r2.grow g3)
    refine ⟨w, hw, ?_⟩
    rcases z with ⟨rfl, rfl⟩ | ⟨y, d, rfl, rfl, ry⟩
    · exact q v3 (.dat x) m3 G3 H3 ((g1.trans g2).trans g3) r3 p
    · exact q y (.dat d) m3 G3 H3 ((g1.trans g2).trans g3) ry p
/-- k in d -/
theorem de_din (h : De c m ty ρ fun m s2 => De c m td ρ fun m s => ∃ dv kd o, s.dct? = some dv ∧ s2 = .dat kd ∧ Look dv kd o ∧ Φ m (.dat (.bl o.isSome))) : De c m (tDIn ty td) ρ Φ := fun σ G H e Q q =>
  h σ G H e _ fun v2 s2 m1 G1 H1 g1 r2 h1 => h1 σ G1 H1 (e.grow g1) _ fun v s m2 G2 H2 g2 r1 ⟨dv, kd, o, hs, es, hl, p⟩ => by
    subst es
    have e2 := (e.grow g1).grow g2
    obtain ⟨a, rfl, hd⟩ := r1.dct e2.ok hs
    obtain ⟨w, hw, z⟩ := look_get e2.ok.ex hd hl (r2.grow g2)
    have ew : w.isSome = o.isSome := by rcases z with ⟨rfl, rfl⟩ | ⟨y, d, rfl, rfl, _⟩ <;> rfl
    exact ⟨a, w, rfl, hw, by rw [ew]; exact q _ (.dat (.bl _)) m2 G2 H2 (g1.trans g2) (Rp.bl _) p⟩
/-- k not in d -/
theorem de_dnotin (h : De c m ty ρ fun m s2 => De c m td ρ fun m s => ∃ dv kd o, s.dct? = some dv ∧ s2 = .dat kd ∧ Look dv kd o ∧ Φ m (.dat (.bl (!o.isSome)))) : De c m (tDNotIn ty td) ρ Φ := fun σ G H e Q q =>
  h σ G H e _ fun v2 s2 m1 G1 H1 g1 r2 h1 => h1 σ G1 H1 (e.grow g1) _ fun v s m2 G2 H2 g2 r1 ⟨dv, kd, o, hs, es, hl, p⟩ => by
    subst es
    have e2 := (e.grow g1).grow g2
    obtain ⟨a, rfl, hd⟩ := r1.dct e2.ok hs
    obtain ⟨w, hw, z⟩ := look_get e2.ok.ex hd hl (r2.grow g2)
    have ew : w.isSome = o.isSome := by rcases z with ⟨rfl, rfl⟩ | ⟨y, d, rfl, rfl, _⟩ <;> rfl
    exact ⟨a, w, rfl, hw, by rw [ew]; exact q _ (.dat (.bl _)) m2 G2 H2 (g1.trans g2) (Rp.bl _) p⟩
theorem de_dnew (h : Φ m (.own (.dK []))) : De c m tDNewK ρ Φ := fun σ G H e Q q p hp =>
  q (.ref p) (.own (.dK [])) m G _ (Grow.new e.ok hp) ⟨p, rfl, ⟨hp, fresh_back e.ok.ex hp, fun m => c.W.ne e.ok.inv m hp⟩, [], upd_same, rfl, .nil⟩ h
theorem de_dnewT (h : Φ m (.own (.dT []))) : De c m tDNewT ρ Φ := fun σ G H e Q q p hp =>
  q (.ref p) (.own (.dT [])) m G _ (Grow.new e.ok hp) ⟨p, rfl, ⟨hp, fresh_back e.ok.ex hp, fun m => c.W.ne e.ok.inv m hp⟩, [], upd_same, rfl, .nil⟩ h
/-- what a store makes of a dict -/
inductive PutS : O1 → D → D → O1 → Prop
  | k {ds : List (Key × D)} (k : Key) (d : D) : PutS (.dK ds) (keyD k) d (.dK (putD ds k d))
  | t {ds : List (List Key × D)} (k : List Key) (d : D) : PutS (.dT ds) (keyT k) d (.dT (putD ds k d))
def O1.few : O1 → Prop
  | .dK ds => ds.length < 1000000
  | .dT ds => ds.length < 1000000
  | .lst _ => True
theorem put_dput {K : PySem.W.Frag} {G H : Hp} {a : Addr} {o o' : O1} {kd d : D} {y v : V} (e : Ex G H) (ob : Ob1 K G H a o) (hf : o.few) (p : PutS o kd d o') (ry : Rp K G y kd) (rv : Rp K G v d) : ∃ u, DPut H a y v (upd H a u) ∧ Ob1 K G (upd H a u) a o' := by
  cases p with
  | k k d =>
    obtain ⟨kvs, hd, hk, rx⟩ := ob
    have hl : kvs.length < sizeLine := by
      have := congrArg List.length hk
      rw [List.length_map, List.length_map] at this
      exact szl (by rw [this]; exact hf)
    obtain ⟨k1, k2⟩ := rpk_put (k := k) hk rx rv
    exact ⟨_, .inl ⟨kvs, k, hd, key_inv ry, hl, rfl⟩, _, upd_same, k1, k2⟩
  | t k d =>
    obtain ⟨kvs, hd, hk, rx⟩ := ob
    have hl : kvs.length < sizeLine := by
      have := congrArg List.length hk
      rw [List.length_map, List.length_map] at this
      exact szl (by rw [this]; exact hf)
    obtain ⟨b, rfl, hb⟩ := keyT_inv ry
    obtain ⟨k1, k2⟩ := rpk_put (k := k) hk rx rv
    exact ⟨_, .inr ⟨kvs, k, b, hd, rfl, e _ _ hb, hl, rfl⟩, _, upd_same, k1, k2⟩
/-- d[k] = e, d one's own -/
theorem ds_dput {i : Nat} {o : O1} {tv : TE} (hi : ρ[i]? = some (.own (.one o))) (hf : o.few) (h : De c m tv ρ fun m s => De c m ty ρ fun m s2 => ∃ d kd o', s.frz = .dat d ∧ s2 = .dat kd ∧ PutS o kd d o' ∧ N m (ρ.set i (.own (.one o')))) : Ds c m (sDPut (tVar i) ty tv) ρ N R B C := fun D σ G H e k1 _ _ _ =>
  h σ G H e _ fun v s m1 G1 H1 g1 r1 h1 => by
    obtain ⟨p, a, _⟩ := e.own hi
    refine ⟨_, a, h1 σ G1 H1 (e.grow g1) _ fun v2 s2 m2 G2 H2 g2 r2 ⟨d, kd, o', es, es2, hp, hn⟩ => ?_⟩
    subst es2
    obtain ⟨G3, g3, r3, x3⟩ := (r1.grow g2).freezeX (g1.trans g2)
    rw [es] at r3
    have e3 := e.grow g3
    obtain ⟨p', a', f, ob⟩ := e3.own hi
    rw [a] at a'
    cases a'
    obtain ⟨u, hu, ob'⟩ := put_dput e3.ok.ex ob hf hp (Rp.mono x3 r2) r3
    exact ⟨p, _, rfl, hu, k1 _ σ m2 G3 _ hn g3.ex (e3.mut1 hi a ob')⟩
theorem EnvOk.elAt {G H : Hp} {σ : L2.St} {k i j : Nat} {its : List It} {o : O1} (e : EnvOk c m G H σ ρ) (hk : ρ[k]? = some (.el i j)) (hi : ρ[i]? = some (.own (.nest its))) (hj : its[j]? = some (.o o)) : ∃ q, σ[k]? = some (some (.ref q)) ∧ Ob1 c.K G H q o := by
  obtain ⟨its', p, vs, q, o1, h1, h2, h3, h4, h5, h6⟩ := e.els k i j hk
  rw [hi] at h1
  cases h1
  obtain ⟨p', hp', f, vs', e', r, nd⟩ := e.own hi
  rw [h2] at hp'
  cases hp'
  rw [h3] at e'
  cases e'
  obtain ⟨w, hw, q', rfl, fq, ob⟩ := r.getD hj
  rw [h4] at hw
  cases hw
  exact ⟨q, h6, ob⟩
/-- row[k] = e, row an item of an own list -/
theorem ds_dputE {kk i j : Nat} {its : List It} {o : O1} {tv : TE} (hk : ρ[kk]? = some (.el i j)) (hi : ρ[i]? = some (.own (.nest its))) (hj : its[j]? = some (.o o)) (hf : o.few) (h : De c m tv ρ fun m s => De c m ty ρ fun m s2 => ∃ d kd o', s.frz = .dat d ∧ s2 = .dat kd ∧ PutS o kd d o' ∧ N m (ρ.set i (.own (.nest (its.set j (.o o')))))) : Ds c m (sDPut (tVar kk) ty tv) ρ N R B C := fun D σ G H e k1 _ _ _ =>
  h σ G H e _ fun v s m1 G1 H1 g1 r1 h1 => by
    obtain ⟨q, a, _⟩ := e.elAt hk hi hj
    refine ⟨_, a, h1 σ G1 H1 (e.grow g1) _ fun v2 s2 m2 G2 H2 g2 r2 ⟨d, kd, o', es, es2, hp, hn⟩ => ?_⟩
    subst es2
    obtain ⟨G3, g3, r3, x3⟩ := (r1.grow g2).freezeX (g1.trans g2)
    rw [es] at r3
    have e3 := e.grow g3
    obtain ⟨q', a', ob⟩ := e3.elAt hk hi hj
    rw [a] at a'
    cases a'
    obtain ⟨u, hu, ob'⟩ := put_dput e3.ok.ex ob hf hp (Rp.mono x3 r2) r3
    exact ⟨q, _, rfl, hu, k1 _ σ m2 G3 _ hn g3.ex (e3.mutE hk hi hj a ob')⟩
/-- d[k] += e, ints -/
theorem ds_daug {i : Nat} {o : O1} {dv : DV} {tv : TE} {f : Int → Int → Int} {rd : V → V → Hp → VK → Prop} (hrd : ∀ (a b : Int) H (Q : VK), Q (.int (f a b)) H → rd (.int a) (.int b) H Q) (hi : ρ[i]? = some (.own (.one o))) (hf : o.few) (hdv : (S.own (.one o)).dct? = some dv)
    (h : De c m ty ρ fun m s2 => ∃ (kd : D) (x : Int), s2 = .dat kd ∧ Look dv kd (some (.int x)) ∧ De c m tv ρ fun m s => ∃ y o', s = .dat (.int y) ∧ PutS o kd (.int (f x y)) o' ∧ N m (ρ.set i (.own (.one o')))) : Ds c m (sDAug (tVar i) ty tv rd) ρ N R B C := fun D σ G H e k1 _ _ _ => by
  obtain ⟨p, a, ob0⟩ := e.own hi
  refine ⟨_, a, h σ G H e _ fun v2 s2 m1 G1 H1 g1 r2 ⟨kd, x, es2, hl, h1⟩ => ?_⟩
  subst es2
  have e1 := e.grow g1
  obtain ⟨p', a', ob⟩ := e1.own hi
  rw [a] at a'
  cases a'
  obtain ⟨a2, ea, hd⟩ := RelS.dct (H0 := c.H0) (s := .own (.one o)) e1.ok ⟨p, rfl, ob⟩ hdv
  cases ea
  obtain ⟨w, hw, ⟨_, z⟩ | ⟨y, d', rfl, hd', ry⟩⟩ := look_get e1.ok.ex hd hl r2
  · cases z
  · cases hd'
    cases ry
    refine ⟨p, _, rfl, hw, h1 σ G1 H1 e1 _ fun v s m2 G2 H2 g2 r1 ⟨y, o', es, hp, hn⟩ => ?_⟩
    subst es
    cases r1
    have e2 := e1.grow g2
    obtain ⟨p', a', f', ob2⟩ := e2.own hi
    rw [a] at a'
    cases a'
    obtain ⟨u, hu, ob'⟩ := put_dput e2.ok.ex ob2 hf hp (r2.grow g2) (Rp.int (f x y))
    exact hrd _ _ _ _ ⟨_, hu, k1 _ σ m2 G2 _ hn (g1.ex.trans g2.ex) (e2.mut1 hi a ob')⟩
/-- {k: v} -/
theorem de_disp1 {tk tv : TE} (h : De c m tk ρ fun m s => De c m tv ρ fun m s2 => ∃ k d, s = .dat (keyD k) ∧ s2.frz = .dat d ∧ Φ m (.own (.dK [(k, d)]))) : De c m (tDisp [(tk, tv)]) ρ Φ := fun σ G H e Q q p hp => by
  have g0 := Grow.new (o := .dK []) e.ok hp
  have e0 := e.grow g0
  have gp : G p = none := fresh_back e.ok.ex hp
  have mp : ¬ c.W.M p := fun mm => c.W.ne e.ok.inv mm hp
  refine h σ G _ e0 _ fun v s m1 G1 H1 g1 r1 h1 => h1 σ G1 H1 (e0.grow g1) _ fun v2 s2 m2 G2 H2 g2 r2 ⟨k, d, es, es2, hΦ⟩ => ?_
  obtain ⟨G3, g3, r3⟩ := r2.freeze g2
  rw [es2] at r3
  subst es
  have ek := key_inv (k := k) r1
  subst ek
  have g13 := g1.trans g3
  have hp0 : upd H p (HO.dK []) p = some (.dK []) := upd_same
  have hp3 : H2 p = some (.dK []) := g13.keep p _ mp hp0
  refine ⟨hp3, [(k, v2)], rfl, by show 1 ≤ 15; decide, ?_⟩
  have n3 : G3 p = none := g13.fresh p _ hp0 rfl gp
  have ga := g0.trans g13
  exact q (.ref p) (.own (.dK [(k, d)])) m2 G3 _ (ga.mut hp n3 mp) ⟨p, rfl, ⟨hp, n3, mp⟩, [(k, v2)], upd_same, rfl, .one r3⟩ hΦ
end
end DL
set_option Elab.async false
set_option linter.all false
set_option maxRecDepth 100000
set_option maxHeartbeats 1000000
namespace DL
open PySem PySem.Spec PyProof.Rows L2 Evl
variable {ι : Type} {m m' m1 m2 : ι}
/-! ### a def that is called by its name -/
structure Cl (P : Program) (w : World) (K : PySem.W.Frag) (mg : Str → Option Value) (base : Heap) (CX : CXT) (k : Nat) (x : Str) (ps : List Str) (C : Fc) : Prop where
  ex : ∃ (f : Addr) (fd : FuncData), FnOk P w K mg base CX k f fd ps (spF K C) ∧ mg x = some (.ref f) ∧ PySem.W.keepIn K (.ref f) = true ∧ Binds K fd ps []
section
variable {X : Cx} {k j : Nat} {x : Str} {ps : List Str} {C : Fc} {p pos : Pos} {e : Expr} {es : List Expr} {t : TA}
theorem pcl {CX : CXT} {E : XK} (c : Cl X.prog X.w X.K X.mg X.base CX k x ps C) (hr : Room j X.A) (hx : Passes CX X E) (ha : PA X (e :: es) t) (hk : k ≤ j := by decide) (hg : Gl X x := by rfl) (hdb : (x == ("__debug__" : Str)) = false := by decide)
    (he : starEach (e :: es) X.env = (false, eval e X.env) :: starEach es X.env := by rfl) (hpl : (backTo pos (starEach es X.env)).any (·.1) = false := by rfl) :
    PE X (.Call (.Name x p) (e :: es) [] pos) (tCall (spF X.K C) [] E t) := by
  obtain ⟨f, fd, F, hm, kp, hb⟩ := c.ex
  exact pe_call F (hr.mono hk) hg hm kp hb .nil hx ha hdb he hpl
theorem pclS {W : WX} (c : Cl X.prog X.w X.K X.mg X.base (L2.CX X.prog X.w) k x ps C) (hr : Room j X.A) (tk : Takes X W) (ha : PA X (e :: es) t) (hk : k ≤ j := by decide) (hg : Gl X x := by rfl) (hdb : (x == ("__debug__" : Str)) = false := by decide)
    (he : starEach (e :: es) X.env = (false, eval e X.env) :: starEach es X.env := by rfl) (hpl : (backTo pos (starEach es X.env)).any (·.1) = false := by rfl) :
    PE X (.Call (.Name x p) (e :: es) [] pos) (tCallS (spF X.K C) (WE W) t) := by
  obtain ⟨f, fd, F, hm, kp, hb⟩ := c.ex
  exact pe_callS F (hr.mono hk) hg hm kp hb (fun σ => passAt tk σ) ha hdb he hpl
end
/-! ### built-ins, wider -/
section
variable {X : Cx}
def rLenA (K : PySem.W.Frag) : List V → Hp → VK → Prop := fun xs H Q => (∃ p ys, xs = [V.ref p] ∧ (SqL K H p ys ∨ SqT K H p ys) ∧ Q (.int ys.length) H) ∨ ∃ (a : Addr) (kvs : List (Key × V)), xs = [V.ref a] ∧ Rd H a (.dK kvs) ∧ Q (.int kvs.length) H
theorem call_lenA : CallR X (.builtin "len") (rLenA X.K) := call_len_seq.or fun pins s σ H xs us Q I r h => by
  obtain ⟨a, kvs, rfl, ha, q⟩ := h
  obtain ⟨u, rfl, ru⟩ := vals1 r
  cases ru
  exact d_len I ha fun t s' I' => ⟨.int kvs.length, H, I', ⟨t, rfl⟩, q⟩
def rSumA (K : PySem.W.Frag) : List V → Hp → VK → Prop := fun vs H Q => ∃ (a : Addr) (ns : List Int), vs = [V.ref a] ∧ (SqL K H a (ns.map V.int) ∨ SqT K H a (ns.map V.int)) ∧ Q (.int ns.sum) H
theorem call_sumA (hc : X.calm = true) : CallR X (.builtin "sum") (rSumA X.K) := fun pins s σ H vs us Q I r h => by
  obtain ⟨a, ns, rfl, hs, q⟩ := h
  rcases hs with hs | hs
  · exact cr_sum hc pins s σ H _ us Q I r ⟨a, ns, rfl, hs, q⟩
  · obtain ⟨its, rv, hl, _⟩ := I.tuple hs
    rw [Vals.ref1 r]
    have hi := rv.ints
    obtain ⟨xs, ex⟩ := hi.allInts.items
    have hn : numsOf (intItems xs).toList = ns := by rw [← ex]; exact hi.numsOf
    rw [nums_intItems] at hn
    have hl2 : s.heap.IsTuple a (intItems xs) := by rw [← ex]; exact hl
    refine PySem.W.ktm_sumG (I.ok.hd hc) hl2 fun h' tk t' hk => ?_
    rw [preSum_eq, List.take_of_length_le (by simp), hn]
    exact ⟨.int ns.sum, H, I.kept hk, ⟨_, rfl⟩, q⟩
end
/-! ### their readings over data -/
section
variable {K : PySem.W.Frag} {W : Wd ι} {Φ : ι → S → Prop} {H0 G H : Hp} {v : V} {s : S}
theorem RelS.dicV {ds : List (Key × D)} (ok : Ok W m G H) (r : RelS K W H0 G H v s) (h : s.dct? = some (.K ds)) : ∃ a kvs, v = .ref a ∧ Rd H a (.dK kvs) ∧ kvs.map (·.1) = ds.map (·.1) ∧ RpL K G (kvs.map (·.2)) (ds.map (·.2)) := by
  obtain ⟨a, rfl, kvs, b, c, d⟩ := r.dct ok h
  exact ⟨a, kvs, rfl, b, c, d⟩
theorem relss1 {vs : List V} {s : S} (r : RelSs K W H0 G H vs [s]) : ∃ v, vs = [v] ∧ RelS K W H0 G H v s := by
  cases r with
  | cons a b => cases b; exact ⟨_, rfl, a⟩
theorem relss2 {vs : List V} {s s2 : S} (r : RelSs K W H0 G H vs [s, s2]) : ∃ v v2, vs = [v, v2] ∧ RelS K W H0 G H v s ∧ RelS K W H0 G H v2 s2 := by
  cases r with
  | cons a b =>
    cases b with
    | cons b d => cases d; exact ⟨_, _, rfl, a, b⟩
theorem cb_lenL {s : S} {ds : List D} (h1 : s.lst? = some ds) (h : Φ m (.dat (.int ds.length))) : CbS K W m (rLenA K) [s] Φ := fun H0 G H vs ok rr Q q => by
  obtain ⟨v, rfl, r⟩ := relss1 rr
  obtain ⟨p, xs, rfl, a, b⟩ := r.lstV ok h1
  exact .inl ⟨p, xs, rfl, .inl a, by rw [b.length]; exact q _ (.dat (.int _)) m G H ok.refl (Rp.int _) h⟩
theorem cb_lenT {s : S} {ds : List D} (h1 : s.tup? = some ds) (h : Φ m (.dat (.int ds.length))) : CbS K W m (rLenA K) [s] Φ := fun H0 G H vs ok rr Q q => by
  obtain ⟨v, rfl, r⟩ := relss1 rr
  obtain ⟨p, xs, rfl, a, b⟩ := r.tupV ok h1
  exact .inl ⟨p, xs, rfl, .inr a, by rw [b.length]; exact q _ (.dat (.int _)) m G H ok.refl (Rp.int _) h⟩
theorem cb_lenK {s : S} {ds : List (Key × D)} (h1 : s.dct? = some (.K ds)) (h : Φ m (.dat (.int ds.length))) : CbS K W m (rLenA K) [s] Φ := fun H0 G H vs ok rr Q q => by
  obtain ⟨v, rfl, r⟩ := relss1 rr
  obtain ⟨p, kvs, rfl, a, k, b⟩ := r.dicV ok h1
  have e : kvs.length = ds.length := by
    have := congrArg List.length k
    rwa [List.length_map, List.length_map] at this
  exact .inr ⟨p, kvs, rfl, a, by rw [e]; exact q _ (.dat (.int _)) m G H ok.refl (Rp.int _) h⟩
theorem cb_sum {s : S} {ns : List Int} (h1 : s.lst? = some (ns.map D.int) ∨ s.tup? = some (ns.map D.int)) (h : Φ m (.dat (.int ns.sum))) : CbS K W m (rSumA K) [s] Φ := fun H0 G H vs ok rr Q q => by
  obtain ⟨v, rfl, r⟩ := relss1 rr
  rcases h1 with h1 | h1
  · obtain ⟨p, xs, rfl, a, b⟩ := r.lstV ok h1
    exact ⟨p, ns, rfl, .inl (by rw [← b.ints]; exact a), q _ (.dat (.int _)) m G H ok.refl (Rp.int _) h⟩
  · obtain ⟨p, xs, rfl, a, b⟩ := r.tupV ok h1
    exact ⟨p, ns, rfl, .inr (by rw [← b.ints]; exact a), q _ (.dat (.int _)) m G H ok.refl (Rp.int _) h⟩
theorem cb_all {s : S} {bs : List Bool} (h1 : s.lst? = some (bs.map D.bl)) (h : Φ m (.dat (.bl (bs.all id)))) : CbS K W m (rAll K) [s] Φ := fun H0 G H vs ok rr Q q => by
  obtain ⟨v, rfl, r⟩ := relss1 rr
  obtain ⟨p, xs, rfl, a, b⟩ := r.lstV ok h1
  exact ⟨p, bs, rfl, by rw [← b.bools]; exact a, q _ (.dat (.bl _)) m G H ok.refl (Rp.bl _) h⟩
theorem cb_any {s : S} {bs : List Bool} (h1 : s.lst? = some (bs.map D.bl)) (h : Φ m (.dat (.bl (bs.any id)))) : CbS K W m (rAny K) [s] Φ := fun H0 G H vs ok rr Q q => by
  obtain ⟨v, rfl, r⟩ := relss1 rr
  obtain ⟨p, xs, rfl, a, b⟩ := r.lstV ok h1
  exact ⟨p, bs, rfl, by rw [← b.bools]; exact a, q _ (.dat (.bl _)) m G H ok.refl (Rp.bl _) h⟩
theorem cb_max2 {i j : Int} (h : Φ m (.dat (.int (max i j)))) : CbS K W m (fun xs H Q => ∃ i j, xs = [V.int i, V.int j] ∧ Q (.int (if j > i then j else i)) H) [.dat (.int i), .dat (.int j)] Φ := fun H0 G H vs ok rr Q q => by
  obtain ⟨v, v2, rfl, r, r2⟩ := relss2 rr
  cases r; cases r2
  have e : (if j > i then j else i) = max i j := by rw [Int.max_def]; split <;> split <;> omega
  exact ⟨i, j, rfl, by rw [e]; exact q _ (.dat (.int _)) m G H ok.refl (Rp.int _) h⟩
theorem cb_min2 {i j : Int} (h : Φ m (.dat (.int (min i j)))) : CbS K W m (fun xs H Q => ∃ i j, xs = [V.int i, V.int j] ∧ Q (.int (if j < i then j else i)) H) [.dat (.int i), .dat (.int j)] Φ := fun H0 G H vs ok rr Q q => by
  obtain ⟨v, v2, rfl, r, r2⟩ := relss2 rr
  cases r; cases r2
  have e : (if j < i then j else i) = min i j := by rw [Int.min_def]; split <;> split <;> omega
  exact ⟨i, j, rfl, by rw [e]; exact q _ (.dat (.int _)) m G H ok.refl (Rp.int _) h⟩
theorem cb_int {i : Int} (h : Φ m (.dat (.int i))) : CbS K W m (fun xs H Q => (∃ i, xs = [V.int i] ∧ Q (.int i) H) ∨ ∃ k, xs = [V.bl k] ∧ Q (.int (if k then 1 else 0)) H) [.dat (.int i)] Φ := fun H0 G H vs ok rr Q q => by
  obtain ⟨v, rfl, r⟩ := relss1 rr
  cases r
  exact .inl ⟨i, rfl, q _ (.dat (.int _)) m G H ok.refl (Rp.int _) h⟩
theorem cb_list {s : S} {ds : List D} (h1 : s.lst? = some ds ∨ s.tup? = some ds) (h : Φ m (.own (.lst ds))) : CbS K W m (fun xs H Q => ∃ p ys, xs = [V.ref p] ∧ (SqL K H p ys ∨ SqT K H p ys) ∧ ∀ l, H l = none → Q (.ref l) (upd H l (.lst ys))) [s] Φ := fun H0 G H vs ok rr Q q => by
  obtain ⟨v, rfl, r⟩ := relss1 rr
  rcases h1 with h1 | h1
  · obtain ⟨p, xs, rfl, a, b⟩ := r.lstV ok h1
    exact ⟨p, xs, rfl, .inl a, new_lst (H0 := H0) ok b h q⟩
  · obtain ⟨p, xs, rfl, a, b⟩ := r.tupV ok h1
    exact ⟨p, xs, rfl, .inr a, new_lst (H0 := H0) ok b h q⟩
theorem cb_tuple {s : S} {ds : List D} (h1 : s.lst? = some ds ∨ s = .dat (.tup ds)) (h : Φ m (.dat (.tup ds))) : CbS K W m (fun xs H Q => ∃ p ys, xs = [V.ref p] ∧ ((SqL K H p ys ∧ ∀ l, H l = none → Q (.ref l) (upd H l (.tup ys))) ∨ (SqT K H p ys ∧ Q (.ref p) H))) [s] Φ := fun H0 G H vs ok rr Q q => by
  obtain ⟨v, rfl, r⟩ := relss1 rr
  rcases h1 with h1 | h1
  · obtain ⟨p, xs, rfl, a, b⟩ := r.lstV ok h1
    exact ⟨p, xs, rfl, .inl ⟨a, new_tup (H0 := H0) ok b h q⟩⟩
  · subst h1
    obtain ⟨p, xs, rfl, a, b⟩ := r.tupV ok rfl
    exact ⟨p, xs, rfl, .inr ⟨a, q _ (.dat (.tup ds)) m G H ok.refl r h⟩⟩
theorem cb_dict {s : S} {ds : List (Key × D)} (h1 : s.dct? = some (.K ds)) (h : Φ m (.own (.dK ds))) : CbS K W m (fun xs H Q => ∃ (a : Addr) (kvs : List (Key × V)), xs = [V.ref a] ∧ Rd H a (.dK kvs) ∧ ∀ p, H p = none → Q (.ref p) (upd H p (.dK kvs))) [s] Φ := fun H0 G H vs ok rr Q q => by
  obtain ⟨v, rfl, r⟩ := relss1 rr
  obtain ⟨p, kvs, rfl, a, k, b⟩ := r.dicV ok h1
  exact ⟨p, kvs, rfl, a, fun l hl => q (.ref l) (.own (.dK ds)) m G _ (Grow.new ok hl) ⟨l, rfl, ⟨hl, fresh_back ok.ex hl, fun m => W.ne ok.inv m hl⟩, kvs, upd_same, k, b⟩ h⟩
/-- the sorted list of ints -/
def srt (ks : List Int) : List Int := ks.mergeSort fun a b => decide (a ≤ b)
theorem srt_perm (ks : List Int) : (srt ks).Perm ks := List.mergeSort_perm ks _
theorem srt_sorted (ks : List Int) : (srt ks).Pairwise (· ≤ ·) := by
  have := List.pairwise_mergeSort (le := fun a b : Int => decide (a ≤ b)) (fun a b c h1 h2 => by simp at *; omega) (fun a b => by simp; omega) ks
  exact this.imp fun h => by simpa using h
theorem srt_uniq {ys ks : List Int} (p : ys.Perm ks) (s : ys.Pairwise (· ≤ ·)) : ys = srt ks :=
  (p.trans (srt_perm ks).symm).eq_of_pairwise (fun a b _ _ h1 h2 => Int.le_antisymm h1 h2) s (srt_sorted ks)
theorem cb_sortedK {s : S} {ds : List (Key × D)} {ks : List Int} (h1 : s.dct? = some (.K ds)) (hk : ds.map (·.1) = ks.map Sum.inl) (h64 : ks.length < 64) (h : Φ m (.own (.lst ((srt ks).map D.int)))) : CbS K W m (fun xs H Q => ∃ (a : Addr) (kvs : List (Key × V)) (ks : List Int), xs = [V.ref a] ∧ Rd H a (.dK kvs) ∧ kvs.map (·.1) = ks.map Sum.inl ∧ ks.length < 64 ∧
    ∀ (ys : List Int) (p : Addr), ys.Perm ks → ys.Pairwise (· ≤ ·) → H p = none → Q (.ref p) (upd H p (.lst (ys.map V.int)))) [s] Φ := fun H0 G H vs ok rr Q q => by
  obtain ⟨v, rfl, r⟩ := relss1 rr
  obtain ⟨p, kvs, rfl, a, k, b⟩ := r.dicV ok h1
  exact ⟨p, kvs, ks, rfl, a, k.trans hk, h64, fun ys l pm st hl => new_lst (H0 := H0) ok (by rw [srt_uniq pm st]; exact RpL.ofInts _) h q l hl⟩
/-- a value's type -/
def D.ty : D → String
  | .non => "NoneType" | .bl _ => "bool" | .int _ => "int" | .str _ => "str" | .lst _ => "list" | .tup _ => "tuple" | .dic _ => "dict" | .dit _ => "dict" | .scr _ => "list" | .ins _ _ => "object"
/-- isinstance(x, T), x a locked dict with tuple keys among others -/
def rIsiW (K : PySem.W.Frag) : List V → Hp → VK → Prop := fun xs H Q => rIsi K xs H Q ∨ ∃ (a : Addr) (o : Obj) (kvs : List (List Key × V)) (T : String) (b : Bool), xs = [.ref a, .ty T] ∧ H a = some (.frz o (.dT kvs)) ∧ kitB "dict" T = some b ∧ Q (.bl b) H
/-- no dict with tuple keys that is locked, no instance -/
def D.ty? : D → Bool
  | .ins _ _ => false | _ => true
theorem Rp.tyx {d : D} (ok : Ok W m G H) (hL : ∀ ds, d = .dit ds → ∀ a, ¬ W.L a) (r : Rp K G v d) (hd : d.ty? = true) : TyX K H v (.type d.ty) := by
  cases r with
  | non => exact .base .non
  | bl b => exact .base (.bl b)
  | int i => exact .base (.int i)
  | str x => exact .base (.str x)
  | lst a b => exact .base (.lst (ok.ex _ _ a))
  | tup a b => exact .base (.tup (ok.ex _ _ a))
  | dic a k b =>
    rcases ex_rd ok.ex a with a | ⟨o, a⟩
    · exact .base (.dK a)
    · exact .fDict a
  | dit a k b =>
    rcases a with a | ⟨o, a⟩
    · exact .base (.dT (ok.ex _ _ a))
    · exact absurd (ok.lk _ o _ a fun xs z => by cases z) (hL _ rfl _)
  | scr a =>
    rcases ex_l ok.ex a with a | ⟨o, its, n, a, b, _⟩
    · rcases a with a | ⟨o, a⟩
      · exact .base (.lst a)
      · exact .base (.frz a)
    · exact .kList a b
  | ins a b c e => cases hd
theorem Ob1.tyx {p : Addr} {o : O1} (h : Ob1 K G H p o) : TyX K H (.ref p) (.type o.frz.ty) := by
  cases o with
  | lst ds => obtain ⟨xs, a, _⟩ := h; exact .base (.lst a)
  | dK ds => obtain ⟨xs, a, _⟩ := h; exact .base (.dK a)
  | dT ds => obtain ⟨xs, a, _⟩ := h; exact .base (.dT a)
end
section
variable {c : Cc ι} {ρ : List S} {Φ : ι → S → Prop} {te : TE}
/-- isinstance(e, T) -/
theorem de_isi {T : String} (h : De c m te ρ fun m s => ∃ d b, s = .dat d ∧ d.ty? = true ∧ (∀ ds, d = .dit ds → ∀ a, ¬ c.W.L a) ∧ kitB d.ty T = some b ∧ Φ m (.dat (.bl b))) : De c m (tCB (rIsiW c.K) (tCons te (tCons (tC (.ty T)) tNil))) ρ Φ := fun σ G H e Q q =>
  h σ G H e _ fun v s m1 G1 H1 g1 r1 ⟨d, b, es, hd, hL, hb, p⟩ => by
    subst es
    exact .inl ⟨v, .ty T, _, _, b, rfl, .ty T, Rp.tyx (e.grow g1).ok hL r1 hd, kit_ty hb, q _ (.dat (.bl b)) m1 G1 H1 g1 (Rp.bl b) p⟩
/-- .. of any data, locked or not -/
theorem de_isiD {T : String} (h : De c m te ρ fun m s => ∃ d b, s = .dat d ∧ d.ty? = true ∧ kitB d.ty T = some b ∧ Φ m (.dat (.bl b))) : De c m (tCB (rIsiW c.K) (tCons te (tCons (tC (.ty T)) tNil))) ρ Φ := fun σ G H e Q q =>
  h σ G H e _ fun v s m1 G1 H1 g1 r1 ⟨d, b, es, hd, hb, p⟩ => by
    subst es
    have fin := q _ (.dat (.bl b)) m1 G1 H1 g1 (Rp.bl b) p
    by_cases z : ∃ ds, d = .dit ds
    · obtain ⟨ds, rfl⟩ := z
      have ok := (e.grow g1).ok
      cases r1 with
      | dit a k rv =>
        rcases ex_rd ok.ex a with a | ⟨o, a⟩
        · exact .inl ⟨_, .ty T, _, _, b, rfl, .ty T, .base (.dT a), kit_ty hb, fin⟩
        · exact .inr ⟨_, o, _, T, b, rfl, a, hb, fin⟩
    · exact .inl ⟨v, .ty T, _, _, b, rfl, .ty T, Rp.tyx (e.grow g1).ok (fun ds e => absurd ⟨ds, e⟩ z) r1 hd, kit_ty hb, fin⟩
/-- .. of a view -/
theorem de_isiV {T : String} (h : De c m te ρ fun m s => ∃ o b, s = .vw (.one o) ∧ kitB o.frz.ty T = some b ∧ Φ m (.dat (.bl b))) : De c m (tCB (rIsiW c.K) (tCons te (tCons (tC (.ty T)) tNil))) ρ Φ := fun σ G H e Q q =>
  h σ G H e _ fun v s m1 G1 H1 g1 r1 ⟨o, b, es, hb, p⟩ => by
    subst es
    obtain ⟨a, rfl, _, ob⟩ := r1
    exact .inl ⟨.ref a, .ty T, _, _, b, rfl, .ty T, ob.tyx, kit_ty hb, q _ (.dat (.bl b)) m1 G1 H1 g1 (Rp.bl b) p⟩
end
end DL
set_option Elab.async false
set_option linter.all false
set_option maxRecDepth 100000
set_option maxHeartbeats 1000000
namespace DL
open PySem PySem.Spec PyProof.Rows L2 Evl
variable {ι : Type} {m m' m1 m2 : ι}
/-! ### own exceptions with fields -/
/-- __init__(self, f1, ..): self.f1 = f1; .. -/
def spX (C : Addr) : List Str → Sp := fun fs vs H Q _ => ∃ (a : Addr) (ws : List V), vs = .ref a :: ws ∧ ws.length = fs.length ∧ H a = some (exo a C none) ∧ ∀ dx, H dx = none → dx ≠ a → Q .non (upd (upd H dx (exd dx (fs.zip ws).reverse)) a (exo a C (some dx)))
structure Xc (P : Program) (w : World) (K : PySem.W.Frag) (mg : Str → Option Value) (base : Heap) (x : Str) (C : Addr) (fs : List Str) : Prop where
  oex : OexC K C
  xf : XfC K C
  gC : mg x = some (.ref C)
  te : PySem.W.exmOne K (.ref C) (.ref C) = some true
  ini : ∃ (fI : Addr) (fd : FuncData), PySem.W.findIn K (.ref C) "__init__" = some (some (.ref fI)) ∧ PySem.W.typeIn K (.ref fI) = some (.type "function") ∧ FnOk P w K mg base CX0 1 fI fd ("self" :: fs) (spX C fs) ∧ Binds K fd ("self" :: fs) []
  noat : ∀ f ∈ fs, PySem.W.findIn K (.ref C) f = some none
section
variable {X : Cx} {x : Str} {C : Addr} {fs : List Str} {j : Nat} {E : XK} {e : Expr} {es : List Expr} {p pos pos2 : Pos} {ta : TA}
def tRz (C : Addr) (fs : List Str) (E : XK) (ta : TA) : TS := fun _ σ H => tMkO C (spX C fs) [] ta σ H fun cls d H' => (fun (cls : Value) (d : Option Addr) (_ : L2.St) (H : Hp) => E cls d H) cls d σ H'
theorem raiseX (T : Xc X.prog X.w X.K X.mg X.base x C fs) (hr : Room j X.A) (tk : Takes X (fun cls d _ H => E cls d H)) (ha : PA X (e :: es) ta) (hj : 2 ≤ j := by decide) (hc : X.calm = true := by rfl) (hg : Gl X x := by rfl)
    (hdb : (x == ("__debug__" : Str)) = false := by decide) (he : starEach (e :: es) X.env = (false, eval e X.env) :: starEach es X.env := by rfl) (hpl : (backTo pos (starEach es X.env)).any (·.1) = false := by rfl) :
    PS X (.Raise (some (.Call (.Name x p) (e :: es) [] pos)) none pos2) (tRz C fs E ta) := by
  obtain ⟨fI, fd, h1, h2, h3, h4⟩ := T.ini
  exact ps_raise hc tk (pmk_oex T.oex h1 h2 h3 (hr.mono hj) h4 .nil pass0 hg T.gC ha hdb he hpl)
end
theorem upd_del {H : Hp} {a d : Addr} {o o1 o2 o3 : HO} (ha : H a = none) (ne : d ≠ a) : upd (del (upd (upd (upd H a o1) d o2) a o3) a) d o = upd H d o := by
  funext b
  by_cases h1 : b = d
  · rw [h1, upd_same, upd_same]
  · rw [upd_ne h1, upd_ne h1]
    by_cases h2 : b = a
    · rw [h2, del_same, ha]
    · rw [del_ne h2, upd_ne h2, upd_ne h1, upd_ne h2]
theorem zip_keys {α : Type} : ∀ {fs : List Str} {ws : List α}, ws.length = fs.length → (fs.zip ws).map (·.1) = fs ∧ (fs.zip ws).map (·.2) = ws
  | [], [], _ => ⟨rfl, rfl⟩
  | [], _ :: _, h => by simp at h
  | _ :: _, [], h => by simp at h
  | f :: fs, w :: ws, h => by
    obtain ⟨a, b⟩ := zip_keys (fs := fs) (ws := ws) (by simpa using h)
    simp [a, b]
section
variable {c : Cc ι} {ρ : List S} {ta : TA} {N B C' : ι → List S → Prop} {R : ι → S → Prop} {C : Addr} {fs : List Str}
theorem ds_raise (h : DA c m ta ρ fun m ss => ∃ ds : List D, ss = ds.map S.dat ∧ ds.length = fs.length ∧ ds.length ≤ 1000 ∧ c.Ξ m C (fs.zip ds).reverse) : Ds c m (tRz C fs c.E ta) ρ N R B C' := fun D σ G H e _ _ _ _ => h σ G H e _ fun vs ss m1 G1 H1 g1 r1 ⟨ds, es, hl, hk, hx⟩ => by
  subst es
  have r2 := relss_dat r1
  have e1 := e.grow g1
  refine ⟨by rw [r2.length]; exact hk, fun a ha => ⟨a, vs, by rw [List.append_nil], by rw [r2.length]; exact hl, upd_same, fun dx hdx ne => ?_⟩⟩
  have hd1 : H1 dx = none := by
    rw [upd_ne ne] at hdx
    exact hdx
  refine ⟨rfl, dx, _, upd_same, by rw [upd_ne ne]; exact upd_same, hd1, ?_⟩
  rw [upd_del ha ne]
  have hlen : vs.length = fs.length := by rw [r2.length]; exact hl
  obtain ⟨k1, k2⟩ := zip_keys hlen
  obtain ⟨k3, k4⟩ := zip_keys hl
  refine e1.excq C dx _ (fs.zip ds).reverse m1 G1 _ (Grow.new e1.ok hd1) (fresh_back e1.ok.ex hd1) (fun m => c.W.ne e1.ok.inv m hd1) upd_same ?_ ?_ hx
  · rw [List.map_reverse, List.map_reverse, k1, k3]
  · rw [List.map_reverse, List.map_reverse, k2, k4]
    exact r2.reverse
/-- try: return f(..) / except X as e: suite -/
theorem ds_tryRet {i : Nat} {F : Fc} {cls : Value} {ts : Addr → Value → Option Addr → TS} {tr : TA} {Wout : WX} (Ξ' : Xp ι)
    (h : DA c m tr ρ fun m ss => ss.all argS = true ∧ F ι c.W m ss R Ξ')
    (hx : ∀ m C fs, Ξ' m C fs → PySem.W.exmOne c.K (.ref C) cls = some true ∧ ∀ a d, Ds c m (ts a (.ref C) (some d)) (ρ.set i (.xc C a d fs)) (fun m ρ' => noEl i ρ' = true ∧ N m (ρ'.set i .no)) R (fun m ρ' => noEl i ρ' = true ∧ B m (ρ'.set i .no)) (fun m ρ' => noEl i ρ' = true ∧ C' m (ρ'.set i .no))) (hn0 : noEl i ρ = true := by with_unfolding_all rfl) :
    Ds c m (fun D σ H => tRet (tCallS (spF c.K F) (WE (wAs c.K cls i ts Wout D)) tr) D σ H) ρ N R B C' := fun D σ G H e k1 k2 k3 k4 => h σ G H e _ fun vs ss m1 G1 H1 g1 r1 ⟨ha, hf⟩ => by
  have e1 := e.grow g1
  refine ⟨ι, c.W, m1, G1, ss, R, Ξ', e1.ok, relss_arg r1 ha, ha, hf, fun v s m' G' H' g r p => k2 s v m' G' H' p (g1.ex.trans g.ex) (e1.gr.trans g) (r.back e1.gr), fun C d fv fs m' G' H' g nd md hd hk hr hq => ?_⟩
  obtain ⟨hm, hs⟩ := hx m' C fs hq
  refine ⟨true, hm, fun _ a _ => ?_, fun z => by cases z⟩
  have e2 := e1.grow g
  have e3 : EnvOk c m' G' H' (σ.set i (some (.ref a))) (ρ.set i (.xc C a d fs)) := e2.set (s := .xc C a d fs) ⟨rfl, nd, md, fv, hd, hk, hr⟩ hn0 (fun o z => by cases z) (fun _ _ z => by cases z) (fun _ z => by cases z)
  exact hs a d _ _ G' H' e3 (fun ρ' σ' m2 G2 H2 ⟨nz, n⟩ x e' => k1 _ _ m2 G2 H2 n ((g1.ex.trans g.ex).trans x) (e'.unset none nz)) (fun s v m2 G2 H2 r x gg rr => k2 s v m2 G2 H2 r ((g1.ex.trans g.ex).trans x) gg rr) (fun ρ' σ' m2 G2 H2 ⟨nz, n⟩ x e' => k3 _ _ m2 G2 H2 n ((g1.ex.trans g.ex).trans x) (e'.unset none nz)) (fun ρ' σ' m2 G2 H2 ⟨nz, n⟩ x e' => k4 _ _ m2 G2 H2 n ((g1.ex.trans g.ex).trans x) (e'.unset none nz))
/-- e.f in the suite -/
theorem de_xf {i : Nat} {a C d : Addr} {fs : List (Str × D)} {f : Str} {v : D} {Φ : ι → S → Prop} (hi : ρ[i]? = some (.xc C a d fs)) (hv : fs.lookup f = some v) (h : Φ m (.dat v)) : De c m (tXf a (.ref C) (some d) C f (tVar i)) ρ Φ := fun σ G H e Q q => by
  rcases e.at_ i _ hi with z | ⟨w, aw, ew, n, nm, fv, hd, hk, hr⟩
  · cases z
  · subst ew
    have key : ∀ {fv : List (Str × V)} {fs : List (Str × D)}, fv.map (·.1) = fs.map (·.1) → RpL c.K G (fv.map (·.2)) (fs.map (·.2)) → fs.lookup f = some v → ∃ w, fv.lookup f = some w ∧ Rp c.K G w v := by
      intro fv
      induction fv with
      | nil =>
        intro fs h1 h2 h3
        cases fs with
        | nil => cases h3
        | cons _ _ => cases h1
      | cons p fv ih =>
        intro fs h1 h2 h3
        cases fs with
        | nil => cases h1
        | cons q fs =>
          rw [List.map_cons, List.map_cons] at h1 h2
          obtain ⟨h4, h5⟩ := List.cons.inj h1
          obtain ⟨f1, v1⟩ := p
          obtain ⟨f2, v2⟩ := q
          have h4 : f1 = f2 := h4
          subst h4
          cases h2 with
          | cons r1 r2 =>
            by_cases z : f = f1
            · subst z
              have e1 : List.lookup f ((f, v2) :: fs) = some v2 := by simp [List.lookup]
              rw [e1] at h3
              cases h3
              exact ⟨v1, by simp [List.lookup], r1⟩
            · have zb : (f == f1) = false := by simpa using z
              have e1 : List.lookup f ((f1, v2) :: fs) = List.lookup f fs := by simp [List.lookup, zb]
              rw [e1] at h3
              obtain ⟨w, hw, rw'⟩ := ih h5 r2 h3
              exact ⟨w, by simp [List.lookup, zb]; exact hw, rw'⟩
    obtain ⟨w, hw, rw'⟩ := key hk hr hv
    exact ⟨_, aw, rfl, rfl, d, fv, w, rfl, hd, hw, q w (.dat v) m G H e.refl rw' h⟩
end
/-! ### list or tuple -/
section
variable {X : Cx} {tg l : Expr} {tl : TE}
def iSeq (K : PySem.W.Frag) (tl : TE) : TI := fun σ H R => tl σ H fun x H1 => ∃ a, x = .ref a ∧ ((∃ xs, SqL K H1 a xs ∧ R (Itl K a) H1) ∨ ∃ xs, SqT K H1 a xs ∧ R (Itt K a) H1)
theorem pi_seq (hl : PE X l tl) : PI X tg l (iSeq X.K tl) := ⟨fun pins s σ H R I h => by
  have key := hl.run pins s σ H _ I h
  refine thn key fun v s1 ⟨x, H1, I1, r1, a, ex, hh⟩ => ?_
  subst ex
  obtain rfl : v = Value.ref a := r1
  rcases hh with ⟨xs, hx, hR⟩ | ⟨xs, hx, hR⟩
  · obtain ⟨its, rv, pl, _⟩ := I1.list hx
    exact wpAny_pyIter_list pl.isList (pi_one I1 _ (turn_list a s1.heap.objs.size) ⟨_, Heap.get?_push_size _ rfl, rfl, rfl⟩ hR)
  · obtain ⟨its, rv, pl, _⟩ := I1.tuple hx
    exact wpAny_pyIter_tuple (show s1.heap.IsTuple a its.toArray from pl) (pi_one I1 _ (turn_tuple a s1.heap.objs.size) ⟨_, Heap.get?_push_size _ rfl, rfl, rfl⟩ hR)⟩
end
section
variable {c : Cc ι} {ρ : List S} {te : TE} {Φ : ι → List D → Prop}
def S.seq? : S → Option (List D)
  | .dat (.lst ds) => some ds
  | .dat (.tup ds) => some ds
  | .dat (.scr ns) => some (ns.map .int)
  | _ => none
theorem di_seq (h : De c m te ρ fun m s => ∃ ds, s.frz.seq? = some ds ∧ Φ m ds) : DI c m (iSeq c.K te) ρ Φ := fun σ G H e R q => h σ G H e _ fun v s m1 G1 H1 g1 r1 ⟨ds, hs, p⟩ => by
  obtain ⟨G2, g2, r2⟩ := r1.freeze g1
  cases hz : s.frz with
  | dat d =>
    rw [hz] at hs r2
    cases d <;> first | cases hs | skip
    · obtain ⟨a, xs, rfl, hx, rx⟩ := r2.dlst (ds := ds) rfl
      exact ⟨a, rfl, .inl ⟨xs, ex_l g2.sub hx, q _ ds m1 G2 H1 g2 (itd_list' hx rx) p⟩⟩
    · have r2 : Rp c.K G2 v (.tup ds) := r2
      cases r2 with
      | tup hx rx => exact ⟨_, rfl, .inr ⟨_, SqT.of (g2.sub _ _ hx), q _ ds m1 G2 H1 g2 (itd_tup (SqT.of hx) rx) p⟩⟩
    · obtain ⟨a, xs, rfl, hx, rx⟩ := r2.dlst (ds := _) rfl
      exact ⟨a, rfl, .inl ⟨xs, ex_l g2.sub hx, q _ _ m1 G2 H1 g2 (itd_list' hx rx) p⟩⟩
  | no => rw [hz] at hs; cases hs
  | own o => rw [hz] at hs; cases hs
  | vw o => rw [hz] at hs; cases hs
  | at_ a => rw [hz] at hs; cases hs
  | xc _ _ _ _ => rw [hz] at hs; cases hs
  | el _ _ => rw [hz] at hs; cases hs
  | lk _ => rw [hz] at hs; cases hs
end
end DL
set_option Elab.async false
set_option linter.all false
set_option maxRecDepth 100000
set_option maxHeartbeats 1000000
namespace DL
open PySem PySem.Spec PyProof.Rows L2 Evl
variable {ι : Type} {m m' m1 m2 : ι}
/-! ### zip of two lists or tuples, in any mixture -/
inductive SK | l | t
def SqK (K : PySem.W.Frag) (H : Hp) : SK → Addr → List V → Prop
  | .l => SqL K H
  | .t => SqT K H
def IterK (h : Heap) : SK → Addr → Addr → Nat → Prop
  | .l => h.IsListIter
  | .t => h.IsTupleIter
def SeqK (h : Heap) : SK → Addr → Array Value → Prop
  | .l => h.IsList
  | .t => h.IsTuple
def objK : SK → Addr → Obj
  | .l, a => { cls := .type "list_iterator", data := .fields #[.ref a, .int 0 0] }
  | .t, a => { cls := .type "tuple_iterator", data := .fields #[.ref a, .int 0 0] }
theorem drawsK {prog : Program} {w : World} {A : Around} (k : SK) (hh : A.handled = none) (it l : Addr) (hne : l ≠ it) (items : Array Value) :
    Draws prog w A it [it, l] items.size (fun i v => items[i]? = some v) (fun i h => IterK h k it l i ∧ SeqK h k l items) := by
  cases k with
  | l => exact Draws.list hh it l hne items
  | t => exact Draws.tuple hh it l hne items
theorem beginsK (k : SK) (l : Addr) (items : Array Value) : Begins (.ref l) (objK k l) fun h => SeqK h k l items := by
  cases k with
  | l => exact begins_list l items
  | t => exact begins_tuple l items
theorem seqK_at {k : SK} {X : Cx} {pins : List (Addr × Obj)} {σ : L2.St} {H : Hp} {s : Shared} {a : Addr} {xs : List V} (I : Inv X pins σ H s) (h : SqK X.K H k a xs) : ∃ its : List Value, Vals xs its ∧ SeqK s.heap k a its.toArray := by
  cases k with
  | l => obtain ⟨its, r, p, _⟩ := I.list h; exact ⟨its, r, p.isList⟩
  | t => obtain ⟨its, r, p, _⟩ := I.tuple h; exact ⟨its, r, p⟩
theorem seqK_inj {k : SK} {X : Cx} {pins : List (Addr × Obj)} {σ : L2.St} {H : Hp} {s : Shared} {a : Addr} {xs ys : List V} (I : Inv X pins σ H s) (h : SqK X.K H k a xs) (h' : SqK X.K H k a ys) : xs = ys := by
  cases k with
  | l => exact I.list_inj h h'
  | t => exact I.tuple_inj h h'
theorem iterK_obj {h : Heap} {k : SK} {it l : Addr} {i : Nat} (q : IterK h k it l i) : ∃ o, h.get? it = some o ∧ ∀ v, o.data ≠ .cell v := by
  cases k with
  | l => obtain ⟨o, e, _, d⟩ := q; exact ⟨o, e, fun v z => by rw [d] at z; cases z⟩
  | t => obtain ⟨o, e, _, d⟩ := q; exact ⟨o, e, fun v z => by rw [d] at z; cases z⟩
theorem iterK_keep {h h' : Heap} {k : SK} {it l : Addr} {i : Nat} (q : IterK h k it l i) (kp : ∀ o, h.get? it = some o → h'.get? it = some o) : IterK h' k it l i := by
  cases k with
  | l => exact q.at kp
  | t => exact q.at kp
def ItS (K : PySem.W.Frag) (k1 k2 : SK) (a b : Addr) : L2.It :=
  ⟨fun i H => ∃ (xs ys : List V) (x y : V), SqK K H k1 a xs ∧ SqK K H k2 b ys ∧ xs[i]? = some x ∧ ys[i]? = some y,
   fun i H v H' => ∃ T x y, v = .ref T ∧ H T = none ∧ H' = upd H T (.tup [x, y]) ∧ (∀ xs, SqK K H k1 a xs → xs[i]? = some x) ∧ ∀ ys, SqK K H k2 b ys → ys[i]? = some y,
   fun i H => ∃ xs ys : List V, SqK K H k1 a xs ∧ SqK K H k2 b ys ∧ i = min xs.length ys.length⟩
abbrev ZipSt (z TI TO i1 i2 a b : Addr) (k1 k2 : SK) (i : Nat) (h : Heap) : Prop := IsZip h z TI TO .none ∧ IsTupOf2 h TI (.ref i1) (.ref i2) ∧ (∃ a1 a2, IsTupOf2 h TO a1 a2) ∧ IterK h k1 i1 a i ∧ IterK h k2 i2 b i
theorem turn_zipS {P : Program} {w : World} {K : PySem.W.Frag} {elts : List Expr} {kk : Nat} {tpos : Pos} {k1 k2 : SK} {a b z TI TO i1 i2 : Addr} (S : ZipSep2 z TI TO i1 i2 [i1, a] [i2, b]) (ha : a ≠ i1) (hb : b ≠ i2) :
    Turn P w K (.Tuple elts kk tpos) (ItS K k1 k2 a b) [z, TI, TO, i1, i2] z (ZipSt z TI TO i1 i2 a b k1 k2) where
  mem := by simp
  obj := fun i h st c hc => by
    obtain ⟨hz, hTI, ⟨x, y, hTO⟩, h1, h2⟩ := st
    simp only [List.mem_cons, List.not_mem_nil, or_false] at hc
    rcases hc with rfl | rfl | rfl | rfl | rfl
    · exact ⟨_, hz, fun v q => nomatch q⟩
    · exact ⟨_, hTI, fun v q => nomatch q⟩
    · exact ⟨_, hTO, fun v q => nomatch q⟩
    · exact iterK_obj h1
    · exact iterK_obj h2
  keep := fun i h h' st k => by
    obtain ⟨hz, hTI, ⟨x, y, hTO⟩, h1, h2⟩ := st
    exact ⟨k z (by simp) _ hz, k TI (by simp) _ hTI, ⟨x, y, k TO (by simp) _ hTO⟩, iterK_keep h1 fun o q => k i1 (by simp) o q, iterK_keep h2 fun o q => k i2 (by simp) o q⟩
  item := by
    intro X hP hw hK hc i pins s σ H E I hf st hg
    subst hP hw hK
    obtain ⟨xs, ys, x, y, hqx, hqy, hx, hy⟩ := hg
    obtain ⟨its, rv, p1⟩ := seqK_at I hqx
    obtain ⟨its2, rv2, p2⟩ := seqK_at I hqy
    obtain ⟨u, hu, ru⟩ := rv.get hx
    obtain ⟨u2, hu2, ru2⟩ := rv2.get hy
    have hh : X.A.in1.handled = none := I.ok.hd hc
    have W := GoesN.zip2 (prog := X.prog) (w := X.w) (A := X.A) (elts := elts) (x1 := kk) (pos := tpos) S (drawsK k1 hh i1 a ha its.toArray) (drawsK k2 hh i2 b hb its2.toArray)
    obtain ⟨hz, hTI, hTO, h1, h2⟩ := st
    have hi : i < min its.toArray.size its2.toArray.size := by
      have q1 := (List.getElem?_eq_some_iff.mp hu).1
      have q2 := (List.getElem?_eq_some_iff.mp hu2).1
      simp only [List.size_toArray]
      omega
    refine W.goes i s (fun v s2 => ∃ x H', Inv X pins σ H' s2 ∧ RelV x v ∧ (ItS X.K k1 k2 a b).yld i H x H' ∧ ZipSt z TI TO i1 i2 a b k1 k2 (i + 1) s2.heap ∧ ∀ c ∈ [z, TI, TO, i1, i2], H' c = none) E hi ⟨hz, hTI, hTO, ⟨h1, p1⟩, ⟨h2, p2⟩⟩ fun v h' tk hY st' hk htk => ?_
    obtain ⟨T, x', y', rfl, hT, hx', hy', tup⟩ := hY
    have ex : x' = u := by
      have hx' : its.toArray[i]? = some x' := hx'
      rw [show its.toArray[i]? = its[i]? by simp, hu] at hx'
      exact (Option.some.inj hx').symm
    have ey : y' = u2 := by
      have hy' : its2.toArray[i]? = some y' := hy'
      rw [show its2.toArray[i]? = its2[i]? by simp, hu2] at hy'
      exact (Option.some.inj hy').symm
    subst ex ey
    obtain ⟨hz', hTI', hTO', ⟨h1', _⟩, ⟨h2', _⟩⟩ := st'
    have new : ObjOk X.prog X.w (upd H T (.tup [x, y])) h' T (.tup [x, y]) := by
      obtain ⟨o, ho, hcl, n, hd⟩ := tup
      exact ⟨by show 2 ≤ sizeLine; decide, [x', y'], .cons ru (.cons ru2 .nil), ⟨o, ho, hcl, n, hd⟩⟩
    have I1 : Inv X pins σ (upd H T (.tup [x, y])) { s with heap := h', toks := tk } := I.turnedNew (t' := tk) (ch := [z, TI, TO, i1, i2]) (fun c o hb' q => hk c o (fun z' => hb' (by simp at z' ⊢; rcases z' with z' | z' | z' | z' <;> simp [z'])) q) hf hT new
    refine ⟨.ref T, _, I1, rfl, ⟨T, x, y, rfl, I.hok.fresh hT, rfl, fun l hl => by rw [seqK_inj I hl hqx]; exact hx, fun l hl => by rw [seqK_inj I hl hqy]; exact hy⟩, ⟨hz', hTI', hTO', h1', h2'⟩, fun c hcm => ?_⟩
    have hlt : c < s.heap.objs.size := by
      simp only [List.mem_cons, List.not_mem_nil, or_false] at hcm
      rcases hcm with rfl | rfl | rfl | rfl | rfl
      · exact Heap.lt_size hz
      · exact Heap.lt_size hTI
      · obtain ⟨_, _, q⟩ := hTO; exact Heap.lt_size q
      · obtain ⟨_, q, _⟩ := iterK_obj h1; exact Heap.lt_size q
      · obtain ⟨_, q, _⟩ := iterK_obj h2; exact Heap.lt_size q
    rw [upd_ne (Nat.ne_of_lt (Nat.lt_of_lt_of_le hlt hT))]
    exact (hf c hcm).1
  done := by
    intro X hP hw hK hc i pins s σ H E I hf st hg
    subst hP hw hK
    obtain ⟨xs, ys, hqx, hqy, hend⟩ := hg
    obtain ⟨its, rv, p1⟩ := seqK_at I hqx
    obtain ⟨its2, rv2, p2⟩ := seqK_at I hqy
    have hh : X.A.in1.handled = none := I.ok.hd hc
    have W := GoesN.zip2 (prog := X.prog) (w := X.w) (A := X.A) (elts := elts) (x1 := kk) (pos := tpos) S (drawsK k1 hh i1 a ha its.toArray) (drawsK k2 hh i2 b hb its2.toArray)
    obtain ⟨hz, hTI, hTO, h1, h2⟩ := st
    have hi : i = min its.toArray.size its2.toArray.size := by
      rw [List.size_toArray, List.size_toArray, ← rv.length, ← rv2.length]
      exact hend
    rw [hi] at h1 h2
    exact W.stops s (fun s1 => Inv X pins σ H s1) E ⟨hz, hTI, hTO, ⟨h1, p1⟩, ⟨h2, p2⟩⟩ fun h' tk hk htk => I.turnedL (t' := tk) (ch := [z, TI, TO, i1, i2]) (fun c o hb' q => hk c o (fun z' => hb' (by simp at z' ⊢; rcases z' with z' | z' | z' | z' <;> simp [z'])) q) hf
  self := fun A i s Q E st h => wpAny_pyIter_zip st.1 h
def iZipS (K : PySem.W.Frag) (ta : TA) : TI := fun σ H R => ta σ H fun vs H1 => ∃ a b k1 k2 xs ys, vs = [V.ref a, V.ref b] ∧ SqK K H1 k1 a xs ∧ SqK K H1 k2 b ys ∧ R (ItS K k1 k2 a b) H1
theorem iterK_new {h : Heap} {k : SK} {it a : Addr} (q : h.get? it = some (objK k a)) : IterK h k it a 0 := by
  cases k with
  | l => exact ⟨_, q, rfl, rfl⟩
  | t => exact ⟨_, q, rfl, rfl⟩
theorem seqK_lt {h : Heap} {k : SK} {a : Addr} {its : Array Value} (q : SeqK h k a its) : a < h.objs.size := by
  cases k with
  | l => obtain ⟨o, e, _⟩ := q; exact Heap.lt_size e
  | t => obtain ⟨o, e, _⟩ := q; exact Heap.lt_size e
theorem pi_zipS {X : Cx} {e e2 : Expr} {ta : TA} {p pos tpos : Pos} {elts : List Expr} {kk : Nat} (hg : Gl X "zip") (hm : X.mg "zip" = none) (ha : PA X [e, e2] ta)
    (hs : starEach [e, e2] X.env = (false, eval e X.env) :: starEach [e2] X.env := by rfl) (hpl : (backTo pos (starEach [e2] X.env)).any (·.1) = false := by rfl) :
    PI X (.Tuple elts kk tpos) (.Call (.Name "zip" p) [e, e2] [] pos) (iZipS X.K ta) := by
  refine ⟨fun pins s σ H R I h => ?_⟩
  refine Call_ (ld_blt I hg hm PyProof.Rows.boot_zip (PyProof.Rows.callWith_type1 (thn (ha.run pos pins s σ H _ I h) fun us s1 ⟨vs, H1, I1, r1, q1⟩ => ?_) hs hpl))
  obtain ⟨a, b, k1, k2, xs, ys, ex, hqx, hqy, q⟩ := q1
  subst ex
  obtain ⟨u1, u2, rfl, q1, q2⟩ := vals2 r1
  obtain rfl : u1 = Value.ref a := q1
  obtain rfl : u2 = Value.ref b := q2
  obtain ⟨its, rv, p1⟩ := seqK_at I1 hqx
  obtain ⟨its2, rv2, p2⟩ := seqK_at I1 hqy
  have la := seqK_lt p1
  have lb := seqK_lt p2
  refine zip_begins2 (beginsK k1 a its.toArray) (beginsK k2 b its2.toArray) p1 p2 fun h' hz hTI hTO h1 h2 hsz hk => wpAny_pyIter_zip hz ?_
  have I2 : Inv X pins σ H1 { s1 with heap := h' } := I1.kept (t' := s1.toks) hk
  have S := zip_sep2 (N := s1.heap.objs.size) (fp1 := [a]) (fp2 := [b]) (fun c hc => by simp at hc; subst hc; exact la) (fun c hc => by simp at hc; subst hc; exact lb)
  refine ⟨s1.heap.objs.size + 4, [s1.heap.objs.size + 4, s1.heap.objs.size + 2, s1.heap.objs.size + 3, s1.heap.objs.size, s1.heap.objs.size + 1], _, _, H1, rfl, I2, turn_zipS S (Nat.ne_of_lt la) (Nat.ne_of_lt (Nat.lt_succ_of_lt lb)), ⟨hz, hTI, ⟨_, _, hTO⟩, iterK_new h1, iterK_new h2⟩, fun c hcm => ?_, q⟩
  have hle : s1.heap.objs.size ≤ c := by
    simp only [List.mem_cons, List.not_mem_nil, or_false] at hcm
    rcases hcm with rfl | rfl | rfl | rfl | rfl
    all_goals first | exact Nat.le_add_right _ _ | exact Nat.le_refl _
  exact I1.fpOk hle (I1.hok.fresh hle)
/-! over data -/
def zipD (ds es : List D) : List D := (ds.zip es).map fun p => .tup [p.1, p.2]
section
variable {c : Cc ι} {ρ : List S} {tr : TA} {Φ : ι → List D → Prop}
theorem RelS.seqG {K : PySem.W.Frag} {W : Wd ι} {H0 G H : Hp} {v : V} {s : S} {ds : List D} (r : RelS K W H0 G H v s) (h : s.seq? = some ds) : ∃ p k xs, v = .ref p ∧ SqK K G k p xs ∧ RpL K G xs ds := by
  cases s with
  | dat d =>
    cases d <;> first | cases h | skip
    · have r : Rp K G v _ := r
      cases r with
      | lst a b => exact ⟨_, .l, _, rfl, SqL.of a, b⟩
    · have r : Rp K G v _ := r
      cases r with
      | tup a b => exact ⟨_, .t, _, rfl, SqT.of a, b⟩
    · have r : Rp K G v _ := r
      cases r with
      | scr a => exact ⟨_, .l, _, rfl, a, RpL.ofInts _⟩
  | no => cases h
  | own o => cases h
  | vw o => cases h
  | at_ a => cases h
  | xc _ _ _ _ => cases h
  | el _ _ => cases h
  | lk _ => cases h
theorem sqK_mono {K : PySem.W.Frag} {G G' : Hp} {k : SK} {a : Addr} {xs : List V} (e : Ex G G') (h : SqK K G k a xs) : SqK K G' k a xs := by
  cases k with
  | l => exact ex_l e h
  | t => exact ex_t e h
theorem zipD_get {ds es : List D} {i : Nat} {d : D} (h : (zipD ds es)[i]? = some d) : ∃ a b, ds[i]? = some a ∧ es[i]? = some b ∧ d = .tup [a, b] := by
  unfold zipD at h
  rw [List.getElem?_map] at h
  cases z : (ds.zip es)[i]? with
  | none => rw [z] at h; cases h
  | some p =>
    rw [z] at h
    cases h
    have := List.getElem?_zip_eq_some.mp z
    exact ⟨p.1, p.2, this.1, this.2, rfl⟩
theorem itd_zip {K : PySem.W.Frag} {W : Wd ι} {G1 : Hp} {k1 k2 : SK} {a b : Addr} {xs ys : List V} {ds es : List D} (h1 : SqK K G1 k1 a xs) (r1 : RpL K G1 xs ds) (h2 : SqK K G1 k2 b ys) (r2 : RpL K G1 ys es) : ItD K W G1 (ItS K k1 k2 a b) (zipD ds es) := fun m G H e ok i => by
  have hx : SqK K H k1 a xs := sqK_mono (e.trans ok.ex) h1
  have hy : SqK K H k2 b ys := sqK_mono (e.trans ok.ex) h2
  refine ⟨fun d hd => ?_, fun hl => ⟨xs, ys, hx, hy, by rw [hl, r1.length, r2.length]; simp [zipD, List.length_zip]⟩⟩
  obtain ⟨d1, d2, e1, e2, rfl⟩ := zipD_get hd
  obtain ⟨v, hv, rv⟩ := r1.getD e1
  obtain ⟨u, hu, ru⟩ := r2.getD e2
  refine ⟨⟨xs, ys, v, u, hx, hy, hv, hu⟩, fun x H' y => ?_⟩
  obtain ⟨T, x', y', rfl, hT, rfl, q1, q2⟩ := y
  have e3 := q1 xs hx
  rw [hv] at e3
  cases e3
  have e4 := q2 ys hy
  rw [hu] at e4
  cases e4
  have x1 : Ex G (upd G T (.tup [v, u])) := Ex.new (fresh_back ok.ex hT)
  exact ⟨upd G T (.tup [v, u]), Grow.newD ok hT (fun _ _ z => by cases z), Rp.tup upd_same (.cons (rv.mono (e.trans x1)) (.cons (ru.mono (e.trans x1)) .nil))⟩
theorem di_zip (h : DA c m tr ρ fun m ss => ∃ s1 s2 ds es, ss = [s1, s2] ∧ s1.seq? = some ds ∧ s2.seq? = some es ∧ Φ m (zipD ds es)) : DI c m (iZipS c.K tr) ρ Φ := fun σ G H e R q => h σ G H e _ fun vs ss m1 G1 H1 g1 r1 ⟨s1, s2, ds, es, hs, h1, h2, p⟩ => by
  subst hs
  obtain ⟨v1, v2, rfl, q1, q2⟩ := relss2 r1
  obtain ⟨a, k1, xs, rfl, x1, y1⟩ := q1.seqG h1
  obtain ⟨b, k2, ys, rfl, x2, y2⟩ := q2.seqG h2
  exact ⟨a, b, k1, k2, xs, ys, rfl, sqK_mono g1.sub x1, sqK_mono g1.sub x2, q _ _ m1 G1 H1 g1 (itd_zip x1 y1 x2 y2) p⟩
end
end DL
set_option Elab.async false
set_option linter.all false
set_option maxRecDepth 100000
set_option maxHeartbeats 1000000
namespace DL
open PySem PySem.Spec PyProof.Rows L2 Evl
variable {ι : Type} {m m' m1 m2 : ι}
/-! ### slices, sums of tuples, repeats, membership -/
def cutD (ds : List D) (lo hi : Option Int) : List D := (ds.drop (HT.sIx ds.length 0 lo)).take (HT.sIx ds.length ds.length hi - HT.sIx ds.length 0 lo)
theorem RpL.cut {K : PySem.W.Frag} {G : Hp} {xs : List V} {ds : List D} (r : RpL K G xs ds) (lo hi : Option Int) : RpL K G (cutV xs lo hi) (cutD ds lo hi) := by
  unfold cutV cutD
  rw [r.length]
  exact (r.drop _).take _
def DO (c : Cc ι) (m : ι) (t : TO) (ρ : List S) (Φ : ι → Option Int → Prop) : Prop := ∀ σ G H, EnvOk c m G H σ ρ → ∀ Q : Option Int → Hp → Prop, (∀ o m' G' H', Grow c.W G H m' G' H' → Φ m' o → Q o H') → t σ H Q
section
variable {c : Cc ι} {ρ : List S} {Φ : ι → S → Prop} {te : TE} {tl th : TO} {Ψ : ι → Option Int → Prop}
theorem do_none (h : Ψ m none) : DO c m tNoPart ρ Ψ := fun σ G H e Q q => q none m G H e.refl h
theorem do_some (h : De c m te ρ fun m s => ∃ i, s = .dat (.int i) ∧ Ψ m (some i)) : DO c m (tPart te) ρ Ψ := fun σ G H e Q q => h σ G H e _ fun v s m1 G1 H1 g1 r1 ⟨i, es, p⟩ => by
  subst es
  cases r1
  exact ⟨i, rfl, q _ m1 G1 H1 g1 p⟩
theorem de_slL (h : De c m te ρ fun m s => ∃ ds, s.lst? = some ds ∧ DO c m tl ρ fun m lo => DO c m th ρ fun m hi => Φ m (.own (.lst (cutD ds lo hi)))) : De c m (tSl (rSlL c.K) te tl th) ρ Φ := fun σ G H e Q q =>
  h σ G H e _ fun v s m1 G1 H1 g1 r1 ⟨ds, hs, h1⟩ => h1 σ G1 H1 (e.grow g1) _ fun lo m2 G2 H2 g2 h2 => h2 σ G2 H2 ((e.grow g1).grow g2) _ fun hi m3 G3 H3 g3 h3 => by
    have e3 := ((e.grow g1).grow g2).grow g3
    obtain ⟨p, xs, rfl, a, b⟩ := ((r1.grow g2).grow g3).lstV e3.ok hs
    exact ⟨p, xs, rfl, a, fun l hl => new_lst (H0 := H) e3.ok (b.cut lo hi) h3 (fun v s m' G' H' g r p => q v s m' G' H' (((g1.trans g2).trans g3).trans g) (((r.back g3).back g2).back g1) p) l hl⟩
theorem de_slT (h : De c m te ρ fun m s => ∃ ds, s = .dat (.tup ds) ∧ DO c m tl ρ fun m lo => DO c m th ρ fun m hi => Φ m (.dat (.tup (cutD ds lo hi)))) : De c m (tSl (rSlA c.K) te tl th) ρ Φ := fun σ G H e Q q =>
  h σ G H e _ fun v s m1 G1 H1 g1 r1 ⟨ds, hs, h1⟩ => h1 σ G1 H1 (e.grow g1) _ fun lo m2 G2 H2 g2 h2 => h2 σ G2 H2 ((e.grow g1).grow g2) _ fun hi m3 G3 H3 g3 h3 => by
    subst hs
    have e3 := ((e.grow g1).grow g2).grow g3
    have r3 := (r1.grow g2).grow g3
    obtain ⟨p, xs, rfl, a, b⟩ := r3.tupV e3.ok rfl
    refine ⟨p, xs, rfl, a, fun hw => ?_, fun _ l hl => new_tup (H0 := H) e3.ok (b.cut lo hi) h3 (fun v s m' G' H' g r p => q v s m' G' H' (((g1.trans g2).trans g3).trans g) (((r.back g3).back g2).back g1) p) l hl⟩
    rw [b.length] at hw
    have ec : cutD ds lo hi = ds := by unfold cutD; rw [hw.1, hw.2]; simp
    have h3 : Φ m3 (.dat (.tup (cutD ds lo hi))) := h3
    rw [ec] at h3
    exact q _ (.dat (.tup ds)) m3 G3 H3 ((g1.trans g2).trans g3) r3 h3
end
section
variable {K : PySem.W.Frag} {W : Wd ι} {Φ : ι → S → Prop}
theorem ops_catA {ds es : List D} (hl : ds.length + es.length ≤ 1000000) (h : Φ m (.dat (.tup (ds ++ es)))) : OpS K W m (rCatA K) (.dat (.tup ds)) (.dat (.tup es)) Φ := fun H0 G H v1 v2 ok r1 r2 Q q => by
  obtain ⟨p, xs, rfl, a1, b1⟩ := r1.tupV ok rfl
  obtain ⟨p2, ys, rfl, a2, b2⟩ := r2.tupV ok rfl
  refine ⟨p, p2, xs, ys, rfl, rfl, a1, a2, by rw [b1.length, b2.length]; exact sz hl, fun z => ?_, fun _ z => ?_, fun _ _ => new_tup (H0 := H0) ok (b1.append b2) h q⟩
  · subst z
    cases b1
    exact q _ (.dat (.tup es)) m G H ok.refl r2 h
  · subst z
    cases b2
    rw [List.append_nil] at h
    exact q _ (.dat (.tup ds)) m G H ok.refl r1 h
theorem RpL.rep {G : Hp} {xs : List V} {ds : List D} (r : RpL K G xs ds) : ∀ n : Nat, RpL K G (List.replicate n xs).flatten (List.replicate n ds).flatten
  | 0 => .nil
  | n + 1 => by
    rw [List.replicate_succ, List.replicate_succ, List.flatten_cons, List.flatten_cons]
    exact r.append (RpL.rep r n)
theorem ops_rep {s1 : S} {ds : List D} {k : Int} (h1 : s1.raw? = some ds) (hk : -(2 ^ 63) ≤ k ∧ k < 2 ^ 63) (hl : ds.length * k.toNat ≤ 1000000) (h : Φ m (.own (.lst (List.replicate k.toNat ds).flatten))) : OpS K W m rRep s1 (.dat (.int k)) Φ := fun H0 G H v1 v2 ok r1 r2 Q q => by
  obtain ⟨p, xs, rfl, a1, b1⟩ := r1.rawV ok h1
  cases r2
  exact ⟨p, k, xs, rfl, rfl, a1, hk.1, hk.2, by rw [b1.length]; exact sz hl, new_lst (H0 := H0) ok (b1.rep _) h q⟩
theorem ops_inD {s1 s2 : S} {d1 d2 : D} {x1 : PyData} {xs : List PyData} (h1 : s1.view = some d1) (h2 : s2.view = some d2) (e1 : d1.py = some x1) (e2 : d2.py = some (.list xs)) (c1 : SeqAt.shaped x1 = true) (c2 : SeqAt.shaped (.list xs) = true) (h : Φ m (.dat (.bl (xs.any fun z => PyData.eqv z x1)))) :
    OpS K W m (rInD K) s1 s2 Φ := fun H0 G H v1 v2 ok r1 r2 Q q => ⟨x1, xs, r1.dp ok h1 e1, r2.dp ok h2 e2, c1, c2, q _ (.dat (.bl _)) m G H ok.refl (Rp.bl _) h⟩
theorem cb_minKD {ds : List (Key × D)} {ks : List Int} (hL : ∀ a, ¬ W.L a) (hk : ds.map (·.1) = ks.map Sum.inl) (h0 : ks ≠ []) (h : ∀ k, k ∈ ks → (∀ j ∈ ks, k ≤ j) → Φ m (.dat (.int k))) : CbS K W m rMinK [.dat (.dic ds)] Φ := fun H0 G H vs ok rr Q q => by
  obtain ⟨v, rfl, r⟩ := relss1 rr
  have r : Rp K G v (.dic ds) := r
  cases r with
  | dic hd hkv rv =>
    rcases hd with hd | ⟨o, hd⟩
    · exact ⟨_, _, ks, rfl, ok.ex _ _ hd, hkv.trans hk, h0, fun k k1 k2 => q _ (.dat (.int k)) m G H ok.refl (Rp.int k) (h k k1 k2)⟩
    · exact absurd (ok.lk _ o _ hd fun xs z => by cases z) (hL _)
end
/-! ### two loops in a comprehension -/
section
variable {c : Cc ι} {ρ : List S} {Φ : ι → S → Prop} {te : TE} {tt tt1 : TT} {wi wi1 : TI} {g g1 : TG} {vs vs1 : List Nat}
theorem de_lc2 (hwN : noEls vs ρ = true) (h : DI c m wi ρ fun m ds => ∃ J : Nat → ι → List D → Prop, J 0 m [] ∧
    (∀ i d m acc, ds[i]? = some d → J i m acc → ∃ ρ', DG c m g vs d (wipeS ρ vs) ρ' ∧ DT c m tt ρ' fun m b =>
      (b = true → noEls vs1 ρ' = true ∧ DI c m wi1 ρ' fun m es => ∃ J1 : Nat → ι → List D → Prop, J1 0 m acc ∧
        (∀ j e m acc, es[j]? = some e → J1 j m acc → acc.length < 1000000 ∧ ∃ ρ2, DG c m g1 vs1 e (wipeS ρ' vs1) ρ2 ∧ DT c m tt1 ρ2 fun m b =>
          (b = true → De c m te ρ2 fun m s => ∃ d', s.frz = .dat d' ∧ J1 (j + 1) m (acc ++ [d'])) ∧ (b = false → J1 (j + 1) m acc)) ∧
        ∀ m acc, J1 es.length m acc → J (i + 1) m acc) ∧ (b = false → J (i + 1) m acc)) ∧
    ∀ m acc, J ds.length m acc → Φ m (.own (.lst acc))) : De c m (tLc2 wi g tt wi1 g1 tt1 te vs vs1) ρ Φ := fun σ G H e Q q => h σ G H e _ fun I ds m1 G1 H1 gr1 it ⟨J, j0, jt, jd⟩ => fun Dd hD => by
  have e1 := e.grow gr1
  let W : Nat → Nat → Hp → Prop := fun i m H2 => m = ds.length - i ∧ i ≤ ds.length ∧ ∃ m2 G2 xs acc, Grow c.W G1 H1 m2 G2 H2 ∧ H2 Dd = some (.lst xs) ∧ G2 Dd = none ∧ RpL c.K G2 xs acc ∧ J i m2 acc
  have mD : ¬ c.W.M Dd := fun m => c.W.ne e1.ok.inv m hD
  have up : ∀ {m2 : ι} {G2 H2 : Hp} {ys : List V}, Grow c.W G1 H1 m2 G2 H2 → G2 Dd = none → Grow c.W G1 H1 m2 G2 (upd H2 Dd (.lst ys)) := fun {m2 G2 H2 ys} g2 n =>
    ⟨g2.ex, g2.sub.mut n, g2.fresh, fun a o m q => by rw [upd_ne (ne_of_none q hD)]; exact g2.keep a o m q, c.W.dep _ _ _ _ _ (Ex.refl _) (fun a m => upd_ne fun z => mD (by rw [← z]; exact m)) g2.inv, g2.lk⟩
  have keepD : ∀ {m4 : ι} {G3 H3 G4 H4 : Hp} {xs : List V}, H3 Dd = some (.lst xs) → G3 Dd = none → Grow c.W G3 H3 m4 G4 H4 → H4 Dd = some (.lst xs) ∧ G4 Dd = none := fun hx hn g4 => ⟨g4.keep _ _ mD hx, g4.fresh _ _ hx rfl hn⟩
  refine ⟨W, ⟨ds.length, by simp, Nat.zero_le _, m1, G1, [], [], up e1.refl (fresh_back e1.ok.ex hD), upd_same, fresh_back e1.ok.ex hD, .nil, j0⟩, ?_⟩
  rintro i m H2 ⟨em, hi, m2, G2, xs, acc, g2, hx, hn, rx, j⟩
  have e2 := e1.grow g2
  obtain ⟨ih1, ih2⟩ := it m2 G2 H2 g2.ex e2.ok i
  by_cases hlt : i < ds.length
  · right
    have hd : ds[i]? = some ds[i] := by simp [hlt]
    obtain ⟨go, yl⟩ := ih1 _ hd
    refine ⟨go, W (i + 1) (m - 1), fun H' w => ⟨m - 1, by omega, w⟩, fun x H' y => ?_⟩
    obtain ⟨G3, g3, r3⟩ := yl x H' y
    obtain ⟨ρ', dg, ht⟩ := jt i _ m2 acc hd j
    have e3 := (e2.grow g3).wipe vs hwN
    refine dg x _ G3 H' e3 r3 _ fun σ' f4 hw => ⟨hw.trans (wipe_wipe σ vs), ?_⟩
    have e4 := f4 _ _ _ (Ex.refl _) e3
    refine ht σ' G3 H' e4 _ fun b m4 G4 H4 g4 ⟨hb1, hb2⟩ => ?_
    have g24 := g3.trans g4
    cases b with
    | false =>
      rw [if_neg Bool.false_ne_true]
      obtain ⟨k1, k2⟩ := keepD hx hn g24
      exact ⟨by omega, hlt, m4, G4, xs, acc, g2.trans g24, k1, k2, rx.mono g24.ex, hb2 rfl⟩
    | true =>
      rw [if_pos rfl]
      obtain ⟨hw1, hb1⟩ := hb1 rfl
      refine hb1 σ' G4 H4 (e4.grow g4) _ fun I1 es m5 G5 H5 g5 it1 ⟨J1, k0, kt, kd⟩ => ?_
      have g25 := g24.trans g5
      obtain ⟨kx, kn⟩ := keepD hx hn g25
      -- the environment of the inner loop, wherever one is
      have env : ∀ {m6 : ι} {G6 H6 : Hp}, Grow c.W G1 H1 m6 G6 H6 → Ex G5 G6 → EnvOk c m6 G6 H6 σ' ρ' := fun {m6 G6 H6} g6 x6 => f4 _ _ _ ((g4.ex.trans g5.ex).trans x6) ((e1.grow g6).wipe vs hwN)
      refine ⟨fun jj k H6 => k = es.length - jj ∧ jj ≤ es.length ∧ ∃ m6 G6 ys acc6, Grow c.W G1 H1 m6 G6 H6 ∧ Ex G5 G6 ∧ H6 Dd = some (.lst ys) ∧ G6 Dd = none ∧ RpL c.K G6 ys acc6 ∧ J1 jj m6 acc6, ⟨es.length, by simp, Nat.zero_le _, m5, G5, xs, acc, g2.trans g25, Ex.refl _, kx, kn, rx.mono g25.ex, k0⟩, ?_⟩
      rintro jj k H6 ⟨ek, hj, m6, G6, ys, acc6, g6, x6, hy, hn6, ry, j6⟩
      have e6 := env g6 x6
      obtain ⟨jh1, jh2⟩ := it1 m6 G6 H6 x6 e6.ok jj
      by_cases hlt2 : jj < es.length
      · right
        have hd2 : es[jj]? = some es[jj] := by simp [hlt2]
        obtain ⟨go2, yl2⟩ := jh1 _ hd2
        refine ⟨go2, fun H7 => jj + 1 ≤ es.length ∧ ∃ m6 G6 ys acc6, Grow c.W G1 H1 m6 G6 H7 ∧ Ex G5 G6 ∧ H7 Dd = some (.lst ys) ∧ G6 Dd = none ∧ RpL c.K G6 ys acc6 ∧ J1 (jj + 1) m6 acc6, fun H7 w => ⟨k - 1, by omega, by omega, w⟩, fun x2 H7 y2 => ?_⟩
        obtain ⟨G7, g7, r7⟩ := yl2 x2 H7 y2
        obtain ⟨hlen, ρ2, dg2, ht2⟩ := kt jj _ m6 acc6 hd2 j6
        have e7 := (e6.grow g7).wipe vs1 hw1
        refine dg2 x2 _ G7 H7 e7 r7 _ fun σ3 f8 hw2 => ⟨hw2.trans (wipe_wipe σ' vs1), ?_⟩
        have e8 := f8 _ _ _ (Ex.refl _) e7
        refine ht2 σ3 G7 H7 e8 _ fun b m8 G8 H8 g8 ⟨hc1, hc2⟩ => ?_
        have g68 := g7.trans g8
        cases b with
        | false =>
          rw [if_neg Bool.false_ne_true]
          obtain ⟨l1, l2⟩ := keepD hy hn6 g68
          exact ⟨hlt2, m8, G8, ys, acc6, g6.trans g68, x6.trans g68.ex, l1, l2, ry.mono g68.ex, hc2 rfl⟩
        | true =>
          rw [if_pos rfl]
          refine hc1 rfl σ3 G8 H8 (e8.grow g8) _ fun v s m9 G9 H9 g9 r9 ⟨d', es', j'⟩ => ?_
          obtain ⟨GA, gA, rA⟩ := r9.freeze g9
          rw [es'] at rA
          have g6A := g68.trans gA
          obtain ⟨l1, l2⟩ := keepD hy hn6 g6A
          exact ⟨ys, l1, szl (by rw [ry.length]; exact hlen), hlt2, m9, GA, ys ++ [v], acc6 ++ [d'], up (g6.trans g6A) l2, x6.trans g6A.ex, upd_same, l2, (ry.mono g6A.ex).append (.one rA), j'⟩
      · left
        have hl2 : jj = es.length := by omega
        refine ⟨jh2 hl2, by omega, hlt, m6, G6, ys, acc6, g6, hy, hn6, ry, ?_⟩
        subst hl2
        exact kd _ _ j6
  · left
    have hl2 : i = ds.length := by omega
    refine ⟨ih2 hl2, ?_⟩
    subst hl2
    exact q (.ref Dd) (.own (.lst acc)) m2 G2 H2 (gr1.trans g2) ⟨Dd, rfl, ⟨gr1.back hD, hn, mD⟩, xs, hx, rx⟩ (jd m2 acc j)
end
section
variable {ι : Type} {m : ι} {c : Cc ι} {ρ : List S} {Φ : ι → S → Prop} {te : TE} {tt1 : TT} {wi wi1 : TI} {g0 g1 : TG} {vs vs1 : List Nat}
theorem DI.imp {Ψ Ψ' : ι → List D → Prop} (h : DI c m wi ρ Ψ) (i : ∀ m ds, Ψ m ds → Ψ' m ds) : DI c m wi ρ Ψ' := fun σ G H e R q => h σ G H e R fun J ds m' G' H' g it p => q J ds m' G' H' g it (i m' ds p)
theorem flat_at {α β : Type} {h : α → List β} {l : List α} {i : Nat} {d : α} (hd : l[i]? = some d) : l.flatMap h = (l.take i).flatMap h ++ (h d ++ (l.drop (i + 1)).flatMap h) := by
  have hi := (List.getElem?_eq_some_iff.mp hd).1
  have e : l = l.take i ++ d :: l.drop (i + 1) := by
    have h1 : l.drop i = d :: l.drop (i + 1) := by
      rw [List.drop_eq_getElem_cons hi]
      congr 1
      exact (List.getElem?_eq_some_iff.mp hd).2
    rw [← h1, List.take_append_drop]
  rw [congrArg (List.flatMap h) e]
  simp
/-- [g d e for d in ds for e in F d if t d e] -/
theorem de_lc2M (F : D → List D) (t : D → D → Bool) (g : D → D → D)
    (h : DI c m wi ρ fun m ds => (ds.flatMap fun d => ((F d).filter (t d)).map (g d)).length < 1000000 ∧
      (∀ d ∈ ds, ∃ ρ', DG c m g0 vs d (wipeS ρ vs) ρ' ∧ noEls vs1 ρ' = true ∧ DI c m wi1 ρ' fun m' es => m' = m ∧ es = F d ∧ ∀ e ∈ es, ∃ ρ2, DG c m g1 vs1 e (wipeS ρ' vs1) ρ2 ∧ DT c m tt1 ρ2 fun m' b => m' = m ∧ b = t d e ∧ (t d e = true → De c m te ρ2 fun m' s => m' = m ∧ s.frz = .dat (g d e))) ∧
      Φ m (.own (.lst (ds.flatMap fun d => ((F d).filter (t d)).map (g d))))) (hw : noEls vs ρ = true := by with_unfolding_all rfl) : De c m (tLc2 wi g0 tYes wi1 g1 tt1 te vs vs1) ρ Φ :=
  de_lc2 hw (h.imp fun m ds ⟨hl, h1, h2⟩ => by
    refine ⟨fun i m' acc => m' = m ∧ acc = (ds.take i).flatMap fun d => ((F d).filter (t d)).map (g d), ⟨rfl, by simp⟩, ?_, ?_⟩
    · rintro i d m' acc hd ⟨rfl, rfl⟩
      obtain ⟨ρ', h3, hw1, h4⟩ := h1 d (List.mem_of_getElem? hd)
      refine ⟨ρ', h3, dt_yes ⟨fun _ => ⟨hw1, h4.imp fun m3 es ⟨em, ees, h5⟩ => ?_⟩, fun z => by cases z⟩⟩
      subst em ees
      have tot := flat_at (h := fun d => ((F d).filter (t d)).map (g d)) hd
      refine ⟨fun j m4 acc => m4 = m3 ∧ acc = (ds.take i).flatMap (fun d => ((F d).filter (t d)).map (g d)) ++ (((F d).take j).filter (t d)).map (g d), ⟨rfl, by simp⟩, ?_, ?_⟩
      · rintro j e m4 acc he ⟨rfl, rfl⟩
        have tot2 : ((F d).take j ++ (F d).drop j) = F d := List.take_append_drop _ _
        refine ⟨?_, ?_⟩
        · rw [tot] at hl
          have : (((F d).filter (t d)).map (g d)).length = ((((F d).take j).filter (t d)).map (g d)).length + ((((F d).drop j).filter (t d)).map (g d)).length := by
            have := congrArg (fun l => ((l.filter (t d)).map (g d)).length) tot2
            simp only [List.filter_append, List.map_append, List.length_append] at this
            exact this.symm
          simp only [List.length_append] at hl ⊢
          omega
        · obtain ⟨ρ2, h6, h7⟩ := h5 e (List.mem_of_getElem? he)
          refine ⟨ρ2, h6, h7.imp fun m5 b ⟨em, eb, h8⟩ => ?_⟩
          subst em
          refine ⟨fun hb => (h8 (by rw [← eb]; exact hb)).imp fun m6 s ⟨em, hs⟩ => ⟨_, hs, em, ?_⟩, fun hb => ⟨rfl, ?_⟩⟩
          · have : t d e = true := by rw [← eb]; exact hb
            rw [List.take_add_one, he]
            simp [List.filter_append, this]
          · have : t d e = false := by rw [← eb]; exact hb
            rw [List.take_add_one, he]
            simp [List.filter_append, this]
      · rintro m4 acc ⟨rfl, rfl⟩
        refine ⟨rfl, ?_⟩
        rw [List.take_length, List.take_add_one, hd]
        simp
    · rintro m' acc ⟨rfl, rfl⟩
      rw [List.take_length]
      exact h2)
end
end DL
set_option Elab.async false
set_option linter.all false
set_option maxRecDepth 100000
set_option maxHeartbeats 1000000
namespace DL
open PySem PySem.Spec PyProof.Rows L2 Evl
/-! ### plain data of some depth -/
inductive Pl : Nat → D → Prop
  | non {n : Nat} : Pl n .non
  | bl {n : Nat} (b : Bool) : Pl n (.bl b)
  | int {n : Nat} (i : Int) : Pl n (.int i)
  | str {n : Nat} {x : Str} : PyData.strOk x = true → Pl n (.str x)
  | lst {n : Nat} {ds : List D} : (∀ d ∈ ds, Pl n d) → Pl (n + 1) (.lst ds)
  | tup {n : Nat} {ds : List D} : (∀ d ∈ ds, Pl n d) → Pl (n + 1) (.tup ds)
  | scr {n : Nat} {ns : List Int} : Pl (n + 1) (.scr ns)
theorem Pl.up {n k : Nat} (h : n ≤ k) {d : D} (p : Pl n d) : Pl k d := by
  induction p generalizing k with
  | non => exact .non
  | bl b => exact .bl b
  | int i => exact .int i
  | str hx => exact .str hx
  | lst _ ih =>
    obtain ⟨j, rfl⟩ : ∃ j, k = j + 1 := ⟨k - 1, by omega⟩
    exact .lst fun d hd => ih d hd (by omega)
  | tup _ ih =>
    obtain ⟨j, rfl⟩ : ∃ j, k = j + 1 := ⟨k - 1, by omega⟩
    exact .tup fun d hd => ih d hd (by omega)
  | scr =>
    obtain ⟨j, rfl⟩ : ∃ j, k = j + 1 := ⟨k - 1, by omega⟩
    exact .scr
def PyOk (n : Nat) (x : PyData) : Prop := x.canLay0 = true ∧ x.depth ≤ n ∧ PyData.eqv x x = true
theorem pys_ok {n : Nat} : ∀ {ds : List D}, (∀ d ∈ ds, ∃ x, d.py = some x ∧ PyOk n x) → ∃ xs, D.pys ds = some xs ∧ PyData.canLayAll0 xs = true ∧ PyData.depthAll xs ≤ n ∧ PyData.eqvAll xs xs = true
  | [], _ => ⟨[], by unfold D.pys; rfl, rfl, Nat.zero_le _, by rw [PyData.eqvAll]⟩
  | d :: ds, h => by
    obtain ⟨x, e1, a1, b1, c1⟩ := h d (by simp)
    obtain ⟨xs, e2, a2, b2, c2⟩ := pys_ok (ds := ds) fun d hd => h d (by simp [hd])
    refine ⟨x :: xs, by unfold D.pys; rw [e1, e2]; rfl, ?_, ?_, ?_⟩
    · rw [PyData.canLayAll0, a1, a2]; rfl
    · rw [PyData.depthAll]; exact Nat.max_le.mpr ⟨b1, b2⟩
    · rw [PyData.eqvAll, c1, c2]; rfl
theorem ints_ok : ∀ ns : List Int, PyData.canLayAll0 (ns.map PyData.int) = true ∧ PyData.depthAll (ns.map PyData.int) = 0 ∧ PyData.eqvAll (ns.map PyData.int) (ns.map PyData.int) = true
  | [] => ⟨rfl, rfl, by rw [List.map_nil, PyData.eqvAll]⟩
  | n :: ns => by
    obtain ⟨a, b, c⟩ := ints_ok ns
    refine ⟨?_, ?_, ?_⟩
    · rw [List.map_cons, PyData.canLayAll0, a]; rfl
    · rw [List.map_cons, PyData.depthAll, b]; rfl
    · rw [List.map_cons, PyData.eqvAll, c]; simp [PyData.eqv]
theorem Pl.py {n : Nat} {d : D} (p : Pl n d) : ∃ x, d.py = some x ∧ PyOk n x := by
  induction p with
  | non => exact ⟨.none, by unfold D.py; rfl, rfl, Nat.zero_le _, by rw [PyData.eqv]⟩
  | bl b => exact ⟨.bool b, by unfold D.py; rfl, rfl, Nat.zero_le _, by simp [PyData.eqv]⟩
  | int i => exact ⟨.int i, by unfold D.py; rfl, rfl, Nat.zero_le _, by simp [PyData.eqv]⟩
  | str h => exact ⟨.str _, by unfold D.py; rfl, h, Nat.zero_le _, by simp [PyData.eqv]⟩
  | lst _ ih =>
    obtain ⟨xs, e, a, b, c⟩ := pys_ok ih
    exact ⟨.list xs, by unfold D.py; rw [e]; rfl, by rw [PyData.canLay0]; exact a, by rw [PyData.depth]; omega, by rw [PyData.eqv]; exact c⟩
  | tup _ ih =>
    obtain ⟨xs, e, a, b, c⟩ := pys_ok ih
    exact ⟨.tuple xs, by unfold D.py; rw [e]; rfl, by rw [PyData.canLay0]; exact a, by rw [PyData.depth]; omega, by rw [PyData.eqv]; exact c⟩
  | @scr n ns =>
    obtain ⟨a, b, c⟩ := ints_ok ns
    exact ⟨.list (ns.map .int), by unfold D.py; rfl, by rw [PyData.canLay0]; exact a, by rw [PyData.depth, b]; omega, by rw [PyData.eqv]; exact c⟩
theorem PyOk.shaped {n : Nat} {x : PyData} (h : PyOk n x) (hn : n ≤ 64) : SeqAt.shaped x = true := by
  unfold SeqAt.shaped
  rw [h.1, Bool.true_and, decide_eq_true_iff]
  exact Nat.le_trans h.2.1 hn
section
variable {ι : Type} {K : PySem.W.Frag} {W : Wd ι} {m : ι} {Φ : ι → S → Prop}
theorem ops_eqSelf {s1 s2 : S} {d : D} (p : Pl 64 d) (h1 : s1.view = some d) (h2 : s2.view = some d) (h : Φ m (.dat (.bl true))) : OpS K W m (rEqD K) s1 s2 Φ := by
  obtain ⟨x, e, k⟩ := p.py
  refine ops_eqD h1 h2 e e (k.shaped (by omega)) (k.shaped (by omega)) ?_
  rw [k.2.2]; exact h
theorem ops_neSelf {s1 s2 : S} {d : D} (p : Pl 64 d) (h1 : s1.view = some d) (h2 : s2.view = some d) (h : Φ m (.dat (.bl false))) : OpS K W m (rNeD K) s1 s2 Φ := by
  obtain ⟨x, e, k⟩ := p.py
  refine ops_neD h1 h2 e e (k.shaped (by omega)) (k.shaped (by omega)) ?_
  rw [k.2.2]; exact h
theorem ops_eqI {i j : Int} (h : Φ m (.dat (.bl (decide (i = j))))) : OpS K W m (rEqD K) (.dat (.int i)) (.dat (.int j)) Φ := by
  refine ops_eqD (d1 := .int i) (d2 := .int j) (x1 := .int i) (x2 := .int j) rfl rfl (by unfold D.py; rfl) (by unfold D.py; rfl) (by rfl) (by rfl) ?_
  have e : PyData.eqv (.int i) (.int j) = decide (i = j) := by rw [PyData.eqv]; rfl
  rw [e]; exact h
theorem ops_neI {i j : Int} (h : Φ m (.dat (.bl (!decide (i = j))))) : OpS K W m (rNeD K) (.dat (.int i)) (.dat (.int j)) Φ := by
  refine ops_neD (d1 := .int i) (d2 := .int j) (x1 := .int i) (x2 := .int j) rfl rfl (by unfold D.py; rfl) (by unfold D.py; rfl) (by rfl) (by rfl) ?_
  have e : PyData.eqv (.int i) (.int j) = decide (i = j) := by rw [PyData.eqv]; rfl
  rw [e]; exact h
theorem ops_inP {s1 s2 : S} {d : D} {ds : List D} (p : Pl 63 d) (q : ∀ e ∈ ds, Pl 63 e) (h1 : s1.view = some d) (h2 : s2.view = some (.lst ds)) (b : Bool)
    (hb : ∀ (x : PyData) (xs : List PyData), d.py = some x → D.pys ds = some xs → (xs.any fun z => PyData.eqv z x) = b) (h : Φ m (.dat (.bl b))) : OpS K W m (rInD K) s1 s2 Φ := by
  obtain ⟨x, e, k⟩ := p.py
  obtain ⟨y, e2, k2⟩ := (Pl.lst q).py
  have e3 := e2
  unfold D.py at e3
  cases z : D.pys ds with
  | none => rw [z] at e3; cases e3
  | some xs =>
    rw [z] at e3
    cases e3
    refine ops_inD h1 h2 e e2 (k.shaped (by omega)) (k2.shaped (by omega)) ?_
    rw [hb x xs e z]
    exact h
end
end DL
set_option Elab.async false
set_option linter.all false
set_option maxRecDepth 100000
set_option maxHeartbeats 1000000
namespace DL
open PySem PySem.Spec PyProof.Rows L2 Evl
/-! ### a source: a list of three numbers that is changed by each draw -/
def SrcOk (p : Addr) (m : Nat) (H : Hp) : Prop := ∃ a b n : Int, H p = some (.lst [.int a, .int b, .int n]) ∧ 0 ≤ n ∧ n + m ≤ 1048576
/-- the world has a source at p: how many draws are left, what a draw makes of the state -/
structure Src {ι : Type} (W : Wd ι) (p : Addr) where
  left : ι → Nat
  dec : ι → ι
  mem : W.M p
  out : ∀ m G H, W.I m G H → SrcOk p (left m) H
  upd : ∀ m G H H', W.I m G H → 0 < left m → (∀ x, x ≠ p → H' x = H x) → SrcOk p (left m - 1) H' → W.I (dec m) G H'
  less : ∀ m, 0 < left m → left (dec m) = left m - 1
def srcW {κ : Type} (V : Wd κ) (p : Addr) : Wd (κ × Nat) where
  M := fun a => V.M a ∨ a = p
  L := V.L
  I := fun m G H => V.I m.1 G H ∧ SrcOk p m.2 H
  dep := fun m G G' H H' x k ⟨h1, a, b, n, h2, h3, h4⟩ => ⟨V.dep _ _ _ _ _ x (fun y hy => k y (.inl hy)) h1, a, b, n, (k p (.inr rfl)).trans h2, h3, h4⟩
  has := fun m G H a ⟨h1, x, y, n, h2, _⟩ hm => by
    rcases hm with hm | rfl
    · exact V.has _ _ _ _ h1 hm
    · exact ⟨_, h2, rfl⟩
  sw := fun m G G' H a u s ⟨h1, h2⟩ => ⟨V.sw _ _ _ _ _ _ s h1, h2⟩
  pin := V.pin
  pinned := fun m G H a o ⟨h1, _⟩ hp => V.pinned _ _ _ _ _ h1 hp
def srcL {κ : Type} {V : Wd κ} {p : Addr} (np : ¬ V.M p) : Src (srcW V p) p where
  left := fun m => m.2
  dec := fun m => (m.1, m.2 - 1)
  mem := .inr rfl
  out := fun m G H h => h.2
  upd := fun m G H H' h _ ne ok => ⟨V.dep _ _ _ _ _ (Ex.refl _) (fun y hy => ne y fun z => np (by rw [← z]; exact hy)) h.1, ok⟩
  less := fun m _ => rfl
def Src.up {κ : Type} {V : Wd κ} {p q : Addr} (L : Src V q) (np : ¬ V.M p) : Src (srcW V p) q where
  left := fun m => L.left m.1
  dec := fun m => (L.dec m.1, m.2)
  mem := .inl L.mem
  out := fun m G H h => L.out _ _ _ h.1
  upd := fun m G H H' h hl ne ok => by
    have hpq : p ≠ q := fun z => np (by rw [z]; exact L.mem)
    obtain ⟨a, b, n, h2, h3, h4⟩ := h.2
    exact ⟨L.upd _ _ _ _ h.1 hl ne ok, a, b, n, (ne p hpq).trans h2, h3, h4⟩
  less := fun m h => L.less _ h
def Src.lk {κ : Type} {V : Wd κ} {q : Addr} (L : Src V q) (d : Addr) : Src (lockW V d) q := ⟨L.left, L.dec, L.mem, L.out, L.upd, L.less⟩
theorem src_grow {ι : Type} {W : Wd ι} {p : Addr} (L : Src W p) {m : ι} {G H H' : Hp} {a b n a' b' : Int} (ok : Ok W m G H) (hl : 0 < L.left m) (hp : H p = some (.lst [.int a, .int b, .int n])) (hn : 0 ≤ n ∧ n + (L.left m : Int) ≤ 1048576)
    (ne : ∀ x, x ≠ p → H' x = H x) (hp' : H' p = some (.lst [.int a', .int b', .int (n + 1)])) : Grow W G H (L.dec m) G H' := by
  have gp : G p = none := ok.off p L.mem
  refine ⟨Ex.refl G, fun x o h => ?_, fun _ _ _ _ q => q, fun x o hm h => ?_, L.upd _ _ _ _ ok.inv hl ne ⟨a', b', n + 1, hp', by omega, by omega⟩, fun _ _ _ q _ => .inr q⟩
  · have z : x ≠ p := fun z => by rw [z, gp] at h; cases h
    rw [ne x z]; exact ok.ex x o h
  · have z : x ≠ p := fun z => hm (by rw [z]; exact L.mem)
    rw [ne x z]; exact h
/-! steps over heaps -/
section
variable {σ : L2.St} {H : Hp} {Q : VK} {K : PySem.W.Frag}
theorem h_var {i : Nat} {v : V} (h : σ[i]? = some (some v)) (q : Q v H) : tVar i σ H Q := ⟨v, h, q⟩
theorem h_ix {p : Addr} {xs : List V} {i : Int} {v : V} (hp : H p = some (.lst xs)) (hi : atI xs i = some v) (q : Q v H) : rIxL K (.ref p) (.int i) H Q := ⟨p, xs, i, v, rfl, rfl, SqL.of hp, hi, q⟩
theorem h_i0 {f : Int → Int → V} {i j : Int} (q : Q (f i j) H) : rI0 f (.int i) (.int j) H Q := ⟨i, j, rfl, rfl, q⟩
theorem h_i {C : Int → Int → Prop} {f : Int → Int → V} {i j : Int} (hc : C i j) (q : Q (f i j) H) : rI C f (.int i) (.int j) H Q := ⟨i, j, rfl, rfl, hc, q⟩
theorem h_set {p : Addr} {xs : List V} {k : Int} {j : Nat} {v : V} {R : Hp → Prop} (hp : H p = some (.lst xs)) (hj : ixN xs.length k = some j) (q : R (upd H p (.lst (xs.set j v)))) : rSetL (.ref p) (.int k) v H R := ⟨p, xs, k, j, rfl, rfl, hp, hj, q⟩
end
/-! a source that is one's own is from here on a source -/
section
variable {ι : Type} {c : Cc ι} {ρ : List S} {m : ι} {t : TS} {N B C : ι → List S → Prop} {R : ι → S → Prop}
def plS : S → Bool
  | .no => true | .dat _ => true | .at_ _ => true | .lk _ => true | _ => false
def noVw (ρ : List S) : Bool := ρ.all fun s => match s with
  | .vw _ => false
  | _ => true
theorem noVw_ok {ρ : List S} (h : noVw ρ = true) (j : Nat) (w : O) : ρ[j]? ≠ some (S.vw w) := fun z => by
  have := List.all_eq_true.mp h _ (List.mem_of_getElem? z)
  cases this
abbrev srcC (c : Cc ι) (m : ι) (ms : Nat) (p : Addr) (G H : Hp) : Cc (ι × Nat) := ⟨c.K, srcW c.W p, c.E, fun mm => c.Ξ mm.1, (m, ms), G, H⟩
theorem relS_srcBack {κ : Type} {K : PySem.W.Frag} {Vd : Wd κ} {p : Addr} {H0 H G H' : Hp} {v : V} {s : S} (hb : ∀ a, H a = none → H0 a = none) (r : RelS K (srcW Vd p) H G H' v s) : RelS K Vd H0 G H' v s := by
  cases s with
  | no => trivial
  | el _ _ => trivial
  | dat d => exact r
  | at_ q => exact r
  | lk o => exact r
  | own o => obtain ⟨q, e, ob⟩ := r; exact ⟨q, e, ob.monoA (Ex.refl _) fun a ha => ⟨rfl, hb a (ob.ads ha).1.1, (ob.ads ha).1.2.1, fun z => (ob.ads ha).1.2.2 (.inl z)⟩⟩
  | vw o => obtain ⟨q, e, ob⟩ := r; exact ⟨q, e, ob.monoA (Ex.refl _) fun a ha => ⟨rfl, (ob.ads ha).1.1, fun z => (ob.ads ha).1.2 (.inl z)⟩⟩
  | xc C a d fs => obtain ⟨e, b, c, r⟩ := r; exact ⟨e, b, fun z => c (.inl z), r⟩
theorem ds_src {i : Nat} {a b n : Int} (ms : Nat) (hi : ρ[i]? = some (.own (.lst [.int a, .int b, .int n]))) (hn : 0 ≤ n ∧ n + (ms : Int) ≤ 1048576) (nv : (ρ.set i .no).all plS = true)
    (h : ∀ p G0 H0, ¬ c.W.M p → Ds (srcC c m ms p G0 H0) (m, ms) t (ρ.set i (.at_ p)) (fun mm ρ' => noEl i ρ' = true ∧ noVw ρ' = true ∧ N mm.1 (ρ'.set i .no)) (fun mm s => R mm.1 s) (fun mm ρ' => noEl i ρ' = true ∧ noVw ρ' = true ∧ B mm.1 (ρ'.set i .no)) (fun mm ρ' => noEl i ρ' = true ∧ noVw ρ' = true ∧ C mm.1 (ρ'.set i .no))) :
    Ds c m t ρ N R B C := fun D σ G H e k1 k2 k3 k4 => by
  obtain ⟨p, hv, f, xs, hp, rx⟩ := e.own hi
  have ex : xs = [.int a, .int b, .int n] := by
    cases rx with
    | cons r1 rx =>
      cases rx with
      | cons r2 rx =>
        cases rx with
        | cons r3 rx => cases rx; cases r1; cases r2; cases r3; rfl
  subst ex
  have ok' : Ok (srcW c.W p) (m, ms) G H := ⟨e.ok.ex, ⟨e.ok.inv, a, b, n, hp, hn.1, hn.2⟩, fun x hx => by
    rcases hx with hx | rfl
    · exact e.ok.off x hx
    · exact f.2.1, e.ok.lk⟩
  have pls : ∀ (j : Nat) (s : S), j ≠ i → ρ[j]? = some s → plS s = true := fun j s hj hs => by
    refine List.all_eq_true.mp nv s (List.mem_of_getElem? (i := j) ?_)
    rw [List.getElem?_set_ne (Ne.symm hj)]; exact hs
  have back : ∀ {m' : ι × Nat} {G' H' : Hp}, Grow (srcW c.W p) G H m' G' H' → Grow c.W c.G0 c.H0 m'.1 G' H' := fun {m' G' H'} g =>
    ⟨e.gr.ex.trans g.ex, g.sub, fun x o hx t hg => by
      have h1 := e.gr.fresh x o hx t hg
      by_cases mx : c.W.M x
      · obtain ⟨u, hu, t2⟩ := c.W.has _ _ _ _ e.gr.inv mx
        exact g.fresh x u hu t2 h1
      · exact g.fresh x o (e.gr.keep x o mx hx) t h1, fun x o hm hx => g.keep x o (fun z => by
      rcases z with z | rfl
      · exact hm z
      · rw [f.1] at hx; cases hx) (e.gr.keep x o hm hx), g.inv.1, fun x o u q n => (g.lk x o u q n).elim .inl fun z => e.gr.lk x o u z n⟩
  have hb : ∀ x, H x = none → c.H0 x = none := fun x hx => e.gr.back hx
  have e' : EnvOk (srcC c m ms p G H) (m, ms) G H σ (ρ.set i (.at_ p)) := by
    refine ⟨ok', ok'.refl, fun C d fv fs m' G' H' g nd md hd hk hr hx => e.exc C d fv fs m'.1 G' H' (back g) nd (fun z => md (.inl z)) hd hk hr hx, by rw [List.length_set]; exact e.len, fun j s hs => ?_, fun j k o o' q q' hjk hj => ?_, fun k a j hk => ?_, fun k o q hk hq a ha => ?_⟩
    · rcases set_get hs with ⟨rfl, rfl, _⟩ | ⟨hj, hs⟩
      · exact .inr ⟨_, hv, rfl⟩
      · have pl := pls j s (Ne.symm hj) hs
        rcases e.at_ j s hs with z | ⟨w, aw, rw'⟩
        · exact .inl z
        · refine .inr ⟨w, aw, ?_⟩
          cases s with
          | vw o => cases pl
          | no => trivial
          | dat d => exact rw'
          | at_ q => exact rw'
          | lk o => exact rw'
          | own o => cases pl
          | el _ _ => cases pl
          | xc _ _ _ _ => cases pl
    · exfalso
      rcases set_get hj with ⟨_, z, _⟩ | ⟨n1, hj⟩
      · cases z
      · have pl := pls j _ (Ne.symm n1) hj
        cases pl
    · exfalso
      rcases set_get hk with ⟨_, z, _⟩ | ⟨n1, hk⟩
      · cases z
      · have pl := pls k _ (Ne.symm n1) hk
        cases pl
    · exfalso
      rcases set_get hk with ⟨_, z, _⟩ | ⟨n1, hk⟩
      · cases z
      · have pl := pls k _ (Ne.symm n1) hk
        cases pl
  have envb : ∀ {m' : ι × Nat} {G' H' : Hp} {σ' : L2.St} {ρ' : List S}, noEl i ρ' = true → noVw ρ' = true → EnvOk (srcC c m ms p G H) m' G' H' σ' ρ' → EnvOk c m'.1 G' H' σ' (ρ'.set i .no) := fun {m' G' H' σ' ρ'} hne hnv f1 => by
    have f2 : EnvOk c m'.1 G' H' σ' ρ' := ⟨e.ok0, back f1.gr, e.exc, f1.len, fun j s hs => (f1.at_ j s hs).imp_right fun ⟨w, aw, r⟩ => ⟨w, aw, relS_srcBack hb r⟩, f1.sep, f1.els, fun k o q hk => absurd hk (noVw_ok hnv k o)⟩
    have f3 := f2.unset (i := i) ((σ'[i]?).getD none) hne
    have es : σ'.set i ((σ'[i]?).getD none) = σ' := by
      apply List.ext_getElem?
      intro j
      by_cases hj : i = j
      · subst hj
        rw [List.getElem?_set]
        simp only [if_true]
        split
        · rename_i hl
          rw [List.getElem?_eq_getElem hl]
          rfl
        · rename_i hl
          rw [List.getElem?_eq_none (by omega)]
      · rw [List.getElem?_set_ne hj]
    rw [es] at f3
    exact f3
  exact h p G H f.2.2 D σ G H e' (fun ρ' σ' m' G' H' ⟨h1, h2, nn⟩ x f => k1 _ σ' m'.1 G' H' nn x (envb h1 h2 f)) (fun s v m' G' H' r x g rr => k2 s v m'.1 G' H' r x (back g) (relS_srcBack hb rr)) (fun ρ' σ' m' G' H' ⟨h1, h2, nn⟩ x f => k3 _ σ' m'.1 G' H' nn x (envb h1 h2 f)) (fun ρ' σ' m' G' H' ⟨h1, h2, nn⟩ x f => k4 _ σ' m'.1 G' H' nn x (envb h1 h2 f))
end
end DL
set_option Elab.async false
set_option linter.all false
set_option maxRecDepth 100000
set_option maxHeartbeats 1000000
namespace DL
open PySem PySem.Spec PyProof.Rows L2 Evl
variable {ι : Type} {m m' m1 : ι}
/-! ### items and arguments: own things become data -/
section
variable {c : Cc ι} {ρ : List S} {Φ : ι → S → Prop} {ta : TE} {tr : TA} {Θ : ι → List S → Prop}
theorem da_imp {Θ' : ι → List S → Prop} (h : DA c m tr ρ Θ) (i : ∀ m ss, Θ m ss → Θ' m ss) : DA c m tr ρ Θ' := fun σ G H e Q q => h σ G H e Q fun vs ss m1 G1 H1 g r p => q vs ss m1 G1 H1 g r (i m1 ss p)
def DAF (c : Cc ι) (m : ι) (tr : TA) (ρ : List S) (Θ : ι → List S → Prop) : Prop := DA c m tr ρ fun m ss' => ∃ ss, ss' = ss.map S.frz ∧ Θ m ss
theorem daf_nil (h : Θ m []) : DAF c m tNil ρ Θ := da_nil ⟨[], rfl, h⟩
theorem daf_cons (h : De c m ta ρ fun m s => DAF c m tr ρ fun m ss => Θ m (s :: ss)) : DAF c m (tCons ta tr) ρ Θ :=
  da_cons (fun σ G H e Q q => h σ G H e _ fun v s m1 G1 H1 g r p => by
    obtain ⟨G2, g2, r2⟩ := r.freeze g
    exact q v s.frz m1 G2 H1 g2 r2 (da_imp p fun m2 ss' ⟨ss, e1, h1⟩ => ⟨s :: ss, by rw [e1]; rfl, h1⟩))
theorem daf_star (h : De c m ta ρ fun m s => ∃ ds, (s.tup? = some ds ∨ s.lst? = some ds) ∧ DAF c m tr ρ fun m ss => Θ m (ds.map S.dat ++ ss)) : DAF c m (StX.tStar c.K ta tr) ρ Θ :=
  da_star (h.imp fun m s ⟨ds, hs, p⟩ => ⟨ds, hs, da_imp p fun m2 ss' ⟨ss, e1, h1⟩ => ⟨ds.map S.dat ++ ss, by rw [e1, List.map_append, List.map_map]; rfl, h1⟩⟩)
/-! items -/
def isD : S → Bool
  | .dat _ => true | .own _ => true | _ => false
def unD : S → D
  | .dat d => d | .own o => o.frz | _ => .non
def LstK (n : Nat) (ss : List S) (P : List D → Prop) : Prop := ss.all isD = true ∧ ss.length ≤ n ∧ P (ss.map unD)
theorem lk_nil {n : Nat} {P : List D → Prop} (h : P []) : LstK n [] P := ⟨rfl, Nat.zero_le _, h⟩
theorem lk_dat {n : Nat} {d : D} {ss : List S} {P : List D → Prop} (h : LstK n ss fun ds => P (d :: ds)) : LstK (n + 1) (.dat d :: ss) P := ⟨by rw [List.all_cons, h.1]; rfl, by have := h.2.1; rw [List.length_cons]; omega, h.2.2⟩
theorem lk_own {n : Nat} {o : O} {ss : List S} {P : List D → Prop} (h : LstK n ss fun ds => P (o.frz :: ds)) : LstK (n + 1) (.own o :: ss) P := ⟨by rw [List.all_cons, h.1]; rfl, by have := h.2.1; rw [List.length_cons]; omega, h.2.2⟩
theorem lk_lst {n : Nat} {es : List D} {ss : List S} {P : List D → Prop} (h : LstK n ss fun ds => P (.lst es :: ds)) : LstK (n + 1) (.own (.lst es) :: ss) P := lk_own h
theorem lk_dK {n : Nat} {es : List (Key × D)} {ss : List S} {P : List D → Prop} (h : LstK n ss fun ds => P (.dic es :: ds)) : LstK (n + 1) (.own (.dK es) :: ss) P := lk_own h
theorem lk_dT {n : Nat} {es : List (List Key × D)} {ss : List S} {P : List D → Prop} (h : LstK n ss fun ds => P (.dit es :: ds)) : LstK (n + 1) (.own (.dT es) :: ss) P := lk_own h
theorem lk_app {n k : Nat} {es : List D} {ss : List S} {P : List D → Prop} (hk : es.length ≤ k) (h : LstK n ss fun ds => P (es ++ ds)) : LstK (n + k) (es.map S.dat ++ ss) P := by
  refine ⟨?_, ?_, ?_⟩
  · rw [List.all_append, h.1, Bool.and_true, List.all_map, List.all_eq_true]
    intro x _; rfl
  · have := h.2.1
    rw [List.length_append, List.length_map]; omega
  · rw [List.map_append, List.map_map]
    have e : es.map (unD ∘ S.dat) = es := by
      conv => rhs; rw [← List.map_id es]
      rfl
    rw [e]
    exact h.2.2
theorem isD_frz {ss : List S} (h : ss.all isD = true) : ss.map S.frz = (ss.map unD).map S.dat := by
  induction ss with
  | nil => rfl
  | cons s ss ih =>
    rw [List.all_cons] at h
    obtain ⟨q1, q2⟩ := Bool.and_eq_true_iff.mp h
    rw [List.map_cons, List.map_cons, List.map_cons, ih q2]
    cases s <;> first | rfl | cases q1
theorem de_tupG (h : DAF c m tr ρ fun m ss => LstK 1000 ss fun ds => Φ m (.dat (.tup ds))) : De c m (tTup tr) ρ Φ :=
  de_tup (da_imp h fun m ss' ⟨ss, e, a, b, p⟩ => ⟨_, e.trans (isD_frz a), by rw [List.length_map]; omega, p⟩)
theorem de_lstG (h : DAF c m tr ρ fun m ss => LstK 1000 ss fun ds => Φ m (.own (.lst ds))) : De c m (tLst tr) ρ Φ :=
  de_lst (da_imp h fun m ss' ⟨ss, e, a, b, p⟩ => ⟨_, e.trans (isD_frz a), by rw [List.length_map]; omega, p⟩)
/-! arguments -/
def frzOk : S → Bool
  | .own _ => true | .dat _ => true | .at_ _ => true | .vw _ => true | _ => false
def ArgK (ss : List S) (P : List S → Prop) : Prop := ss.all frzOk = true ∧ P (ss.map S.frz)
theorem ak_nil {P : List S → Prop} (h : P []) : ArgK [] P := ⟨rfl, h⟩
theorem ak_dat {d : D} {ss : List S} {P : List S → Prop} (h : ArgK ss fun ds => P (.dat d :: ds)) : ArgK (.dat d :: ss) P := ⟨by rw [List.all_cons, h.1]; rfl, h.2⟩
theorem ak_at {p : Addr} {ss : List S} {P : List S → Prop} (h : ArgK ss fun ds => P (.at_ p :: ds)) : ArgK (.at_ p :: ss) P := ⟨by rw [List.all_cons, h.1]; rfl, h.2⟩
theorem ak_vw {o : O} {ss : List S} {P : List S → Prop} (h : ArgK ss fun ds => P (.vw o :: ds)) : ArgK (.vw o :: ss) P := ⟨by rw [List.all_cons, h.1]; rfl, h.2⟩
theorem ak_own {o : O} {ss : List S} {P : List S → Prop} (h : ArgK ss fun ds => P (.dat o.frz :: ds)) : ArgK (.own o :: ss) P := ⟨by rw [List.all_cons, h.1]; rfl, h.2⟩
theorem ak_lst {es : List D} {ss : List S} {P : List S → Prop} (h : ArgK ss fun ds => P (.dat (.lst es) :: ds)) : ArgK (.own (.lst es) :: ss) P := ak_own h
theorem ak_dK {es : List (Key × D)} {ss : List S} {P : List S → Prop} (h : ArgK ss fun ds => P (.dat (.dic es) :: ds)) : ArgK (.own (.dK es) :: ss) P := ak_own h
theorem ak_dT {es : List (List Key × D)} {ss : List S} {P : List S → Prop} (h : ArgK ss fun ds => P (.dat (.dit es) :: ds)) : ArgK (.own (.dT es) :: ss) P := ak_own h
theorem frz_arg {s : S} (h : frzOk s = true) : argS s.frz = true := by cases s <;> first | rfl | cases h
theorem all_arg : ∀ {ss : List S}, ss.all frzOk = true → (ss.map S.frz).all argS = true
  | [], _ => rfl
  | s :: ss, h => by
    rw [List.all_cons] at h
    obtain ⟨q1, q2⟩ := Bool.and_eq_true_iff.mp h
    rw [List.map_cons, List.all_cons, frz_arg q1, all_arg q2]
    rfl
theorem de_callG {C : Fc} (h : DAF c m tr ρ fun m ss => ArgK ss fun ss => C ι c.W m ss Φ c.Ξ) : De c m (tCall (spF c.K C) [] c.E tr) ρ Φ :=
  de_call (da_imp h fun m ss' ⟨ss, e, a, b⟩ => by subst e; exact ⟨all_arg a, b⟩)
theorem de_call0G {C : Fc} (h : DAF c m tr ρ fun m ss => ArgK ss fun ss => C ι c.W m ss Φ fun _ _ _ => False) : De c m (tCall (spF c.K C) [] E0 tr) ρ Φ :=
  de_call0 (da_imp h fun m ss' ⟨ss, e, a, b⟩ => by subst e; exact ⟨all_arg a, b⟩)
end
/-! ### a value that is dropped -/
section
variable {c : Cc ι} {ρ : List S} {N B C : ι → List S → Prop} {R : ι → S → Prop} {K : PySem.W.Frag} {sp : Sp} {ds : List V} {E : XK} {tr : TA} {T : String} {te : TE} {r : V → List V → Hp → VK → Prop} {rb : List V → Hp → VK → Prop}
theorem ds_dropC (h : De c m (tCall sp ds E tr) ρ fun m _ => N m ρ) : Ds c m (tDrop (tCall sp ds E tr)) ρ N R B C := ds_drop h
theorem ds_dropB (h : De c m (tCB rb tr) ρ fun m _ => N m ρ) : Ds c m (tDrop (tCB rb tr)) ρ N R B C := ds_drop h
theorem ds_drop0 (h : De c m (tBM0 K T r te) ρ fun m _ => N m ρ) : Ds c m (tDrop (tBM0 K T r te)) ρ N R B C := ds_drop h
end
/-! ### slots that are forgotten -/
inductive Wk : List S → List S → Prop
  | nil : Wk [] []
  | keep {s : S} {a b : List S} : Wk a b → Wk (s :: a) (s :: b)
  | drop {s : S} {a b : List S} : Wk a b → Wk (s :: a) (.no :: b)
theorem Wk.refl : ∀ a : List S, Wk a a
  | [] => .nil
  | _ :: a => .keep (Wk.refl a)
theorem Wk.len {a b : List S} (h : Wk a b) : b.length = a.length := by
  induction h with
  | nil => rfl
  | keep _ ih => simp [ih]
  | drop _ ih => simp [ih]
theorem Wk.get {a b : List S} (h : Wk a b) : ∀ {i : Nat} {s : S}, b[i]? = some s → s = .no ∨ a[i]? = some s := by
  induction h with
  | nil => intro i s h; simp at h
  | keep _ ih =>
    intro i s h
    cases i with
    | zero => exact .inr h
    | succ i => exact ih (i := i) (by simpa using h)
  | drop _ ih =>
    intro i s h
    cases i with
    | zero => left; simp at h; exact h.symm
    | succ i => exact ih (i := i) (by simpa using h)
def elsOk (b : List S) : Bool := b.all fun s => match s with
  | .el i _ => (match b[i]? with
    | some (.own (.nest _)) => true
    | _ => false)
  | _ => true
theorem elsOk_ok {b : List S} (h : elsOk b = true) {k i j : Nat} (hk : b[k]? = some (.el i j)) : ∃ its, b[i]? = some (.own (.nest its)) := by
  have h1 := List.all_eq_true.mp h _ (List.mem_of_getElem? hk)
  have h1 : (match b[i]? with
    | some (.own (.nest _)) => true
    | _ => false) = true := h1
  cases e : b[i]? with
  | none => rw [e] at h1; cases h1
  | some s =>
    rw [e] at h1
    cases s with
    | own o => cases o with
      | nest its => exact ⟨its, rfl⟩
      | one o => cases h1
      | ins C fs => cases h1
    | _ => cases h1
theorem EnvOk.wk {c : Cc ι} {G H : Hp} {σ : L2.St} {a b : List S} (w : Wk a b) (he : elsOk b = true) (e : EnvOk c m G H σ a) : EnvOk c m G H σ b := by
  refine ⟨e.ok0, e.gr, e.exc, by rw [w.len]; exact e.len, fun i s h => ?_, fun i j o o' p q hij hi hj pi pj => ?_, fun k i j hk => ?_, fun k o p hk hp => ?_⟩
  · rcases w.get h with z | z
    · exact .inl z
    · exact e.at_ i s z
  · rcases w.get hi with z | z
    · cases z
    · rcases w.get hj with z2 | z2
      · cases z2
      · exact e.sep i j o o' p q hij z z2 pi pj
  · rcases w.get hk with z | z
    · cases z
    · obtain ⟨its, p, vs, q, o, e1, e2⟩ := e.els k i j z
      obtain ⟨its', h2⟩ := elsOk_ok he hk
      rcases w.get h2 with y | y
      · cases y
      · rw [e1] at y
        cases y
        exact ⟨its, p, vs, q, o, h2, e2⟩
  · rcases w.get hk with z | z
    · cases z
    · exact e.vws k o p z hp
def WkJ (ρ : List S) (P : List S → Prop) : Prop := ∃ ρ', Wk ρ ρ' ∧ elsOk ρ' = true ∧ P ρ'
section
variable {c : Cc ι} {ρ : List S} {t u : TS} {tt : TT} {N B C : ι → List S → Prop} {R : ι → S → Prop} {wi : TI} {g : TG}
theorem Ds.weak {B' C' N' : ι → List S → Prop} (h : Ds c m t ρ N R B C) (hn : ∀ m ρ, N m ρ → WkJ ρ (N' m)) (hb : ∀ m ρ, B m ρ → B' m ρ) (hc : ∀ m ρ, C m ρ → C' m ρ) : Ds c m t ρ N' R B' C' := fun D σ G H e k1 k2 k3 k4 =>
  h D σ G H e (fun ρ' σ' m' G' H' n x f => by obtain ⟨ρ2, w, we, n2⟩ := hn _ _ n; exact k1 ρ2 σ' m' G' H' n2 x (f.wk w we)) k2 (fun ρ' σ' m' G' H' n x f => k3 ρ' σ' m' G' H' (hb _ _ n) x f) (fun ρ' σ' m' G' H' n x f => k4 ρ' σ' m' G' H' (hc _ _ n) x f)
theorem DG.wk {vs : List Nat} {d : D} {ρ1 ρ2 ρ3 : List S} (w : Wk ρ1 ρ2) (we : elsOk ρ2 = true) (h : DG c m g vs d ρ2 ρ3) : DG c m g vs d ρ1 ρ3 := fun v σ G H e r Q q => h v σ G H (e.wk w we) r Q fun σ' k z => q σ' (fun m' G' H' x f => k m' G' H' x (f.wk w we)) z
theorem DT.wk {ρ1 ρ2 : List S} {Φ : ι → Bool → Prop} (w : Wk ρ1 ρ2) (we : elsOk ρ2 = true) (h : DT c m tt ρ2 Φ) : DT c m tt ρ1 Φ := fun σ G H e Q q => h σ G H (e.wk w we) Q q
theorem De.wk {te : TE} {ρ1 ρ2 : List S} {Φ : ι → S → Prop} (w : Wk ρ1 ρ2) (we : elsOk ρ2 = true) (h : De c m te ρ2 Φ) : De c m te ρ1 Φ := fun σ G H e Q q => h σ G H (e.wk w we) Q q
theorem ds_forget {ρ' : List S} (w : Wk ρ ρ') (h : Ds c m t ρ' N R B C) (we : elsOk ρ' = true := by with_unfolding_all rfl) : Ds c m t ρ N R B C := fun D σ G H e k1 k2 k3 k4 => h D σ G H (e.wk w we) k1 k2 k3 k4
theorem ds_forW {vs : List Nat} (h : DI c m wi ρ fun m ds => ∃ J : Nat → ι → List S → Prop, WkJ ρ (J 0 m) ∧ (∀ i d m ρ', ds[i]? = some d → J i m ρ' → ∃ ρ2, DG c m g vs d ρ' ρ2 ∧ Ds c m t ρ2 (fun m ρ' => WkJ ρ' (J (i + 1) m)) R N (fun m ρ' => WkJ ρ' (J (i + 1) m))) ∧ ∀ m ρ', J ds.length m ρ' → N m ρ') : Ds c m (tFor wi g t) ρ N R B C := by
  have key : Ds c m (tFor wi g t) ρ (fun m ρ => N m ρ ∨ WkJ ρ (N m)) R B C := by
    refine ds_for (vs := vs) fun σ G H e R' q => h σ G H e R' fun I ds m' G' H' gg it ⟨J, ⟨ρ0, w0, we0, j0⟩, jt, jd⟩ => ?_
    refine q I ds m' G' H' gg it ⟨fun i m ρ => WkJ ρ (J i m), ⟨ρ0, w0, we0, j0⟩, ?_, ?_⟩
    · rintro i d m ρ1 hd ⟨ρ2, w, we, j⟩
      obtain ⟨ρ3, dg, hs⟩ := jt i d m ρ2 hd j
      exact ⟨ρ3, dg.wk w we, hs.imp (fun _ _ n => n) (fun _ _ n => n) (fun _ ρ n => .inl n) (fun _ _ n => n)⟩
    · rintro m ρ1 ⟨ρ2, w, we, j⟩
      exact .inr ⟨ρ2, w, we, jd m ρ2 j⟩
  exact fun D σ G H e k1 k2 k3 k4 => key D σ G H e (fun ρ' σ' m' G' H' n x f => by
    rcases n with n | ⟨ρ2, w, we, n⟩
    · exact k1 ρ' σ' m' G' H' n x f
    · exact k1 ρ2 σ' m' G' H' n x (f.wk w we)) k2 k3 k4
theorem ds_lockForW {vs : List Nat} {td : TE} {dd : D} {ds : List D} (hp : DP c m td ρ dd) (hd : (∃ ds, dd = .dic ds) ∨ ∃ ds, dd = .dit ds) (hL : ∀ a, ¬ c.W.L a) (hwk : Walks wi td dd ds) (J : Nat → ι → List S → Prop) (j0 : WkJ ρ (J 0 m))
    (jt : ∀ d F i x m ρ', ds[i]? = some x → J i m ρ' → ∃ ρ2, DG (lockC c d F) m g vs x ρ' ρ2 ∧ Ds (lockC c d F) m t ρ2 (fun m ρ' => WkJ ρ' (J (i + 1) m)) R N (fun m ρ' => WkJ ρ' (J (i + 1) m)))
    (jd : ∀ m ρ', J ds.length m ρ' → N m ρ') : Ds c m (tLock (tFor wi g t)) ρ N R B C := by
  have key : Ds c m (tLock (tFor wi g t)) ρ (fun m ρ => N m ρ ∨ WkJ ρ (N m)) R B C := by
    refine ds_lockFor (vs := vs) hp hd hL hwk (fun i m ρ => WkJ ρ (J i m)) j0 ?_ ?_
    · rintro d F i x m ρ1 hx ⟨ρ2, w, we, j⟩
      obtain ⟨ρ3, dg, hs⟩ := jt d F i x m ρ2 hx j
      exact ⟨ρ3, dg.wk w we, hs.imp (fun _ _ n => n) (fun _ _ n => n) (fun _ ρ n => .inl n) (fun _ _ n => n)⟩
    · rintro m ρ1 ⟨ρ2, w, we, j⟩
      exact .inr ⟨ρ2, w, we, jd m ρ2 j⟩
  exact fun D σ G H e k1 k2 k3 k4 => key D σ G H e (fun ρ' σ' m' G' H' n x f => by
    rcases n with n | ⟨ρ2, w, we, n⟩
    · exact k1 ρ' σ' m' G' H' n x f
    · exact k1 ρ2 σ' m' G' H' n x (f.wk w we)) k2 k3 k4
theorem ds_whileW (J : Nat → ι → List S → Prop) (n0 : Nat) (h0 : WkJ ρ (J n0 m)) (h : ∀ n m ρ', J n m ρ' → DT c m tt ρ' fun m b => (b = true → Ds c m t ρ' (fun m ρ2 => ∃ n', n' < n ∧ WkJ ρ2 (J n' m)) R N (fun m ρ2 => ∃ n', n' < n ∧ WkJ ρ2 (J n' m))) ∧ (b = false → N m ρ')) : Ds c m (tWhile tt t) ρ N R B C := by
  have key : Ds c m (tWhile tt t) ρ (fun m ρ => N m ρ ∨ WkJ ρ (N m)) R B C := by
    refine ds_while (fun n m ρ => WkJ ρ (J n m)) n0 h0 ?_
    rintro n m ρ1 ⟨ρ2, w, we, j⟩
    have hh := (h n m ρ2 j).wk w we
    refine hh.imp fun m b ⟨h1, h2⟩ => ⟨fun hb => ?_, fun hb => .inr ⟨ρ2, w, we, h2 hb⟩⟩
    exact ds_forget w ((h1 hb).imp (fun _ _ n => n) (fun _ _ n => n) (fun _ ρ n => .inl n) (fun _ _ n => n)) we
  exact fun D σ G H e k1 k2 k3 k4 => key D σ G H e (fun ρ' σ' m' G' H' n x f => by
    rcases n with n | ⟨ρ2, w, we, n⟩
    · exact k1 ρ' σ' m' G' H' n x f
    · exact k1 ρ2 σ' m' G' H' n x (f.wk w we)) k2 k3 k4
/-- a block in two parts -/
theorem ds_cut (M : ι → List S → Prop) (h1 : Ds c m t ρ (fun m ρ => WkJ ρ (M m)) R B C) (h2 : ∀ m ρ, M m ρ → Ds c m u ρ N R B C) : Ds c m (tSeq t u) ρ N R B C :=
  ds_seq (h1.imp (fun m ρ ⟨ρ', w, we, n⟩ => ds_forget w (h2 m ρ' n) we) (fun _ _ n => n) (fun _ _ n => n) (fun _ _ n => n))
end
/-! ### a def's body -/
theorem run_fnP {K : PySem.W.Frag} {F : Fc} {Nm : List Str} {t : TS} {vs : List V} {H : Hp} {Q : VK} {E : XK} {n k : Nat} (pad : List S) (hN : Nm.length = n + k) (hv : vs.length = n) (hpad : pad = List.replicate k .no) (h : spF K F vs H Q E)
    (body : ∀ κ W m ss Φ Ξ G, F κ W m ss Φ Ξ → Ds ⟨K, W, E, Ξ, m, G, H⟩ m t (ss ++ pad) (fun m _ => Φ m (.dat .non)) Φ (fun _ _ => False) (fun _ _ => False)) :
    t { nx := fun _ H' => Q .non H', rt := Q } (L2.start Nm vs) H := by
  obtain ⟨κ, W, m, G, ss, Φ, Ξ, ok, rs, rest⟩ := h
  have hl : ss.length = n := by rw [← rs.length]; exact hv
  refine run_fn (F := fun κ W m ss Φ Ξ => ss.length = n ∧ F κ W m ss Φ Ξ) (by omega) ⟨κ, W, m, G, ss, Φ, Ξ, ok, rs, rest.1, ⟨hl, rest.2.1⟩, rest.2.2⟩ fun κ W m ss Φ Ξ G ⟨hl2, hf⟩ => ?_
  have e : Nm.length - ss.length = k := by omega
  rw [e, ← hpad]
  exact body κ W m ss Φ Ξ G hf
end DL
set_option Elab.async false
set_option linter.all false
set_option maxRecDepth 100000
set_option maxHeartbeats 1000000
namespace DL
open PySem PySem.Spec PyProof.Rows L2 Evl
/-! rules whose readings name the given heap K, and not a context's field: these also fit within a block -/
section
variable {X : Cx} {K : PySem.W.Frag}
theorem k_isi (hK : X.K = K) : CallR X (.builtin "isinstance") (rIsiW K) := by
  subst hK
  intro pins s σ H xs us Q I r h
  rcases h with h | ⟨a, o, kvs, T, b, rfl, ea, hb, q⟩
  · exact call_isi pins s σ H xs us Q I r h
  · obtain ⟨u1, u2, rfl, r1, r2⟩ := vals2 r
    cases (show u1 = Value.ref a from r1)
    cases (show u2 = Value.type T from r2)
    obtain ⟨_, _, _, _, _, ob, _, _, h1, h2, _⟩ := (show ObjOk X.prog X.w H s.heap a (.frz o (.dT kvs)) from I.hok a _ ea)
    exact PySem.W.kia_one (x := .ref a) PySem.W.kitx_dict I.kIn ⟨ob, h1, h2.1⟩ (kit_ty hb) (fun z => nomatch z) fun tk => ⟨.bl b, H, I.tok tk, rfl, q⟩
theorem k_len (hK : X.K = K) : CallR X (.builtin "len") (rLenA K) := by subst hK; exact call_lenA
theorem k_sum (hK : X.K = K) (hc : X.calm = true) : CallR X (.builtin "sum") (rSumA K) := by subst hK; exact call_sumA hc
theorem k_all (hK : X.K = K) (hc : X.calm = true) : CallR X (.builtin "all") (rAll K) := by subst hK; exact cr_all hc
theorem k_any (hK : X.K = K) (hc : X.calm = true) : CallR X (.builtin "any") (rAny K) := by subst hK; exact cr_any hc
theorem k_listOf (hK : X.K = K) : CallR X (.type "list") (fun xs H Q => ∃ p ys, xs = [V.ref p] ∧ (SqL K H p ys ∨ SqT K H p ys) ∧ ∀ l, H l = none → Q (.ref l) (upd H l (.lst ys))) := by subst hK; exact call_list_of
theorem k_tupleOf (hK : X.K = K) : CallR X (.type "tuple") (fun xs H Q => ∃ p ys, xs = [V.ref p] ∧ ((SqL K H p ys ∧ ∀ l, H l = none → Q (.ref l) (upd H l (.tup ys))) ∨ (SqT K H p ys ∧ Q (.ref p) H))) := by subst hK; exact call_tuple_of
theorem k_ixL (hK : X.K = K) : IxR X (rIxL K) := by subst hK; exact ix_list
theorem k_ixT (hK : X.K = K) : IxR X (rIxT K) := by subst hK; exact ix_tup
theorem k_slL (hK : X.K = K) : SlR X (rSlL K) := by subst hK; exact sl_list
theorem k_slT (hK : X.K = K) : SlR X (rSlA K) := by subst hK; exact sl_tupA
theorem k_eqD (hK : X.K = K) (hu : X.A.units + 64 < cLine) : OpR X (compareOp .Eq) (rEqD K) := by subst hK; exact op_eqD hu
theorem k_neD (hK : X.K = K) (hu : X.A.units + 64 < cLine) : OpR X (compareOp .NotEq) (rNeD K) := by subst hK; exact op_neD hu
theorem k_inD (hK : X.K = K) (hu : X.A.units + 65 < cLine) : OpR X (compareOp .In) (rInD K) := by subst hK; exact op_inD hu
theorem k_catA (hK : X.K = K) : OpR X (binaryOp .Add) (rCatA K) := by subst hK; exact op_catA
variable {tg l e : Expr} {es : List Expr} {tl te : TE} {t : TA} {p pos : Pos}
theorem k_piL (hK : X.K = K) (hl : PE X l tl) : PI X tg l (iList K tl) := by subst hK; exact pi_list hl
theorem k_piT (hK : X.K = K) (hl : PE X l tl) : PI X tg l (iTup K tl) := by subst hK; exact pi_tup hl
theorem k_piS (hK : X.K = K) (hl : PE X l tl) : PI X tg l (iSeq K tl) := by subst hK; exact pi_seq hl
theorem k_star (hK : X.K = K) (he : PE X e te) (hr : PA X es t) (hs : starEach (.Starred e p :: es) X.env = (true, eval e X.env) :: starEach es X.env := by rfl) : PA X (.Starred e p :: es) (StX.tStar K te t) := by subst hK; exact StX.pa_star he hr hs
theorem k_gTup {es : List Expr} {k : Nat} {t : TGs} {n : Nat} (hK : X.K = K) (hc : X.calm = true) (h : PGs X es t)
    (hn : (assignEach es X.env).length = n := by rfl) (hst : (assignEach es X.env).findIdx? (·.1) = none := by rfl) : PG X (.Tuple es k pos) (gTup K n t) := by subst hK; exact pg_tup hc h hn hst
theorem k_zip {e2 : Expr} {ta : TA} {tpos : Pos} {elts : List Expr} {kk : Nat} (hK : X.K = K) (hg : Gl X "zip") (hm : X.mg "zip" = none) (ha : PA X [e, e2] ta)
    (hs : starEach [e, e2] X.env = (false, eval e X.env) :: starEach [e2] X.env := by rfl) (hpl : (backTo pos (starEach [e2] X.env)).any (·.1) = false := by rfl) :
    PI X (.Tuple elts kk tpos) (.Call (.Name "zip" p) [e, e2] [] pos) (iZipS K ta) := by subst hK; exact pi_zipS hg hm ha hs hpl
variable {T name : Str} {id : String} {r : V → List V → Hp → VK → Prop} {o : Expr} {to : TE} {apos cpos : Pos}
theorem k_app (hK : X.K = K) (ho : PE X o to) (ha : PA X (e :: es) t)
    (hbase : attributeBase o "append" X.env (eval o X.env) = eval o X.env := by rfl)
    (hfew : ((backTo cpos (starEach (e :: es) X.env)).all (fun x => !x.1) && (backToKw cpos (keywordEach [] X.env)).all (fun x => x.1.isSome)
      && decide ((e :: es).length + ([] : List Keyword).length + (if ([] : List Keyword).isEmpty then 0 else 1) < 30)) = true := by rfl)
    (hline : (apos.endLine == cpos.line) = true := by rfl) (hs : starEach (e :: es) X.env = (false, eval e X.env) :: starEach es X.env := by rfl) (hplain : (backTo cpos (starEach es X.env)).any (·.1) = false := by rfl) :
    PE X (.Call (.Attribute o "append" apos) (e :: es) [] cpos) (tBM K "list" rAppend to t) := by subst hK; exact pe_bm PySem.F.plainAttrs_list PySem.F.slot_list_append PySem.F.type_list_append mt_append ho ha hbase hfew hline hs hplain
variable {k j : Nat} {x : Str} {ps : List Str} {C : Fc}
theorem k_cl {CX : CXT} {E : XK} (c : Cl X.prog X.w K X.mg X.base CX k x ps C) (hK : X.K = K) (hr : Room j X.A) (hx : Passes CX X E) (ha : PA X (e :: es) t) (hk : k ≤ j := by decide) (hg : Gl X x := by rfl) (hdb : (x == ("__debug__" : Str)) = false := by decide)
    (he : starEach (e :: es) X.env = (false, eval e X.env) :: starEach es X.env := by rfl) (hpl : (backTo pos (starEach es X.env)).any (·.1) = false := by rfl) :
    PE X (.Call (.Name x p) (e :: es) [] pos) (tCall (spF K C) [] E t) := by subst hK; exact pcl c hr hx ha hk hg hdb he hpl
theorem k_cl0 (c : Cl X.prog X.w K X.mg X.base CX0 k x ps C) (hK : X.K = K) (hr : Room j X.A) (ha : PA X (e :: es) t) (hk : k ≤ j := by decide) (hg : Gl X x := by rfl) (hdb : (x == ("__debug__" : Str)) = false := by decide)
    (he : starEach (e :: es) X.env = (false, eval e X.env) :: starEach es X.env := by rfl) (hpl : (backTo pos (starEach es X.env)).any (·.1) = false := by rfl) :
    PE X (.Call (.Name x p) (e :: es) [] pos) (tCall (spF K C) [] E0 t) := by subst hK; exact pcl c hr pass0 ha hk hg hdb he hpl
theorem k_clL (c : Cl X.prog X.w K X.mg X.base (L2.CX X.prog X.w) k x ps C) (hK : X.K = K) (hr : Room j X.A) (ha : PA X (e :: es) t) (hk : k ≤ j := by decide) (hg : Gl X x := by rfl) (hdb : (x == ("__debug__" : Str)) = false := by decide)
    (he : starEach (e :: es) X.env = (false, eval e X.env) :: starEach es X.env := by rfl) (hpl : (backTo pos (starEach es X.env)).any (·.1) = false := by rfl) :
    PE X (.Call (.Name x p) (e :: es) [] pos) (tCall (spF K C) [] E0 t) := by subst hK; exact pcl c hr passL ha hk hg hdb he hpl
theorem k_clS {W : WX} (c : Cl X.prog X.w K X.mg X.base (L2.CX X.prog X.w) k x ps C) (hK : X.K = K) (hr : Room j X.A) (tk : Takes X W) (ha : PA X (e :: es) t) (hk : k ≤ j := by decide) (hg : Gl X x := by rfl) (hdb : (x == ("__debug__" : Str)) = false := by decide)
    (he : starEach (e :: es) X.env = (false, eval e X.env) :: starEach es X.env := by rfl) (hpl : (backTo pos (starEach es X.env)).any (·.1) = false := by rfl) :
    PE X (.Call (.Name x p) (e :: es) [] pos) (tCallS (spF K C) (WE W) t) := by subst hK; exact pclS c hr tk ha hk hg hdb he hpl
end
end DL
set_option Elab.async false
set_option linter.all false
set_option maxRecDepth 100000
set_option maxHeartbeats 1000000
namespace DL
open PySem PySem.Spec PyProof.Rows L2 Evl
/-! ### an exception's __init__ -/
section
variable {K : PySem.W.Frag} {C : Addr} {H : Hp} {Q : VK} {E : XK} {vs : List V} {f g k : Str}
theorem upd_comm2 {H : Hp} {a d : Addr} {o o1 o2 : HO} (ne : d ≠ a) : upd (upd (upd H d o1) a o) d o2 = upd (upd H d o2) a o := by
  funext b
  by_cases h1 : b = d
  · rw [h1, upd_same, upd_ne ne, upd_same]
  · rw [upd_ne h1]
    by_cases h2 : b = a
    · rw [h2, upd_same, upd_same]
    · rw [upd_ne h2, upd_ne h1, upd_ne h2, upd_ne h1]
theorem init1 (T : OexC K C) (n1 : PySem.W.findIn K (.ref C) f = some none) (h : spX C [f] vs H Q E) : tOst K f (tVar 0) (tVar 1) { nx := fun _ H' => Q .non H', rt := Q } (L2.start ["self", f] vs) H := by
  obtain ⟨a, ws, rfl, hl, ha, hq⟩ := h
  match ws, hl with
  | [w], _ => exact ⟨w, rfl, _, rfl, a, C, rfl, T, n1, .inl ⟨ha, fun dx hd ne => hq dx hd ne⟩⟩
theorem init2 (T : OexC K C) (n1 : PySem.W.findIn K (.ref C) f = some none) (n2 : PySem.W.findIn K (.ref C) g = some none) (h : spX C [f, g] vs H Q E) : tSeq (tOst K f (tVar 0) (tVar 1)) (tOst K g (tVar 0) (tVar 2)) { nx := fun _ H' => Q .non H', rt := Q } (L2.start ["self", f, g] vs) H := by
  obtain ⟨a, ws, rfl, hl, ha, hq⟩ := h
  match ws, hl with
  | [w, u], _ =>
    refine ⟨w, rfl, _, rfl, a, C, rfl, T, n1, .inl ⟨ha, fun dx hd ne => ?_⟩⟩
    refine ⟨u, rfl, _, rfl, a, C, rfl, T, n2, .inr ⟨dx, [(f, w)], upd_same, by rw [upd_ne ne]; exact upd_same, by show 1 ≤ 900; decide, ?_⟩⟩
    rw [upd_comm2 ne]
    exact hq dx hd ne
theorem init3 (T : OexC K C) (n1 : PySem.W.findIn K (.ref C) f = some none) (n2 : PySem.W.findIn K (.ref C) g = some none) (n3 : PySem.W.findIn K (.ref C) k = some none) (h : spX C [f, g, k] vs H Q E) :
    tSeq (tOst K f (tVar 0) (tVar 1)) (tSeq (tOst K g (tVar 0) (tVar 2)) (tOst K k (tVar 0) (tVar 3))) { nx := fun _ H' => Q .non H', rt := Q } (L2.start ["self", f, g, k] vs) H := by
  obtain ⟨a, ws, rfl, hl, ha, hq⟩ := h
  match ws, hl with
  | [w, u, z], _ =>
    refine ⟨w, rfl, _, rfl, a, C, rfl, T, n1, .inl ⟨ha, fun dx hd ne => ?_⟩⟩
    refine ⟨u, rfl, _, rfl, a, C, rfl, T, n2, .inr ⟨dx, [(f, w)], upd_same, by rw [upd_ne ne]; exact upd_same, by show 1 ≤ 900; decide, ?_⟩⟩
    rw [upd_comm2 ne]
    refine ⟨z, rfl, _, rfl, a, C, rfl, T, n3, .inr ⟨dx, [(g, u), (f, w)], upd_same, by rw [upd_ne ne]; exact upd_same, by show 2 ≤ 900; decide, ?_⟩⟩
    rw [upd_comm2 ne]
    exact hq dx hd ne
end
def oexB1 (o : Obj) (C : Addr) : Bool := match o with
  | ⟨.type t, _, .cls cd, sl⟩ => (match cd.mro, sl.toList with
    | .ref C' :: bm, [_, _, _, _, some (.builtin n), _] => decide (t = "type") && (decide (C' = C) && (decide (n = "ValueError.__new__") && (!cd.hasDel && (cd.hasDict && PySem.HandSPX.refsVE bm))))
    | _, _ => false)
  | _ => false
def oexB (K : PySem.W.Frag) (C : Addr) : Bool := (match K.lookup C with
  | some o => oexB1 o C
  | _ => false) && (He.eqO (PySem.W.findIn K (.ref C) "__setattr__") (some (some (.builtin "object.__setattr__"))) && (decide (PySem.W.subIn K (.ref C) (.type "BaseException") = some true) && (decide (PySem.W.typeIn K (.ref C) = some (.type "type")) && (PySem.W.keepIn K (.ref C) && xfB K C))))
theorem oexB1_ok {o : Obj} {C : Addr} (h : oexB1 o C = true) : ∃ nm q N bs bm sn sub ab col dd k0 k1 k2 k3 k5, o = excClassObj nm q C N bs bm true sn sub ab col dd k0 k1 k2 k3 k5 "ValueError.__new__" ∧ PySem.HandSPX.refsVE bm = true := by
  obtain ⟨oc, od, dt, sl⟩ := o
  cases oc with
  | type t =>
    cases dt with
    | cls cd =>
      obtain ⟨nm, bs, mro, ns, qn, hd, sn, sb, ab, col, del⟩ := cd
      obtain ⟨sl⟩ := sl
      unfold oexB1 at h
      dsimp only at h
      split at h
      · obtain ⟨h1, h⟩ := He.ba h
        obtain ⟨h2, h⟩ := He.ba h
        obtain ⟨h3, h⟩ := He.ba h
        obtain ⟨h4, h⟩ := He.ba h
        obtain ⟨h5, h6⟩ := He.ba h
        have e1 := of_decide_eq_true h1
        have e2 := of_decide_eq_true h2
        have e3 := of_decide_eq_true h3
        subst e1 e2 e3 h5
        cases del with
        | true => cases h4
        | false => exact ⟨_, _, _, _, _, _, _, _, _, _, _, _, _, _, _, rfl, h6⟩
      · cases h
    | _ => cases h
  | _ => cases dt <;> cases h
theorem oexB_ok {K : PySem.W.Frag} {C : Addr} (h : oexB K C = true) : OexC K C ∧ XfC K C := by
  obtain ⟨h1, h⟩ := He.ba h
  obtain ⟨h2, h⟩ := He.ba h
  obtain ⟨h3, h⟩ := He.ba h
  obtain ⟨h4, h⟩ := He.ba h
  obtain ⟨h5, h6⟩ := He.ba h
  refine ⟨⟨?_, He.eqO_ok h2, of_decide_eq_true h3, of_decide_eq_true h4, h5⟩, xfB_ok h6⟩
  cases e : K.lookup C with
  | none => rw [e] at h1; cases h1
  | some o =>
    rw [e] at h1
    obtain ⟨nm, q, N, bs, bm, sn, sub, ab, col, dd, k0, k1, k2, k3, k5, e2, e3⟩ := oexB1_ok h1
    exact ⟨nm, q, N, bs, bm, sn, sub, ab, col, dd, k0, k1, k2, k3, k5, by rw [e2], e3⟩
theorem isFn_ok {K : PySem.W.Frag} {v : Value} (h : PySem.W.isFn K v = true) : PySem.W.typeIn K v = some (.type "function") := by
  unfold PySem.W.isFn at h
  exact beq_iff_eq.mp h
/-! ### the start of a law -/
def scrOf (H : Hp) : Hp := fun b => match H b with
  | some (.lst xs) => some (.lst xs)
  | some (.frz o (.lst xs)) => some (.frz o (.lst xs))
  | _ => none
theorem start_law {K : PySem.W.Frag} {F : Fc} {H : Hp} {a : Addr} {ns : List Int} (hS : SqL K H a (ns.map V.int)) (hF : F Unit W0 () [.dat (.scr ns)] (fun _ s => s = .dat (.bl true)) fun _ _ _ => False) :
    spF K F [.ref a] H (fun v _ => v = .bl true) fun _ _ _ => False := by
  have ex : Ex (scrOf H) H := fun b o h => by
    unfold scrOf at h
    split at h
    · rename_i e; rw [e]; exact h
    · rename_i e; rw [e]; exact h
    · cases h
  refine ⟨Unit, W0, (), scrOf H, [.dat (.scr ns)], fun _ s => s = .dat (.bl true), fun _ _ _ => False, ⟨ex, trivial, fun _ z => z.elim, fun b o u h hu => ?_⟩, ?_, rfl, hF, ?_, fun _ _ _ _ _ _ _ _ _ _ _ _ _ z => z.elim⟩
  · unfold scrOf at h
    split at h
    · cases h
    · rename_i xs e; cases h; exact (hu xs rfl).elim
    · cases h
  · refine .cons (Rp.scr ?_) .nil
    rcases hS with hS | hS
    · left
      rcases hS with hS | ⟨o, hS⟩
      · exact .inl (by unfold scrOf; rw [hS])
      · exact .inr ⟨o, by unfold scrOf; rw [hS]⟩
    · exact .inr hS
  · intro v s m' G' H' _ r e
    subst e
    cases r
    rfl
end DL
set_option Elab.async false
set_option linter.all false
set_option maxRecDepth 100000
set_option maxHeartbeats 1000000
namespace DL
open PySem PySem.Spec PyProof.Rows L2 Evl
variable {ι : Type} {m m' m1 : ι}
/-! ### a list of new own things -/
section
variable {K : PySem.W.Frag} {F : Addr → Prop} {G H : Hp}
theorem RIts.append : ∀ {vs ws : List V} {is js : List It}, RIts K F G H vs is → RIts K F G H ws js → RIts K F G H (vs ++ ws) (is ++ js)
  | _, _, _, _, .nil, s => s
  | _, _, _, _, .cons h r, s => .cons h (RIts.append r s)
theorem kids_append {vs ws : List V} {is js : List It} (h : vs.length = is.length) : kids (vs ++ ws) (is ++ js) = kids vs is ++ kids ws js := by
  induction vs generalizing is with
  | nil =>
    cases is with
    | nil => rfl
    | cons _ _ => simp at h
  | cons v vs ih =>
    cases is with
    | nil => simp at h
    | cons i is =>
      have h2 : vs.length = is.length := by simpa using h
      cases i with
      | d d => rw [List.cons_append, List.cons_append, kids_d, kids_d, ih h2]
      | o o =>
        cases v with
        | ref q => rw [List.cons_append, List.cons_append, kids_o, kids_o, ih h2]; rfl
        | _ =>
          have e : ∀ (w : V) (l : List V) (k : List It), (∀ q, w ≠ .ref q) → kids (w :: l) (.o o :: k) = kids l k := fun w l k hw => by cases w <;> first | rfl | exact absurd rfl (hw _)
          rw [List.cons_append, List.cons_append, e _ _ _ (fun _ z => by cases z), e _ _ _ (fun _ z => by cases z), ih h2]
end
section
variable {c : Cc ι} {ρ : List S} {Φ : ι → S → Prop} {te : TE} {tt : TT} {wi : TI} {g : TG} {vs : List Nat}
theorem de_lcN (h : DI c m wi ρ fun m ds => ds.length < 1000000 ∧ ∃ J : Nat → ι → List O1 → Prop, J 0 m [] ∧
    (∀ i d m acc, ds[i]? = some d → J i m acc → ∃ ρ', DG c m g vs d (wipeS ρ vs) ρ' ∧ De c m te ρ' fun m s => ∃ o, s = .own (.one o) ∧ J (i + 1) m (acc ++ [o])) ∧
    ∀ m acc, J ds.length m acc → Φ m (.own (.nest (acc.map It.o)))) (hw : noEls vs ρ = true := by with_unfolding_all rfl) : De c m (tLc wi g tYes te vs) ρ Φ := fun σ G H e Q q => h σ G H e _ fun I ds m1 G1 H1 g1 it ⟨hl, J, j0, jt, jd⟩ => fun Dd hD => by
  have e1 := e.grow g1
  have mD : ¬ c.W.M Dd := fun m => c.W.ne e1.ok.inv m hD
  have gD : G1 Dd = none := fresh_back e1.ok.ex hD
  let W : Nat → Nat → Hp → Prop := fun i m H2 => m = ds.length - i ∧ i ≤ ds.length ∧ ∃ m2 G2 xs acc, Grow c.W G1 H1 m2 G2 H2 ∧ H2 Dd = some (.lst xs) ∧ G2 Dd = none ∧ RIts c.K (Fr c.W H1 G2) G2 H2 xs (acc.map It.o) ∧ (Dd :: kids xs (acc.map It.o)).Nodup ∧ acc.length ≤ i ∧ J i m2 acc
  refine ⟨W, ⟨ds.length, by simp, Nat.zero_le _, m1, G1, [], [], (e1.refl).mut hD gD mD, upd_same, gD, .nil, by simp [kids], Nat.le_refl _, j0⟩, ?_⟩
  rintro i m H2 ⟨em, hi, m2, G2, xs, acc, g2, hx, hn, rx, nd, ha, j⟩
  have e2 := e1.grow g2
  obtain ⟨ih1, ih2⟩ := it m2 G2 H2 g2.ex e2.ok i
  by_cases hlt : i < ds.length
  · right
    have hd : ds[i]? = some ds[i] := by simp [hlt]
    obtain ⟨go, yl⟩ := ih1 _ hd
    refine ⟨go, W (i + 1) (m - 1), fun H' w => ⟨m - 1, by omega, w⟩, fun x H' y => ?_⟩
    obtain ⟨G3, g3, r3⟩ := yl x H' y
    obtain ⟨ρ', dg, ht⟩ := jt i _ m2 acc hd j
    have e3 := (e2.grow g3).wipe vs hw
    refine dg x _ G3 H' e3 r3 _ fun σ' f4 hw' => ⟨hw'.trans (wipe_wipe σ vs), ?_⟩
    have e4 := f4 _ _ _ (Ex.refl _) e3
    dsimp only [tYes]
    rw [if_pos rfl]
    refine ht σ' G3 H' e4 _ fun v s m5 G5 H5 g5 r5 ⟨o, es, j'⟩ => ?_
    subst es
    obtain ⟨p, rfl, fp, ob⟩ := r5
    have g35 := g3.trans g5
    have k1 : H5 Dd = some (.lst xs) := g35.keep _ _ mD hx
    have k2 : G5 Dd = none := g35.fresh _ _ hx rfl hn
    have rk := rx.monoA g35.ex (F' := Fr c.W H1 G5) (H' := H5) fun a ha => by
      obtain ⟨f, u, hu, t⟩ := rx.kid ha
      exact g35.fr a f ⟨u, hu, pln_t t⟩
    have new : ∀ a, H' a ≠ none → a ≠ p := fun a ha z => ha (by rw [z]; exact fp.1)
    have pD : Dd ≠ p := new Dd (by rw [g3.keep _ _ mD hx]; exact fun z => by cases z)
    have pk : p ∉ kids xs (acc.map It.o) := fun z => by
      obtain ⟨f, u, hu, t⟩ := rx.kid z
      exact new p (by rw [(g3.fr p f ⟨u, hu, pln_t t⟩).1, hu]; exact fun z => by cases z) rfl
    have p1 : H1 p = none := (g2.trans g3).back fp.1
    have len := rx.length
    rw [List.length_map] at len
    obtain ⟨n1, n2⟩ := List.nodup_cons.mp nd
    have ndk : (kids xs (acc.map It.o) ++ kids [V.ref p] [It.o o]).Nodup := by
      rw [List.nodup_append]
      refine ⟨n2, by simp [kids], fun a ha b hb z => ?_⟩
      simp [kids] at hb
      exact pk (by rw [← hb, ← z]; exact ha)
    have up : RIts c.K (Fr c.W H1 G5) G5 (upd H5 Dd (.lst (xs ++ [V.ref p]))) (xs ++ [V.ref p]) ((acc ++ [o]).map It.o) := by
      rw [List.map_append]
      refine RIts.append (rk.monoA (Ex.refl _) fun a ha => ⟨upd_ne fun z => n1 (by rw [← z]; exact ha), (rk.kid ha).1⟩) (.cons ⟨p, rfl, ⟨p1, fp.2⟩, ob.mono (Ex.refl _) (upd_ne (Ne.symm pD))⟩ .nil)
    refine ⟨xs, k1, szl (by omega), by omega, hlt, m5, G5, xs ++ [V.ref p], acc ++ [o], (g2.trans g35).mut hD k2 mD, upd_same, k2, up, ?_, by rw [List.length_append]; show acc.length + 1 ≤ i + 1; omega, j'⟩
    rw [List.map_append, kids_append (by rw [List.length_map]; exact len)]
    refine List.nodup_cons.mpr ⟨fun z => ?_, ndk⟩
    rcases List.mem_append.mp z with z | z
    · exact n1 z
    · simp [kids] at z; exact pD z
  · left
    have hl2 : i = ds.length := by omega
    refine ⟨ih2 hl2, ?_⟩
    subst hl2
    refine q (.ref Dd) (.own (.nest (acc.map It.o))) m2 G2 H2 (g1.trans g2) ⟨Dd, rfl, ⟨g1.back hD, hn, mD⟩, xs, hx, rx.monoA (Ex.refl _) fun a ha => ⟨rfl, ?_⟩, nd⟩ (jd m2 acc j)
    obtain ⟨f, _⟩ := rx.kid ha
    exact ⟨g1.back f.1, f.2⟩
/-- [f x for x in ..], each f x a new own thing -/
theorem de_lcNM {f : D → O1} (h : DI c m wi ρ fun m ds => ds.length < 1000000 ∧ (∀ d ∈ ds, ∃ ρ', DG c m g vs d (wipeS ρ vs) ρ' ∧ De c m te ρ' fun m' s => m' = m ∧ s = .own (.one (f d))) ∧ Φ m (.own (.nest (ds.map fun d => It.o (f d))))) (hw : noEls vs ρ = true := by with_unfolding_all rfl) : De c m (tLc wi g tYes te vs) ρ Φ :=
  de_lcN (h.imp fun m ds ⟨hl, h1, h2⟩ => ⟨hl, fun i m2 acc => m2 = m ∧ acc = (ds.take i).map f, by simp, fun i d m2 acc hd ⟨em, ha⟩ => by
    subst em
    obtain ⟨ρ', h3, h4⟩ := h1 d (List.mem_of_getElem? hd)
    refine ⟨ρ', h3, h4.imp fun m3 s ⟨em, hs⟩ => ⟨f d, hs, em, ?_⟩⟩
    rw [ha, List.take_add_one, hd]
    simp, fun m2 acc ⟨em, ha⟩ => by rw [em, ha, List.take_length, List.map_map]; exact h2⟩) hw
end
end DL
set_option Elab.async false
set_option linter.all false
set_option maxRecDepth 100000
set_option maxHeartbeats 1000000
/-! plain mathematics: binomials -/
namespace KM
def ch : Nat → Nat → Nat
  | _, 0 => 1
  | 0, _ + 1 => 0
  | n + 1, k + 1 => ch n k + ch n (k + 1)
@[simp] theorem ch_zero (n : Nat) : ch n 0 = 1 := by cases n <;> rfl
@[simp] theorem ch_zs (k : Nat) : ch 0 (k + 1) = 0 := rfl
theorem ch_ss (n k : Nat) : ch (n + 1) (k + 1) = ch n k + ch n (k + 1) := rfl
theorem ch_gt : ∀ {n k : Nat}, n < k → ch n k = 0
  | _, 0, h => by omega
  | 0, k + 1, _ => rfl
  | n + 1, k + 1, h => by rw [ch_ss, ch_gt (by omega), ch_gt (by omega)]
theorem ch_self : ∀ n : Nat, ch n n = 1
  | 0 => rfl
  | n + 1 => by rw [ch_ss, ch_self n, ch_gt (by omega)]
theorem succ_mul : ∀ n k : Nat, (n + 1) * ch n k = ch (n + 1) (k + 1) * (k + 1)
  | 0, 0 => rfl
  | 0, k + 1 => by simp [ch_ss]
  | n + 1, 0 => by
    have h := succ_mul n 0
    rw [ch_zero] at h
    rw [ch_zero, ch_ss (n + 1) 0, ch_zero]
    omega
  | n + 1, k + 1 => by
    have h1 := succ_mul n k
    have h2 := succ_mul n (k + 1)
    rw [ch_ss (n + 1) (k + 1), Nat.add_mul (ch (n + 1) (k + 1)), ← h2]
    have e : ch (n + 1) (k + 1) * (k + 1 + 1) = ch (n + 1) (k + 1) * (k + 1) + ch (n + 1) (k + 1) := Nat.mul_succ _ _
    rw [e, ← h1]
    have e2 : (n + 1 + 1) * ch (n + 1) (k + 1) = (n + 1) * ch (n + 1) (k + 1) + ch (n + 1) (k + 1) := Nat.succ_mul _ _
    rw [e2, ch_ss n k, Nat.mul_add]
    omega
theorem ch_step (n k : Nat) : ch n (k + 1) * (k + 1) = ch n k * (n - k) := by
  have e : (n + 1) * ch n k = ch n (k + 1) * (k + 1) + ch n k * (k + 1) := by
    rw [← Nat.add_mul, Nat.add_comm (ch n (k + 1)), ← ch_ss, succ_mul]
  by_cases h : k ≤ n
  · have e2 : (n + 1) * ch n k = ch n k * (n - k) + ch n k * (k + 1) := by
      rw [← Nat.mul_add, show n - k + (k + 1) = n + 1 by omega, Nat.mul_comm]
    omega
  · rw [ch_gt (by omega : n < k), ch_gt (by omega : n < k + 1)]
    simp
theorem ch_div (n k : Nat) : ch n k * (n - k) / (k + 1) = ch n (k + 1) := by
  rw [← ch_step]
  exact Nat.mul_div_cancel _ (by omega)
theorem ch_divI (n k : Nat) : (ch n k : Int) * max 0 ((n : Int) - k) / ((k : Int) + 1) = ch n (k + 1) := by
  have e : max (0 : Int) ((n : Int) - k) = ((n - k : Nat) : Int) := by omega
  rw [e, ← ch_div n k]
  push_cast
  rfl
theorem ch_le : ∀ n k : Nat, ch n k ≤ 2 ^ n
  | 0, 0 => by decide
  | 0, k + 1 => by rw [ch_zs]; exact Nat.zero_le _
  | n + 1, 0 => by rw [ch_zero]; exact Nat.one_le_two_pow
  | n + 1, k + 1 => by
    rw [ch_ss, Nat.pow_succ]
    have h1 := ch_le n k
    have h2 := ch_le n (k + 1)
    omega
end KM

/-! the dues come to all teams -/
namespace KM
def G : Nat → (Nat → Nat) → Nat
  | 0, f => f 0
  | n + 1, f => G n f + G n fun j => f (j + 1)
def rs (s : Nat) (g : Nat → Nat) : Nat → Nat
  | 0 => 0
  | k + 1 => rs s g k + ch s k * g k
theorem rs_succ (s : Nat) : ∀ (k : Nat) (g : Nat → Nat), rs (s + 1) g (k + 1) = rs s g (k + 1) + rs s (fun j => g (j + 1)) k
  | 0, g => by simp [rs]
  | k + 1, g => by
    show rs (s + 1) g (k + 1) + ch (s + 1) (k + 1) * g (k + 1) = (rs s g (k + 1) + ch s (k + 1) * g (k + 1)) + (rs s (fun j => g (j + 1)) k + ch s k * g (k + 1))
    rw [rs_succ s k g, ch_ss, Nat.add_mul]
    omega
theorem rs_G : ∀ (s : Nat) (g : Nat → Nat), rs s g (s + 1) = G s g
  | 0, g => by simp [rs, G]
  | s + 1, g => by
    rw [rs_succ, rs_G s, G, rs, rs_G s, ch_gt (by omega)]
    simp
theorem sum_range (s : Nat) (g : Nat → Nat) : ∀ k, ((List.range k).map fun n => ch s n * g n).sum = rs s g k
  | 0 => rfl
  | k + 1 => by
    rw [List.range_succ, List.map_append, List.sum_append, sum_range s g k, rs]
    simp
theorem G_add : ∀ (a b : Nat) (f : Nat → Nat), G a (fun c => G b fun n => f (c + n)) = G (a + b) f
  | 0, b, f => by simp [G]
  | a + 1, b, f => by
    rw [G, G_add a b f]
    have e := G_add a b fun j => f (j + 1)
    have e2 : (fun c => G b fun n => f (c + 1 + n)) = fun c => G b fun n => f (c + n + 1) := by
      funext c
      congr 1
      funext n
      congr 1
      omega
    rw [e2, e, Nat.add_right_comm a 1 b, G]
theorem G_zero : ∀ n : Nat, G n (fun _ => 0) = 0
  | 0 => rfl
  | n + 1 => by rw [G, G_zero n]
theorem G_ind : ∀ (n t : Nat), G n (fun j => if j = t then 1 else 0) = ch n t
  | 0, 0 => rfl
  | 0, t + 1 => by simp [G]
  | n + 1, 0 => by
    rw [G, G_ind n 0]
    have : (fun j => if j + 1 = 0 then 1 else 0) = fun _ : Nat => 0 := by funext j; simp
    rw [this, G_zero, ch_zero, ch_zero]
  | n + 1, t + 1 => by
    rw [G, G_ind n (t + 1)]
    have : (fun j => if j + 1 = t + 1 then 1 else 0) = fun j : Nat => if j = t then 1 else 0 := by funext j; simp
    rw [this, G_ind n t, ch_ss]
    omega
end KM
set_option Elab.async false
set_option linter.all false
set_option maxRecDepth 100000
set_option maxHeartbeats 1000000
namespace Pf
open PySem PySem.Spec PyProof.Rows L2 DL
abbrev FnP (K : PySem.W.Frag) (x : Str) (st : Stmt) (f : Addr) (fd : FuncData) : Prop := FunD K x x (defArgs st) (defBody st) (defScope st) [] [] f fd
structure BI (mg : Str → Option Value) : Prop where
  len : mg "len" = none
  isinstance : mg "isinstance" = none
  int_ : mg "int" = none
  bool_ : mg "bool" = none
  list_ : mg "list" = none
  tuple_ : mg "tuple" = none
  dict_ : mg "dict" = none
  range : mg "range" = none
  max : mg "max" = none
  min : mg "min" = none
  sum : mg "sum" = none
  all : mg "all" = none
  any : mg "any" = none
  sorted : mg "sorted" = none
  zip : mg "zip" = none
  enumerate : mg "enumerate" = none
  str_ : mg "str" = none
  set_ : mg "set" = none
  repr : mg "repr" = none
  reversed : mg "reversed" = none
theorem spF_len {K : PySem.W.Frag} {C : Fc} {m : Nat} (h : ∀ κ W m' ss Φ Ξ, C κ W m' ss Φ Ξ → ss.length = m) (vs : List V) (H : Hp) (Q : VK) (E : XK) (q : spF K C vs H Q E) : vs.length = m := by
  obtain ⟨κ, W, m', G, ss, Φ, Ξ, _, rs, _, c, _⟩ := q
  rw [rs.length]
  exact h κ W m' ss Φ Ξ c
theorem rng_at {lo : Int} {n i : Nat} {d : D} (h : (rngD lo n)[i]? = some d) : i < n ∧ d = .int (lo + (i : Nat)) := by
  have hi : i < n := by
    have := (List.getElem?_eq_some_iff.mp h).1
    simpa [rngD] using this
  refine ⟨hi, ?_⟩
  unfold rngD at h
  rw [List.getElem?_map, List.getElem?_range hi] at h
  exact (Option.some.inj h).symm
theorem rng_len {lo : Int} {n : Nat} : (rngD lo n).length = n := by simp [rngD]
theorem hu65 {A : Around} {k : Nat} (hr : Room k A) : A.units + 65 < cLine := by have := hr.un; omega
end Pf

set_option Elab.async false
set_option linter.all false
set_option maxRecDepth 100000
set_option maxHeartbeats 1000000
namespace Pf
open PySem PySem.Spec PyProof.Rows L2 DL
/-! ### lists of numbers as data -/
def dN (sz : List Nat) : List D := sz.map fun n => D.int (n : Nat)
theorem dN_ints (sz : List Nat) : dN sz = (sz.map fun n : Nat => (n : Int)).map D.int := by simp [dN, List.map_map]
theorem dN_len (sz : List Nat) : (dN sz).length = sz.length := by simp [dN]
theorem dN_mem {sz : List Nat} {d : D} (h : d ∈ dN sz) : ∃ n : Nat, n ∈ sz ∧ d = .int n := by
  unfold dN at h
  obtain ⟨n, hn, rfl⟩ := List.mem_map.mp h
  exact ⟨n, hn, rfl⟩
theorem dN_get {sz : List Nat} {i : Nat} : (dN sz)[i]? = (sz[i]?).map fun n => D.int (n : Nat) := by simp [dN]
theorem sumI (sz : List Nat) : (sz.map fun n : Nat => (n : Int)).sum = (sz.sum : Nat) := by
  induction sz with
  | nil => rfl
  | cons a l ih => simp [ih]
def isSeq (s : S) (ns : List Nat) : Prop := s = .dat (.lst (dN ns)) ∨ s = .dat (.tup (dN ns))
def GSz (sz : List Nat) : Prop := 1 ≤ sz.length ∧ (∀ s ∈ sz, 1 ≤ s) ∧ sz.sum ≤ 10
theorem len_le_sum : ∀ {sz : List Nat}, (∀ s ∈ sz, 1 ≤ s) → sz.length ≤ sz.sum
  | [], _ => Nat.le_refl _
  | a :: l, h => by
    have h1 := h a (by simp)
    have h2 := len_le_sum (sz := l) fun s hs => h s (by simp [hs])
    simp
    omega
theorem mem_le_sum : ∀ {sz : List Nat} {s : Nat}, s ∈ sz → s ≤ sz.sum
  | a :: l, s, h => by
    simp
    rcases List.mem_cons.mp h with rfl | h
    · omega
    · have := mem_le_sum h; omega
section
variable {ι : Type} {K : PySem.W.Frag} {W : Wd ι} {m : ι} {Φ : ι → S → Prop}
theorem cb_sumN {s : S} {sz : List Nat} (h1 : s.lst? = some (dN sz) ∨ s.tup? = some (dN sz)) (h : Φ m (.dat (.int (sz.sum : Nat)))) : CbS K W m (rSumA K) [s] Φ := by
  refine cb_sum (ns := sz.map fun n : Nat => (n : Int)) ?_ ?_
  · rw [← dN_ints]; exact h1
  · rw [sumI]; exact h
theorem cb_allM {ds : List D} {t : D → Bool} (h : Φ m (.dat (.bl (ds.all t)))) : CbS K W m (rAll K) [.own (.lst (ds.map fun d => .bl (t d)))] Φ := by
  refine cb_all (bs := ds.map t) (by show some _ = _; rw [List.map_map]; rfl) ?_
  have e : (ds.map t).all id = ds.all t := by rw [List.all_map]; rfl
  rw [e]; exact h
theorem cb_allT {α : Type} {l : List α} (h : Φ m (.dat (.bl true))) : CbS K W m (rAll K) [.own (.lst (l.map fun _ => D.bl true))] Φ := by
  refine cb_all (bs := l.map fun _ => true) (by show some _ = _; rw [List.map_map]; rfl) ?_
  have e : (l.map fun _ => true).all id = true := by rw [List.all_map]; simp
  rw [e]; exact h
theorem cb_anyM {ds : List D} {t : D → Bool} (h : Φ m (.dat (.bl (ds.any t)))) : CbS K W m (rAny K) [.own (.lst (ds.map fun d => .bl (t d)))] Φ := by
  refine cb_any (bs := ds.map t) (by show some _ = _; rw [List.map_map]; rfl) ?_
  have e : (ds.map t).any id = ds.any t := by rw [List.any_map]; rfl
  rw [e]; exact h
end
/-! ### games -/
def gD (gs : List (Nat × Nat)) : List (Key × D) := gs.map fun p => (Sum.inl (p.1 : Int), D.int (p.2 : Nat))
theorem gD_len (gs : List (Nat × Nat)) : (gD gs).length = gs.length := by simp [gD]
theorem gD_keys (gs : List (Nat × Nat)) : (gD gs).map (·.1) = (gs.map fun p => (p.1 : Int)).map Sum.inl := by simp [gD, List.map_map]
theorem gD_mem {gs : List (Nat × Nat)} {p : Key × D} (h : p ∈ gD gs) : ∃ t v : Nat, (t, v) ∈ gs ∧ p = (Sum.inl (t : Int), D.int v) := by
  unfold gD at h
  obtain ⟨⟨t, v⟩, hn, rfl⟩ := List.mem_map.mp h
  exact ⟨t, v, hn, rfl⟩
/-- how often a team of t people plays -/
def gv (gs : List (Nat × Nat)) (t : Nat) : Option Nat := (gs.find? fun p => decide (p.1 = t)).map (·.2)
theorem gD_val (gs : List (Nat × Nat)) (t : Nat) : valD (gD gs) (Sum.inl (t : Int)) = (gv gs t).map fun v => D.int (v : Nat) := by
  induction gs with
  | nil => rfl
  | cons p l ih =>
    obtain ⟨a, v⟩ := p
    by_cases h : a = t
    · subst h; simp [valD, gD, gv]
    · have h2 : (a : Int) ≠ t := by omega
      have e1 : valD (gD ((a, v) :: l)) (Sum.inl (t : Int)) = valD (gD l) (Sum.inl (t : Int)) := by simp [valD, gD, h2]
      have e2 : gv ((a, v) :: l) t = gv l t := by simp [gv, h]
      rw [e1, e2, ih]
theorem gv_mem {gs : List (Nat × Nat)} (nd : (gs.map (·.1)).Nodup) {t v : Nat} (h : (t, v) ∈ gs) : gv gs t = some v := by
  induction gs with
  | nil => cases h
  | cons p l ih =>
    obtain ⟨a, u⟩ := p
    rw [List.map_cons, List.nodup_cons] at nd
    rcases List.mem_cons.mp h with h | h
    · cases h; simp [gv]
    · have : a ≠ t := fun z => nd.1 (by rw [z]; exact List.mem_map.mpr ⟨_, h, rfl⟩)
      have e2 : gv ((a, u) :: l) t = gv l t := by simp [gv, this]
      rw [e2]; exact ih nd.2 h
theorem gv_some {gs : List (Nat × Nat)} {t v : Nat} (h : gv gs t = some v) : (t, v) ∈ gs := by
  unfold gv at h
  cases z : gs.find? fun p => decide (p.1 = t) with
  | none => rw [z] at h; cases h
  | some p =>
    rw [z] at h
    cases h
    have h1 := List.find?_some z
    have h2 := List.mem_of_find?_eq_some z
    simp at h1
    subst h1
    exact h2
/-- all teams of the games -/
def tot (n : Nat) (gs : List (Nat × Nat)) : Nat := (gs.map fun p => p.2 * KM.ch n p.1).sum
structure GGm (n : Nat) (gs : List (Nat × Nat)) : Prop where
  l1 : 1 ≤ gs.length
  l2 : gs.length ≤ 2
  ok : ∀ t v : Nat, (t, v) ∈ gs → 1 ≤ t ∧ t ≤ 4 ∧ t ≤ n ∧ 1 ≤ v ∧ v ≤ 3
  nd : (gs.map (·.1)).Nodup
def Good (sz : List Nat) (gs : List (Nat × Nat)) : Prop := GSz sz ∧ GGm sz.sum gs ∧ tot sz.sum gs ≤ 130
end Pf

set_option Elab.async false
set_option linter.all false
set_option maxRecDepth 100000
set_option maxHeartbeats 1000000
namespace Pf
open PySem PySem.Spec PyProof.Rows L2 DL
/-! ### tuples below sizes -/
abbrev tD (k : List Nat) : D := .tup (dN k)
def stepT (acc : List (List Nat)) (s : Nat) : List (List Nat) := acc.flatMap fun one => (List.range (s + 1)).map fun n => one ++ [n]
def TB (sz : List Nat) : List (List Nat) := sz.foldl stepT [[]]
theorem stepT_len (acc : List (List Nat)) (s : Nat) : (stepT acc s).length = acc.length * (s + 1) := by
  unfold stepT
  induction acc with
  | nil => simp
  | cons a l ih => simp [ih, Nat.add_mul]; omega
theorem le_two (s : Nat) : s + 1 ≤ 2 ^ s := by
  induction s with
  | zero => simp
  | succ n ih => rw [Nat.pow_succ]; omega
theorem fold_len (sz : List Nat) : ∀ acc, (sz.foldl stepT acc).length ≤ acc.length * 2 ^ sz.sum := by
  induction sz with
  | nil => intro acc; simp
  | cons s l ih =>
    intro acc
    rw [List.foldl_cons]
    refine Nat.le_trans (ih _) ?_
    rw [stepT_len, List.sum_cons, Nat.pow_add, Nat.mul_assoc]
    exact Nat.mul_le_mul_left _ (Nat.mul_le_mul_right _ (le_two s))
theorem TB_len {sz : List Nat} (h : sz.sum ≤ 10) : (TB sz).length ≤ 1024 := by
  have := fold_len sz [[]]
  unfold TB
  refine Nat.le_trans this ?_
  have : 2 ^ sz.sum ≤ 2 ^ 10 := Nat.pow_le_pow_right (by decide) h
  simpa using this
theorem sum_take_le (sz : List Nat) (i : Nat) : (sz.take i).sum ≤ sz.sum := by
  have := congrArg List.sum (List.take_append_drop i sz)
  rw [List.sum_append] at this
  omega
theorem TB_succ {sz : List Nat} {i s : Nat} (h : sz[i]? = some s) : TB (sz.take (i + 1)) = stepT (TB (sz.take i)) s := by
  unfold TB
  rw [List.take_add_one, h]
  simp
/-- k lies below sz -/
def Below (k sz : List Nat) : Prop := k.length = sz.length ∧ ∀ i a s : Nat, k[i]? = some a → sz[i]? = some s → a ≤ s
theorem fold_mem (sz : List Nat) : ∀ (acc : List (List Nat)) (k : List Nat), k ∈ sz.foldl stepT acc ↔ ∃ a b, a ∈ acc ∧ Below b sz ∧ k = a ++ b := by
  induction sz with
  | nil =>
    intro acc k
    rw [List.foldl_nil]
    constructor
    · intro h; exact ⟨k, [], h, ⟨rfl, fun i a s h => by simp at h⟩, by simp⟩
    · rintro ⟨a, b, ha, ⟨hb, _⟩, rfl⟩
      have : b = [] := List.length_eq_zero_iff.mp hb
      subst this
      simpa using ha
  | cons s l ih =>
    intro acc k
    rw [List.foldl_cons, ih]
    constructor
    · rintro ⟨a, b, ha, ⟨hl, hb⟩, rfl⟩
      unfold stepT at ha
      obtain ⟨one, h1, h2⟩ := List.mem_flatMap.mp ha
      obtain ⟨n, h3, rfl⟩ := List.mem_map.mp h2
      refine ⟨one, n :: b, h1, ⟨by simp [hl], fun i x y hx hy => ?_⟩, by simp⟩
      cases i with
      | zero =>
        simp at hx hy
        subst hx hy
        have := List.mem_range.mp h3
        omega
      | succ j => exact hb j x y (by simpa using hx) (by simpa using hy)
    · rintro ⟨a, b, ha, ⟨hl, hb⟩, rfl⟩
      cases b with
      | nil => simp at hl
      | cons n b =>
        refine ⟨a ++ [n], b, ?_, ⟨by simpa using hl, fun i x y hx hy => hb (i + 1) x y (by simpa using hx) (by simpa using hy)⟩, by simp⟩
        unfold stepT
        refine List.mem_flatMap.mpr ⟨a, ha, List.mem_map.mpr ⟨n, List.mem_range.mpr ?_, rfl⟩⟩
        have := hb 0 n s rfl rfl
        omega
theorem TB_mem {sz k : List Nat} : k ∈ TB sz ↔ Below k sz := by
  unfold TB
  rw [fold_mem]
  constructor
  · rintro ⟨a, b, ha, hb, rfl⟩
    simp at ha
    subst ha
    simpa using hb
  · intro h
    exact ⟨[], k, by simp, h, by simp⟩
theorem below_sum : ∀ {k sz : List Nat}, Below k sz → k.sum ≤ sz.sum
  | [], [], _ => Nat.le_refl _
  | [], _ :: _, h => by simp [Below] at h
  | _ :: _, [], h => by simp [Below] at h
  | a :: k, s :: sz, ⟨hl, hb⟩ => by
    have h1 := hb 0 a s rfl rfl
    have h2 := below_sum (k := k) (sz := sz) ⟨by simpa using hl, fun i x y hx hy => hb (i + 1) x y (by simpa using hx) (by simpa using hy)⟩
    simp
    omega
/-! ### kinds -/
def dsum : D → Int
  | .tup xs => (xs.map fun | .int i => i | _ => 0).sum
  | _ => 0
theorem dsum_tD (k : List Nat) : dsum (tD k) = (k.sum : Nat) := by
  show ((k.map fun n : Nat => D.int (n : Nat)).map fun | .int i => i | _ => 0).sum = _
  rw [List.map_map, ← sumI]
  rfl
def tS (d e : D) : Bool := match d with
  | .int a => decide (dsum e = a)
  | _ => false
/-- the sizes of teams, in order -/
def ks (gs : List (Nat × Nat)) : List Nat := (srt (gs.map fun p => (p.1 : Int))).map Int.toNat
theorem ks_int (gs : List (Nat × Nat)) : srt (gs.map fun p => (p.1 : Int)) = (ks gs).map fun n : Nat => (n : Int) := by
  unfold ks
  rw [List.map_map]
  have : ∀ x ∈ srt (gs.map fun p => (p.1 : Int)), 0 ≤ x := fun x hx => by
    have := (srt_perm _).mem_iff.mp hx
    obtain ⟨p, _, rfl⟩ := List.mem_map.mp this
    omega
  conv => lhs; rw [← List.map_id (srt _)]
  apply List.map_congr_left
  intro x hx
  have := this x hx
  simp only [id, Function.comp]
  omega
theorem ks_perm (gs : List (Nat × Nat)) : (ks gs).Perm (gs.map (·.1)) := by
  have h := (srt_perm (gs.map fun p => (p.1 : Int))).map Int.toNat
  rw [List.map_map] at h
  unfold ks
  refine h.trans (List.Perm.of_eq ?_)
  apply List.map_congr_left
  intro p _
  simp
theorem ks_mem {gs : List (Nat × Nat)} {t : Nat} : t ∈ ks gs ↔ ∃ v, (t, v) ∈ gs := by
  rw [(ks_perm gs).mem_iff, List.mem_map]
  constructor
  · rintro ⟨⟨a, v⟩, h, rfl⟩; exact ⟨v, h⟩
  · rintro ⟨v, h⟩; exact ⟨_, h, rfl⟩
theorem ks_len (gs : List (Nat × Nat)) : (ks gs).length = gs.length := by rw [(ks_perm gs).length_eq, List.length_map]
def AK (sz : List Nat) (gs : List (Nat × Nat)) : List (List Nat) := (ks gs).flatMap fun t => (TB sz).filter fun k => decide (k.sum = t)
theorem AK_mem {sz : List Nat} {gs : List (Nat × Nat)} {k : List Nat} : k ∈ AK sz gs ↔ Below k sz ∧ ∃ v, (k.sum, v) ∈ gs := by
  unfold AK
  rw [List.mem_flatMap]
  constructor
  · rintro ⟨t, ht, hk⟩
    rw [List.mem_filter] at hk
    have : k.sum = t := by simpa using hk.2
    subst this
    exact ⟨TB_mem.mp hk.1, ks_mem.mp ht⟩
  · rintro ⟨hb, hv⟩
    exact ⟨k.sum, ks_mem.mpr hv, List.mem_filter.mpr ⟨TB_mem.mpr hb, by simp⟩⟩
theorem AK_len {sz : List Nat} {gs : List (Nat × Nat)} (h : sz.sum ≤ 10) (hg : gs.length ≤ 2) : (AK sz gs).length ≤ 2048 := by
  have key : ∀ l : List Nat, (l.flatMap fun t => (TB sz).filter fun k => decide (k.sum = t)).length ≤ l.length * 1024 := by
    intro l
    induction l with
    | nil => simp
    | cons a l ih =>
      rw [List.flatMap_cons, List.length_append, List.length_cons, Nat.add_mul]
      have h1 := List.length_filter_le (fun k : List Nat => decide (k.sum = a)) (TB sz)
      have h2 := TB_len h
      omega
  have := key (ks gs)
  rw [ks_len] at this
  unfold AK
  omega
/-- a value below the sizes -/
def btw2 (d : D) : Bool := match d with
  | .tup [x, .int s] => match x with
    | .int i => decide (0 ≤ i) && decide (i ≤ s)
    | _ => false
  | _ => false
def itb (sz : List Nat) (d : D) : Bool := match d with
  | .tup xs => decide (xs.length = sz.length) && (zipD xs (dN sz)).all btw2
  | _ => false
theorem zip_all : ∀ {xs : List D} {sz : List Nat}, xs.length = sz.length → ((zipD xs (dN sz)).all btw2 = true ↔ ∃ k, xs = dN k ∧ Below k sz)
  | [], [], _ => by
    refine ⟨fun _ => ⟨[], rfl, rfl, fun i a s h => by simp at h⟩, fun _ => rfl⟩
  | [], _ :: _, h => by simp at h
  | _ :: _, [], h => by simp at h
  | x :: xs, s :: sz, h => by
    have ih := zip_all (xs := xs) (sz := sz) (by simpa using h)
    have e : zipD (x :: xs) (dN (s :: sz)) = .tup [x, .int (s : Nat)] :: zipD xs (dN sz) := by simp [zipD, dN]
    rw [e, List.all_cons, Bool.and_eq_true, ih]
    constructor
    · rintro ⟨h1, k, rfl, hl, hb⟩
      cases x <;> simp [btw2] at h1
      rename_i i
      refine ⟨i.toNat :: k, by simp [dN]; omega, by simp [hl], fun j a y hx hy => ?_⟩
      cases j with
      | zero => simp at hx hy; omega
      | succ j => exact hb j a y (by simpa using hx) (by simpa using hy)
    · rintro ⟨k, hk, hl, hb⟩
      cases k with
      | nil => simp at hl
      | cons a k =>
        simp [dN] at hk
        obtain ⟨rfl, hk⟩ := hk
        refine ⟨?_, k, hk, by simpa using hl, fun i x y hx hy => hb (i + 1) x y (by simpa using hx) (by simpa using hy)⟩
        have := hb 0 a s rfl rfl
        simp [btw2]
        omega
theorem itb_iff {sz : List Nat} {d : D} : itb sz d = true ↔ ∃ k, d = tD k ∧ Below k sz := by
  constructor
  · intro h
    cases d <;> simp only [itb, Bool.false_eq_true] at h
    rename_i xs
    rw [Bool.and_eq_true, decide_eq_true_iff] at h
    obtain ⟨k, rfl, hb⟩ := (zip_all h.1).mp h.2
    exact ⟨k, rfl, hb⟩
  · rintro ⟨k, rfl, hb⟩
    show (decide ((dN k).length = sz.length) && (zipD (dN k) (dN sz)).all btw2) = true
    have hl : (dN k).length = sz.length := by rw [dN_len]; exact hb.1
    rw [Bool.and_eq_true, decide_eq_true_iff]
    exact ⟨hl, (zip_all hl).mpr ⟨k, rfl, hb⟩⟩
def isK (sz : List Nat) (gs : List (Nat × Nat)) (d : D) : Bool := itb sz d && (gv gs (dsum d).toNat).isSome
theorem isK_iff {sz : List Nat} {gs : List (Nat × Nat)} {d : D} : isK sz gs d = true ↔ ∃ k v, d = tD k ∧ Below k sz ∧ gv gs k.sum = some v := by
  unfold isK
  rw [Bool.and_eq_true, itb_iff]
  constructor
  · rintro ⟨⟨k, rfl, hb⟩, h⟩
    rw [dsum_tD, Int.toNat_natCast, Option.isSome_iff_exists] at h
    obtain ⟨v, hv⟩ := h
    exact ⟨k, v, rfl, hb, hv⟩
  · rintro ⟨k, v, rfl, hb, hv⟩
    refine ⟨⟨k, rfl, hb⟩, ?_⟩
    rw [dsum_tD, Int.toNat_natCast, hv]; rfl
def ways (sz k : List Nat) : Nat := ((sz.zip k).map fun p => KM.ch p.1 p.2).prod
/-! values one may ask about -/
def okD (d : D) : Prop := (∀ ds, d ≠ .dit ds) ∧ ∀ xs, d = .tup xs → ∀ x ∈ xs, ∀ ds, x ≠ .dit ds
end Pf

set_option Elab.async false
set_option linter.all false
set_option maxRecDepth 100000
set_option maxHeartbeats 1000000
namespace Pf
open KM
def due (sz : List Nat) (gs : List (Nat × Nat)) (k : List Nat) : Nat := (gv gs k.sum).getD 0 * ways sz k
theorem sum_flatMap {α β : Type} (f : β → Nat) (h : α → List β) : ∀ l : List α, ((l.flatMap h).map f).sum = (l.map fun a => ((h a).map f).sum).sum
  | [] => rfl
  | a :: l => by simp [sum_flatMap f h l]
theorem sum_mul {α : Type} (c : Nat) (f : α → Nat) : ∀ l : List α, (l.map fun a => c * f a).sum = c * (l.map f).sum
  | [] => rfl
  | a :: l => by simp [sum_mul c f l, Nat.mul_add]
theorem ways_snoc {l k : List Nat} (h : k.length = l.length) (s n : Nat) : ways (l ++ [s]) (k ++ [n]) = ways l k * ch s n := by
  unfold ways
  rw [List.zip_append h.symm]
  simp
theorem TB_snoc (l : List Nat) (s : Nat) : TB (l ++ [s]) = stepT (TB l) s := by
  unfold TB
  rw [List.foldl_append]
  rfl
theorem sum_congr {α : Type} {f g : α → Nat} : ∀ {l : List α}, (∀ a ∈ l, f a = g a) → (l.map f).sum = (l.map g).sum := fun {l} h => by rw [List.map_congr_left h]
theorem TB_G (sz : List Nat) : ∀ f : Nat → Nat, ((TB sz).map fun k => ways sz k * f k.sum).sum = G sz.sum f := by
  have key : ∀ (r : List Nat) (f : Nat → Nat), ((TB r.reverse).map fun k => ways r.reverse k * f k.sum).sum = G r.reverse.sum f := by
    intro r
    induction r with
    | nil => intro f; simp [TB, ways, G]
    | cons s r ih =>
      intro f
      rw [List.reverse_cons, TB_snoc, stepT, sum_flatMap]
      rw [show (r.reverse ++ [s]).sum = r.reverse.sum + s by simp, ← G_add, ← ih]
      apply sum_congr
      intro k hk
      have hl := (TB_mem.mp hk).1
      rw [List.map_map, ← rs_G, ← sum_range, ← sum_mul]
      apply sum_congr
      intro n _
      show ways (r.reverse ++ [s]) (k ++ [n]) * f (k ++ [n]).sum = _
      rw [ways_snoc hl, List.sum_append, Nat.mul_assoc]
      simp
  intro f
  have := key sz.reverse f
  rwa [List.reverse_reverse] at this
theorem sum_filter {α : Type} (p : α → Bool) (f : α → Nat) : ∀ l : List α, ((l.filter p).map f).sum = (l.map fun a => f a * if p a then 1 else 0).sum
  | [] => rfl
  | a :: l => by
    cases h : p a <;> simp [h, sum_filter p f l]
theorem dues_tot {sz : List Nat} {gs : List (Nat × Nat)} (nd : (gs.map (·.1)).Nodup) : ((AK sz gs).map (due sz gs)).sum = tot sz.sum gs := by
  unfold AK
  rw [sum_flatMap]
  have e1 : ((ks gs).map fun t => (((TB sz).filter fun k => decide (k.sum = t)).map (due sz gs)).sum) = (ks gs).map fun t => (gv gs t).getD 0 * ch sz.sum t := by
    apply List.map_congr_left
    intro t _
    have e2 : (((TB sz).filter fun k => decide (k.sum = t)).map (due sz gs)).sum = (((TB sz).filter fun k => decide (k.sum = t)).map fun k => (gv gs t).getD 0 * ways sz k).sum := by
      apply sum_congr
      intro k hk
      have : k.sum = t := by simpa using (List.mem_filter.mp hk).2
      unfold due
      rw [this]
    rw [e2, sum_mul, sum_filter]
    congr 1
    rw [← G_ind, ← TB_G]
    apply sum_congr
    intro k _
    simp
  rw [e1]
  have p := (ks_perm gs).map fun t => (gv gs t).getD 0 * ch sz.sum t
  rw [p.sum_nat, List.map_map]
  unfold tot
  apply sum_congr
  rintro ⟨t, v⟩ h
  show (gv gs t).getD 0 * ch sz.sum t = v * ch sz.sum t
  rw [gv_mem nd h]
  rfl
theorem prow_succ (i : Nat) : (List.range (i + 2)).map (ch (i + 1)) = [1] ++ (List.range i).map (fun k => ch i k + ch i (k + 1)) ++ [1] := by
  rw [List.range_succ, List.map_append, List.range_succ_eq_map, List.map_cons, List.map_map]
  simp only [List.map_cons, List.map_nil, ch_self, ch_zero]
  rfl
end Pf
set_option Elab.async false
set_option linter.all false
namespace Pf
open PySem PySem.Spec PyProof.Rows L2 DL
def top (i : Nat) : Stmt := PySem.Challenge.pw_allteams_k12_plans_refused.main.body.getD i (.Pass ⟨0, 0, 0, 0⟩)
end Pf
set_option Elab.async false
set_option linter.all false
set_option maxRecDepth 100000
set_option maxHeartbeats 1000000
namespace DL
open PySem PySem.Spec PyProof.Rows L2 Evl
/-! ### sorted of data -/
section
variable {X : Cx} {K : PySem.W.Frag}
def rSortD (K : PySem.W.Frag) : List V → Hp → VK → Prop := fun vs H Q => ∃ (a : Addr) (bs : List (V × PyData)), vs = [.ref a] ∧ SqL K H a (bs.map (·.1)) ∧ DpAll K H (bs.map (·.1)) (bs.map (·.2)) ∧ PySem.W.AllAlike (bs.map (·.2)) ∧ PySem.W.Sortable (bs.map (·.2)) ∧ (∀ b ∈ bs, b.2.depth ≤ 60) ∧
  ∀ p, H p = none → Q (.ref p) (upd H p (.lst ((bs.mergeSort (PySem.W.dataLe false (·.2))).map (·.1))))
theorem each_vals : ∀ {bs : List (V × PyData)} {its : List Value}, Vals (bs.map (·.1)) its → PySem.W.EachIs (fun (v : Value) (b : V × PyData) => RelV b.1 v) its bs
  | [], _, r => by cases r; exact .nil
  | b :: bs, _, r => by
    cases r with
    | cons h r => exact .cons h (each_vals r)
theorem vals_each : ∀ {bs : List (V × PyData)} {its : List Value}, PySem.W.EachIs (fun (v : Value) (b : V × PyData) => RelV b.1 v) its bs → Vals (bs.map (·.1)) its
  | [], _, r => by cases r; exact .nil
  | b :: bs, _, r => by
    cases r with
    | cons h r => exact .cons h (vals_each r)
theorem cr_sortedD (hu : X.A.units + 64 < cLine) : CallR X (.builtin "sorted") (rSortD X.K) := by
  intro pins s σ H vs us Q I r h
  obtain ⟨a, bs, rfl, hs, hd, hal, hk, hdp, q⟩ := h
  obtain ⟨its, rv, hl, hz⟩ := I.list hs
  rw [Vals.ref1 r]
  obtain ⟨as, ra⟩ := Dp.readsAll I (bs.map (·.2)) (bs.map (·.1)) its hd rv
  have hz' : bs.length ≤ sizeLine := by rw [List.length_map] at hz; exact hz
  refine PySem.W.sorted_data (enc := fun b : V × PyData => b.2) hl.isList (each_vals rv) (PySem.W.readsAll_each (fun b : V × PyData => b.2) ra) hal hk hz' (fun b hb => by have := hdp b hb; omega) fun out ho e => ?_
  obtain ⟨ep, he'⟩ := PyProof.Rows.sortedAll_at s.heap its out.toArray
  have hlen : ((bs.mergeSort (PySem.W.dataLe false (·.2))).map (·.1)).length ≤ sizeLine := by
    rw [List.length_map, List.length_mergeSort]; exact hz'
  exact ⟨.ref _, upd H (s.heap.objs.size + 1) (.lst ((bs.mergeSort (PySem.W.dataLe false (·.2))).map (·.1))), I.laid (t' := s.toks) (fun _ _ => PyProof.Rows.sortedAll_old) (Nat.le_succ _) ⟨hlen, out, ep, vals_each e, he'⟩, rfl, q _ (I.hok.fresh (Nat.le_succ _))⟩
theorem k_sortedD (hK : X.K = K) (hu : X.A.units + 64 < cLine) : CallR X (.builtin "sorted") (rSortD K) := by subst hK; exact cr_sortedD hu
end
/-- a value's data, all of it -/
def D.pyT (d : D) : PyData := d.py.getD .none
def srtD (ds : List D) : List D := ds.mergeSort (PySem.W.dataLe false D.pyT)
theorem srtD_perm (ds : List D) : (srtD ds).Perm ds := List.mergeSort_perm ds _
section
variable {ι : Type} {m : ι} {K : PySem.W.Frag} {W : Wd ι} {Φ : ι → S → Prop}
theorem dp_zip {G H : Hp} (e : Ex G H) : ∀ {xs : List V} {ds : List D}, RpL K G xs ds → (∀ d ∈ ds, ∃ x, d.py = some x) → DpAll K H xs (ds.map D.pyT)
  | _, _, .nil, _ => .nil
  | _, d :: ds, .cons h r, hp => by
    obtain ⟨x, hx⟩ := hp d (by simp)
    refine .cons ?_ (dp_zip e r fun d hd => hp d (by simp [hd]))
    have : d.pyT = x := by unfold D.pyT; rw [hx]; rfl
    rw [this]
    exact Rp.dp e h hx
theorem rpl_zip {G : Hp} : ∀ {xs : List V} {ds : List D}, RpL K G xs ds → ∀ p ∈ xs.zip ds, Rp K G p.1 p.2
  | _, _, .nil, p, h => by simp at h
  | _, _, .cons h r, p, hp => by
    rw [List.zip_cons_cons] at hp
    rcases List.mem_cons.mp hp with rfl | hp
    · exact h
    · exact rpl_zip r p hp
theorem rpl_of {G : Hp} : ∀ {l : List (V × D)}, (∀ p ∈ l, Rp K G p.1 p.2) → RpL K G (l.map (·.1)) (l.map (·.2))
  | [], _ => .nil
  | p :: l, h => .cons (h p (by simp)) (rpl_of fun q hq => h q (by simp [hq]))
theorem cb_sortedD {s : S} {ds : List D} (h1 : s.lst? = some ds) (hp : ∀ d ∈ ds, ∃ x, d.py = some x) (hal : PySem.W.AllAlike (ds.map D.pyT)) (hs : PySem.W.Sortable (ds.map D.pyT)) (hd : ∀ d ∈ ds, d.pyT.depth ≤ 60) (h : Φ m (.own (.lst (srtD ds)))) : CbS K W m (rSortD K) [s] Φ := fun H0 G H vs ok rr Q q => by
  obtain ⟨v, rfl, r⟩ := relss1 rr
  obtain ⟨p, xs, rfl, a, b⟩ := r.lstV ok h1
  have hl := b.length
  have z1 : (xs.zip ds).map (·.1) = xs := by rw [List.map_fst_zip]; omega
  have z2 : (xs.zip ds).map (·.2) = ds := by rw [List.map_snd_zip]; omega
  let g : V × D → V × PyData := fun p => (p.1, p.2.pyT)
  have m1 : ((xs.zip ds).map g).map (·.1) = xs := by rw [List.map_map]; exact z1
  have m2 : ((xs.zip ds).map g).map (·.2) = ds.map D.pyT := by
    rw [List.map_map]
    have e : ((fun b : V × PyData => b.2) ∘ g) = D.pyT ∘ (·.2) := rfl
    rw [e, ← List.map_map, z2]
  refine ⟨p, (xs.zip ds).map g, rfl, by rw [m1]; exact a, by rw [m1, m2]; exact dp_zip ok.ex b hp, by rw [m2]; exact hal, by rw [m2]; exact hs, fun x hx => ?_, fun l hl2 => ?_⟩
  · obtain ⟨y, hy, rfl⟩ := List.mem_map.mp hx
    exact hd y.2 (List.of_mem_zip hy).2
  · have e1 : (((xs.zip ds).map g).mergeSort (PySem.W.dataLe false (·.2))) = ((xs.zip ds).mergeSort (PySem.W.dataLe false fun p => p.2.pyT)).map g := (PySem.W.sort_maps g (fun a _ b _ => rfl)).symm
    have e2 : srtD ds = ((xs.zip ds).mergeSort (PySem.W.dataLe false fun p => p.2.pyT)).map (·.2) := by
      unfold srtD
      rw [PySem.W.sort_maps (r := PySem.W.dataLe false fun p : V × D => p.2.pyT) (s := PySem.W.dataLe false D.pyT) (·.2) (fun a _ b _ => rfl), z2]
    rw [e1, List.map_map]
    have rp : RpL K G (((xs.zip ds).mergeSort (PySem.W.dataLe false fun p => p.2.pyT)).map (·.1)) (srtD ds) := by
      rw [e2]
      exact rpl_of fun q hq => rpl_zip b q ((List.mergeSort_perm _ _).mem_iff.mp hq)
    exact new_lst (H0 := H0) ok rp h q l hl2
end
end DL
set_option Elab.async false
set_option linter.all false
set_option maxRecDepth 100000
set_option maxHeartbeats 1000000
namespace DL
open PySem PySem.Spec PyProof.Rows L2 Evl
/-! ### instances: an instance under __init__ is in the world's state; afterwards it is data -/
def putD' (f : Str) (d : D) : List (Str × D) → List (Str × D)
  | [] => [(f, d)]
  | (g, x) :: r => if g = f then (g, d) :: r else (g, x) :: putD' f d r
def InsOk (K : PySem.W.Frag) (a dx C : Addr) (fs : List (Str × D)) (G H : Hp) : Prop := H dx = some (.own a) ∧ ∃ fv, H a = some (.ins C dx fv) ∧ fv.map (·.1) = fs.map (·.1) ∧ RpL K G (fv.map (·.2)) (fs.map (·.2))
theorem putF_rp {K : PySem.W.Frag} {G : Hp} {f : Str} {v : V} {d : D} (r : Rp K G v d) : ∀ {fv : List (Str × V)} {fs : List (Str × D)}, fv.map (·.1) = fs.map (·.1) → RpL K G (fv.map (·.2)) (fs.map (·.2)) → (putF f v fv).map (·.1) = (putD' f d fs).map (·.1) ∧ RpL K G ((putF f v fv).map (·.2)) ((putD' f d fs).map (·.2))
  | [], [], _, _ => ⟨rfl, .one r⟩
  | [], _ :: _, k, _ => by cases k
  | _ :: _, [], k, _ => by cases k
  | (g, x) :: fv, (g', y) :: fs, k, rs => by
    simp only [List.map_cons, List.cons.injEq] at k
    obtain ⟨k1, k2⟩ := k
    subst k1
    cases rs with
    | cons r1 rs =>
      unfold putF putD'
      by_cases h : g = f
      · rw [if_pos h, if_pos h]
        exact ⟨by simp [k2], .cons r rs⟩
      · rw [if_neg h, if_neg h]
        obtain ⟨a, b⟩ := putF_rp r k2 rs
        exact ⟨by simp [a], .cons r1 b⟩
theorem lookup_rpI {K : PySem.W.Frag} {G : Hp} {f : Str} {d : D} : ∀ {fv : List (Str × V)} {fs : List (Str × D)}, fv.map (·.1) = fs.map (·.1) → RpL K G (fv.map (·.2)) (fs.map (·.2)) → fs.lookup f = some d → ∃ v, fv.lookup f = some v ∧ Rp K G v d
  | [], [], _, _, h => by cases h
  | [], _ :: _, k, _, _ => by cases k
  | _ :: _, [], k, _, _ => by cases k
  | (g, x) :: fv, (g', y) :: fs, k, rs, h => by
    simp only [List.map_cons, List.cons.injEq] at k
    obtain ⟨k1, k2⟩ := k
    subst k1
    cases rs with
    | cons r1 rs =>
      rw [List.lookup_cons] at h ⊢
      cases e : (f == g) with
      | true => rw [e] at h; simp at h; subst h; exact ⟨x, rfl, r1⟩
      | false => rw [e] at h; exact lookup_rpI k2 rs h
theorem lookup_none {α β : Type} {f : Str} : ∀ {fv : List (Str × α)} {fs : List (Str × β)}, fv.map (·.1) = fs.map (·.1) → fs.lookup f = none → fv.lookup f = none
  | [], [], _, _ => rfl
  | [], _ :: _, k, _ => by cases k
  | _ :: _, [], k, _ => by cases k
  | (g, x) :: fv, (g', y) :: fs, k, h => by
    simp only [List.map_cons, List.cons.injEq] at k
    obtain ⟨k1, k2⟩ := k
    subst k1
    rw [List.lookup_cons] at h ⊢
    cases e : (f == g) with
    | true => rw [e] at h; cases h
    | false => rw [e] at h; exact lookup_none k2 h
/-- the world has an instance of C at a -/
structure Ins (K : PySem.W.Frag) {ι : Type} (W : Wd ι) (a C : Addr) where
  get : ι → List (Str × D)
  put : ι → List (Str × D) → ι
  mem : W.M a
  out : ∀ m G H, W.I m G H → ∃ dx, InsOk K a dx C (get m) G H
  upd : ∀ m G H H' fs dx, W.I m G H → InsOk K a dx C (get m) G H → (∀ x, x ≠ a → H' x = H x) → InsOk K a dx C fs G H' → W.I (put m fs) G H'
  gp : ∀ m fs, get (put m fs) = fs
  pp : ∀ m fs fs', put (put m fs) fs' = put m fs'
def insW {κ : Type} (K : PySem.W.Frag) (Vd : Wd κ) (a dx C : Addr) : Wd (κ × List (Str × D)) where
  M := fun x => Vd.M x ∨ x = a ∨ x = dx
  L := Vd.L
  I := fun m G H => Vd.I m.1 G H ∧ InsOk K a dx C m.2 G H
  dep := fun m G G' H H' x k ⟨h1, h2, fv, h3, h4, h5⟩ => ⟨Vd.dep _ _ _ _ _ x (fun y hy => k y (.inl hy)) h1, (k dx (.inr (.inr rfl))).trans h2, fv, (k a (.inr (.inl rfl))).trans h3, h4, h5.mono x⟩
  has := fun m G H b ⟨h1, h2, fv, h3, _⟩ hm => by
    rcases hm with hm | rfl | rfl
    · exact Vd.has _ _ _ _ h1 hm
    · exact ⟨_, h3, rfl⟩
    · exact ⟨_, h2, rfl⟩
  sw := fun m G G' H b u s ⟨h1, h2, fv, h3, h4, h5⟩ => ⟨Vd.sw _ _ _ _ _ _ s h1, h2, fv, h3, h4, h5.swap s⟩
  pin := Vd.pin
  pinned := fun m G H b o ⟨h1, _⟩ hp => Vd.pinned _ _ _ _ _ h1 hp
def insL {κ : Type} {K : PySem.W.Frag} {Vd : Wd κ} {a dx C : Addr} (na : ¬ Vd.M a) : Ins K (insW K Vd a dx C) a C where
  get := fun m => m.2
  put := fun m fs => (m.1, fs)
  mem := .inr (.inl rfl)
  out := fun m G H h => ⟨dx, h.2⟩
  upd := fun m G H H' fs dx' h h2 ne ok => by
    have e : dx' = dx := by
      obtain ⟨_, fv, e1, _⟩ := h2
      obtain ⟨_, _, fv', e2, _⟩ := h
      rw [e1] at e2
      injection e2 with e2
      injection e2
    subst e
    exact ⟨Vd.dep _ _ _ _ _ (Ex.refl _) (fun y hy => ne y fun z => na (by rw [← z]; exact hy)) h.1, ok⟩
  gp := fun _ _ => rfl
  pp := fun _ _ _ => rfl
def Ins.lk {κ : Type} {K : PySem.W.Frag} {Vd : Wd κ} {a C : Addr} (L : Ins K Vd a C) (d : Addr) : Ins K (lockW Vd d) a C := ⟨L.get, L.put, L.mem, L.out, L.upd, L.gp, L.pp⟩
section
variable {ι : Type} {c : Cc ι} {ρ : List S} {m : ι} {ta tv : TE} {N B C' : ι → List S → Prop} {R : ι → S → Prop} {Φ : ι → S → Prop} {a C : Addr} {f : Str}
theorem ins_ne {a dx C : Addr} {K : PySem.W.Frag} {fs : List (Str × D)} {G H : Hp} (h : InsOk K a dx C fs G H) : dx ≠ a := fun z => by
  obtain ⟨h1, fv, h2, _⟩ := h
  rw [z, h2] at h1
  cases h1
/-- self.f = e -/
theorem ds_fld {i : Nat} (L : Ins c.K c.W a C) (hi : ρ[i]? = some (.at_ a)) (hc : Cls c.K C) (hn : NoAttr c.K C f)
    (h : De c m tv ρ fun m' s => ∃ d, s.frz = .dat d ∧ (L.get m').length < 1000 ∧ N (L.put m' (putD' f d (L.get m'))) ρ) : Ds c m (sFld c.K (tVar i) tv f) ρ N R B C' := fun D σ G H e k1 _ _ _ => by
  refine h σ G H e _ fun v s m1 G1 H1 g r ⟨d, hd, hl, hN⟩ => ?_
  obtain ⟨G2, g2, r2, x2⟩ := r.freezeX g
  rw [hd] at r2
  have r2 : Rp c.K G2 v d := r2
  have e2 := e.grow g2
  have hv : σ[i]? = some (some (.ref a)) := by
    rcases e.at_ i _ hi with z | ⟨w, aw, rfl⟩
    · cases z
    · exact aw
  obtain ⟨dx, io⟩ := L.out _ _ _ e2.gr.inv
  obtain ⟨h1, fv, h2, h3, h4⟩ := id io
  have hlen : fv.length = (L.get m1).length := by simpa using congrArg List.length h3
  refine ⟨_, hv, a, C, dx, fv, rfl, h2, hc, hn, by omega, ?_⟩
  have ga : G2 a = none := e2.ok.off a L.mem
  obtain ⟨p1, p2⟩ := putF_rp (f := f) r2 h3 h4
  have iv : c.W.I (L.put m1 (putD' f d (L.get m1))) G2 (upd H1 a (.ins C dx (putF f v fv))) := L.upd _ _ _ _ _ dx e2.gr.inv io (fun x hx => upd_ne hx) ⟨by rw [upd_ne (ins_ne io)]; exact h1, _, upd_same, p1, p2⟩
  have g3 : Grow c.W G2 H1 (L.put m1 (putD' f d (L.get m1))) G2 (upd H1 a (.ins C dx (putF f v fv))) :=
    ⟨Ex.refl _, e2.gr.sub.mut ga, fun _ _ _ _ q => q, fun x o hm hx => by rw [upd_ne fun z => hm (by rw [z]; exact L.mem)]; exact hx, iv, fun _ _ _ q _ => .inr q⟩
  exact k1 ρ σ _ _ _ hN g2.ex (e2.grow g3)
/-- e.f of an instance that is data -/
theorem de_fld (h : De c m ta ρ fun m' s => ∃ C fs d, s.frz = .dat (.ins C fs) ∧ Cls c.K C ∧ NoAttr c.K C f ∧ fs.lookup f = some d ∧ Φ m' (.dat d)) : De c m (tFld c.K ta f) ρ Φ := fun σ G H e Q q =>
  h σ G H e _ fun v s m1 G1 H1 g r ⟨C, fs, d, hs, hc, hn, hl, hΦ⟩ => by
    obtain ⟨G2, g2, r2, x2⟩ := r.freezeX g
    rw [hs] at r2
    have r2 : Rp c.K G2 v (.ins C fs) := r2
    cases r2 with
    | @ins a dx _ fv _ e1 e2 k rs =>
      obtain ⟨w, lw, rw'⟩ := lookup_rpI k rs hl
      exact ⟨a, C, dx, fv, w, rfl, g2.sub _ _ e1, hc, hn, lw, q w (.dat d) m1 G2 H1 g2 rw' hΦ⟩
/-- self.f under __init__ -/
theorem de_fldL {i : Nat} {d : D} (L : Ins c.K c.W a C) (hi : ρ[i]? = some (.at_ a)) (hc : Cls c.K C) (hn : NoAttr c.K C f) (hl : (L.get m).lookup f = some d) (h : Φ m (.dat d)) : De c m (tFld c.K (tVar i) f) ρ Φ := fun σ G H e Q q => by
  have hv : σ[i]? = some (some (.ref a)) := by
    rcases e.at_ i _ hi with z | ⟨w, aw, rfl⟩
    · cases z
    · exact aw
  obtain ⟨dx, h1, fv, h2, h3, h4⟩ := L.out _ _ _ e.gr.inv
  obtain ⟨w, lw, rw'⟩ := lookup_rpI h3 h4 hl
  exact ⟨_, hv, a, C, dx, fv, w, rfl, h2, hc, hn, lw, q w (.dat d) m G H e.refl rw' h⟩
/-- e.f, a property -/
theorem de_prop {F : Fc} (h : De c m ta ρ fun m' s => ∃ fs, s.frz = .dat (.ins C fs) ∧ F ι c.W m' [.dat (.ins C fs)] Φ fun _ _ _ => False) : De c m (tProp C (spF c.K F) [] E0 ta) ρ Φ := fun σ G H e Q q =>
  h σ G H e _ fun v s m1 G1 H1 g r ⟨fs, hs, hF⟩ => by
    obtain ⟨G2, g2, r2, x2⟩ := r.freezeX g
    rw [hs] at r2
    have r2 : Rp c.K G2 v (.ins C fs) := r2
    have r3 := r2
    cases r2 with
    | @ins a dx _ fv _ e1 e2 k rs =>
      refine ⟨a, dx, fv, rfl, g2.sub _ _ e1, ?_⟩
      exact ⟨ι, c.W, m1, G2, _, Φ, _, (e.grow g2).ok, .cons (s := .dat (.ins C fs)) r3 .nil, rfl, hF, fun v s m' G' H' g r p => q v s m' G' H' (g2.trans g) (r.back g2) p, fun _ _ _ _ _ _ _ _ _ _ _ _ _ z => z.elim⟩
/-- e.m(..) -/
theorem de_meth {F : Fc} {tr : TA} {mn : Str} {E : XK} {Ξ : Xp ι} (hE : ∀ σ G H m, EnvOk c m G H σ ρ → ExcQ c.K c.W G H Ξ E)
    (h : De c m ta ρ fun m' s => ∃ fs, s.frz = .dat (.ins C fs) ∧ fs.lookup mn = none ∧ DA c m' tr ρ fun m2 ss => ss.all argS = true ∧ F ι c.W m2 (.dat (.ins C fs) :: ss) Φ Ξ) : De c m (tMeth C mn (spF c.K F) [] E ta tr) ρ Φ := fun σ G H e Q q =>
  h σ G H e _ fun v s m1 G1 H1 g r ⟨fs, hs, hl, hA⟩ => by
    obtain ⟨G2, g2, r2, x2⟩ := r.freezeX g
    rw [hs] at r2
    have r2 : Rp c.K G2 v (.ins C fs) := r2
    have r3 := r2
    cases r2 with
    | @ins a dx _ fv _ e1 e2 k rs =>
      refine ⟨a, dx, fv, rfl, g2.sub _ _ e1, lookup_none k hl, hA σ G2 H1 (e.grow g2) _ fun vs ss m3 G3 H3 g3 r4 ⟨ha, hF⟩ => ?_⟩
      rw [List.append_nil]
      have g23 := g2.trans g3
      exact ⟨ι, c.W, m3, G3, _, Φ, Ξ, (e.grow g23).ok, .cons (s := .dat (.ins C fs)) (r3.mono g3.ex) (relss_arg r4 ha), by simp [argS, ha], hF, fun v s m' G' H' g r p => q v s m' G' H' (g23.trans g) (r.back g23) p, hE σ _ _ _ (e.grow g23)⟩
/-- C(..) -/
theorem de_make {F : Fc} {tr : TA} {E : XK} {Ξ : Xp ι} (hE : ∀ σ G H m, EnvOk c m G H σ ρ → ExcQ c.K c.W G H Ξ E)
    (h : DA c m tr ρ fun m2 ss => ss.all argS = true ∧ ∀ a dx, ¬ c.W.M a → F (ι × List (Str × D)) (insW c.K c.W a dx C) (m2, []) (.at_ a :: ss) (fun mm s => s = .dat .non ∧ Φ mm.1 (.dat (.ins C mm.2))) fun mm => Ξ mm.1) :
    De c m (tMake C (spF c.K F) [] E tr) ρ Φ := fun σ G H e Q q =>
  h σ G H e _ fun vs ss m1 G1 H1 g1 r1 ⟨ha, hF⟩ x dx hx hdx ne => by
    rw [List.append_nil]
    have ok := (e.grow g1).ok
    have hx1 : upd H1 dx (.own x) x = none := by rw [upd_ne (Ne.symm ne)]; exact hx
    have gn : Grow c.W G1 H1 m1 G1 (upd (upd H1 dx (.own x)) x (.ins C dx [])) := (Grow.new ok hdx).trans (Grow.new ((Grow.new ok hdx).ok ok) hx1)
    have gx : G1 x = none := fresh_back ok.ex hx
    have gdx : G1 dx = none := fresh_back ok.ex hdx
    have mx : ¬ c.W.M x := fun z => c.W.ne ok.inv z hx
    have mdx : ¬ c.W.M dx := fun z => c.W.ne ok.inv z hdx
    have ok' : Ok (insW c.K c.W x dx C) (m1, []) G1 (upd (upd H1 dx (.own x)) x (.ins C dx [])) := ⟨gn.sub, ⟨gn.inv, by rw [upd_ne ne]; exact upd_same, [], upd_same, rfl, .nil⟩, fun b hb => by
      rcases hb with hb | rfl | rfl
      · exact ok.off b hb
      · exact gx
      · exact gdx, ok.lk⟩
    have back : ∀ {m' : ι × List (Str × D)} {G' H' : Hp}, Grow (insW c.K c.W x dx C) G1 (upd (upd H1 dx (.own x)) x (.ins C dx [])) m' G' H' → Grow c.W G1 H1 m'.1 G' H' := fun {m' G' H'} g =>
      ⟨g.ex, g.sub, fun b o hb t hg => by
        have nb : b ≠ x := fun z => by rw [z, hx] at hb; cases hb
        have nd : b ≠ dx := fun z => by rw [z, hdx] at hb; cases hb
        exact g.fresh b o (by rw [upd_ne nb, upd_ne nd]; exact hb) t hg, fun b o hm hb => by
        have nb : b ≠ x := fun z => by rw [z, hx] at hb; cases hb
        have nd : b ≠ dx := fun z => by rw [z, hdx] at hb; cases hb
        exact g.keep b o (fun z => by
          rcases z with z | z | z
          · exact hm z
          · exact nb z
          · exact nd z) (by rw [upd_ne nb, upd_ne nd]; exact hb), g.inv.1, g.lk⟩
    have args : ∀ {vs : List V} {ss : List S}, RelSs c.K c.W H G1 H1 vs ss → ss.all argS = true → RelSs c.K (insW c.K c.W x dx C) (upd (upd H1 dx (.own x)) x (.ins C dx [])) G1 (upd (upd H1 dx (.own x)) x (.ins C dx [])) vs ss := fun {vs ss} rr => by
      induction rr with
      | nil => intro _; exact .nil
      | @cons v vs s ss r _ ih =>
        intro hs
        rw [List.all_cons] at hs
        obtain ⟨q1, q2⟩ := Bool.and_eq_true_iff.mp hs
        refine .cons ?_ (ih q2)
        cases s with
        | dat d => exact r
        | at_ p => exact r
        | vw o =>
          obtain ⟨p, rfl, ob⟩ := r
          refine ⟨p, rfl, ob.monoA (Ex.refl _) fun b hb => ?_⟩
          obtain ⟨f, u, hu, _⟩ := ob.ads hb
          have nb : b ≠ x := fun z => by rw [z, hx] at hu; cases hu
          have nd : b ≠ dx := fun z => by rw [z, hdx] at hu; cases hu
          exact ⟨by rw [upd_ne nb, upd_ne nd], f.1, fun z => by
            rcases z with z | z | z
            · exact f.2 z
            · exact nb z
            · exact nd z⟩
        | no => cases q1
        | own _ => cases q1
        | xc _ _ _ _ => cases q1
        | el _ _ => cases q1
        | lk _ => cases q1
    refine ⟨_, _, _, G1, .at_ x :: ss, _, _, ok', .cons rfl (args r1 ha), by simp [argS, ha], hF x dx mx, fun v s m' G' H' g r ⟨hs, hΦ⟩ => ?_, fun C2 d fv fs m' G' H' g nd md hd hk hr hx2 => hE σ _ _ _ (e.grow g1) C2 d fv fs m'.1 G' H' (back g) nd (fun z => md (.inl z)) hd hk hr hx2⟩
    subst hs
    cases r
    refine ⟨rfl, ?_⟩
    obtain ⟨_, i1, fv, i2, i3, i4⟩ := g.inv
    have o1 : G' x = none := (g.ok ok').off x (.inr (.inl rfl))
    have o2 : G' dx = none := (g.ok ok').off dx (.inr (.inr rfl))
    have b1 := back g
    have b2 := b1.frz hx o1 i2 (fun _ _ z => by cases z)
    have n2 : upd G' x (.ins C dx fv) dx = none := by rw [upd_ne ne]; exact o2
    have b3 := b2.frz hdx n2 i1 (fun _ _ z => by cases z)
    have e3 : Ex G' (upd (upd G' x (.ins C dx fv)) dx (.own x)) := (Ex.new o1).trans (Ex.new n2)
    refine q (.ref x) (.dat (.ins C m'.2)) m'.1 _ H' (g1.trans b3) (Rp.ins (dx := dx) (fv := fv) (by rw [upd_ne (Ne.symm ne)]; exact upd_same) upd_same i3 (i4.mono e3)) hΦ
theorem hE_c : ∀ σ G H m, EnvOk c m G H σ ρ → ExcQ c.K c.W G H c.Ξ c.E := fun _ _ _ _ e => e.excq
theorem hE_0 : ∀ σ G H m, EnvOk c m G H σ ρ → ExcQ c.K c.W G H (fun _ _ _ => False) E0 := fun _ _ _ _ _ _ _ _ _ _ _ _ _ _ _ _ _ _ z => z.elim
end
end DL
set_option Elab.async false
set_option linter.all false
set_option maxRecDepth 100000
set_option maxHeartbeats 1000000
namespace DL
open PySem PySem.Spec PyProof.Rows L2 Evl
section
variable {ι : Type} {c : Cc ι} {ρ : List S} {m : ι} {ta tb te : TE} {tr : TA} {Φ : ι → S → Prop} {K : PySem.W.Frag} {W : Wd ι}
/-! ### list(range(..)) -/
theorem rp_rg {K : PySem.W.Frag} {G : Hp} (a b : Int) : RpL K G (rgV a b) (rngD a (b - a).toNat) := by
  unfold rgV rngD
  have : ∀ l : List Nat, RpL K G (l.map fun i => V.int (a + (i : Nat))) (l.map fun i => D.int (a + (i : Nat))) := fun l => by
    induction l with
    | nil => exact .nil
    | cons x l ih => exact .cons (.int _) ih
  exact this _
theorem own_new {c : Cc ι} {m1 : ι} {G H G1 H1 : Hp} {p : Addr} {xs : List V} {ds : List D} (g1 : Grow c.W G H m1 G1 H1) (ok1 : Ok c.W m1 G1 H1) (hp : H1 p = none) (r : RpL c.K G1 xs ds) : Grow c.W G H m1 G1 (upd H1 p (.lst xs)) ∧ RelS c.K c.W H G1 (upd H1 p (.lst xs)) (.ref p) (.own (.lst ds)) :=
  ⟨g1.trans (Grow.new ok1 hp), p, rfl, ⟨g1.back hp, fresh_back ok1.ex hp, fun z => c.W.ne ok1.inv z hp⟩, xs, upd_same, r⟩
theorem de_lstRg1 (h : De c m ta ρ fun m s => ∃ n : Int, s = .dat (.int n) ∧ RgOk 0 n ∧ Φ m (.own (.lst (rngD 0 n.toNat)))) : De c m (tLstRg (tRg1 ta)) ρ Φ := fun σ G H e Q q => h σ G H e _ fun v s m1 G1 H1 g1 r1 ⟨n, es, ok, p⟩ => by
  subst es
  cases r1
  refine ⟨n, rfl, ok, fun a ha => ?_⟩
  obtain ⟨g2, r2⟩ := own_new (c := c) g1 (e.grow g1).ok ha (rp_rg (K := c.K) 0 n)
  refine q _ _ m1 G1 _ g2 r2 ?_
  rw [Int.sub_zero]; exact p
theorem de_lstRg2 (h : De c m ta ρ fun m s => De c m tb ρ fun m s2 => ∃ l n : Int, s = .dat (.int l) ∧ s2 = .dat (.int n) ∧ RgOk l n ∧ Φ m (.own (.lst (rngD l (n - l).toNat)))) : De c m (tLstRg (tRg2 ta tb)) ρ Φ := fun σ G H e Q q => h σ G H e _ fun v s m1 G1 H1 g1 r1 h2 => h2 σ G1 H1 (e.grow g1) _ fun v2 s2 m2 G2 H2 g2 r2 ⟨l, n, e1, e2, ok, p⟩ => by
  subst e1 e2
  cases r1
  cases r2
  refine ⟨l, n, rfl, rfl, ok, fun a ha => ?_⟩
  obtain ⟨g3, r3⟩ := own_new (c := c) (g1.trans g2) (e.grow (g1.trans g2)).ok ha (rp_rg (K := c.K) l n)
  exact q _ _ m2 G2 _ g3 r3 p
/-! ### xs[::-1] -/
theorem de_revL (h : De c m te ρ fun m s => ∃ ds, s.lst? = some ds ∧ Φ m (.own (.lst ds.reverse))) : De c m (tRevL c.K te) ρ Φ := fun σ G H e Q q => h σ G H e _ fun v s m1 G1 H1 g1 r1 ⟨ds, hs, p⟩ => by
  obtain ⟨a, xs, rfl, h1, h2⟩ := r1.lstV (e.grow g1).ok hs
  refine ⟨a, xs, rfl, h1, fun b hb => ?_⟩
  obtain ⟨g2, r2⟩ := own_new (c := c) g1 (e.grow g1).ok hb h2.reverse
  exact q _ _ m1 G1 _ g2 r2 p
/-! ### enumerate -/
def enumD (ds : List D) : List D := (List.range ds.length).map fun i => .tup [.int (i : Nat), ds.getD i .non]
theorem enumD_len (ds : List D) : (enumD ds).length = ds.length := by simp [enumD]
theorem enumD_at {ds : List D} {i : Nat} {d : D} (h : (enumD ds)[i]? = some d) : ∃ x, ds[i]? = some x ∧ d = .tup [.int (i : Nat), x] := by
  have hi : i < ds.length := by have := (List.getElem?_eq_some_iff.mp h).1; rwa [enumD_len] at this
  unfold enumD at h
  rw [List.getElem?_map, List.getElem?_range hi] at h
  refine ⟨ds[i], by simp [hi], ?_⟩
  have := (Option.some.inj h).symm
  rw [this]
  simp [List.getD, hi]
theorem itd_enum {G1 : Hp} {a : Addr} {xs : List V} {ds : List D} (h : SqL K G1 a xs) (r : RpL K G1 xs ds) : ItD K W G1 (Ite K a) (enumD ds) := fun m G H e ok i => by
  have hx : SqL K H a xs := ex_l (e.trans ok.ex) h
  refine ⟨fun d hd => ?_, fun hl => ⟨xs, hx, by rw [r.length]; rw [enumD_len] at hl; exact Nat.le_of_eq hl.symm⟩⟩
  obtain ⟨x, hx2, rfl⟩ := enumD_at hd
  obtain ⟨v, hv, rv⟩ := r.getD hx2
  refine ⟨⟨xs, v, hx, hv⟩, fun y H' ⟨T, z, ey, hT, eH, hz⟩ => ?_⟩
  have e2 := hz xs hx
  rw [hv] at e2
  cases e2
  subst ey eH
  have gT : G T = none := fresh_back ok.ex hT
  exact ⟨upd G T (.tup [.int (i : Nat), v]), Grow.newD ok hT (fun _ _ z => by cases z), .tup upd_same (.cons (.int _) (.cons ((rv.mono e).mono (Ex.new gT)) .nil))⟩
theorem di_enum {Ψ : ι → List D → Prop} (h : De c m te ρ fun m s => ∃ ds, s.frz.dlst? = some ds ∧ Ψ m (enumD ds)) : DI c m (iEnum c.K (tCons te tNil)) ρ Ψ := fun σ G H e R q => h σ G H e _ fun v s m1 G1 H1 g1 r1 ⟨ds, hs, p⟩ => by
  obtain ⟨G2, g2, r2, x2⟩ := r1.freezeX g1
  obtain ⟨a, xs, rfl, h1, h2⟩ := r2.dlst hs
  exact ⟨a, xs, rfl, ex_l g2.sub h1, q _ _ m1 G2 H1 g2 (itd_enum h1 h2) p⟩
/-! ### min, max of a list of numbers -/
theorem cb_minL {s : S} {ns : List Int} (h1 : s.lst? = some (ns.map D.int)) (h0 : 0 < ns.length) (h : ∀ k, k ∈ ns → (∀ j ∈ ns, k ≤ j) → Φ m (.dat (.int k))) : CbS K W m (rMin K) [s] Φ := fun H0 G H vs ok rr Q q => by
  obtain ⟨v, rfl, r⟩ := relss1 rr
  obtain ⟨p, xs, rfl, a, b⟩ := r.lstV ok h1
  exact ⟨p, ns, rfl, by rw [← b.ints]; exact a, h0, fun k h2 h3 => q _ (.dat (.int k)) m G H ok.refl (Rp.int _) (h k h2 h3)⟩
theorem cb_maxL {s : S} {ns : List Int} (h1 : s.lst? = some (ns.map D.int)) (h0 : 0 < ns.length) (h : ∀ k, k ∈ ns → (∀ j ∈ ns, j ≤ k) → Φ m (.dat (.int k))) : CbS K W m (rMax K) [s] Φ := fun H0 G H vs ok rr Q q => by
  obtain ⟨v, rfl, r⟩ := relss1 rr
  obtain ⟨p, xs, rfl, a, b⟩ := r.lstV ok h1
  exact ⟨p, ns, rfl, by rw [← b.ints]; exact a, h0, fun k h2 h3 => q _ (.dat (.int k)) m G H ok.refl (Rp.int _) (h k h2 h3)⟩
/-! ### the truth of a list, a tuple, a number -/
def S.tru? : S → Option Bool
  | .dat (.int i) => some (i != 0)
  | .dat (.lst ds) => some (!ds.isEmpty)
  | .dat (.tup ds) => some (!ds.isEmpty)
  | .own (.one (.lst ds)) => some (!ds.isEmpty)
  | .vw (.one (.lst ds)) => some (!ds.isEmpty)
  | _ => none
theorem rpl_empty {G : Hp} {xs : List V} {ds : List D} (r : RpL K G xs ds) : xs.isEmpty = ds.isEmpty := by cases r <;> rfl
theorem RelS.tru {H0 G H : Hp} {v : V} {s : S} {b : Bool} (ok : Ok W m G H) (r : RelS K W H0 G H v s) (h : s.tru? = some b) : TruV K v H b := by
  have key : ∀ ds, s.lst? = some ds → b = (!ds.isEmpty) → TruV K v H b := fun ds h1 h2 => by
    obtain ⟨a, xs, rfl, h3, h4⟩ := r.lstV ok h1
    exact .inl ⟨xs, h3, by rw [h2, rpl_empty h4]⟩
  cases s with
  | dat d =>
    cases d with
    | int i => cases r; cases h; rfl
    | lst ds => cases h; exact key ds rfl rfl
    | tup ds =>
      cases h
      obtain ⟨a, xs, rfl, h3, h4⟩ := r.tupV (ds := ds) ok rfl
      exact .inr (.inl ⟨xs, h3, by rw [rpl_empty h4]⟩)
    | _ => cases h
  | own o =>
    cases o with
    | one o =>
      cases o with
      | lst ds => cases h; exact key ds rfl rfl
      | _ => cases h
    | _ => cases h
  | vw o =>
    cases o with
    | one o =>
      cases o with
      | lst ds => cases h; exact key ds rfl rfl
      | _ => cases h
    | _ => cases h
  | _ => cases h
theorem dt_tru {Ψ : ι → Bool → Prop} (h : De c m te ρ fun m s => ∃ b, s.tru? = some b ∧ Ψ m b) : DT c m (fun σ H Q => te σ H fun x H' => ∃ k, TruV c.K x H' k ∧ Q k H') ρ Ψ := fun σ G H e Q q => h σ G H e _ fun v s m1 G1 H1 g1 r1 ⟨b, hs, p⟩ =>
  ⟨b, r1.tru (e.grow g1).ok hs, q b m1 G1 H1 g1 p⟩
/-! ### list.count, list.index of numbers -/
def rCountI (K : PySem.W.Frag) : V → List V → Hp → VK → Prop := fun x xs H Q => ∃ (a : Addr) (ns : List Int) (k : Int), x = V.ref a ∧ xs = [V.int k] ∧ SqL K H a (ns.map V.int) ∧ Q (.int (ns.count k : Nat)) H
theorem mt_countI {X : Cx} : MtR X "list.count" (rCountI X.K) := by
  intro pins s σ H x xs v us Q I rx rxs h
  obtain ⟨a, ns, k, rfl, rfl, hs, q⟩ := h
  cases rx
  obtain ⟨u, rfl, ru⟩ := rxs.one
  obtain ⟨t, rfl⟩ := ru
  obtain ⟨its, rv, p, hz⟩ := I.list hs
  exact PyProof.Rows.count_list_ints p.isList (intsAre_of rv) ⟨.int (ns.count k : Nat), H, I.tok _, ⟨_, rfl⟩, q⟩
theorem tyL {H0 G H : Hp} {v : V} {s : S} {ds : List D} (ok : Ok W m G H) (r : RelS K W H0 G H v s) (h : s.lst? = some ds) : tyV K "list" v H := by
  obtain ⟨a, xs, rfl, h3, h4⟩ := r.lstV ok h
  exact .inl ⟨rfl, xs, h3⟩
theorem de_count (h : De c m te ρ fun m s => ∃ ns : List Int, s.lst? = some (ns.map D.int) ∧ De c m ta ρ fun m s2 => ∃ k : Int, s2 = .dat (.int k) ∧ Φ m (.dat (.int (ns.count k : Nat)))) : De c m (tBM c.K "list" (rCountI c.K) te (tCons ta tNil)) ρ Φ := fun σ G H e Q q => h σ G H e _ fun v s m1 G1 H1 g1 r1 ⟨ns, hs, h2⟩ => by
  refine ⟨tyL (e.grow g1).ok r1 hs, h2 σ G1 H1 (e.grow g1) _ fun v2 s2 m2 G2 H2 g2 r2 ⟨k, e2, p⟩ => ?_⟩
  subst e2
  cases r2
  have e2 := (e.grow g1).grow g2
  obtain ⟨a, xs, rfl, h3, h4⟩ := (r1.grow g2).lstV e2.ok hs
  exact ⟨a, ns, k, rfl, rfl, by rw [← h4.ints]; exact h3, q _ (.dat (.int _)) m2 G2 H2 (g1.trans g2) (Rp.int _) p⟩
theorem de_index (h : De c m te ρ fun m s => ∃ ns : List Int, s.lst? = some (ns.map D.int) ∧ De c m ta ρ fun m s2 => ∃ (k : Int) (j : Nat), s2 = .dat (.int k) ∧ ns[j]? = some k ∧ (∀ i, i < j → ns[i]? ≠ some k) ∧ Φ m (.dat (.int (j : Nat)))) : De c m (tBM c.K "list" (rIndex c.K) te (tCons ta tNil)) ρ Φ := fun σ G H e Q q => h σ G H e _ fun v s m1 G1 H1 g1 r1 ⟨ns, hs, h2⟩ => by
  refine ⟨tyL (e.grow g1).ok r1 hs, h2 σ G1 H1 (e.grow g1) _ fun v2 s2 m2 G2 H2 g2 r2 ⟨k, j, e2, hj, hn, p⟩ => ?_⟩
  subst e2
  cases r2
  have e2 := (e.grow g1).grow g2
  obtain ⟨a, xs, rfl, h3, h4⟩ := (r1.grow g2).lstV e2.ok hs
  refine ⟨a, ns.map V.int, .int k, j, .int k, rfl, rfl, by rw [← h4.ints]; exact h3, rfl, by simp [List.all_map, flatV], by simp [hj], by simp [eqV], fun i z hi hz => ?_, q _ (.dat (.int _)) m2 G2 H2 (g1.trans g2) (Rp.int _) p⟩
  rw [List.getElem?_map] at hz
  cases hx : ns[i]? with
  | none => rw [hx] at hz; cases hz
  | some y =>
    rw [hx] at hz
    cases hz
    have : y ≠ k := fun w => hn i hi (by rw [hx, w])
    simp [eqV, this]
section
variable {X : Cx} {o e : Expr} {es : List Expr} {t : TA} {to : TE} {apos cpos : Pos}
theorem k_count (hK : X.K = K) (ho : PE X o to) (ha : PA X (e :: es) t)
    (hbase : attributeBase o "count" X.env (eval o X.env) = eval o X.env := by rfl)
    (hfew : ((backTo cpos (starEach (e :: es) X.env)).all (fun x => !x.1) && (backToKw cpos (keywordEach [] X.env)).all (fun x => x.1.isSome)
      && decide ((e :: es).length + ([] : List Keyword).length + (if ([] : List Keyword).isEmpty then 0 else 1) < 30)) = true := by rfl)
    (hline : (apos.endLine == cpos.line) = true := by rfl) (hs : starEach (e :: es) X.env = (false, eval e X.env) :: starEach es X.env := by rfl) (hplain : (backTo cpos (starEach es X.env)).any (·.1) = false := by rfl) :
    PE X (.Call (.Attribute o "count" apos) (e :: es) [] cpos) (tBM K "list" (rCountI K) to t) := by subst hK; exact pe_bm PySem.F.plainAttrs_list PySem.F.slot_list_count PySem.F.type_list_count mt_countI ho ha hbase hfew hline hs hplain
theorem k_index (hK : X.K = K) (ho : PE X o to) (ha : PA X (e :: es) t)
    (hbase : attributeBase o "index" X.env (eval o X.env) = eval o X.env := by rfl)
    (hfew : ((backTo cpos (starEach (e :: es) X.env)).all (fun x => !x.1) && (backToKw cpos (keywordEach [] X.env)).all (fun x => x.1.isSome)
      && decide ((e :: es).length + ([] : List Keyword).length + (if ([] : List Keyword).isEmpty then 0 else 1) < 30)) = true := by rfl)
    (hline : (apos.endLine == cpos.line) = true := by rfl) (hs : starEach (e :: es) X.env = (false, eval e X.env) :: starEach es X.env := by rfl) (hplain : (backTo cpos (starEach es X.env)).any (·.1) = false := by rfl) :
    PE X (.Call (.Attribute o "index" apos) (e :: es) [] cpos) (tBM K "list" (rIndex K) to t) := by subst hK; exact pe_bm PySem.F.plainAttrs_list PySem.F.slot_list_index PySem.F.type_list_index mt_index ho ha hbase hfew hline hs hplain
theorem k_revL {e : Expr} {te : TE} {k : Nat} {p1 p2 p3 pos : Pos} (hK : X.K = K) (he : PE X e te) : PE X (.Subscript e (.Slice none none (some (.UnaryOp .USub (.Constant (.int 1) k p1) p2)) p3) pos) (tRevL K te) := by subst hK; exact pe_revL he
theorem k_min (hK : X.K = K) (hc : X.calm = true) : CallR X (.builtin "min") (rMin K) := by subst hK; exact cr_min hc
theorem k_max (hK : X.K = K) (hc : X.calm = true) : CallR X (.builtin "max") (rMax K) := by subst hK; exact cr_max hc
theorem k_enum {e : Expr} {ta : TA} {p pos tpos : Pos} {elts : List Expr} {kk : Nat} (hK : X.K = K) (hg : Gl X "enumerate") (hm : X.mg "enumerate" = none) (ha : PA X [e] ta) (hs : starEach [e] X.env = [(false, eval e X.env)] := by rfl) :
    PI X (.Tuple elts kk tpos) (.Call (.Name "enumerate" p) [e] [] pos) (iEnum K ta) := by subst hK; exact pi_enum hg hm ha hs
theorem k_truth {a : Expr} {ta : TE} (hK : X.K = K) (ha : PE X a ta) (he : ∀ whole, isTrue a X.env whole = (do let v ← whole; standAt a.pos; holding [v] (truthy v))) :
    PT X a (fun σ H Q => ta σ H fun x H' => ∃ k, TruV K x H' k ∧ Q k H') := by subst hK; exact pt_truth ha he
end
/-! ### part.append(left.pop(e)) -/
theorem ds_appPop {i j : Nat} {ds es : List D} {N B C : ι → List S → Prop} {R : ι → S → Prop} (hij : i ≠ j) (hi : ρ[i]? = some (.own (.lst ds))) (hj : ρ[j]? = some (.own (.lst es))) (hl : ds.length < 1000000) (hl2 : es.length < 1000000)
    (h : De c m te ρ fun m s => ∃ (n : Nat) (d : D), s = .dat (.int (n : Int)) ∧ es[n]? = some d ∧ N m ((ρ.set j (.own (.lst (es.eraseIdx n)))).set i (.own (.lst (ds ++ [d]))))) :
    Ds c m (tDrop (tBM c.K "list" rAppend (tVar i) (tCons (tBM c.K "list" rPopAt (tVar j) (tCons te tNil)) tNil))) ρ N R B C := fun D σ G H e k1 _ _ _ => by
  obtain ⟨p, a, f, xs, hx, rx⟩ := e.own hi
  obtain ⟨p2, a2, f2, ys, hy, ry⟩ := e.own hj
  refine ⟨_, a, .inl ⟨rfl, xs, SqL.of hx⟩, _, a2, .inl ⟨rfl, ys, SqL.of hy⟩, h σ G H e _ fun v s m' G' H' g r ⟨n, d, es', hd, hn⟩ => ?_⟩
  subst es'
  cases r
  have hx2 := g.keep _ _ f.2.2 hx
  have hy2 := g.keep _ _ f2.2.2 hy
  have ry2 := ry.mono g.ex
  obtain ⟨y, hy3, ry3⟩ := ry2.getD hd
  have nl : n < ys.length := (List.getElem?_eq_some_iff.mp hy3).1
  have hly : ys.length = es.length := ry.length
  have e2 := e.grow g
  have er : RpL c.K G' (ys.eraseIdx n) (es.eraseIdx n) := by
    rw [List.eraseIdx_eq_take_drop_succ, List.eraseIdx_eq_take_drop_succ]
    exact (ry2.take n).append (ry2.drop (n + 1))
  have e3 := e2.mut1 (o' := .lst (es.eraseIdx n)) (u := .lst (ys.eraseIdx n)) hj a2 ⟨_, upd_same, er⟩
  have hi3 : (ρ.set j (.own (.one (.lst (es.eraseIdx n)))))[i]? = some (.own (.lst ds)) := by rw [List.getElem?_set_ne (Ne.symm hij)]; exact hi
  have np : p ≠ p2 := fun z => e.sep i j _ _ p p2 hij hi hj a a2 p (Ads.root _) (by rw [z]; exact Ads.root _)
  have hx3 : upd H' p2 (.lst (ys.eraseIdx n)) p = some (.lst xs) := by rw [upd_ne np]; exact hx2
  refine ⟨p2, ys, (n : Int), n, y, rfl, rfl, hy2, by omega, by omega, (ixN_seq (n := ys.length) (j := n) (by unfold ixN; rw [if_pos (by omega), if_pos (by omega)]; simp)).1, hy3, p, xs, y, rfl, rfl, hx3, szl (by rw [rx.length]; exact hl), k1 _ σ _ G' _ hn g.ex (e3.mut1 hi3 a ⟨_, upd_same, (rx.mono g.ex).append (.one ry3)⟩)⟩
end
end DL
set_option Elab.async false
set_option linter.all false
set_option maxRecDepth 100000
set_option maxHeartbeats 1000000
namespace DL
open PySem PySem.Spec PyProof.Rows L2 Evl
section
variable {ι : Type} {c : Cc ι} {ρ : List S} {m : ι} {Φ : ι → S → Prop} {K : PySem.W.Frag} {W : Wd ι}
theorem eqv_ints : ∀ ns ks : List Int, PyData.eqvAll (ns.map PyData.int) (ks.map PyData.int) = decide (ns = ks)
  | [], [] => by rw [List.map_nil, PyData.eqvAll]; rfl
  | [], _ :: _ => by rw [List.map_nil, List.map_cons, PyData.eqvAll] <;> simp
  | _ :: _, [] => by rw [List.map_nil, List.map_cons, PyData.eqvAll] <;> simp
  | a :: ns, b :: ks => by
    rw [List.map_cons, List.map_cons, PyData.eqvAll, eqv_ints ns ks, PyData.eqv]
    by_cases h : a = b
    · subst h; simp
    · simp [h]
theorem pys_ints : ∀ ns : List Int, D.pys (ns.map D.int) = some (ns.map PyData.int)
  | [] => by rw [List.map_nil, D.pys]; rfl
  | a :: ns => by rw [List.map_cons, D.pys, pys_ints ns, D.py]; rfl
theorem py_ints (ns : List Int) : (D.lst (ns.map D.int)).py = some (.list (ns.map PyData.int)) := by rw [D.py, pys_ints]; rfl
theorem ok_ints (ns : List Int) : PyOk 64 (.list (ns.map PyData.int)) := by
  obtain ⟨a, b, c⟩ := ints_ok ns
  exact ⟨by rw [PyData.canLay0]; exact a, by rw [PyData.depth, b]; omega, by rw [PyData.eqv]; exact c⟩
theorem ops_eqInts {s1 s2 : S} {ns ks : List Int} (h1 : s1.view = some (.lst (ns.map D.int))) (h2 : s2.view = some (.lst (ks.map D.int))) (h : Φ m (.dat (.bl (decide (ns = ks))))) : OpS K W m (rEqD K) s1 s2 Φ := by
  refine ops_eqD h1 h2 (py_ints ns) (py_ints ks) ((ok_ints ns).shaped (by omega)) ((ok_ints ks).shaped (by omega)) ?_
  rw [PyData.eqv, eqv_ints]; exact h
theorem cb_sortedI {s : S} {ns : List Int} (h1 : s.lst? = some (ns.map D.int)) (h : Φ m (.own (.lst ((srt ns).map D.int)))) : CbS K W m (rSortedI K) [s] Φ := fun H0 G H vs ok rr Q q => by
  obtain ⟨v, rfl, r⟩ := relss1 rr
  obtain ⟨p, xs, rfl, a, b⟩ := r.lstV ok h1
  refine ⟨p, ns, rfl, by rw [← b.ints]; exact a, fun ns' l hp hs hl => ?_⟩
  rw [srt_uniq hp hs]
  exact q (.ref l) (.own (.lst ((srt ns).map D.int))) m G _ (Grow.new ok hl) ⟨l, rfl, ⟨hl, fresh_back ok.ex hl, fun z => W.ne ok.inv z hl⟩, _, upd_same, RpL.ofInts _⟩ h
end
end DL
set_option Elab.async false
set_option linter.all false
set_option maxRecDepth 100000
set_option maxHeartbeats 1000000
namespace DL
open PySem PySem.Spec PyProof.Rows L2 Evl
/-! ### classes of one's own -/
/-- the class at C, under the name x, with the attributes fs of its instances -/
structure Ci (K : PySem.W.Frag) (C : Addr) (fs : List Str) : Prop where
  cl : Cls K C
  no : ∀ f ∈ fs, NoAttr K C f
/-- a property -/
structure Pr (P : Program) (w : World) (K : PySem.W.Frag) (mg : Str → Option Value) (base : Heap) (CX : CXT) (k : Nat) (C : Addr) (x : Str) (F : Fc) : Prop where
  cl : Cls K C
  ex : ∃ (p g : Addr) (fd : FuncData), PropOf K C x p g ∧ FnOk P w K mg base CX k g fd ["self"] (spF K F) ∧ Binds K fd ["self"] []
/-- making an instance -/
structure Mi (P : Program) (w : World) (K : PySem.W.Frag) (mg : Str → Option Value) (base : Heap) (CX : CXT) (k : Nat) (C : Addr) (x : Str) (ps : List Str) (F : Fc) : Prop where
  ex : ∃ (g : Addr) (fd : FuncData), Mk K C g ∧ FnOk P w K mg base CX k g fd ps (spF K F) ∧ mg x = some (.ref C) ∧ Binds K fd ps []
section
variable {X : Cx} {K : PySem.W.Frag} {C : Addr} {k j : Nat} {x : Str} {ps : List Str} {F : Fc} {e : Expr} {es : List Expr} {ta : TE} {t : TA} {p pos pos' : Pos} {f : Str} {o value : Expr} {tv : TE}
theorem k_fld (hK : X.K = K) (he : PE X e ta) (hb : attributeBase e f X.env (eval e X.env) = eval e X.env := by rfl) : PE X (.Attribute e f pos) (tFld K ta f) := by subst hK; exact pe_fld he hb
theorem k_sfld (hK : X.K = K) (ha : PE X o ta) (hv : PE X value tv) (hs : swapsWith value (some (.Attribute o f pos')) pos.line X.env = pure false := by rfl) : PS X (.Assign [.Attribute o f pos'] value pos) (sFld K ta tv f) := by subst hK; exact ps_fld ha hv hs
theorem k_prop (c : Pr X.prog X.w K X.mg X.base CX0 k C x F) (hK : X.K = K) (hr : Room j X.A) (he : PE X e ta) (hk : k + 1 ≤ j := by decide) (hab : attributeBase e x X.env (eval e X.env) = eval e X.env := by rfl) :
    PE X (.Attribute e x pos) (tProp C (spF K F) [] E0 ta) := by
  subst hK
  obtain ⟨p, g, fd, hp, hF, hb⟩ := c.ex
  exact pe_prop he c.cl hp hF (hr.mono hk) hb .nil pass0 hab
theorem k_make {CX : CXT} {E : XK} (c : Mi X.prog X.w K X.mg X.base CX k C x ps F) (hK : X.K = K) (hr : Room j X.A) (hx : Passes CX X E) (ha : PA X (e :: es) t) (hk : k + 1 ≤ j := by decide) (hg : Gl X x := by rfl) (hdb : (x == ("__debug__" : Str)) = false := by decide)
    (he : starEach (e :: es) X.env = (false, eval e X.env) :: starEach es X.env := by rfl) (hpl : (backTo pos (starEach es X.env)).any (·.1) = false := by rfl) :
    PE X (.Call (.Name x p) (e :: es) [] pos) (tMake C (spF K F) [] E t) := by
  subst hK
  obtain ⟨g, fd, M, hF, hm, hb⟩ := c.ex
  exact pe_make M hF (hr.mono hk) hg hm hb .nil hx ha hdb he hpl
end
end DL
set_option Elab.async false
set_option linter.all false
set_option maxRecDepth 100000
set_option maxHeartbeats 1000000
namespace DL
open PySem PySem.Spec PyProof.Rows L2 Evl
section
variable {ι : Type} {c : Cc ι} {ρ : List S} {m : ι} {Φ : ι → S → Prop} {tk tv : TE} {wi : TI} {g : TG} {vs : List Nat}
theorem putD_len {κ : Type} [DecidableEq κ] (ds : List (κ × D)) (k : κ) (d : D) : (putD ds k d).length ≤ ds.length + 1 := by
  unfold putD
  split <;> simp
theorem rp_keyV {K : PySem.W.Frag} {G : Hp} {v : V} {k : Key} (r : Rp K G v (keyD k)) : v = kV k := by
  cases k with
  | inl i => cases r; rfl
  | inr s => cases r; rfl
/-- {k: v for x in ..}, numbers or texts as keys -/
theorem de_dc (h : DI c m wi ρ fun m ds => ds.length < 1000000 ∧ ∃ J : Nat → ι → List (Key × D) → Prop, J 0 m [] ∧
    (∀ i d m acc, ds[i]? = some d → J i m acc → ∃ ρ', DG c m g vs d (wipeS ρ vs) ρ' ∧ De c m tk ρ' fun m s => ∃ k, s = .dat (keyD k) ∧ De c m tv ρ' fun m s2 => ∃ d', s2.frz = .dat d' ∧ J (i + 1) m (putD acc k d')) ∧
    ∀ m acc, J ds.length m acc → Φ m (.own (.dK acc))) (hw : noEls vs ρ = true := by with_unfolding_all rfl) : De c m (tDc wi g tYes tk tv vs) ρ Φ := fun σ G H e Q q => h σ G H e _ fun I ds m1 G1 H1 g1 it ⟨hl, J, j0, jt, jd⟩ => fun Dd hD => by
  have e1 := e.grow g1
  have mD : ¬ c.W.M Dd := fun m => c.W.ne e1.ok.inv m hD
  have gD : G1 Dd = none := fresh_back e1.ok.ex hD
  let W : Nat → Nat → Hp → Prop := fun i m H2 => m = ds.length - i ∧ i ≤ ds.length ∧ ∃ m2 G2 kvs acc, Grow c.W G1 H1 m2 G2 H2 ∧ H2 Dd = some (.dK kvs) ∧ G2 Dd = none ∧ kvs.map (·.1) = acc.map (·.1) ∧ RpL c.K G2 (kvs.map (·.2)) (acc.map (·.2)) ∧ acc.length ≤ i ∧ J i m2 acc
  refine ⟨W, ⟨ds.length, by simp, Nat.zero_le _, m1, G1, [], [], (e1.refl).mut hD gD mD, upd_same, gD, rfl, .nil, Nat.le_refl _, j0⟩, ?_⟩
  rintro i m H2 ⟨em, hi, m2, G2, kvs, acc, g2, hx, hn, kx, rx, ha, j⟩
  have e2 := e1.grow g2
  obtain ⟨ih1, ih2⟩ := it m2 G2 H2 g2.ex e2.ok i
  by_cases hlt : i < ds.length
  · right
    have hd : ds[i]? = some ds[i] := by simp [hlt]
    obtain ⟨go, yl⟩ := ih1 _ hd
    refine ⟨go, W (i + 1) (m - 1), fun H' w => ⟨m - 1, by omega, w⟩, fun x H' y => ?_⟩
    obtain ⟨G3, g3, r3⟩ := yl x H' y
    obtain ⟨ρ', dg, ht⟩ := jt i _ m2 acc hd j
    have e3 := (e2.grow g3).wipe vs hw
    refine dg x _ G3 H' e3 r3 _ fun σ' f4 hw' => ⟨hw'.trans (wipe_wipe σ vs), ?_⟩
    have e4 := f4 _ _ _ (Ex.refl _) e3
    dsimp only [tYes]
    rw [if_pos rfl]
    refine ht σ' G3 H' e4 _ fun v s m5 G5 H5 g5 r5 ⟨k, es, hv⟩ => ?_
    subst es
    have ev := rp_keyV (K := c.K) (G := G5) (v := v) (k := k) r5
    refine hv σ' G5 H5 (e4.grow g5) _ fun v2 s2 m6 G6 H6 g6 r6 ⟨d', es2, j'⟩ => ?_
    obtain ⟨G7, g7, r7⟩ := r6.freeze g6
    rw [es2] at r7
    have g37 := (g3.trans g5).trans g7
    have k1 : H6 Dd = some (.dK kvs) := g37.keep _ _ mD hx
    have k2 : G7 Dd = none := g37.fresh _ _ hx rfl hn
    have hlen : kvs.length = acc.length := by simpa using congrArg List.length kx
    obtain ⟨p1, p2⟩ := rpk_put (k := k) kx (rx.mono g37.ex) (show Rp c.K G7 v2 d' from r7)
    refine ⟨kvs, k, ev, k1, szl (by omega), by omega, hlt, m6, G7, _, putD acc k d', (g2.trans g37).mut hD k2 mD, upd_same, k2, p1, p2, ?_, j'⟩
    have := putD_len acc k d'
    omega
  · left
    have hl2 : i = ds.length := by omega
    refine ⟨ih2 hl2, ?_⟩
    subst hl2
    exact q (.ref Dd) (.own (.dK acc)) m2 G2 H2 (g1.trans g2) ⟨Dd, rfl, ⟨g1.back hD, hn, mD⟩, kvs, hx, kx, rx⟩ (jd m2 acc j)
end
end DL
set_option Elab.async false
set_option linter.all false
set_option maxRecDepth 100000
set_option maxHeartbeats 1000000
namespace DL
open PySem PySem.Spec PyProof.Rows L2 Evl PySem.Calls
section
variable {prog : Program} {w : World} {A : Around} {s : Shared} {E : Value → Shared → Prop}
/-- nothing that stood in h is gone in h' -/
def Stays (h h' : Heap) : Prop := ∀ b o, h.get? b = some o → h'.get? b = some o
/-- a list just laid, behind the sort in place -/
theorem laid_sorted {h1 : Heap} {vs out : List Value} : (∃ e, (sortedHeap (h1.push (seqObj "list" vs.toArray 0)) h1.objs.size vs out.toArray).get? h1.objs.size = some (seqObj "list" out.toArray e)) ∧ Stays h1 (sortedHeap (h1.push (seqObj "list" vs.toArray 0)) h1.objs.size vs out.toArray) := by
  constructor
  · exact sortedHeap_at (n := 0) (Heap.get?_push_size h1 rfl)
  · intro b o hb
    have lt := Heap.lt_size hb
    rw [sortedHeap_old (Nat.ne_of_lt lt) (by rw [size_push']; exact Nat.lt_succ_of_lt lt)]
    exact h1.get?_push_of_some _ hb
/-- sorted(v), by what is collected of v -/
theorem sorted_by {v : Value} {vs : List Value} {lt : Value → Value → Bool} {Q : Value → Shared → Prop} (O : SrtO.Swo lt) (few : vs.length ≤ sizeLine)
    (col : ∀ R : List Value → Shared → Prop, (∀ h1, Stays s.heap h1 → R vs { s with heap := h1 }) → wpAny (model prog w) A.in1 (collect v) R E s)
    (may : 2 ≤ vs.length → ∀ h1 a, h1.get? a = some (seqObj "list" vs.toArray 0) → (∀ b o, s.heap.get? b = some o → h1.get? b = some o) → SrtO.SortableO prog w A.in1.in1 { s with heap := h1 } a vs lt)
    (fin : ∀ h1 out h2 e, Stays s.heap h1 → SrtO.Srtd lt out → SrtO.Stb lt out vs → h2.get? h1.objs.size = some (seqObj "list" out.toArray e) → Stays h1 h2 → Q (.ref h1.objs.size) { s with heap := h2 }) :
    wpAny (model prog w) A (call (.builtin "sorted") [v]) Q E s := by
  apply Calls.call_function_entry kind_sorted plain_sorted entry_sorted (args_sorted1 v)
  unfold Builtin.«sorted»
  apply wpAny_bind (m := checkCount "sorted" 1 1 _)
  apply wpAny_pure
  apply wpAny_bind
  refine col _ fun h1 k1 => wpAny_bind (wpAny_newList ?_ few)
  have here : (h1.push (seqObj "list" vs.toArray 0)).get? h1.objs.size = some (seqObj "list" vs.toArray 0) := Heap.get?_push_size h1 rfl
  have old : Stays s.heap (h1.push (seqObj "list" vs.toArray 0)) := fun b o hb => Heap.get?_push_of_some _ (k1 b o hb)
  apply wpAny_bind
  apply wpAny_holding
  refine wpAny_call_entry slot_list_sort (s := { s with heap := h1.push (seqObj "list" vs.toArray 0) }) ⟨_, here, rfl⟩ entry_list_sort ?_ (args_list_sort _)
  refine SrtO.list_sort_ord O here few (fun two => may two _ _ here old) fun out so st => ⟨_, rfl, ?_⟩
  obtain ⟨⟨e, at_⟩, k2⟩ := laid_sorted (h1 := h1) (vs := vs) (out := out)
  exact wpAny_pure ⟨_, rfl, fin h1 out _ e k1 so st at_ k2⟩
end
/-- sorted of a list or a tuple of numbers -/
def rSortedX (K : PySem.W.Frag) : List V → Hp → VK → Prop := fun vs H Q => ∃ (a : Addr) (ns : List Int), vs = [V.ref a] ∧ (SqL K H a (ns.map V.int) ∨ SqT K H a (ns.map V.int)) ∧
  ∀ (up : List Int) (l : Addr), up.Perm ns → up.Pairwise (· ≤ ·) → H l = none → Q (.ref l) (upd H l (.lst (up.map V.int)))
theorem cr_sortedX {X : Cx} : CallR X (.builtin "sorted") (rSortedX X.K) := fun pins s σ H vs us Q I r ⟨a, ns, e, seq, q⟩ => by
  subst e
  rcases seq with seq | seq
  · exact cr_sortedI pins s σ H _ us Q I r ⟨a, ns, rfl, seq, q⟩
  obtain ⟨its, rv, ⟨o, go, ty, n, dat⟩, few⟩ := I.tuple seq
  have lens : its.length = ns.length := by rw [← rv.length, List.length_map]
  rw [List.length_map] at few
  have whole := rv.ints
  rw [Vals.ref1 r]
  refine sorted_by (vs := its) SrtO.swo_int (by omega) (fun R h => wpAny_collect_seq a (.inr rfl) go ty dat (fun h1 k1 => h h1 k1) (by rw [List.size_toArray]; omega)) (fun two _ _ _ _ => SrtO.ints_sortable whole two) fun h1 out h2 e k1 so st at_ k2 => ?_
  obtain ⟨z1, z2, z3⟩ := SrtO.ints_out whole so st
  have I1 : Inv X pins σ H { s with heap := h1 } := I.kept (t' := s.toks) k1
  have free : H h1.objs.size = none := I1.hok.fresh (Nat.le_refl _)
  have zl := z2.length_eq
  have I2 := I1.laid (a := h1.objs.size) (o := .lst ((out.map SrtO.iv).map V.int)) (h' := h2) (t' := s.toks) k2 (Nat.le_refl _) ⟨by rw [List.length_map]; omega, out, e, vals_of_ints z1, at_⟩
  exact ⟨.ref h1.objs.size, _, I2, rfl, q _ _ z2 z3 free⟩
theorem k_sortedX {X : Cx} {K : PySem.W.Frag} (hK : X.K = K) : CallR X (.builtin "sorted") (rSortedX K) := by subst hK; exact cr_sortedX
section
variable {ι : Type} {c : Cc ι} {ρ : List S} {m : ι} {Φ : ι → S → Prop} {K : PySem.W.Frag} {W : Wd ι} {tr : TA} {N B C : ι → List S → Prop} {R : ι → S → Prop}
theorem cb_sortedX {s : S} {ns : List Int} (h1 : s.lst? = some (ns.map D.int) ∨ s.tup? = some (ns.map D.int)) (h : Φ m (.own (.lst ((srt ns).map D.int)))) : CbS K W m (rSortedX K) [s] Φ := fun H0 G H vs ok rr Q q => by
  obtain ⟨v, rfl, r⟩ := relss1 rr
  have fin : ∀ (up : List Int) (l : Addr), up.Perm ns → up.Pairwise (· ≤ ·) → H l = none → Q (.ref l) (upd H l (.lst (up.map V.int))) := fun up l hp hs hl => by
    rw [srt_uniq hp hs]
    exact q (.ref l) (.own (.lst ((srt ns).map D.int))) m G _ (Grow.new ok hl) ⟨l, rfl, ⟨hl, fresh_back ok.ex hl, fun z => W.ne ok.inv z hl⟩, _, upd_same, RpL.ofInts _⟩ h
  rcases h1 with h1 | h1
  · obtain ⟨p, xs, rfl, a, b⟩ := r.lstV ok h1
    exact ⟨p, ns, rfl, .inl (by rw [← b.ints]; exact a), fin⟩
  · obtain ⟨p, xs, rfl, a, b⟩ := r.tupV ok h1
    exact ⟨p, ns, rfl, .inr (by rw [← b.ints]; exact a), fin⟩
/-- a, b = x, y : two numbers -/
theorem ds_par {i j : Nat} (h : DA c m tr ρ fun m ss => ∃ d1 d2, ss = [.dat d1, .dat d2] ∧ N m ((ρ.set i (.dat d1)).set j (.dat d2))) (n1 : noEl i ρ = true := by with_unfolding_all rfl) (n2 : noEl j ρ = true := by with_unfolding_all rfl) : Ds c m (tPar i j tr) ρ N R B C := fun D σ G H e k1 _ _ _ =>
  h σ G H e _ fun vs ss m1 G1 H1 g1 r1 ⟨d1, d2, es, p⟩ => by
    subst es
    cases r1 with
    | cons ra r1 =>
      cases r1 with
      | cons rb r1 =>
        cases r1
        exact ⟨_, _, rfl, k1 _ _ m1 G1 H1 p g1.ex (((e.grow g1).setD n1 ra).setD (noEl_dat n2) rb)⟩
end
end DL
set_option Elab.async false
set_option linter.all false
set_option maxRecDepth 100000
set_option maxHeartbeats 1000000
namespace DL
open PySem PySem.Spec PyProof.Rows L2 Evl PySem.Calls
section
variable {X : Cx} {K : PySem.W.Frag}
theorem k_inS (hK : X.K = K) : OpR X (compareOp .In) (rIn K false) := by subst hK; exact op_in_seq
theorem eqV_int (a b : Int) : eqV (.int a) (.int b) = decide (a = b) := by
  show (a == b) = decide (a = b)
  by_cases h : a = b <;> simp [h]
theorem inV_ints (i : Int) (ns : List Int) : inV (.int i) (ns.map V.int) = ns.any fun a => decide (a = i) := by
  unfold inV
  rw [List.any_map]
  congr 1
theorem flat_ints (ns : List Int) : (ns.map V.int).all flatV = true := by
  rw [List.all_map]
  exact List.all_eq_true.mpr fun _ _ => rfl
end
section
variable {ι : Type} {K : PySem.W.Frag} {W : Wd ι} {m : ι} {Φ : ι → S → Prop}
theorem ops_inI {s : S} {i : Int} {ns : List Int} (h1 : s.lst? = some (ns.map D.int) ∨ s.tup? = some (ns.map D.int)) (h : Φ m (.dat (.bl (ns.any fun a => decide (a = i))))) : OpS K W m (rIn K false) (.dat (.int i)) s Φ := fun H0 G H v1 v2 ok r1 r2 Q q => by
  cases r1
  have fin : ∀ p xs, xs = ns.map V.int → (SqL K H p xs ∨ SqT K H p xs) → rIn K false (.int i) (.ref p) H Q := fun p xs e hs => by
    refine ⟨p, xs, rfl, hs, rfl, by rw [e]; exact flat_ints ns, ?_⟩
    rw [e, inV_ints]
    exact q _ (.dat (.bl _)) m G H ok.refl (Rp.bl _) h
  rcases h1 with h1 | h1
  · obtain ⟨p, xs, rfl, a, b⟩ := r2.lstV ok h1
    exact fin p xs b.ints (.inl a)
  · obtain ⟨p, xs, rfl, a, b⟩ := r2.tupV ok h1
    exact fin p xs b.ints (.inr a)
end
section
variable {ι : Type} {c : Cc ι} {m : ι} {ρ : List S} {tt : TT} {N : ι → List S → Prop} {R : ι → S → Prop} {B C : ι → List S → Prop}
/-- the body of a try: if t: return a / return b -/
theorem ds_tryIf {A A' : Ends → TE} (h : DT c m tt ρ fun m b => (b = true → Ds c m (fun D σ H => tRet (A D) D σ H) ρ N R B C) ∧ (b = false → Ds c m (fun D σ H => tRet (A' D) D σ H) ρ N R B C)) :
    Ds c m (fun D σ H => tSeq (tIfS tt (tRet (A D)) tNext) (tRet (A' D)) D σ H) ρ N R B C := fun D σ G H e k1 k2 k3 k4 => h σ G H e _ fun b m' G' H' g ⟨h1, h2⟩ => by
  cases b with
  | true => rw [if_pos rfl]; exact h1 rfl D σ G' H' (e.grow g) (fun a b m c' d n y z => k1 a b m c' d n (g.ex.trans y) z) (fun s v m' G' H' r y gg rr => k2 s v m' G' H' r (g.ex.trans y) gg rr) (fun a b m c' d n y z => k3 a b m c' d n (g.ex.trans y) z) (fun a b m c' d n y z => k4 a b m c' d n (g.ex.trans y) z)
  | false => rw [if_neg Bool.false_ne_true]; exact h2 rfl D σ G' H' (e.grow g) (fun a b m c' d n y z => k1 a b m c' d n (g.ex.trans y) z) (fun s v m' G' H' r y gg rr => k2 s v m' G' H' r (g.ex.trans y) gg rr) (fun a b m c' d n y z => k3 a b m c' d n (g.ex.trans y) z) (fun a b m c' d n y z => k4 a b m c' d n (g.ex.trans y) z)
end
end DL
set_option Elab.async false
set_option linter.all false
set_option maxRecDepth 100000
set_option maxHeartbeats 1000000
namespace DL
open PySem PySem.Spec PyProof.Rows L2
/-! ### the head's facts with properties -/
section
variable {K : PySem.W.Frag}
def gAd (K : PySem.W.Frag) (x f : Str) : Addr := match PySem.W.findIn K (.ref (He.ga K x)) f with
  | some (some (.ref q)) => (match PySem.W.recIn K q "property" with
    | some (.ref g :: _) => g
    | _ => 0)
  | _ => 0
/-- the function that lies at a -/
def gotF (K : PySem.W.Frag) (a : Addr) : Option FuncData := (K.lookup a).bind fun o => match o.data with
  | .func fd => some fd
  | _ => none
theorem gotF_at {a : Addr} {fd : FuncData} (h : gotF K a = some fd) : ∃ c d sl, K.lookup a = some ⟨c, d, .func fd, sl⟩ := by
  unfold gotF at h
  cases q : K.lookup a with
  | none => rw [q] at h; cases h
  | some o =>
    rw [q] at h
    rcases o with ⟨c, d, dt, sl⟩
    cases dt <;> first | (cases h; done) | skip
    cases h
    exact ⟨c, d, sl, rfl⟩
def fnA (K : PySem.W.Frag) (a : Addr) : He.FnW := (gotF K a).map fun z => (z.name, z.qualname, z.params, z.body, z.scope, z.globals, z.closure, z.builtins)
def fnB (K : PySem.W.Frag) (a : Addr) (d : He.DefD) : Bool := PySem.W.keepIn K (.ref a) && (gotF K a).any fun z => PySem.W.codeIn K z.code d.qual && (He.dflB K z.defaults (d.dvs K) && He.kwdB K z.kwdefaults (d.kws K))
theorem fnB_ok {a : Addr} {d : He.DefD} (e : fnA K a = d.val) (c : fnB K a d = true) : ∃ fd, FunD K d.name d.qual d.params d.body d.scope (d.dvs K) (d.kws K) a fd := by
  obtain ⟨kept, tests⟩ := He.ba c
  cases g : gotF K a with
  | none => rw [g] at tests; cases tests
  | some z =>
    obtain ⟨cl, dd, sl, at_⟩ := gotF_at g
    rw [g] at tests
    obtain ⟨t1, t23⟩ := He.ba tests
    obtain ⟨t2, t3⟩ := He.ba t23
    unfold fnA He.DefD.val at e
    rw [g, Option.map_some, Option.some.injEq] at e
    rcases z with ⟨f1, f2, f3, f4, f5, f6, f7, dfl, kwd, y1, y2, y3, cod, y4, f8⟩
    simp only [Prod.mk.injEq] at e
    obtain ⟨rfl, rfl, rfl, rfl, rfl, rfl, rfl, rfl⟩ := e
    exact ⟨_, ⟨cl, dd, dfl, kwd, y1, y2, y3, cod, y4, sl, rfl, at_, t1, He.dflB_ok t2, He.kwdB_ok t3⟩, kept⟩
def propB (K : PySem.W.Frag) (x f : Str) : Bool := match PySem.W.findIn K (.ref (He.ga K x)) f with
  | some (some (.ref q)) => He.eqO (PySem.W.specialIn K (.ref q) "__get__") (some (some (.builtin "property.__get__"))) && (decide (PySem.W.takesIn K (.ref q) = some true) && (match PySem.W.recIn K q "property" with
    | some (.ref _ :: _) => true
    | _ => false))
  | _ => false
theorem propB_ok {x f : Str} (h : propB K x f = true) : ∃ p, PropOf K (He.ga K x) f p (gAd K x f) := by
  unfold propB at h
  cases e : PySem.W.findIn K (.ref (He.ga K x)) f with
  | none => rw [e] at h; cases h
  | some o =>
    cases o with
    | none => rw [e] at h; cases h
    | some v =>
      cases v <;> first | (rw [e] at h; cases h; done) | skip
      rename_i q
      rw [e] at h
      obtain ⟨h1, h2⟩ := He.ba h
      obtain ⟨h2, h3⟩ := He.ba h2
      refine ⟨q, e, He.eqO_ok h1, of_decide_eq_true h2, ?_⟩
      unfold gAd
      rw [e]
      cases e2 : PySem.W.recIn K q "property" with
      | none => rw [e2] at h3; cases h3
      | some vs =>
        cases vs with
        | nil => rw [e2] at h3; cases h3
        | cons v r =>
          cases v <;> first | (rw [e2] at h3; cases h3; done) | skip
          exact ⟨r, by dsimp only; rw [e2]⟩
end
/-- properties: class, name, the getter -/
abbrev PrD := Str × Str × He.DefD
abbrev AlP : Type := He.AlD × (Bool × List He.FnW)
def obsP (fa : List He.Fa) (fn : List He.DefD) (pr : List PrD) (ex : PySem.W.Frag → Bool) (K : PySem.W.Frag) : AlP := (He.obsD fa fn K, ((pr.all fun d => propB K d.1 d.2.1 && fnB K (gAd K d.1 d.2.1) d.2.2) && ex K, pr.map fun d => fnA K (gAd K d.1 d.2.1)))
def valP (fn : List He.DefD) (pr : List PrD) : AlP := (He.valD fn, (true, pr.map fun d => d.2.2.val))
def obsPG (n : Nat) (fa : List He.Fa) (fn : List He.DefD) (pr : List PrD) (ex : PySem.W.Frag → Bool) (g : Addr → Option Obj) : AlP := obsP fa fn pr ex (He.frG g (He.asD g n))
structure SaysP (fa : List He.Fa) (fn : List He.DefD) (pr : List PrD) (ex : PySem.W.Frag → Bool) (K : PySem.W.Frag) : Prop where
  e : obsP fa fn pr ex K = valP fn pr
def hookP (n : Nat) (fa : List He.Fa) (fn : List He.DefD) (pr : List PrD) (ex : PySem.W.Frag → Bool) : PySem.W.Hook where
  α := AlP
  obs := fun s => obsPG n fa fn pr ex s.heap.get?
  val := fun _ => valP fn pr
  says := fun _ h => ∃ K : PySem.W.Frag, K.In h ∧ SaysP fa fn pr ex K
  of := fun _ _ e => ⟨_, He.frG_in, ⟨e⟩⟩
  keeps := fun _ _ _ ⟨K, inn, said⟩ k => ⟨K, PySem.W.Frag.In.keeps inn k, said⟩
theorem obsPG_eq {n : Nat} {fa : List He.Fa} {fn : List He.DefD} {pr : List PrD} {ex : PySem.W.Frag → Bool} {g : Addr → Option Obj} {s : Shared} (h : ∀ a, g a = s.heap.get? a) : obsPG n fa fn pr ex g = (hookP n fa fn pr ex).obs s := by
  have e : g = s.heap.get? := funext h
  rw [e] <;> rfl
section
variable {fa : List He.Fa} {fn : List He.DefD} {pr : List PrD} {ex : PySem.W.Frag → Bool} {K : PySem.W.Frag}
theorem SaysP.d (c : SaysP fa fn pr ex K) : He.SaysD fa fn K := congrArg (fun z : AlP => z.1) c.e
theorem SaysP.more (c : SaysP fa fn pr ex K) : ex K = true := (He.ba (show ((pr.all fun d => propB K d.1 d.2.1 && fnB K (gAd K d.1 d.2.1) d.2.2) && ex K) = true from congrArg (fun z : AlP => z.2.1) c.e)).2
theorem SaysP.prop (c : SaysP fa fn pr ex K) (i : Nat) {d : PrD} (h : pr[i]? = some d := by rfl) : ∃ p fd, PropOf K (He.ga K d.1) d.2.1 p (gAd K d.1 d.2.1) ∧ FunD K d.2.2.name d.2.2.qual d.2.2.params d.2.2.body d.2.2.scope (d.2.2.dvs K) (d.2.2.kws K) (gAd K d.1 d.2.1) fd := by
  have c1 := (He.ba (show ((pr.all fun d => propB K d.1 d.2.1 && fnB K (gAd K d.1 d.2.1) d.2.2) && ex K) = true from congrArg (fun z : AlP => z.2.1) c.e)).1
  obtain ⟨b1, b2⟩ := He.ba (List.all_eq_true.mp c1 d (List.mem_of_getElem? h))
  have e : pr.map (fun d => fnA K (gAd K d.1 d.2.1)) = pr.map fun d => d.2.2.val := congrArg (fun z : AlP => z.2.2) c.e
  have e2 : (pr.map fun d => fnA K (gAd K d.1 d.2.1))[i]? = (pr.map fun d => d.2.2.val)[i]? := by rw [e]
  rw [List.getElem?_map, List.getElem?_map, h] at e2
  obtain ⟨p, hp⟩ := propB_ok b1
  obtain ⟨fd, hf⟩ := fnB_ok (Option.some.inj e2) b2
  exact ⟨p, fd, hp, hf⟩
end
end DL
set_option Elab.async false
set_option linter.all false
set_option maxRecDepth 100000
set_option maxHeartbeats 1000000
namespace DL
open PySem PySem.Spec PyProof.Rows L2 Evl
section
variable {ι : Type} {c : Cc ι} {m : ι} {ρ : List S} {te ta : TE} {t : TS} {N B C : ι → List S → Prop} {R : ι → S → Prop} {Φ : ι → S → Prop}
/-- an own list without items may take own items -/
theorem ds_nest0 {i : Nat} (hi : ρ[i]? = some (.own (.lst []))) (h : Ds c m t (ρ.set i (.own (.nest []))) N R B C) (hn : noEl i ρ = true := by with_unfolding_all rfl) : Ds c m t ρ N R B C := fun D σ G H e k1 k2 k3 k4 => by
  obtain ⟨p, a, f, xs, hx, rx⟩ := e.own hi
  cases rx
  have ob : OwnAt c.K (Fr c.W c.H0 G) G H p (.nest []) := ⟨f, [], hx, .nil, by simp [kids]⟩
  have e2 : EnvOk c m G H (σ.set i (some (.ref p))) (ρ.set i (.own (.nest []))) := e.set0 (.inr ⟨_, rfl, p, rfl, ob⟩) (fun o q z hq j o' r hj hj1 hj2 x hx1 hx2 => by
    cases z
    cases hq
    have hx1 : x = p := by
      rcases hx1 with z | ⟨vs, _, z⟩
      · exact z
      · rw [show kids vs [] = [] by cases vs with | nil => rfl | cons v vs => cases v <;> rfl] at z
        cases z
    subst hx1
    exact e.sep i j _ _ x r (Ne.symm hj) hi hj1 a hj2 x rfl hx2) hn (fun _ _ z => by cases z) (fun _ z => by cases z)
  have es : σ.set i (some (.ref p)) = σ := by
    apply List.ext_getElem?
    intro j
    rw [List.getElem?_set]
    split
    · rename_i z
      subst z
      split
      · exact a.symm
      · rename_i z
        rw [List.getElem?_eq_none (by omega)]
    · rfl
  rw [es] at e2
  exact h D σ G H e2 k1 k2 k3 k4
/-- found.append(e), e an own thing -/
theorem ds_appN {i : Nat} {its : List It} (hi : ρ[i]? = some (.own (.nest its))) (hl : its.length < 1000000) (h : De c m te ρ fun m s => ∃ o, s = .own (.one o) ∧ N m (ρ.set i (.own (.nest (its ++ [.o o]))))) : Ds c m (tDrop (tBM c.K "list" rAppend (tVar i) (tCons te tNil))) ρ N R B C := fun D σ G H e k1 _ _ _ => by
  obtain ⟨p, a, f, vs, hx, rx, nd⟩ := e.own hi
  refine ⟨_, a, .inl ⟨rfl, vs, SqL.of hx⟩, h σ G H e _ fun v s m' G' H' g r ⟨o, es, hn⟩ => ?_⟩
  subst es
  obtain ⟨q, rfl, fq, ob⟩ := r
  have e2 := e.grow g
  have hx2 := g.keep _ _ f.2.2 hx
  obtain ⟨p', a', f', vs', hx', rx', nd'⟩ := e2.own hi
  rw [a] at a'
  cases a'
  rw [hx2] at hx'
  cases hx'
  have hl2 : vs.length = its.length := rx.length
  have pq : p ≠ q := fun z => by rw [z, fq.1] at hx; cases hx
  have new : ∀ x, H x ≠ none → x ≠ q := fun x hx z => hx (by rw [z]; exact fq.1)
  refine ⟨p, vs, _, rfl, rfl, hx2, szl (by rw [hl2]; exact hl), k1 _ σ _ G' _ hn g.ex ?_⟩
  have kk : kids (vs ++ [V.ref q]) (its ++ [It.o o]) = kids vs its ++ [q] := by rw [kids_append hl2]; rfl
  have ne : ∀ x ∈ kids vs its, x ≠ p := fun x hx z => by
    have := (List.nodup_cons.mp nd').1
    rw [z] at hx
    exact this hx
  have hq : H' q ≠ none := by
    obtain ⟨u, hu, _⟩ := ob.at
    rw [hu]; exact fun z => by cases z
  have nk : q ∉ kids vs its := fun z => by
    obtain ⟨fz, u, hu, _⟩ := rx.kid z
    exact new q (by rw [hu]; exact fun z => by cases z) rfl
  have f0 : Fr c.W c.H0 G' q := ⟨e.gr.back fq.1, fq.2⟩
  have own' : OwnAt c.K (Fr c.W c.H0 G') G' (upd H' p (.lst (vs ++ [V.ref q]))) p (.nest (its ++ [.o o])) := by
    refine ⟨f', _, upd_same, ?_, ?_⟩
    · refine (rx'.monoA (Ex.refl _) (H' := upd H' p (.lst (vs ++ [V.ref q]))) (F' := Fr c.W c.H0 G') fun x hx => ⟨upd_ne (ne x hx), (rx'.kid hx).1⟩).append (.cons ⟨q, rfl, f0, ob.mono (Ex.refl _) (upd_ne (Ne.symm pq))⟩ .nil)
    · rw [kk]
      obtain ⟨n1, n2⟩ := List.nodup_cons.mp nd'
      rw [List.nodup_cons]
      refine ⟨fun z => ?_, ?_⟩
      · rcases List.mem_append.mp z with z | z
        · exact n1 z
        · exact pq (by simpa using z)
      · rw [List.nodup_append]
        exact ⟨n2, by simp, fun x hx y hy z => by simp at hy; subst hy; subst z; exact nk hx⟩
  -- the list first, then the item: what is added is new
  have hl' : i < ρ.length := (List.getElem?_eq_some_iff.mp hi).1
  have sep' : ∀ {j : Nat} {o2 : O} {r : Addr}, i ≠ j → ρ[j]? = some (.own o2) → σ[j]? = some (some (.ref r)) → ∀ x, Ads H' r o2 x → x ≠ p ∧ x ∉ kids vs its ∧ x ≠ q := fun {j o2 r} hij hj hr x hx2' => by
    have s1 := e2.sep i j _ o2 p r hij hi hj a hr
    refine ⟨fun z => s1 p (.inl rfl) (by rw [← z]; exact hx2'), fun z => s1 x (.inr ⟨vs, hx2, z⟩) hx2', fun z => ?_⟩
    obtain ⟨r', hr', ob2⟩ := e.own hj
    rw [hr] at hr'
    cases hr'
    obtain ⟨r2, hr2, ob3⟩ := e2.own hj
    rw [hr] at hr2
    cases hr2
    have hroot : H' r = H r := (g.fr r ob2.root.1 ob2.hereT).1
    have hx1 : Ads H r o2 x := hx2'.eq hroot.symm.symm
    obtain ⟨_, u, hu, _⟩ := ob2.ads hx1
    exact new x (by rw [hu]; exact fun z => by cases z) z
  refine ⟨e2.ok0, e2.gr.mut f'.1 f'.2.1 f'.2.2, e2.exc, by rw [List.length_set]; exact e2.len, fun j s hs => ?_, fun j k o1 o2 p1 p2 hjk hj hk pj pk x h1 h2 => ?_, fun k a2 j hk => ?_, fun k o1 p1 hk hp1 x hx1 => ?_⟩
  · rcases set_get hs with ⟨rfl, rfl, _⟩ | ⟨hj, hs⟩
    · exact .inr ⟨_, a, p, rfl, own'⟩
    · rcases e2.at_ j s hs with z | ⟨w, aw, rw'⟩
      · exact .inl z
      · refine .inr ⟨w, aw, ?_⟩
        cases s with
        | no => trivial
        | el a b => trivial
        | dat d => exact rw'
        | at_ q => exact rw'
        | own o2 =>
          obtain ⟨r, rfl, zo⟩ := rw'
          exact ⟨r, rfl, zo.monoA (Ex.refl _) fun x h => ⟨upd_ne (sep' hj hs aw x h).1, (zo.ads h).1⟩⟩
        | vw o2 =>
          obtain ⟨r, rfl, zo⟩ := rw'
          exact ⟨r, rfl, zo.monoA (Ex.refl _) fun x h => ⟨upd_ne (fun z => e2.vws j o2 r hs aw x h (by rw [z]; exact f'.1)), (zo.ads h).1⟩⟩
        | lk o2 => exact rw'
        | xc C a d fs =>
          obtain ⟨e1, e3, e4, fv, e5, e6, e7⟩ := rw'
          exact ⟨e1, e3, e4, fv, (upd_ne (fun z => by rw [z, hx2] at e5; cases e5)).trans e5, e6, e7⟩
  · have back : ∀ {j : Nat} {o1 : O} {p1 : Addr}, i ≠ j → ρ[j]? = some (.own o1) → σ[j]? = some (some (.ref p1)) → Ads (upd H' p (.lst (vs ++ [V.ref q]))) p1 o1 x → Ads H' p1 o1 x := fun hij hj pj h => h.eq (upd_ne (sep' hij hj pj _ (Ads.root _)).1)
    have inn : ∀ {p1 : Addr}, p1 = p → Ads (upd H' p (.lst (vs ++ [V.ref q]))) p1 (.nest (its ++ [.o o])) x → x = p ∨ x ∈ kids vs its ∨ x = q := fun {p1} ep h => by
      subst ep
      rcases h with z | ⟨vs2, e3, z⟩
      · exact .inl z
      · rw [upd_same] at e3
        cases e3
        rw [kk] at z
        rcases List.mem_append.mp z with z | z
        · exact .inr (.inl z)
        · exact .inr (.inr (by simpa using z))
    have no : ∀ {j : Nat} {o2 : O} {p2 : Addr}, i ≠ j → ρ[j]? = some (.own o2) → σ[j]? = some (some (.ref p2)) → (x = p ∨ x ∈ kids vs its ∨ x = q) → Ads (upd H' p (.lst (vs ++ [V.ref q]))) p2 o2 x → False := fun hij hj pj h h2 => by
      obtain ⟨z1, z2, z3⟩ := sep' hij hj pj x (back hij hj pj h2)
      rcases h with h | h | h
      · exact z1 h
      · exact z2 h
      · exact z3 h
    rcases set_get hj with ⟨rfl, z, _⟩ | ⟨n1, hj⟩
    · cases z
      rw [a] at pj
      cases pj
      rcases set_get hk with ⟨rfl, _⟩ | ⟨n2, hk⟩
      · exact hjk rfl
      · exact no n2 hk pk (inn rfl h1) h2
    · rcases set_get hk with ⟨rfl, z, _⟩ | ⟨n2, hk⟩
      · cases z
        rw [a] at pk
        cases pk
        exact no n1 hj pj (inn rfl h2) h1
      · exact e2.sep j k o1 o2 p1 p2 hjk hj hk pj pk x (back n1 hj pj h1) (back n2 hk pk h2)
  · rcases set_get hk with ⟨_, z, _⟩ | ⟨n1, hk⟩
    · cases z
    · obtain ⟨its2, p1, vs2, q2, o1, e3, e4, e5, e6, e7, e8⟩ := e2.els k a2 j hk
      by_cases hai : i = a2
      · subst hai
        rw [hi] at e3
        cases e3
        rw [a] at e4
        cases e4
        rw [hx2] at e5
        cases e5
        have j1 : j < vs.length := (List.getElem?_eq_some_iff.mp e6).1
        have j2 : j < its.length := (List.getElem?_eq_some_iff.mp e7).1
        exact ⟨its ++ [.o o], p, vs ++ [V.ref q], q2, o1, by rw [List.getElem?_set]; simp only [if_true]; rw [if_pos hl'], a, upd_same, by rw [List.getElem?_append_left j1]; exact e6, by rw [List.getElem?_append_left j2]; exact e7, e8⟩
      · exact ⟨its2, p1, vs2, q2, o1, by rw [List.getElem?_set_ne hai]; exact e3, e4, (upd_ne (sep' hai e3 e4 p1 (Ads.root _)).1).trans e5, e6, e7, e8⟩
  · rcases set_get hk with ⟨_, z, _⟩ | ⟨n1, hk⟩
    · cases z
    · have np : p1 ≠ p := fun z => e2.vws k o1 p1 hk hp1 p1 (Ads.root _) (by rw [z]; exact f'.1)
      exact e2.vws k o1 p1 hk hp1 x (hx1.eq (upd_ne np))
/-! ### what is dropped at once -/
theorem de_clearN (h : De c m te ρ fun m s => (∃ its, s = .own (.nest its)) ∧ Φ m (.dat .non)) : De c m (tBM0 c.K "list" rClear te) ρ Φ := fun σ G H e Q q => h σ G H e _ fun v s m1 G1 H1 g1 r1 ⟨⟨its, es⟩, p⟩ => by
  subst es
  obtain ⟨p1, rfl, f, xs, hx, rx, nd⟩ := r1
  exact ⟨.inl ⟨rfl, xs, SqL.of hx⟩, p1, xs, rfl, rfl, hx, q _ (.dat .non) m1 G1 _ (g1.mut f.1 f.2.1 f.2.2) Rp.non p⟩
/-- f(..)[i].clear() -/
theorem de_clearIx {i : Int} (h : De c m te ρ fun m s => (∃ its j ds, s = .own (.nest its) ∧ ixN its.length i = some j ∧ its[j]? = some (.o (.lst ds))) ∧ Φ m (.dat .non)) : De c m (tBM0 c.K "list" rClear (tOp (rIxL c.K) te (tC (.int i)))) ρ Φ := fun σ G H e Q q => h σ G H e _ fun v s m1 G1 H1 g1 r1 ⟨⟨its, j, ds, es, hj, hd⟩, p⟩ => by
  subst es
  obtain ⟨p1, rfl, f, vs, hx, rx, nd⟩ := r1
  obtain ⟨w, hw, q1, rfl, fq, xs, hq, _⟩ := rx.getD hd
  have hat : atI vs i = some (.ref q1) := by
    unfold atI
    rw [rx.length, hj]
    exact hw
  exact ⟨p1, vs, i, _, rfl, rfl, SqL.of hx, hat, .inl ⟨rfl, xs, SqL.of hq⟩, q1, xs, rfl, rfl, hq, q _ (.dat .non) m1 G1 _ (g1.mut fq.1 fq.2.1 fq.2.2) Rp.non p⟩
/-- f(..).append(k) -/
theorem de_appT {i : Int} (h : De c m te ρ fun m s => (∃ ds, s = .own (.lst ds) ∧ ds.length < 1000000) ∧ Φ m (.dat .non)) : De c m (tBM c.K "list" rAppend te (tCons (tC (.int i)) tNil)) ρ Φ := fun σ G H e Q q => h σ G H e _ fun v s m1 G1 H1 g1 r1 ⟨⟨ds, es, hl⟩, p⟩ => by
  subst es
  obtain ⟨p1, rfl, f, xs, hx, rx⟩ := r1
  exact ⟨.inl ⟨rfl, xs, SqL.of hx⟩, p1, xs, _, rfl, rfl, hx, szl (by rw [rx.length]; exact hl), q _ (.dat .non) m1 G1 _ (g1.mut f.1 f.2.1 f.2.2) Rp.non p⟩
theorem ds_dropM {K : PySem.W.Frag} {T : String} {r : V → List V → Hp → VK → Prop} {ta : TA} (h : De c m (tBM K T r te ta) ρ fun m _ => N m ρ) : Ds c m (tDrop (tBM K T r te ta)) ρ N R B C := ds_drop h
end
end DL
set_option Elab.async false
set_option linter.all false
set_option maxRecDepth 100000
set_option maxHeartbeats 1000000
namespace DL
open PySem PySem.Spec PyProof.Rows L2 Evl
/-! ### pairs of a dict with tuple keys -/
/-- what the walk over the pairs of a locked dict gives -/
def ItPr (d : Addr) (od : Obj) (l : List (List Key × V)) : L2.It where
  go := fun i H => H d = some (.frz od (.dT l)) ∧ i < l.length
  yld := fun i H x H' => ∃ (t q : Addr) (k : List Key) (v : V), l[i]? = some (k, v) ∧ H q = some (.tup (k.map kV)) ∧ x = .ref t ∧ H t = none ∧ H' = upd H t (.tup [.ref q, v])
  stop := fun i H => H d = some (.frz od (.dT l)) ∧ l.length ≤ i
theorem frzPr {X : Cx} {pins : List (Addr × Obj)} {σ : L2.St} {H : Hp} {s : Shared} {d : Addr} {od : Obj} {l : List (List Key × V)} (I : Inv X pins σ H s) (e : H d = some (.frz od (.dT l))) :
    (d == sysModules) = false ∧ s.heap.get? d = some od ∧ od.ExactDict ∧ ∃ (es : Array DictEntry) (ep : Nat), od.data = .dict es ep ∧ es.size = l.length ∧
      ∀ (i : Nat) (k : List Key) (v : V) (h : i < es.size), l[i]? = some (k, v) → ∃ q, es[i].key = .ref q ∧ H q = some (.tup (k.map kV)) ∧ RelV v es[i].val := by
  obtain ⟨g, _, nm, xs, prs, o2, es, ep, g2, xd, dt, ent, _⟩ := I.hok d _ e
  obtain rfl : od = o2 := Option.some.inj (g.symm.trans g2)
  have n1 : es.size = xs.length := size_of_entries ent
  have n2 : l.length = xs.length := Paired.length prs
  refine ⟨nm, g, xd, es, ep, dt, by omega, fun i k v hi hk => ?_⟩
  obtain ⟨b, hb, _, q2, q3⟩ := paired_get prs hk
  have z := entry_at ent i
  rw [hb, Array.getElem?_eq_getElem hi] at z
  have z := Option.some.inj z
  exact ⟨b.2.1, by rw [z]; rfl, q2, by rw [z]; exact q3⟩
theorem turnPr {P : Program} {w : World} {K : PySem.W.Frag} {d : Addr} {od : Obj} {es : Array DictEntry} {ep : Nat} {l : List (List Key × V)} {elts : List Expr} {kk : Nat} {tp : Pos} (it : Addr) (hdt : od.data = .dict es ep) :
    Turn P w K (.Tuple elts kk tp) (ItPr d od l) [it] it (fun i h => ∃ x y, IsItemIter h it d i l.length ep x y) where
  mem := List.mem_singleton.mpr rfl
  obj := fun i h st b hb => by
    obtain rfl := List.mem_singleton.mp hb
    obtain ⟨x, y, g⟩ := st
    exact ⟨_, g, fun v z => by cases z⟩
  keep := fun i h h' ⟨x, y, g⟩ k => ⟨x, y, k it (List.mem_singleton.mpr rfl) _ g⟩
  item := by
    intro X e1 e2 e3 hcalm i pins s σ H E I hf ⟨x, y, g⟩ ⟨hd, hi⟩
    subst e1 e2 e3
    obtain ⟨nm, gd, xd, es2, ep2, dt2, len, ent⟩ := frzPr I hd
    obtain ⟨rfl, rfl⟩ := dict_ep hdt dt2
    have lt : it < s.heap.objs.size := Heap.lt_size g
    rw [← len] at g
    have hi2 : i < es2.size := by omega
    refine DT.nextI g ⟨od, gd, xd, dt2⟩ hi2 fun h1 out tup _ old => ?_
    refine ⟨_, rfl, wpAny_letOwnedTupleGo_items (s := { s with heap := h1 }) out fun h2 back same => ?_⟩
    have lk : l[i]? = some l[i] := List.getElem?_eq_getElem hi
    obtain ⟨q, kq, hq, rv⟩ := ent i l[i].1 l[i].2 hi2 lk
    have tup2 : h2.get? s.heap.objs.size = some { cls := .type "tuple", data := .seq #[es2[i].key, es2[i].val] } := (same.2 _ (Nat.ne_of_gt lt)).trans tup
    have made : ObjOk X.prog X.w (upd H s.heap.objs.size (.tup [.ref q, l[i].2])) h2 s.heap.objs.size (.tup [.ref q, l[i].2]) :=
      ⟨by show 2 ≤ sizeLine; decide, [es2[i].key, es2[i].val], .cons kq (.cons rv .nil), ⟨_, tup2, rfl, _, rfl⟩⟩
    have J : Inv X pins σ (upd H s.heap.objs.size (.tup [.ref q, l[i].2])) { s with heap := h2 } :=
      I.turnedNew (t' := s.toks) (ch := [it]) (fun b ob nb e => by
        have nb : b ≠ it := fun z => nb (List.mem_singleton.mpr z)
        exact (same.2 b nb).trans (old b ob nb e)) hf (Nat.le_refl _) made
    refine ⟨.ref s.heap.objs.size, _, J, rfl, ⟨_, q, _, _, lk, hq, rfl, I.hok.fresh (Nat.le_refl _), rfl⟩, ⟨es2[i].key, es2[i].val, by rw [← len]; exact back⟩, fun b hb => ?_⟩
    obtain rfl := List.mem_singleton.mp hb
    rw [upd_ne (Nat.ne_of_lt lt)]
    exact (hf b hb).1
  done := by
    intro X e1 e2 e3 hcalm i pins s σ H E I hf ⟨x, y, g⟩ ⟨hd, hi⟩
    subst e1 e2 e3
    obtain ⟨a0, a1, a2, a3, a4, a5⟩ := hf it (List.mem_singleton.mpr rfl)
    obtain ⟨nm, gd, xd, es2, ep2, dt2, len, ent⟩ := frzPr I hd
    obtain ⟨rfl, rfl⟩ := dict_ep hdt dt2
    rw [← len] at g
    exact DT.endI (I.ok.hd hcalm) g ⟨od, gd, xd, dt2⟩ (by omega) fun h1 eb => ⟨rfl, I.turned (t' := s.toks) (fun b ob hb e => eb b ob hb e) a0 a1 a3 a4 a5⟩
  self := fun A i s Q E ⟨_, _, g⟩ h => PySem.W.kcp_self g h
def iPairs (td : TE) : TI := fun σ H R => td σ H fun x H1 => ∃ d od l, x = .ref d ∧ H1 d = some (.frz od (.dT l)) ∧ R (ItPr d od l) H1
theorem pi_pairs {X : Cx} {e : Expr} {td : TE} {ap cp : Pos} {elts : List Expr} {kk : Nat} {tp : Pos} (he : PE X e td) (hb : attributeBase e "items" X.env (eval e X.env) = eval e X.env := by rfl) (hln : (ap.endLine == cp.line) = true := by rfl) :
    PI X (.Tuple elts kk tp) (.Call (.Attribute e "items" ap) [] [] cp) (iPairs td) := ⟨fun pins s σ H R I h => by
  refine wpAny_Call_method (T := "dict") (id := "dict.items") hb rfl hln F.plainAttrs_dict F.slot_dict_items F.type_dict_items ?_
  refine thn (he.run pins s σ H _ I h) fun u s1 ⟨x, H1, I1, rx, d, od, l, ex, hd, q⟩ => ?_
  subst ex
  obtain rfl : u = Value.ref d := rx
  obtain ⟨nm, gd, xd, es, ep, dt, len, ent⟩ := frzPr I1 hd
  have raw : DT.Raw s1.heap d es ep := ⟨od, gd, xd, dt⟩
  refine ⟨raw.typeIs, fun a ha => by cases ha; exact ⟨od, gd, xd.2.1⟩, ?_⟩
  have I2 : Inv X pins σ H1 { s1 with heap := s1.heap.push { cls := .type "dict_items", data := .fields #[.ref d] } } := I1.kept (t' := s1.toks) fun b ob z => Heap.get?_push_of_some _ z
  have last : wpAny (model X.prog X.w) X.A (pyIter (.ref s1.heap.objs.size)) (PIE X pins σ (.Tuple elts kk tp) R) X.xe { s1 with heap := s1.heap.push { cls := .type "dict_items", data := .fields #[.ref d] } } := by
    refine DT.iterI (d := d) ⟨_, Heap.get?_push_size _ rfl, rfl, rfl⟩ (raw.push _) (pi_one (tk := s1.toks) I2 _ (turnPr _ dt) ⟨.none, .none, ?_⟩ q)
    rw [← len]
    exact Heap.get?_push_size _ rfl
  show wpAny _ _ (callWith cp (.builtin "dict.items") [.ref d] [] []) _ X.xe s1
  exact method_meetsIn F.slot_dict_items F.entry_dict_items rfl (PySem.evalArgs_none ⟨rfl, raw.typeIs, F.args_dict_items_1 _, _, DT.meetsItems nm, raw, last⟩)⟩
theorem walks_pairsT {td : TE} {ds : List (List Key × D)} : Walks (iPairs td) td (.dit ds) (ds.map fun p => .tup [keyT p.1, p.2]) := fun {κ K W G H σ d od u} hs hd ru ht R q => by
  obtain ⟨kvs, rfl, hk, rv⟩ := ru
  refine ht _ ⟨d, od, kvs, rfl, hd, q _ fun m G' H' x ok j => ?_⟩
  have hh := hs m G' H' x ok
  have hlen : kvs.length = ds.length := by
    have := congrArg List.length hk
    rwa [List.length_map, List.length_map] at this
  refine ⟨fun y hy => ?_, fun hl => ⟨hh, by rw [hlen, hl, List.length_map]; exact Nat.le_refl _⟩⟩
  rw [List.getElem?_map] at hy
  cases hj : ds[j]? with
  | none => rw [hj] at hy; cases hy
  | some p =>
    rw [hj] at hy
    cases hy
    have hjl : j < kvs.length := by rw [hlen]; exact (List.getElem?_eq_some_iff.mp hj).1
    refine ⟨⟨hh, hjl⟩, fun y H2 z => ?_⟩
    obtain ⟨t, a, k, v, hv, ha, ey, hT, eh⟩ := z
    subst eh ey
    have ek : k = p.1 := by
      have h1 : (kvs.map (·.1))[j]? = some k := by rw [List.getElem?_map, hv]; rfl
      rw [hk, List.getElem?_map, hj] at h1
      exact (Option.some.inj h1).symm
    subst ek
    have rv2 : Rp K G v p.2 := by
      obtain ⟨w, hw, rw'⟩ := rv.getD (i := j) (d := p.2) (by rw [List.getElem?_map, hj]; rfl)
      rw [List.getElem?_map, hv] at hw
      cases hw
      exact rw'
    obtain ⟨G2, g2, ga, x2⟩ := Grow.tup ok ha
    have ok2 := g2.ok ok
    have gT : G2 t = none := fresh_back ok2.ex hT
    refine ⟨_, g2.trans (Grow.newD ok2 hT fun _ _ z => by cases z), Rp.tup upd_same ?_⟩
    have x3 : Ex G2 (upd G2 t (.tup [.ref a, v])) := Ex.new gT
    exact .cons (Rp.mono x3 (Rp.tup ga (rp_keys p.1))) (.cons (Rp.mono x3 (Rp.mono x2 (Rp.mono x rv2))) .nil)
end DL
set_option Elab.async false
set_option linter.all false
set_option maxRecDepth 100000
set_option maxHeartbeats 1000000
namespace DL
open PySem PySem.Spec PyProof.Rows L2 Evl
/-! ### for k, v in f(..).items(): the dict is locked as it comes, and unlocked behind the loop -/
def NoFrz (h0 : Hp) (d : Addr) : Prop := ∀ o' u', h0 d ≠ some (.frz o' u')
def tHold (h0 : Hp) (te : TE) : TE := fun σ H Q => te σ H fun x H1 => ∃ d u, x = .ref d ∧ H1 d = some u ∧ Mut (some u) ∧ ∀ od, NoFrz h0 d → Q x (upd H1 d (.frz od u))
def tUnl (h0 : Hp) (t : TS) : TS := fun D σ H => t ⟨fun σ' H' => ∃ d u od, NoFrz h0 d ∧ H' d = some (.frz od u) ∧ D.nx σ' (upd H' d u), fun v H' => ∃ d u od, NoFrz h0 d ∧ H' d = some (.frz od u) ∧ D.rt v (upd H' d u), fun σ' H' => ∃ d u od, NoFrz h0 d ∧ H' d = some (.frz od u) ∧ D.bk σ' (upd H' d u), fun σ' H' => ∃ d u od, NoFrz h0 d ∧ H' d = some (.frz od u) ∧ D.ct σ' (upd H' d u)⟩ σ H
section
variable {X : Cx}
theorem pe_hold {e : Expr} {te : TE} (h : PE X e te) : PE X e (tHold X.H_0 te) := ⟨fun pins s σ H Q I hw => by
  refine thn (h.run pins s σ H _ I hw) fun v s1 ⟨x, H1, I1, r, d, u, ex, hd, mu, q⟩ => ?_
  obtain ⟨od, I2⟩ := I1.lock hd mu
  exact ⟨x, _, I2, r, q od (I1.nofrz hd mu)⟩⟩
theorem ps_unl {st : Stmt} {t : TS} (h : PS X st t) : PS X st (tUnl X.H_0 t) := ⟨fun pins s σ H D I hw => by
  refine thn (h.run pins s σ H _ I hw) fun f s1 q => ?_
  cases f with
  | next => obtain ⟨σ', H', J, d, u, od, n, e, q⟩ := q; exact ⟨σ', _, J.unlock e n, q⟩
  | brk => obtain ⟨σ', H', J, d, u, od, n, e, q⟩ := q; exact ⟨σ', _, J.unlock e n, q⟩
  | cont => obtain ⟨σ', H', J, d, u, od, n, e, q⟩ := q; exact ⟨σ', _, J.unlock e n, q⟩
  | ret v => obtain ⟨x, σ', H', J, r, d, u, od, n, e, q⟩ := q; exact ⟨x, σ', _, J.unlock e n, r, q⟩⟩
end
section
variable {ι : Type} {c : Cc ι} {m : ι} {ρ : List S} {te : TE} {g : TG} {vs : List Nat} {t : TS} {N B C : ι → List S → Prop} {R : ι → S → Prop} {h0 : Hp}
theorem ds_holdFor (hL : ∀ a, ¬ c.W.L a) (h : De c m te ρ fun m s => ∃ ds : List (List Key × D), s = .own (.dT ds) ∧ ∃ J : Nat → ι → List S → Prop, WkJ ρ (J 0 m) ∧
      (∀ d F i x m ρ', (ds.map fun p => D.tup [keyT p.1, p.2])[i]? = some x → J i m ρ' → ∃ ρ2, DG (lockC c d F) m g vs x ρ' ρ2 ∧ Ds (lockC c d F) m t ρ2 (fun m ρ' => WkJ ρ' (J (i + 1) m)) R N (fun m ρ' => WkJ ρ' (J (i + 1) m))) ∧
      ∀ m ρ', J ds.length m ρ' → N m ρ') : Ds c m (tUnl h0 (tFor (iPairs (tHold h0 te)) g t)) ρ N R B C := fun D σ G H e0 k1 k2 k3 k4 => by
  refine h σ G H e0 _ fun v s m1 G1 H1 g1 r1 ⟨ds, es, J, ⟨ρ1, w1, we1, j0⟩, jt, jd⟩ => ?_
  subst es
  obtain ⟨G2, g2, r2, x12⟩ := r1.freezeX g1
  have e := (e0.grow g2).wk w1 we1
  obtain ⟨d, u, rfl, k, hg, ru, mu⟩ := lkb_of e hL r2 (.inr ⟨ds, rfl⟩)
  refine ⟨d, u, rfl, k.hd, mu, fun od hn => ?_⟩
  have e1 := e.lockD (od := od) k hg
  have hh : upd H1 d (.frz od u) = lkH H1 d (.frz od u) := (lkH_some (by rw [k.hd]; exact fun z => by cases z)).symm
  rw [hh]
  have gd : lkH G2 d (.frz od u) d = some (.frz od u) := by rw [lkH_some (by rw [hg]; exact fun z => by cases z), upd_same]
  have upx : ∀ {G'}, Ex (lkH G2 d (.frz od u)) G' → G' d = some (.frz od u) → Ex G (lkH G' d u) := fun {G'} x f2 a o h => by
    have h := g2.ex a o h
    by_cases z : a = d
    · subst z
      rw [hg] at h
      rw [lkH_some (by rw [f2]; exact fun z => by cases z), upd_same]; exact h
    · rw [lkH_ne z]; exact x a o (by rw [lkH_ne z]; exact h)
  have wk := walks_pairsT (td := fun _ H Q => Q (.ref d) H) (ds := ds) (K := c.K) (W := lockW c.W d) (G := lkH G2 d (.frz od u)) (H := lkH H1 d (.frz od u)) (σ := σ) (d := d) (od := od) (u := u) (fun m G' H' x ok => ok.ex _ _ (x _ _ gd)) (e1.ok.ex _ _ gd) (ru.up (up_lk k.hu (.inl hg))) (fun Q q => q)
  show tFor (iPairs (fun _ H Q => Q (.ref d) H)) g t _ σ _
  refine wk _ fun I it => for_run (c := lockC c d (.frz od u)) (vs := vs) (N := fun m ρ => N m ρ ∨ WkJ ρ (N m)) (R := R) e1 it (fun i m ρ => WkJ ρ (J i m)) ⟨ρ1, Wk.refl _, we1, j0⟩ (fun i y m ρ' hy ⟨ρ2, w2, we2, j⟩ => ?_) (fun m ρ' ⟨ρ2, w2, we2, j⟩ => .inr ⟨ρ2, w2, we2, jd m ρ2 (by rw [List.length_map] at j; exact j)⟩) (fun ρ' σ' m' G' H' n x e' => ?_) (fun s v m' G' H' r x g' rr => ?_)
  · obtain ⟨ρ3, dg, hs⟩ := jt d _ i y m ρ2 hy j
    exact ⟨ρ3, dg.wk w2 we2, hs.imp (fun _ _ n => n) (fun _ _ n => n) (fun _ ρ n => .inl n) (fun _ _ n => n)⟩
  · have f2 := x _ _ gd
    have f1 := e'.ok.ex _ _ f2
    rcases n with n | ⟨ρ2, w2, we2, n⟩
    · exact ⟨d, u, od, hn, f1, k1 ρ' σ' m' _ _ n (upx x f2) (e.unlock k f1 (.inl f2) e')⟩
    · exact ⟨d, u, od, hn, f1, k1 ρ2 σ' m' _ _ n (upx x f2) ((e.unlock k f1 (.inl f2) e').wk w2 we2)⟩
  · obtain ⟨b1, b2, b3⟩ := k.base e
    have f2 := x _ _ gd
    have f1 := g'.sub _ _ f2
    exact ⟨d, u, od, hn, f1, k2 s v m' _ _ r (upx x f2) (unlock_grow k.hu k.md b1 b2 b3 g' f1 (.inl f2)) (rr.unlock k.hu f1 (.inl f2))⟩
end
end DL
set_option Elab.async false
set_option linter.all false
set_option maxRecDepth 100000
set_option maxHeartbeats 1000000
namespace DL
open PySem PySem.Spec PyProof.Rows L2 Evl
/-! ### {k: v for .. in .. if ..} with tuple keys -/
theorem dput_set {X : Cx} {pins : List (Addr × Obj)} {σ : L2.St} {H H' : Hp} {s : Shared} {E : Value → Shared → Prop} {a : Addr} {y v : V} {u r : Value} {Q : Unit → Shared → Prop}
    (hu : X.A.units + 1 < cLine) (I : Inv X pins σ H s) (g : DPut H a y v H') (ry : RelV y u) (rv : RelV v r) (h : ∀ s', Inv X pins σ H' s' → Q () s') : wpAny (model X.prog X.w) X.A (dictSet a u r) Q E s := by
  rcases g with ⟨kvs, k, e, ey, few, eH⟩ | ⟨kvs, k, b, e, ey, eb, few, eH⟩
  · subst ey
    subst eH
    exact d_dictSet I e few ry rv h
  · subst ey
    subst eH
    obtain rfl : u = Value.ref b := ry
    obtain ⟨z, nm, xs, rel, dd⟩ := dt_of I.hok e
    have n1 : xs.length = kvs.length := (Paired.length rel).symm
    have n2 := length_putK kvs k v
    refine wpAny_dictSet_heap (hsz := by rw [n1]; exact z) (show X.A.units < cLine from Nat.lt_of_succ_lt hu) (key_of I.hok eb) dd fun h1 dd1 same => h _ ?_
    obtain ⟨q, es, ep, gq, t1, t2, t3, _, t4⟩ := dd1
    have mu : Mut (H a) := by rw [e]; exact True.intro
    have kp := (rel.put k eb rv).keeps (H' := upd H a (.dT (putK kvs k v))) fun c ys ec => by
      have ne : c ≠ a := fun w => by rw [w, e] at ec; cases ec
      rw [upd_ne ne]; exact ec
    exact d_write I mu same ⟨q, gq⟩ ⟨by omega, nm, _, kp, q, es, ep, gq, t1, t2, t3, t4⟩
def tDct (wi : TI) (g : TG) (tt : TT) (tk tv : TE) (vs : List Nat) : TE := fun σ H Q => wi σ H fun J H1 => ∀ a, H1 a = none → ∃ W : Nat → Nat → Hp → Prop, (∃ n, W 0 n (upd H1 a (.dT []))) ∧ ∀ i n H, W i n H →
  (J.stop i H ∧ Q (.ref a) H) ∨ (J.go i H ∧ ∃ Nx : Hp → Prop, (∀ H', Nx H' → ∃ n', n' < n ∧ W (i + 1) n' H') ∧ ∀ x H', J.yld i H x H' → g x (wipe σ vs) H' fun σ2 H2 => wipe σ2 vs = wipe σ vs ∧ tt σ2 H2 fun b H3 =>
    if b = true then tk σ2 H3 fun y H4 => tv σ2 H4 fun z H5 => ∃ H6, DPut H5 a y z H6 ∧ Nx H6 else Nx H3)
section
variable {X : Cx}
/-- a walk's own places, seen from the block -/
theorem blk_fp {sb : Shared} {Hb : Hp} {scope : Scope} {ce : Env} {fp : List Addr} {σ' : L2.St} {H' : Hp} {s' : Shared} (J : Inv (X.blk sb Hb scope ce fp) [] σ' H' s') (hn : ∀ b ∈ fp, H' b = none) (b : Addr) (hb : b ∈ fp) : FpOk (X.blk sb Hb scope ce fp) [] H' b := by
  refine ⟨hn b hb, (J.ok.exf b hb).1, J.ok.exfs b hb, .inl hb, fun x c z => (J.ok.exf b hb).2 x c z, fun p hp => ?_⟩
  have hp : p ∈ ([] : List (Addr × Obj)) ++ [] := hp
  rw [List.append_nil] at hp
  cases hp
theorem dct_loop {σ : L2.St} {sb s4 : Shared} {Hb : Hp} {Q : VK} {kx vx tg iter : Expr} {ifs : List Expr} {scope : Scope} {ce : Env} {fp : List Addr} {vs : List Nat} {pos : Pos} {g : TG} {tt : TT} {tk tv : TE} {it a : Addr} {tn : Nat → Heap → Prop} {J : L2.It} {W : Nat → Nat → Hp → Prop} {n0 : Nat} {R : Result → Shared → Prop}
    (hc : X.calm = true) (hu : X.A.units + 1 < cLine) (T : Turn X.prog X.w X.K tg J fp it tn) (I4 : Inv (X.blk sb Hb scope ce fp) [] (wipe σ vs) Hb s4) (st4 : tn 0 s4.heap) (nfp : ∀ b ∈ fp, Hb b = none) (w0 : W 0 n0 Hb)
    (pg : PG (X.blk sb Hb scope ce fp) tg g) (pt : PTs (X.blk sb Hb scope ce fp) ifs tt) (pk : PE (X.blk sb Hb scope ce fp) kx tk) (pv : PE (X.blk sb Hb scope ce fp) vx tv)
    (turn : ∀ i n H, W i n H → (J.stop i H ∧ Q (.ref a) H) ∨ (J.go i H ∧ ∃ Nx : Hp → Prop, (∀ H', Nx H' → ∃ n', n' < n ∧ W (i + 1) n' H') ∧ ∀ x H', J.yld i H x H' → g x (wipe σ vs) H' fun σ2 H2 => wipe σ2 vs = wipe σ vs ∧ tt σ2 H2 fun b H3 =>
      if b = true then tk σ2 H3 fun y H4 => tv σ2 H4 fun z Ha => ∃ H6, DPut Ha a y z H6 ∧ Nx H6 else Nx H3))
    (stop : ∀ σ' H' s', Inv (X.blk sb Hb scope ce fp) [] σ' H' s' → Q (.ref a) H' → R (.ok .next) s') :
    codeAny (model X.prog X.w) X.A (.compLoop (.DictComp kx vx [⟨tg, iter, ifs, 0⟩] scope pos) 0 (.ref it) (.ref a) ce) R s4 := by
  refine compLoop_anyD (fun n s' => ∃ i H', Inv (X.blk sb Hb scope ce fp) [] (wipe σ vs) H' s' ∧ tn i s'.heap ∧ (∀ b ∈ fp, H' b = none) ∧ W i n H') ?_ n0 ⟨0, Hb, I4, st4, nfp, w0⟩
  rintro n sa ⟨i, Ha, Ia, sta, na, wa⟩
  rcases turn i n Ha wa with ⟨hstop, hq⟩ | ⟨hgo, Nx, hNx, step⟩
  · refine thnF (T.done (X.blk sb Hb scope ce fp) rfl rfl rfl hc i [] sa _ Ha (fun _ _ => False) Ia (blk_fp Ia na) sta hstop) fun r sc ⟨er, Ic⟩ => ?_
    subst er
    exact stop _ Ha sc Ic hq
  refine thnF (T.item (X.blk sb Hb scope ce fp) rfl rfl rfl hc i [] sa _ Ha (fun _ _ => False) Ia (blk_fp Ia na) sta hgo) fun r sc ⟨u, er, hit⟩ => ?_
  subst er
  refine thnF hit fun _ sd ⟨x, Hd, Id, rd, yd, std, nd⟩ => ?_
  refine thnF (pg.run _ sd _ Hd x u _ (Id.pinned (blk_fp Id nd) (T.obj _ _ std)) rd (step x Hd yd)) fun _ se ⟨σe, He, Ie, hwe, qe⟩ => ?_
  refine thnF (pt.run _ se σe He _ Ie qe) fun b sf ⟨Hf, If, qf⟩ => ?_
  have next : ∀ {s' : Shared} {H' : Hp}, Inv (X.blk sb Hb scope ce fp) ([] ++ pinsAt fp sd.heap) σe H' s' → Nx H' → ∃ n', n' < n ∧ ∃ i H', Inv (X.blk sb Hb scope ce fp) [] (wipe σ vs) H' s' ∧ tn i s'.heap ∧ (∀ b ∈ fp, H' b = none) ∧ W i n' H' := fun {s' H'} J' nx => by
    obtain ⟨n', lt, w'⟩ := hNx H' nx
    have stay : ∀ b ∈ fp, ∀ o, sd.heap.get? b = some o → s'.heap.get? b = some o ∧ H' b = none := fun b hb o e => by
      have z := J'.pin (b, o) (List.mem_append_right _ (List.mem_append_right _ (mem_pinsAt hb e)))
      exact ⟨z.1, z.2.1⟩
    have J2 : Inv (X.blk sb Hb scope ce fp) [] (wipe σ vs) H' s' := (J'.unpinned (pins := [])).weak (by rw [← hwe, wipe_length]) fun j v e => by
      rw [← hwe] at e
      exact (wipe_some e).1
    refine ⟨n', lt, i + 1, H', J2, T.keep _ _ _ std fun b hb o e => (stay b hb o e).1, fun b hb => ?_, w'⟩
    obtain ⟨o, e, _⟩ := T.obj _ _ std b hb
    exact (stay b hb o e).2
  dsimp only at qf
  by_cases hb : b = true
  · subst hb
    rw [if_pos rfl] at qf ⊢
    refine thnF (pk.run _ sf σe Hf _ If qf) fun zk sg ⟨yk, Hg, Ig, rk, qg⟩ => ?_
    refine thnF (pv.run _ sg σe Hg _ Ig qg) fun zv si ⟨yv, Hi, Ii, rw1, Hj, put, nx⟩ => ?_
    exact dput_set (X := X.blk sb Hb scope ce fp) hu Ii put rk rw1 fun sj Ij => next Ij nx
  · rw [if_neg hb] at qf ⊢
    exact next If qf
theorem dct_core {pins : List (Addr × Obj)} {s : Shared} {σ : L2.St} {H : Hp} {Q : VK} {kx vx tg iter : Expr} {ifs : List Expr} {scope : Scope} {own : List (Str × Nat)} {pos pos' : Pos} {wi : TI} {g : TG} {tt : TT} {tk tv : TE} {use : Option (Value → Sem Unit)} {Z : Value → Shared → Prop} (hc : X.calm = true) (hu : X.A.units + 1 < cLine) (hN : X.N.Nodup) (I : Inv X pins σ H s) (hi : PI X tg iter wi) (ok : BlkOk X.N X.env.scope scope own)
    (hg : ∀ s H C cl fp, PG (X.blk s H scope (compEnvC scope cl C X.env) fp) tg g) (ht : ∀ s H C cl fp, PTs (X.blk s H scope (compEnvC scope cl C X.env) fp) ifs tt)
    (hk : ∀ s H C cl fp, PE (X.blk s H scope (compEnvC scope cl C X.env) fp) kx tk) (hv : ∀ s H C cl fp, PE (X.blk s H scope (compEnvC scope cl C X.env) fp) vx tv) (hs : ∀ x, foldedSetIterable iter X.env x = pure x)
    (h : tDct wi g tt tk tv (own.map (·.2)) σ H Q)
    (fin : ∀ D C s' n H', Inv X pins σ H' s' → Q (.ref D) H' → s'.heap.Ns C n → FpOk X pins H' C → compPost (model X.prog X.w) X.A X.xe use Z (.ref D) C (.ok .next) s') :
    wpAny (model X.prog X.w) X.A (comprehension (.DictComp kx vx [⟨tg, iter, ifs, 0⟩] scope pos) scope X.env pos' newDict false (eval iter X.env) use) Z X.xe s := by
  have cells : ∀ y ∈ scope.names, y.2 = .free → ∃ c, X.env.cells.lookup y.1 = some c := fun y hy e => (ok.free y hy e).elim (fun k => I.ok.has _ (.inl k)) fun k => I.ok.has _ (.inr k)
  refine wpAny_comprehension_free rfl hs (closure_ok cells) ok.kind (fun y hy e => by rw [ok.uniq y hy, e]) ?_
  refine thn (hi.run pins s σ H _ I h) fun xv s1 hx => thn hx fun itv s2 ⟨it, fp, tn, J, H2, ei, I2, T, st2, f2, q⟩ => ?_
  subst ei
  refine wpAny_newObj_type (newEnv_comp ?_)
  have fresh : H2 s2.heap.objs.size = none := I2.hok.fresh (Nat.le_refl _)
  obtain ⟨W, ⟨n0, w0⟩, turn⟩ := q _ fresh
  have lts : ∀ b ∈ fp, b < s2.heap.objs.size := fun b hb => by
    obtain ⟨o, e, _⟩ := T.obj _ _ st2 b hb
    exact Heap.lt_size e
  have I3 : Inv X pins σ (upd H2 s2.heap.objs.size (.dT [])) { s2 with heap := s2.heap.push { cls := .type "dict", data := .dict #[] } } :=
    I2.laid (t' := s2.toks) (fun b o e => Heap.get?_push_of_some _ e) (Nat.le_refl _) (dt_empty s2.heap I2.big)
  generalize hs3 : ({ s2 with heap := s2.heap.push { cls := .type "dict", data := .dict #[] } } : Shared) = s3 at I3 ⊢
  show codeAny _ _ (.compStart (.DictComp kx vx [⟨tg, iter, ifs, 0⟩] scope pos) 0 (.ref it) (.ref s2.heap.objs.size)
    (compEnvC scope (cellsFrom (s3.heap.objs.size + 1) scope.names (cloFrom X.env.cells scope.names [])) s3.heap.objs.size X.env))
    (compPost (model X.prog X.w) X.A X.xe use Z (.ref s2.heap.objs.size) s3.heap.objs.size)
    { s3 with heap := pushCells (s3.heap.push { cls := .type "dict", data := .dict #[] }) scope.names }
  have heap3 : s3.heap = s2.heap.push { cls := .type "dict", data := .dict #[] } := by rw [← hs3]
  have f3 : ∀ b ∈ fp, FpOk X pins (upd H2 s2.heap.objs.size (.dT [])) b ∧ b < s3.heap.objs.size := fun b hb => by
    have lt := lts b hb
    obtain ⟨z0, z1⟩ := f2 b hb
    refine ⟨⟨?_, z1⟩, by rw [heap3, Heap.size_push]; exact Nat.lt_succ_of_lt lt⟩
    rw [upd_ne (Nat.ne_of_lt lt)]; exact z0
  have st3 : tn 0 s3.heap := T.keep _ _ _ st2 fun b _ o e => by rw [heap3]; exact Heap.get?_push_of_some _ e
  have I4 := block_start I3 ok hN f3
  generalize hce : compEnvC scope (cellsFrom (s3.heap.objs.size + 1) scope.names (cloFrom X.env.cells scope.names [])) s3.heap.objs.size X.env = ce at I4
  have locs : ce.locals = s3.heap.objs.size := by subst hce; rfl
  generalize hH3 : upd H2 s2.heap.objs.size (.dT []) = H3 at I3 I4 w0 f3
  generalize hs4 : ({ s3 with heap := pushCells (s3.heap.push { cls := .type "dict", data := .dict #[] }) scope.names } : Shared) = s4 at I4
  have st4 : tn 0 s4.heap := by
    refine T.keep _ _ _ st3 fun b _ o e => ?_
    rw [← hs4]
    exact pushCells_keeps _ _ _ _ (Heap.get?_push_of_some _ e)
  have loop : codeAny (model X.prog X.w) X.A (.compLoop (.DictComp kx vx [⟨tg, iter, ifs, 0⟩] scope pos) 0 (.ref it) (.ref s2.heap.objs.size) ce) (compPost (model X.prog X.w) X.A X.xe use Z (.ref s2.heap.objs.size) s3.heap.objs.size) s4 := by
    refine dct_loop hc hu T I4 st4 (fun b hb => (f3 b hb).1.1) w0 ?_ ?_ ?_ ?_ turn fun σ' H' s' J' hq => ?_
    · rw [← hce]; exact hg _ _ _ _ _
    · rw [← hce]; exact ht _ _ _ _ _
    · rw [← hce]; exact hk _ _ _ _ _
    · rw [← hce]; exact hv _ _ _ _ _
    have J7 : Inv X pins σ H' s' := I3.call' (ch := fp) J'.os J'.base J'.hok J'.bare fun b hb => by
      obtain ⟨z0, z1, z2, z3, z4, z5⟩ := (f3 b hb).1
      exact ⟨z3, z1, z4, z5⟩
    have nC : H' s3.heap.objs.size = none := by
      have z : H' ce.locals = none := J'.free
      rw [← locs]; exact z
    obtain ⟨m, ns, _⟩ := J'.loc
    have ns : s'.heap.Ns ce.locals m := ns
    rw [locs] at ns
    exact fin _ _ _ m _ J7 hq ns (I3.fpOk (Nat.le_refl _) nC)
  exact codeAny_compStart_dict loop (T.self X.A 0 _ _ _ st4 loop)
theorem pe_dct {kx vx tg iter : Expr} {ifs : List Expr} {scope : Scope} {own : List (Str × Nat)} {pos : Pos} {wi : TI} {g : TG} {tt : TT} {tk tv : TE} (hc : X.calm = true) (hu : X.A.units + 1 < cLine) (hN : X.N.Nodup) (hi : PI X tg iter wi) (ok : BlkOk X.N X.env.scope scope own)
    (hg : ∀ s H C cl fp, PG (X.blk s H scope (compEnvC scope cl C X.env) fp) tg g) (ht : ∀ s H C cl fp, PTs (X.blk s H scope (compEnvC scope cl C X.env) fp) ifs tt)
    (hk : ∀ s H C cl fp, PE (X.blk s H scope (compEnvC scope cl C X.env) fp) kx tk) (hv : ∀ s H C cl fp, PE (X.blk s H scope (compEnvC scope cl C X.env) fp) vx tv) (hs : ∀ x, foldedSetIterable iter X.env x = pure x := by intro _; rfl) :
    PE X (.DictComp kx vx [⟨tg, iter, ifs, 0⟩] scope pos) (tDct wi g tt tk tv (own.map (·.2))) := ⟨fun pins s σ H Q I h => dct_core (use := none) (Z := EP X pins σ Q) hc hu hN I hi ok hg ht hk hv hs h fun D C s' m H' I' q n f => by
  obtain ⟨z0, z1, _, z3, z4, z5⟩ := f
  exact ⟨m, n, fun h2 sb => ⟨.ref D, H', I'.turned (t' := s'.toks) (fun b o hb e => (sb.2 b hb).trans e) z0 z1 z3 z4 z5, rfl, q⟩⟩⟩
/-- x = {k: v for ..}, x a local that the block does not name -/
theorem ps_setDct {i : Nat} {y : Str} {py : Pos} {kx vx tg iter : Expr} {ifs : List Expr} {scope : Scope} {own : List (Str × Nat)} {pos spos : Pos} {wi : TI} {g : TG} {tt : TT} {tk tv : TE} (hc : X.calm = true) (hu : X.A.units + 1 < cLine) (hN : X.N.Nodup) (hy : X.N[i]? = some y) (hl : X.env.scope.names.lookup y = some .local)
    (hw : swapsWith (.DictComp kx vx [⟨tg, iter, ifs, 0⟩] scope pos) (some (.Name y py)) spos.line X.env = pure true) (hi : PI X tg iter wi) (ok : BlkOk X.N X.env.scope scope own)
    (hg : ∀ s H C cl fp, PG (X.blk s H scope (compEnvC scope cl C X.env) fp) tg g) (ht : ∀ s H C cl fp, PTs (X.blk s H scope (compEnvC scope cl C X.env) fp) ifs tt)
    (hk : ∀ s H C cl fp, PE (X.blk s H scope (compEnvC scope cl C X.env) fp) kx tk) (hv : ∀ s H C cl fp, PE (X.blk s H scope (compEnvC scope cl C X.env) fp) vx tv) (hs : ∀ x, foldedSetIterable iter X.env x = pure x := by intro _; rfl) :
    PS X (.Assign [.Name y py] (.DictComp kx vx [⟨tg, iter, ifs, 0⟩] scope pos) spos) (tAsg (tDct wi g tt tk tv (own.map (·.2))) (gName i)) := ⟨fun pins s σ H D I h => by
  rw [exec_Assign_Name_used _ _ _ _ hw]
  have step : wpAny (model X.prog X.w) X.A (evalThenUse (.DictComp kx vx [⟨tg, iter, ifs, 0⟩] scope pos) X.env (assign (.Name y py) X.env)) (fun _ s' => SP X pins D .next s') X.xe s := by
    have c := dct_core (pos := pos) (pos' := firstIterPos [⟨tg, iter, ifs, 0⟩] pos) (use := some (assign (.Name y py) X.env)) (Z := fun _ s' => SP X pins D .next s') hc hu hN I hi ok hg ht hk hv hs (Q := fun x H1 => gName i x σ H1 D.nx) h fun L C s' m H' I' q n f => by
      obtain ⟨z0, z1, _, z3, z4, z5⟩ := f
      show wpAny _ _ (assign (.Name y py) X.env (.ref L)) _ _ _
      refine wpAny_assign_Name (store_ok2 (v := V.ref L) I' hN hy (.inl hl) rfl (fun s2 I2 ⟨a, sb, ha⟩ => ?_) (.inr hl))
      have nb : C ≠ a := ha.elim (fun z => z ▸ z1) fun z e => z4 y a z e.symm
      exact ⟨m, n.sameBut sb nb, fun h3 sb3 => ⟨_, H', I2.turned (t' := s2.toks) (fun b o hb e => (sb3.2 b hb).trans e) z0 z1 z3 z4 z5, q⟩⟩
    exact wpAny_bind (thn c fun _ s' z => wpAny_pure z)
  exact wpAny_bind (wpAny_standAt (wpAny_bind (thn step fun _ s' z => wpAny_pure z)))⟩
theorem sw_dict {kx vx : Expr} {gs : List Comprehension} {scope : Scope} {pos py : Pos} {y : Str} {l : Nat} {env : Env} (h1 : env.scope.kind = .function) (h2 : env.scope.names.lookup y = some .local) (h3 : (py.line == pos.line) = true)
    (h4 : (scope.names.any fun (n, k) => n == y && (k == .local || k == .cell)) = false) : swapsWith (.DictComp kx vx gs scope pos) (some (.Name y py)) l env = pure true := by
  have b : env.blockKind = .function := by simp [Env.blockKind, h1]
  have k : env.kindOf y = some .local := h2
  simp only [swapsWith, Expr.pos, b, k, h3, h4]
  rfl
end
end DL
set_option Elab.async false
set_option linter.all false
set_option maxRecDepth 100000
set_option maxHeartbeats 1000000
namespace DL
open PySem PySem.Spec PyProof.Rows L2 Evl PySem.Calls
/-! ### sorted(d), d a dict with tuple keys -/
def keyPy : Key → PyData
  | .inl i => .int i
  | .inr x => .str x
section
variable {prog : Program} {w : World} {A : Around} {s : Shared} {E : Value → Shared → Prop}
/-- sorted(v) of data, by what is collected of v -/
theorem sorted_colD {β : Type} {enc : β → PyData} {R : Value → β → Prop} {v : Value} {vs : List Value} {bs : List β} {Q : Value → Shared → Prop} (few : bs.length ≤ sizeLine)
    (each : PySem.W.EachIs R vs bs) (rd : PySem.W.EachIs (fun v b => Reads s.heap v (enc b) []) vs bs) (al : PySem.W.AllAlike (bs.map enc)) (so : PySem.W.Sortable (bs.map enc)) (room : ∀ b, b ∈ bs → A.units + 2 + (enc b).depth < cLine)
    (col : ∀ R : List Value → Shared → Prop, (∀ h1 t1, Stays s.heap h1 → R vs { s with heap := h1, toks := t1 }) → wpAny (model prog w) A.in1 (collect v) R E s)
    (fin : ∀ h1 t1 out h2 e, Stays s.heap h1 → PySem.W.EachIs R out (bs.mergeSort (PySem.W.dataLe false enc)) → h2.get? h1.objs.size = some (seqObj "list" out.toArray e) → Stays h1 h2 → Q (.ref h1.objs.size) { s with heap := h2, toks := t1 }) :
    wpAny (model prog w) A (call (.builtin "sorted") [v]) Q E s := by
  apply Calls.call_function_entry kind_sorted plain_sorted entry_sorted (args_sorted1 v)
  unfold Builtin.«sorted»
  apply wpAny_bind (m := checkCount "sorted" 1 1 _)
  apply wpAny_pure
  apply wpAny_bind
  have len : vs.length = bs.length := each.length
  refine col _ fun h1 t1 k1 => wpAny_bind (wpAny_newList ?_ (by rw [len]; exact few))
  have here : (h1.push (seqObj "list" vs.toArray 0)).get? h1.objs.size = some (seqObj "list" vs.toArray 0) := Heap.get?_push_size h1 rfl
  have old : Stays s.heap (h1.push (seqObj "list" vs.toArray 0)) := fun b o hb => Heap.get?_push_of_some _ (k1 b o hb)
  apply wpAny_bind
  apply wpAny_holding
  refine PySem.W.list_sort_data (A := A.in1) (s := { s with heap := h1.push (seqObj "list" vs.toArray 0), toks := t1 }) here each (rd.mono fun _ _ r => ⟨[], Reads.keeps old r, fun z => by cases z⟩) al so few room fun out _ eo => ?_
  obtain ⟨⟨e, at_⟩, k2⟩ := laid_sorted (h1 := h1) (vs := vs) (out := out)
  exact wpAny_pure ⟨_, rfl, fin h1 t1 out _ e k1 eo at_ k2⟩
end
section
variable {X : Cx} {pins : List (Addr × Obj)} {σ : L2.St} {H : Hp} {s : Shared}
theorem reads_keys {h : Heap} : ∀ {k : List Key} {us : List Value}, Vals (k.map kV) us → ReadsAll h us (k.map keyPy) []
  | [], _, r => by cases r; exact .nil
  | a :: k, _, r => by
    cases r with
    | cons r1 r2 =>
      refine .cons (as := []) (bs := []) ?_ (reads_keys r2)
      cases a with
      | inl i => obtain ⟨t, rfl⟩ := r1; exact .int i t
      | inr x => obtain ⟨t, rfl⟩ := r1; exact .str x t
theorem reads_key {q : Addr} {k : List Key} (I : Inv X pins σ H s) (hq : H q = some (.tup (k.map kV))) : Reads s.heap (.ref q) (.tuple (k.map keyPy)) [] := by
  obtain ⟨its, rv, ⟨o, go, ty, n, dat⟩, _⟩ := I.tuple (SqT.of hq)
  exact .tuple go ty dat (reads_keys rv)
/-- what is in the dict, entry by entry -/
theorem rdT {d : Addr} {l : List (List Key × V)} (I : Inv X pins σ H s) (e : Rd H d (.dT l)) : l.length ≤ sizeLine ∧ (d == sysModules) = false ∧ ∃ (es : Array DictEntry) (ep : Nat), s.heap.DictRaw d es ep ∧ es.size = l.length ∧
    ∀ (i : Nat) (k : List Key) (v : V) (h : i < es.size), l[i]? = some (k, v) → ∃ q, es[i].key = .ref q ∧ H q = some (.tup (k.map kV)) ∧ RelV v es[i].val := by
  obtain ⟨z, nm, xs, prs, o2, es, ep, g2, xd, dt, ent, _⟩ := (show ObjOk X.prog X.w H s.heap d (.dT l) from rd_of I.hok e)
  have n1 : es.size = xs.length := size_of_entries ent
  have n2 : l.length = xs.length := Paired.length prs
  refine ⟨z, nm, es, ep, ⟨o2, g2, xd, dt⟩, by omega, fun i k v hi hk => ?_⟩
  obtain ⟨b, hb, _, q2, q3⟩ := paired_get prs hk
  have y := entry_at ent i
  rw [hb, Array.getElem?_eq_getElem hi] at y
  have y := Option.some.inj y
  exact ⟨b.2.1, by rw [y]; rfl, q2, by rw [y]; exact q3⟩
end
/-- the key tuples, in order -/
def rSortT : List V → Hp → VK → Prop := fun vs H Q => ∃ (a : Addr) (l : List (List Key × V)), vs = [.ref a] ∧ Rd H a (.dT l) ∧ PySem.W.AllAlike (l.map fun p => PyData.tuple (p.1.map keyPy)) ∧ PySem.W.Sortable (l.map fun p => PyData.tuple (p.1.map keyPy)) ∧
  ∀ (xs : List V) (p : Addr), Paired (fun (x : V) (b : List Key × V) => ∃ q, x = .ref q ∧ H q = some (.tup (b.1.map kV))) xs (l.mergeSort (PySem.W.dataLe false fun p => PyData.tuple (p.1.map keyPy))) → H p = none → Q (.ref p) (upd H p (.lst xs))
theorem py_depth (k : List Key) : (PyData.tuple (k.map keyPy)).depth ≤ 1 := by
  have : ∀ k : List Key, PyData.depthAll (k.map keyPy) = 0 := fun k => by
    induction k with
    | nil => rfl
    | cons a k ih =>
      rw [List.map_cons, PyData.depthAll, ih]
      cases a <;> rfl
  show PyData.depthAll (k.map keyPy) + 1 ≤ 1
  rw [this]
  exact Nat.le_refl _
theorem each_paired {α β : Type} {R : α → β → Prop} : ∀ {l : List α} {m : List β}, PySem.W.EachIs R l m → Paired R l m
  | _, _, .nil => .nil
  | _, _, .cons h r => .cons h (each_paired r)
theorem each_of {α β : Type} {R : α → β → Prop} : ∀ {l : List α} {m : List β}, l.length = m.length → (∀ (i : Nat) a b, l[i]? = some a → m[i]? = some b → R a b) → PySem.W.EachIs R l m
  | [], [], _, _ => .nil
  | [], _ :: _, h, _ => by cases h
  | _ :: _, [], h, _ => by cases h
  | a :: l, b :: m, h, f => .cons (f 0 a b rfl rfl) (each_of (by simpa using h) fun i x y hx hy => f (i + 1) x y (by simpa using hx) (by simpa using hy))
theorem cr_sortedT {X : Cx} (hc : X.calm = true) (hu : X.A.units + 64 < cLine) : CallR X (.builtin "sorted") rSortT := fun pins s σ H vs us Q I r ⟨a, l, e, hd, al, so, q⟩ => by
  subst e
  rw [Vals.ref1 r]
  obtain ⟨few, nm, es, ep, raw, len, ent⟩ := rdT I hd
  have keyAt : ∀ i (v : Value) (b : List Key × V), (es.toList.map (·.key))[i]? = some v → l[i]? = some b → ∃ q, v = .ref q ∧ H q = some (.tup (b.1.map kV)) := fun i v b hv hb => by
    rw [List.getElem?_map] at hv
    cases z : es.toList[i]? with
    | none => rw [z] at hv; cases hv
    | some en =>
      rw [z] at hv
      cases hv
      obtain ⟨hi, rfl⟩ := List.getElem?_eq_some_iff.mp z
      obtain ⟨q, hq, ht, _⟩ := ent i b.1 b.2 (by simpa using hi) hb
      exact ⟨q, by simpa using hq, ht⟩
  have n1 : (es.toList.map (·.key)).length = l.length := by rw [List.length_map, Array.length_toList]; exact len
  refine sorted_colD (vs := es.toList.map (·.key)) (bs := l) (enc := fun p => PyData.tuple (p.1.map keyPy)) (R := fun v b => ∃ q, v = .ref q ∧ H q = some (.tup (b.1.map kV))) few (each_of n1 keyAt)
    (each_of n1 fun i v b hv hb => ?_) al so (fun b _ => by have := py_depth b.1; omega) (fun R h => ?_) fun h1 t1 out h2 e k1 eo at_ k2 => ?_
  · obtain ⟨q, rfl, ht⟩ := keyAt i v b hv hb
    exact reads_key I ht
  · refine PySem.W.kdu_collect (PySem.KdlSrc.rawDict (es := es) (ep := ep) nm) (I.ok.hd hc) raw (by rw [len]; exact few) fun h' tk acc k items => ?_
    have ea : acc.toList = es.toList.map (·.key) := by
      apply List.ext_getElem?
      intro i
      by_cases hi : i < es.size
      · have ha : i < acc.size := by rw [items.1]; exact hi
        obtain ⟨_, h2⟩ := items.2 i acc[i] (Array.getElem?_eq_getElem ha)
        rw [List.getElem?_map, List.getElem?_eq_getElem (by simpa using ha), List.getElem?_eq_getElem (by simpa using hi)]
        simp [h2]
      · rw [List.getElem?_eq_none (by rw [Array.length_toList, items.1]; omega), List.getElem?_eq_none (by rw [List.length_map, Array.length_toList]; omega)]
    rw [ea]
    exact h h' tk k
  · have I1 : Inv X pins σ H { s with heap := h1, toks := t1 } := I.kept (t' := t1) k1
    have free : H h1.objs.size = none := I1.hok.fresh (Nat.le_refl _)
    obtain ⟨xs, vals, prs⟩ : ∃ xs, Vals xs out ∧ Paired (fun (x : V) (b : List Key × V) => ∃ q, x = .ref q ∧ H q = some (.tup (b.1.map kV))) xs (l.mergeSort (PySem.W.dataLe false fun p => PyData.tuple (p.1.map keyPy))) := by
      generalize l.mergeSort (PySem.W.dataLe false fun p => PyData.tuple (p.1.map keyPy)) = m at eo
      clear at_
      induction eo with
      | nil => exact ⟨[], .nil, .nil⟩
      | cons h r ih =>
        obtain ⟨q, rfl, ht⟩ := h
        obtain ⟨xs, v1, p1⟩ := ih
        exact ⟨.ref q :: xs, .cons rfl v1, .cons ⟨q, rfl, ht⟩ p1⟩
    have n2 : xs.length = l.length := by rw [Paired.length prs, List.length_mergeSort]
    have I2 := I1.laid (a := h1.objs.size) (o := .lst xs) (h' := h2) (t' := t1) k2 (Nat.le_refl _) ⟨by rw [n2]; exact few, out, e, vals, at_⟩
    exact ⟨.ref h1.objs.size, _, I2, rfl, q xs _ prs free⟩
theorem k_sortedT {X : Cx} (hc : X.calm = true) (hu : X.A.units + 64 < cLine) : CallR X (.builtin "sorted") rSortT := cr_sortedT hc hu
end DL
set_option Elab.async false
set_option linter.all false
set_option maxRecDepth 100000
set_option maxHeartbeats 1000000
namespace DL
open PySem PySem.Spec PyProof.Rows L2 Evl PySem.Calls
/-! ### dict(d), d a dict with tuple keys -/
def hashT (w : World) (k : List Key) : Int := reduceHash (Builtin.Tuple.tupleHashOf (k.map (keyH w)))
def rDictT (w : World) : List V → Hp → VK → Prop := fun xs H Q => ∃ (a : Addr) (l : List (List Key × V)), xs = [.ref a] ∧ Rd H a (.dT l) ∧ (l.map fun p => hashT w p.1).Nodup ∧ ∀ p, H p = none → Q (.ref p) (upd H p (.dT l))
theorem kt_fst {H : Hp} : ∀ {l : List (List Key × V)} {ys : List (List Key × Addr × Value)}, KT H l ys → ys.map (·.1) = l.map (·.1)
  | _, _, .nil => rfl
  | _, _, .cons h r => by rw [List.map_cons, List.map_cons, kt_fst r, h.1]
section
variable {X : Cx}
theorem call_dictT (hu : X.A.units + 64 < cLine) : CallR X (.type "dict") (rDictT X.w) := fun pins s σ H xs us Q I r ⟨a, l, e, hd, ap, q⟩ => by
  subst e
  rw [Vals.ref1 r]
  have free : H s.heap.objs.size = none := I.hok.fresh (Nat.le_refl _)
  have I1 : Inv X pins σ (upd H s.heap.objs.size (.dT [])) { s with heap := s.heap.push { cls := .type "dict", data := .dict #[] } } :=
    I.laid (t' := s.toks) (fun b o e => Heap.get?_push_of_some _ e) (Nat.le_refl _) (dt_empty s.heap I.big)
  have na : a ≠ s.heap.objs.size := fun z => by
    rcases hd with hd | ⟨o, hd⟩ <;> (rw [z, free] at hd; cases hd)
  have hd1 : Rd (upd H s.heap.objs.size (.dT [])) a (.dT l) := by
    unfold Rd
    rw [upd_ne na]
    exact hd
  obtain ⟨few, nm, ys, kt, dd⟩ := dt_rd I1.hok hd1
  obtain ⟨_, nm0, zs, kt0, dd0⟩ := dt_of I1.hok (a := s.heap.objs.size) (kvs := []) upd_same
  cases kt0
  have n1 : ys.length = l.length := (Paired.length kt).symm
  have apart : (ys.map fun x => (tupleKind (mixKind X.prog X.w)).hash x.1).Nodup := by
    have e1 : (ys.map fun x => (tupleKind (mixKind X.prog X.w)).hash x.1) = l.map fun p => hashT X.w p.1 := by
      have := congrArg (List.map (hashT X.w)) (kt_fst kt)
      rw [List.map_map, List.map_map] at this
      exact this
    rw [e1]; exact ap
  have isT : ∀ x ∈ ys, ({ s with heap := s.heap.push { cls := .type "dict", data := .dict #[] } } : Shared).TypeIs (.ref x.2.1) "tuple" := fun x hx => by
    obtain ⟨i, hi⟩ := List.getElem?_of_mem hx
    have il : i < l.length := by rw [← n1]; exact (List.getElem?_eq_some_iff.mp hi).1
    obtain ⟨b, hb, _, ht, _⟩ := paired_get kt (List.getElem?_eq_getElem il)
    obtain rfl : x = b := Option.some.inj (hi.symm.trans hb)
    obtain ⟨its, rv, ⟨o, go, ty, _⟩, _⟩ := I1.tuple (SqT.of ht)
    exact ⟨o, go, ty⟩
  refine callType_codes (Q₁ := fun obj s1 => obj = .ref s.heap.objs.size ∧ s1 = { s with heap := s.heap.push { cls := .type "dict", data := .dict #[] } }) F.kt_called_dict (F.kt_typeCall_dict_1 _) F.entry_dict_init (kt_code_dict_new _ ⟨rfl, rfl⟩) ?_
  intro obj s1 ⟨e1, e2⟩
  subst e1 e2
  refine ⟨dd0.typeIs, F.args_dict_init_2 _ _, ?_⟩
  unfold Builtin.«dict.__init__» Builtin.Dict.selfAndRest
  apply wpAny_bind
  apply wpAny_bind
  refine wpAny_notOrdered_dict dd0.typeIs (wpAny_pure ?_)
  refine updateFrom_dictH (knd := tupleKind (mixKind X.prog X.w)) .none (by show X.A.units + 1 + 1 < cLine; omega) (Ne.symm na) nm dd0 dd (.inr ⟨isT, apart⟩) (by rw [n1]; simpa using few) fun h1 d1 _ same => ⟨rfl, ?_⟩
  rw [storedAllH_nil_of_nodup ys dd.nodup] at d1
  obtain ⟨o, es, ep, go, t1, t2, t3, _, t4⟩ := d1
  have kt2 : KT (upd (upd H s.heap.objs.size (.dT [])) s.heap.objs.size (.dT l)) l ys := kt.keeps fun c ys' ec => by
    have ne : c ≠ s.heap.objs.size := fun z => by rw [z, upd_same] at ec; cases ec
    rw [upd_ne ne]; exact ec
  have mu : Mut (upd H s.heap.objs.size (.dT []) s.heap.objs.size) := by rw [upd_same]; exact True.intro
  have I2 := d_write (t' := s.toks) I1 mu same ⟨o, go⟩ (ob := .dT l) ⟨few, nm0, ys, kt2, o, es, ep, go, t1, t2, t3, t4⟩
  have eu : upd (upd H s.heap.objs.size (.dT [])) s.heap.objs.size (.dT l) = upd H s.heap.objs.size (.dT l) := by
    funext b
    by_cases z : b = s.heap.objs.size
    · rw [z, upd_same, upd_same]
    · rw [upd_ne z, upd_ne z, upd_ne z]
  rw [eu] at I2
  exact ⟨.ref s.heap.objs.size, _, I2, rfl, q _ free⟩
end
end DL
set_option Elab.async false
set_option linter.all false
set_option maxRecDepth 100000
set_option maxHeartbeats 1000000
namespace DL
open PySem PySem.Spec PyProof.Rows L2 Evl PySem.Calls
/-! ### dict([(k, v), ..]), tuple keys, each once -/
def rDictP (K : PySem.W.Frag) : List V → Hp → VK → Prop := fun xs H Q => ∃ (a : Addr) (ps : List Addr) (l : List (List Key × V)), xs = [.ref a] ∧ SqL K H a (ps.map V.ref) ∧ Paired (fun (p : Addr) (b : List Key × V) => ∃ q, SqT K H p [.ref q, b.2] ∧ H q = some (.tup (b.1.map kV))) ps l ∧ (l.map (·.1)).Nodup ∧ ∀ p, H p = none → Q (.ref p) (upd H p (.dT l))
section
variable {X : Cx} {pins : List (Addr × Obj)} {σ : L2.St} {H : Hp} {s : Shared}
theorem pairs_at (I : Inv X pins σ H s) : ∀ {ps : List Addr} {l : List (List Key × V)}, Paired (fun (p : Addr) (b : List Key × V) => ∃ q, SqT X.K H p [.ref q, b.2] ∧ H q = some (.tup (b.1.map kV))) ps l →
    ∃ ts : List (List Key × Addr × Value), KT H l ts ∧ Paired (fun (t : List Key × Addr × Value) (p : Addr) => s.heap.IsTuple p #[.ref t.2.1, t.2.2]) ts ps
  | _, _, .nil => ⟨[], .nil, .nil⟩
  | _, _, .cons (a := p) (b := b) h r => by
    obtain ⟨q, hp, hq⟩ := h
    obtain ⟨ts, k1, k2⟩ := pairs_at I r
    obtain ⟨its, rv, tup, _⟩ := I.tuple hp
    cases rv with
    | cons r1 rv =>
      cases rv with
      | cons r2 rv =>
        cases rv
        cases r1
        exact ⟨(b.1, q, _) :: ts, .cons ⟨rfl, hq, r2⟩ k1, .cons tup k2⟩
theorem call_dictPT (hc : X.calm = true) (hu : X.A.units + 64 < cLine) : CallR X (.type "dict") (rDictP X.K) := fun pins s σ H xs us Q I r ⟨a, ps, l, e, seq, prs, once, q⟩ => by
  subst e
  rw [Vals.ref1 r]
  obtain ⟨its, rv, ⟨o, n, go, ty, nod, dat⟩, few⟩ := I.list seq
  have ei : its = ps.map Value.ref := refs_at rv
  subst ei
  rw [List.length_map] at few
  obtain ⟨ts, kt, tup⟩ := pairs_at I prs
  have n1 : l.length = ts.length := Paired.length kt
  have n2 : ts.length = ps.length := Paired.length tup
  have nd : (ts.map (·.1)).Nodup := by rw [kt_fst kt]; exact once
  refine call_dict_pairsH (knd := tupleKind (mixKind X.prog X.w)) (ps := ts) (PairArg.list a (ps.map Value.ref).toArray (fun j => ps.getD j 0) (ts.map fun t => (Value.ref t.2.1, t.2.2))) (I.ok.hd hc) (by show X.A.units + 1 + 1 < cLine; omega)
    ⟨⟨o, n, go, ty, nod, dat⟩, by simp [n2], fun j k v hj => ?_⟩ ⟨by simp, fun i key v hj => ?_⟩ (fun h1 kp x hx => ?_) (by rw [List.length_map, n2]; exact few) fun h1 tk d1 kp => ?_
  · rw [List.getElem?_map] at hj
    cases z : ts[j]? with
    | none => rw [z] at hj; cases hj
    | some t =>
      rw [z] at hj
      cases hj
      obtain ⟨p, hp, tp⟩ := paired_get tup z
      have hg : ps.getD j 0 = p := by simp [List.getD, hp]
      refine ⟨by simp [hp], .inl ?_⟩
      show s.heap.IsTuple (ps.getD j 0) _
      rw [hg]; exact tp
  · have hj : (ts.map fun t => (Value.ref t.2.1, t.2.2))[i]? = some (key, v) := hj
    rw [List.getElem?_map] at hj
    cases z : ts[i]? with
    | none => rw [z] at hj; cases hj
    | some t =>
      rw [z] at hj
      cases hj
      exact ⟨t.1, t.2.1, rfl, rfl⟩
  · obtain ⟨i, hi⟩ := List.getElem?_of_mem hx
    have il : i < l.length := by rw [n1]; exact (List.getElem?_eq_some_iff.mp hi).1
    obtain ⟨b, hb, e1, ht, _⟩ := paired_get kt (List.getElem?_eq_getElem il)
    obtain rfl : x = b := Option.some.inj (hi.symm.trans hb)
    rw [e1] at ht
    obtain ⟨o', items, n', g', t', d', it'⟩ := key_of I.hok ht
    exact ⟨o', items, n', kp _ _ (Nat.ne_of_lt (Heap.lt_size g')) (by simp) g', t', d', it'⟩
  · rw [storedAllH_nil_of_nodup ts nd] at d1
    obtain ⟨o2, es, ep, g2, t1, t2, t3, _, t4⟩ := d1
    have free : H s.heap.objs.size = none := I.hok.fresh (Nat.le_refl _)
    have nm : (s.heap.objs.size == sysModules) = false := beq_eq_false_iff_ne.mpr (Nat.ne_of_gt I.big)
    have kt2 : KT (upd H s.heap.objs.size (.dT l)) l ts := kt.keeps fun c ys ec => by
      have ne : c ≠ s.heap.objs.size := fun z => by rw [z, free] at ec; cases ec
      rw [upd_ne ne]; exact ec
    have I2 := I.laid (a := s.heap.objs.size) (o := .dT l) (h' := h1) (t' := tk) (fun b o e => kp b o (by simp) e) (Nat.le_refl _) ⟨by rw [n1, n2]; exact few, nm, ts, kt2, o2, es, ep, g2, t1, t2, t3, t4⟩
    exact ⟨.ref s.heap.objs.size, _, I2, rfl, q _ free⟩
end
end DL
set_option Elab.async false
set_option linter.all false
set_option maxRecDepth 100000
set_option maxHeartbeats 1000000
namespace DL
open PySem PySem.Spec PyProof.Rows L2 Evl PySem.Calls
section
variable {ι : Type} {c : Cc ι} {ρ : List S} {m : ι} {Φ : ι → S → Prop} {tk tv : TE} {tt : TT} {wi : TI} {g : TG} {vs : List Nat}
/-- {k: v for x in .. if ..}, tuples as keys -/
theorem de_dct (h : DI c m wi ρ fun m ds => ds.length < 1000000 ∧ ∃ J : Nat → ι → List (List Key × D) → Prop, J 0 m [] ∧
    (∀ i d m acc, ds[i]? = some d → J i m acc → ∃ ρ', DG c m g vs d (wipeS ρ vs) ρ' ∧ DT c m tt ρ' fun m b => (b = true → De c m tk ρ' fun m s => ∃ k, s = .dat (keyT k) ∧ De c m tv ρ' fun m s2 => ∃ d', s2.frz = .dat d' ∧ J (i + 1) m (putD acc k d')) ∧ (b = false → J (i + 1) m acc)) ∧
    ∀ m acc, J ds.length m acc → Φ m (.own (.dT acc))) (hw : noEls vs ρ = true := by with_unfolding_all rfl) : De c m (tDct wi g tt tk tv vs) ρ Φ := fun σ G H e Q q => h σ G H e _ fun I ds m1 G1 H1 g1 it ⟨hl, J, j0, jt, jd⟩ => fun Dd hD => by
  have e1 := e.grow g1
  have mD : ¬ c.W.M Dd := fun m => c.W.ne e1.ok.inv m hD
  have gD : G1 Dd = none := fresh_back e1.ok.ex hD
  let W : Nat → Nat → Hp → Prop := fun i m H2 => m = ds.length - i ∧ i ≤ ds.length ∧ ∃ m2 G2 kvs acc, Grow c.W G1 H1 m2 G2 H2 ∧ H2 Dd = some (.dT kvs) ∧ G2 Dd = none ∧ kvs.map (·.1) = acc.map (·.1) ∧ RpL c.K G2 (kvs.map (·.2)) (acc.map (·.2)) ∧ acc.length ≤ i ∧ J i m2 acc
  refine ⟨W, ⟨ds.length, by simp, Nat.zero_le _, m1, G1, [], [], (e1.refl).mut hD gD mD, upd_same, gD, rfl, .nil, Nat.le_refl _, j0⟩, ?_⟩
  rintro i m H2 ⟨em, hi, m2, G2, kvs, acc, g2, hx, hn, kx, rx, ha, j⟩
  have e2 := e1.grow g2
  obtain ⟨ih1, ih2⟩ := it m2 G2 H2 g2.ex e2.ok i
  by_cases hlt : i < ds.length
  · right
    have hd : ds[i]? = some ds[i] := by simp [hlt]
    obtain ⟨go, yl⟩ := ih1 _ hd
    refine ⟨go, W (i + 1) (m - 1), fun H' w => ⟨m - 1, by omega, w⟩, fun x H' y => ?_⟩
    obtain ⟨G3, g3, r3⟩ := yl x H' y
    obtain ⟨ρ', dg, ht⟩ := jt i _ m2 acc hd j
    have e3 := (e2.grow g3).wipe vs hw
    refine dg x _ G3 H' e3 r3 _ fun σ' f4 hw' => ⟨hw'.trans (wipe_wipe σ vs), ?_⟩
    have e4 := f4 _ _ _ (Ex.refl _) e3
    refine ht σ' G3 H' e4 _ fun b m4 G4 H4 g4 ⟨hy, hno⟩ => ?_
    cases b with
    | false =>
      rw [if_neg Bool.false_ne_true]
      have g34 := g3.trans g4
      exact ⟨by omega, hlt, m4, G4, kvs, acc, g2.trans g34, g34.keep _ _ mD hx, g34.fresh _ _ hx rfl hn, kx, rx.mono g34.ex, by omega, hno rfl⟩
    | true =>
      rw [if_pos rfl]
      refine hy rfl σ' G4 H4 (e4.grow g4) _ fun v s m5 G5 H5 g5 r5 ⟨k, es, hv⟩ => ?_
      subst es
      refine hv σ' G5 H5 ((e4.grow g4).grow g5) _ fun v2 s2 m6 G6 H6 g6 r6 ⟨d', es2, j'⟩ => ?_
      obtain ⟨G7, g7, r7⟩ := r6.freeze g6
      rw [es2] at r7
      have g37 := ((g3.trans g4).trans g5).trans g7
      have k1 : H6 Dd = some (.dT kvs) := g37.keep _ _ mD hx
      have k2 : G7 Dd = none := g37.fresh _ _ hx rfl hn
      have hlen : kvs.length = acc.length := by simpa using congrArg List.length kx
      obtain ⟨p1, p2⟩ := rpk_put (k := k) kx (rx.mono g37.ex) (show Rp c.K G7 v2 d' from r7)
      obtain ⟨b, rfl, hb⟩ := keyT_inv (K := c.K) (G := G5) (show Rp c.K G5 v (keyT k) from r5)
      have hb6 : H6 b = some (.tup (k.map kV)) := g7.sub _ _ (g7.ex _ _ hb)
      refine ⟨_, DPut.t k1 hb6 (szl (by omega)), by omega, hlt, m6, G7, _, putD acc k d', (g2.trans g37).mut hD k2 mD, upd_same, k2, p1, p2, ?_, j'⟩
      have := putD_len acc k d'
      omega
  · left
    have hl2 : i = ds.length := by omega
    refine ⟨ih2 hl2, ?_⟩
    subst hl2
    exact q (.ref Dd) (.own (.dT acc)) m2 G2 H2 (g1.trans g2) ⟨Dd, rfl, ⟨g1.back hD, hn, mD⟩, kvs, hx, kx, rx⟩ (jd m2 acc j)
end
section
variable {ι : Type} {K : PySem.W.Frag} {W : Wd ι} {m : ι} {Φ : ι → S → Prop} {w : World}
/-- key tuples in order -/
def srtK (ks : List (List Key)) : List (List Key) := ks.mergeSort (PySem.W.dataLe false fun k => PyData.tuple (k.map keyPy))
theorem srtK_perm (ks : List (List Key)) : (srtK ks).Perm ks := List.mergeSort_perm ks _
theorem cb_sortedT {s : S} {ds : List (List Key × D)} (h1 : s.dct? = some (.T ds)) (al : PySem.W.AllAlike (ds.map fun p => PyData.tuple (p.1.map keyPy))) (so : PySem.W.Sortable (ds.map fun p => PyData.tuple (p.1.map keyPy))) (h : Φ m (.own (.lst ((srtK (ds.map (·.1))).map keyT)))) : CbS K W m rSortT [s] Φ := fun H0 G H vs ok rr Q q => by
  obtain ⟨v, rfl, r⟩ := relss1 rr
  obtain ⟨a, rfl, kvs, hd, hk, rv⟩ := r.dct ok h1
  have em : ∀ f : List Key → PyData, (kvs.map fun p => f p.1) = ds.map fun p => f p.1 := fun f => by
    have := congrArg (List.map f) hk
    rw [List.map_map, List.map_map] at this
    exact this
  refine ⟨a, kvs, rfl, hd, by rw [em fun k => PyData.tuple (k.map keyPy)]; exact al, by rw [em fun k => PyData.tuple (k.map keyPy)]; exact so, fun xs p prs hp => ?_⟩
  have ek : (kvs.mergeSort (PySem.W.dataLe false fun p => PyData.tuple (p.1.map keyPy))).map (·.1) = srtK (ds.map (·.1)) := by
    unfold srtK
    rw [← hk]
    exact List.map_mergeSort (r := PySem.W.dataLe false fun p : List Key × V => PyData.tuple (p.1.map keyPy)) (s := PySem.W.dataLe false fun k : List Key => PyData.tuple (k.map keyPy)) (f := fun x : List Key × V => x.1) fun a _ b _ => rfl
  rw [← ek] at h
  generalize kvs.mergeSort (PySem.W.dataLe false fun p => PyData.tuple (p.1.map keyPy)) = l at prs h
  obtain ⟨G2, g2, rx⟩ : ∃ G2, Grow W G H m G2 H ∧ RpL K G2 xs ((l.map (·.1)).map keyT) := by
    clear h
    induction prs with
    | nil => exact ⟨G, ok.refl, .nil⟩
    | cons hx r ih =>
      obtain ⟨b, rfl, hb⟩ := hx
      obtain ⟨G2, g2, rs⟩ := ih
      obtain ⟨G3, g3, hb3, x3⟩ := Grow.tup (g2.ok ok) hb
      exact ⟨G3, g2.trans g3, .cons (Rp.tup hb3 (rp_keys _)) (rs.mono x3)⟩
  have ok2 := g2.ok ok
  exact q (.ref p) (.own (.lst _)) m G2 _ (g2.trans (Grow.new ok2 hp)) ⟨p, rfl, ⟨hp, fresh_back ok2.ex hp, fun z => W.ne ok.inv z hp⟩, xs, upd_same, rx⟩ h
theorem cb_dictT {s : S} {ds : List (List Key × D)} (h1 : s.dct? = some (.T ds)) (hh : (ds.map fun p => hashT w p.1).Nodup) (h : Φ m (.own (.dT ds))) : CbS K W m (rDictT w) [s] Φ := fun H0 G H vs ok rr Q q => by
  obtain ⟨v, rfl, r⟩ := relss1 rr
  obtain ⟨a, rfl, kvs, hd, hk, rv⟩ := r.dct ok h1
  have em : (kvs.map fun p => hashT w p.1) = ds.map fun p => hashT w p.1 := by
    have := congrArg (List.map (hashT w)) hk
    rw [List.map_map, List.map_map] at this
    exact this
  exact ⟨a, kvs, rfl, hd, by rw [em]; exact hh, fun p hp => q (.ref p) (.own (.dT ds)) m G _ (Grow.new ok hp) ⟨p, rfl, ⟨hp, fresh_back ok.ex hp, fun z => W.ne ok.inv z hp⟩, kvs, upd_same, hk, rv⟩ h⟩
/-- dict of pairs -/
theorem cb_dictPT {s : S} {ds : List (List Key × D)} (h1 : s.lst? = some (ds.map fun p => .tup [keyT p.1, p.2])) (once : (ds.map (·.1)).Nodup) (h : Φ m (.own (.dT ds))) : CbS K W m (rDictP K) [s] Φ := fun H0 G H vs ok rr Q q => by
  obtain ⟨v, rfl, r⟩ := relss1 rr
  obtain ⟨a, xs, rfl, hs, rx⟩ := r.lstV ok h1
  have key : ∀ {ds : List (List Key × D)} {xs : List V}, RpL K G xs (ds.map fun p => D.tup [keyT p.1, p.2]) → ∃ (ps : List Addr) (l : List (List Key × V)), xs = ps.map V.ref ∧ Paired (fun (p : Addr) (b : List Key × V) => ∃ q, SqT K H p [.ref q, b.2] ∧ H q = some (.tup (b.1.map kV))) ps l ∧ l.map (·.1) = ds.map (·.1) ∧ RpL K G (l.map (·.2)) (ds.map (·.2)) := fun {ds} => by
    induction ds with
    | nil => intro xs r; cases r; exact ⟨[], [], rfl, .nil, rfl, .nil⟩
    | cons d ds ih =>
      intro xs r
      cases r with
      | cons r1 r2 =>
        obtain ⟨ps, l, rfl, p1, p2, p3⟩ := ih r2
        cases r1 with
        | tup ht rt =>
          cases rt with
          | cons ra rt =>
            cases rt with
            | cons rb rt =>
              cases rt
              obtain ⟨b, rfl, hb⟩ := keyT_inv ra
              exact ⟨_ :: ps, (d.1, _) :: l, rfl, .cons ⟨b, SqT.of (ok.ex _ _ ht), ok.ex _ _ hb⟩ p1, by rw [List.map_cons, List.map_cons, p2], .cons rb p3⟩
  obtain ⟨ps, l, rfl, p1, p2, p3⟩ := key rx
  exact ⟨a, ps, l, rfl, hs, p1, by rw [p2]; exact once, fun p hp => q (.ref p) (.own (.dT ds)) m G _ (Grow.new ok hp) ⟨p, rfl, ⟨hp, fresh_back ok.ex hp, fun z => W.ne ok.inv z hp⟩, l, upd_same, p2, p3⟩ h⟩
end
/-! ### methods -/
structure Me (P : Program) (w : World) (K : PySem.W.Frag) (mg : Str → Option Value) (base : Heap) (CX : CXT) (k : Nat) (C : Addr) (x : Str) (ps : List Str) (F : Fc) : Prop where
  cl : Cls K C
  ex : ∃ (f : Addr) (fd : FuncData), Meth K C x f ∧ FnOk P w K mg base CX k f fd ps (spF K F) ∧ Binds K fd ps []
section
variable {X : Cx} {K : PySem.W.Frag} {C : Addr} {k j : Nat} {x : Str} {ps : List Str} {F : Fc} {e : Expr} {es : List Expr} {ta : TE} {t : TA} {apos pos : Pos} {o : Expr}
theorem k_meth0 {CX : CXT} {E : XK} (c : Me X.prog X.w K X.mg X.base CX k C x ps F) (hK : X.K = K) (hr : Room j X.A) (hx : Passes CX X E) (he : PE X o ta) (hk : k ≤ j := by decide) {pl : Sem Bool}
    (ht : eval (.Call (.Attribute o x apos) [] [] pos) X.env = (do
      let ov ← eval o X.env
      standAt apos.atName
      let (f, first) ← holding [ov] (getMethod ov x pl)
      callWith pos f first (backTo pos (starEach [] X.env)) (backToKw pos (keywordEach [] X.env))) := by rfl) :
    PE X (.Call (.Attribute o x apos) [] [] pos) (tMeth C x (spF K F) [] E ta tNil) := by
  subst hK
  obtain ⟨f, fd, hm, hF, hb⟩ := c.ex
  exact pe_meth0 he c.cl hm hF (hr.mono hk) hb .nil hx ht
end
end DL
set_option Elab.async false
set_option linter.all false
set_option maxRecDepth 100000
set_option maxHeartbeats 1000000
namespace DL
open PySem L2 Evl
/-! ### a cell that is held while a walk lasts -/
def hldW {κ : Type} (V : Wd κ) (d : Addr) (o : HO) (hn : noTup o = true) : Wd κ where
  M := fun a => V.M a ∨ a = d
  L := V.L
  I := fun m G H => V.I m G H ∧ H d = some o
  dep := fun m G G' H H' x k ⟨h1, h2⟩ => ⟨V.dep _ _ _ _ _ x (fun y hy => k y (.inl hy)) h1, (k d (.inr rfl)).trans h2⟩
  has := fun m G H a ⟨h1, h2⟩ hm => by
    rcases hm with hm | rfl
    · exact V.has _ _ _ _ h1 hm
    · exact ⟨_, h2, hn⟩
  sw := fun m G G' H a u s ⟨h1, h2⟩ => ⟨V.sw _ _ _ _ _ _ s h1, h2⟩
  pin := V.pin
  pinned := fun m G H a o ⟨h1, _⟩ hp => V.pinned _ _ _ _ _ h1 hp
section
variable {ι : Type} {c : Cc ι} {m : ι} {ρ : List S} {te : TE} {g : TG} {vs : List Nat} {t : TS} {N B C : ι → List S → Prop} {R : ι → S → Prop} {h0 : Hp}
abbrev hldC (c : Cc ι) (m : ι) (d : Addr) (o : HO) (hn : noTup o = true) (G H : Hp) : Cc ι := ⟨c.K, hldW c.W d o hn, c.E, fun _ _ _ => False, m, G, H⟩
theorem relS_hldBack {K : PySem.W.Frag} {Vd : Wd ι} {d : Addr} {o u : HO} {hn : noTup o = true} {H0 H G H' : Hp} {v : V} {s : S} (hb : ∀ a, H a = none → H0 a = none) (r : RelS K (hldW Vd d o hn) H G H' v s) : RelS K Vd H0 G (upd H' d u) v s := by
  have ne : ∀ {F : Addr → Prop} {a : Addr}, ¬ (hldW Vd d o hn).M a → upd H' d u a = H' a := fun {_ a} h => upd_ne fun z => h (.inr z)
  cases s with
  | no => trivial
  | el _ _ => trivial
  | dat d => exact r
  | at_ q => exact r
  | lk o => exact r
  | own o => obtain ⟨q, e, ob⟩ := r; exact ⟨q, e, ob.monoA (Ex.refl _) fun a ha => ⟨ne (F := fun _ => True) (ob.ads ha).1.2.2, hb a (ob.ads ha).1.1, (ob.ads ha).1.2.1, fun z => (ob.ads ha).1.2.2 (.inl z)⟩⟩
  | vw o => obtain ⟨q, e, ob⟩ := r; exact ⟨q, e, ob.monoA (Ex.refl _) fun a ha => ⟨ne (F := fun _ => True) (ob.ads ha).1.2, (ob.ads ha).1.1, fun z => (ob.ads ha).1.2 (.inl z)⟩⟩
  | xc C a x fs => obtain ⟨e, b, c, fv, h1, h2, h3⟩ := r; exact ⟨e, b, fun z => c (.inl z), fv, (ne (F := fun _ => True) c).trans h1, h2, h3⟩
theorem pl_all {ρ : List S} (h : ρ.all plS = true) {j : Nat} {s : S} (hs : ρ[j]? = some s) : plS s = true := List.all_eq_true.mp h s (List.mem_of_getElem? hs)
/-- for k, v in f(..).items(): the dict is new and no one else's; the body may lock others -/
theorem ds_holdOwn (nv : ρ.all plS = true) (h : De c m te ρ fun m s => ∃ ds : List (List Key × D), s = .own (.dT ds) ∧ ∃ J : Nat → ι → List S → Prop, (∀ i m ρ, J i m ρ → ρ.all plS = true) ∧ WkJ ρ (J 0 m) ∧
      (∀ d o hn m0 G0 H0 i x m ρ', (ds.map fun p => D.tup [keyT p.1, p.2])[i]? = some x → J i m ρ' → ∃ ρ2, DG (hldC c m0 d o hn G0 H0) m g vs x ρ' ρ2 ∧ Ds (hldC c m0 d o hn G0 H0) m t ρ2 (fun m ρ' => WkJ ρ' (J (i + 1) m)) R (fun m ρ' => ρ'.all plS = true ∧ N m ρ') (fun m ρ' => WkJ ρ' (J (i + 1) m))) ∧
      ∀ m ρ', J ds.length m ρ' → N m ρ') : Ds c m (tUnl h0 (tFor (iPairs (tHold h0 te)) g t)) ρ N R B C := fun D σ G H e0 k1 k2 k3 k4 => by
  refine h σ G H e0 _ fun v s m1 G1 H1 g1 r1 ⟨ds, es, J, jv, ⟨ρ1, w1, we1, j0⟩, jt, jd⟩ => ?_
  subst es
  obtain ⟨d, rfl, f, kvs, hd, hk, rv⟩ := r1
  refine ⟨d, .dT kvs, rfl, hd, trivial, fun od hn => ?_⟩
  have e := e0.grow g1
  have hdo : noTup (HO.frz od (.dT kvs)) = true := rfl
  have nd : ∀ a, c.W.M a → a ≠ d := fun a ha z => f.2.2 (by rw [← z]; exact ha)
  have c0 : c.H0 d = none := e0.gr.back f.1
  have ok2 : Ok (hldW c.W d (.frz od (.dT kvs)) hdo) m1 G1 (upd H1 d (.frz od (.dT kvs))) := ⟨e.ok.ex.mut f.2.1, ⟨c.W.dep _ _ _ _ _ (Ex.refl _) (fun a ha => upd_ne (nd a ha)) e.ok.inv, upd_same⟩, fun x hx => by
    rcases hx with hx | rfl
    · exact e.ok.off x hx
    · exact f.2.1, e.ok.lk⟩
  have back : ∀ {m' : ι} {G' H' : Hp}, Grow (hldW c.W d (.frz od (.dT kvs)) hdo) G1 (upd H1 d (.frz od (.dT kvs))) m' G' H' → Grow c.W c.G0 c.H0 m' G' (upd H' d (.dT kvs)) := fun {m' G' H'} g =>
    ⟨e.gr.ex.trans g.ex, g.sub.mut ((g.ok ok2).off d (.inr rfl)), fun x o hx t hg => by
      have h1 := e.gr.fresh x o hx t hg
      by_cases mx : c.W.M x
      · obtain ⟨u, hu, t2⟩ := c.W.has _ _ _ _ e.gr.inv mx
        exact g.fresh x u (by rw [upd_ne (nd x mx)]; exact hu) t2 h1
      · have xd : x ≠ d := fun z => by rw [z, c0] at hx; cases hx
        exact g.fresh x o (by rw [upd_ne xd]; exact e.gr.keep x o mx hx) t h1, fun x o hm hx => by
      have xd : x ≠ d := fun z => by rw [z, c0] at hx; cases hx
      rw [upd_ne xd]
      exact g.keep x o (fun z => z.elim hm xd) (by rw [upd_ne xd]; exact e.gr.keep x o hm hx), c.W.dep _ _ _ _ _ (Ex.refl _) (fun a ha => upd_ne (nd a ha)) g.inv.1, fun x o u q n => (g.lk x o u q n).elim .inl fun z => e.gr.lk x o u z n⟩
  have e1 : EnvOk (hldC c m1 d (.frz od (.dT kvs)) hdo G1 (upd H1 d (.frz od (.dT kvs)))) m1 G1 (upd H1 d (.frz od (.dT kvs))) σ ρ := by
    refine ⟨ok2, ok2.refl, fun _ _ _ _ _ _ _ _ _ _ _ _ _ z => z.elim, e.len, fun j s hs => ?_, fun j k o o' q q' hjk hj => ?_, fun k a j hk => ?_, fun k o q hk => ?_⟩
    · have pl := pl_all nv hs
      refine (e.at_ j s hs).imp_right fun ⟨w, aw, rw'⟩ => ⟨w, aw, ?_⟩
      cases s with
      | no => trivial
      | dat d => exact rw'
      | at_ q => exact rw'
      | lk o => exact rw'
      | _ => cases pl
    · cases pl_all nv hj
    · cases pl_all nv hk
    · cases pl_all nv hk
  have envb : ∀ {m' : ι} {G' H' : Hp} {σ' : L2.St} {ρ' : List S}, ρ'.all plS = true → EnvOk (hldC c m1 d (.frz od (.dT kvs)) hdo G1 (upd H1 d (.frz od (.dT kvs)))) m' G' H' σ' ρ' → EnvOk c m' G' (upd H' d (.dT kvs)) σ' ρ' := fun {m' G' H' σ' ρ'} hp f1 => by
    refine ⟨e.ok0, back f1.gr, e.exc, f1.len, fun j s hs => ?_, fun j k o o' q q' hjk hj => ?_, fun k a j hk => ?_, fun k o q hk => ?_⟩
    · have pl := pl_all hp hs
      refine (f1.at_ j s hs).imp_right fun ⟨w, aw, rw'⟩ => ⟨w, aw, ?_⟩
      cases s with
      | no => trivial
      | dat d => exact rw'
      | at_ q => exact rw'
      | lk o => exact rw'
      | _ => cases pl
    · cases pl_all hp hj
    · cases pl_all hp hk
    · cases pl_all hp hk
  have hb : ∀ x, upd H1 d (.frz od (.dT kvs)) x = none → c.H0 x = none := fun x hx => by
    by_cases xd : x = d
    · rw [xd]; exact c0
    · rw [upd_ne xd] at hx; exact e.gr.back hx
  have wk := walks_pairsT (td := fun _ H Q => Q (.ref d) H) (ds := ds) (K := c.K) (W := hldW c.W d (.frz od (.dT kvs)) hdo) (G := G1) (H := upd H1 d (.frz od (.dT kvs))) (σ := σ) (d := d) (od := od) (u := .dT kvs) (fun m G' H' x ok => ok.inv.2) upd_same ⟨kvs, rfl, hk, rv⟩ (fun Q q => q)
  show tFor (iPairs (fun _ H Q => Q (.ref d) H)) g t _ σ _
  refine wk _ fun I it => for_run (c := hldC c m1 d (.frz od (.dT kvs)) hdo G1 (upd H1 d (.frz od (.dT kvs)))) (vs := vs) (N := fun m ρ => (ρ.all plS = true ∧ N m ρ) ∨ WkJ ρ (fun ρ => ρ.all plS = true ∧ N m ρ)) (R := R) e1 it (fun i m ρ => WkJ ρ (J i m)) ⟨ρ1, w1, we1, j0⟩ (fun i y m ρ' hy ⟨ρ2, w2, we2, j⟩ => ?_) (fun m ρ' ⟨ρ2, w2, we2, j⟩ => .inr ⟨ρ2, w2, we2, jv _ _ _ j, jd m ρ2 (by rw [List.length_map] at j; exact j)⟩) (fun ρ' σ' m' G' H' n x e' => ?_) (fun s v m' G' H' r x g' rr => ?_)
  · obtain ⟨ρ3, dg, hs⟩ := jt d _ hdo m1 G1 _ i y m ρ2 hy j
    exact ⟨ρ3, dg.wk w2 we2, hs.imp (fun _ _ n => n) (fun _ _ n => n) (fun _ ρ n => .inl n) (fun _ _ n => n)⟩
  · have f1 := e'.gr.inv.2
    rcases n with ⟨p, n⟩ | ⟨ρ2, w2, we2, p, n⟩
    · exact ⟨d, _, od, hn, f1, k1 ρ' σ' m' _ _ n (g1.ex.trans x) (envb p e')⟩
    · exact ⟨d, _, od, hn, f1, k1 ρ2 σ' m' _ _ n (g1.ex.trans x) (envb p (e'.wk w2 we2))⟩
  · exact ⟨d, _, od, hn, g'.inv.2, k2 s v m' _ _ r (g1.ex.trans x) (back g') (relS_hldBack (hn := hdo) hb rr)⟩
end
end DL
set_option Elab.async false
set_option linter.all false
set_option maxRecDepth 100000
set_option maxHeartbeats 1000000
namespace DL
open PySem PySem.Spec PyProof.Rows L2 Evl
section
variable {X : Cx} {K : PySem.W.Frag} {w : World}
theorem k_notInD (hK : X.K = K) (hu : X.A.units + 65 < cLine) : OpR X (compareOp .NotIn) (rNotInD K) := by subst hK; exact op_notInD hu
theorem k_dictT (hw : X.w = w) (hu : X.A.units + 64 < cLine) : CallR X (.type "dict") (rDictT w) := by subst hw; exact call_dictT hu
theorem k_dictPT (hK : X.K = K) (hc : X.calm = true) (hu : X.A.units + 64 < cLine) : CallR X (.type "dict") (rDictP K) := by subst hK; exact call_dictPT hc hu
end
section
variable {ι : Type} {m : ι} {K : PySem.W.Frag} {W : Wd ι} {Φ : ι → S → Prop}
theorem ops_notInP {s1 s2 : S} {d : D} {ds : List D} (p : Pl 63 d) (q : ∀ e ∈ ds, Pl 63 e) (h1 : s1.view = some d) (h2 : s2.view = some (.lst ds)) (b : Bool)
    (hb : ∀ (x : PyData) (xs : List PyData), d.py = some x → D.pys ds = some xs → (xs.any fun z => PyData.eqv z x) = b) (h : Φ m (.dat (.bl (!b)))) : OpS K W m (rNotInD K) s1 s2 Φ := fun H0 G H v1 v2 ok r1 r2 Q qq => by
  obtain ⟨x, e, k⟩ := p.py
  obtain ⟨y, e2, k2⟩ := (Pl.lst q).py
  have e3 := e2
  unfold D.py at e3
  cases z : D.pys ds with
  | none => rw [z] at e3; cases e3
  | some xs =>
    rw [z] at e3
    cases e3
    refine ⟨x, xs, r1.dp ok h1 e, r2.dp ok h2 e2, k.shaped (by omega), k2.shaped (by omega), qq _ (.dat (.bl _)) m G H ok.refl (Rp.bl _) ?_⟩
    rw [hb x xs e z]
    exact h
end
end DL
namespace Pf
open PySem PySem.Spec PyProof.Rows L2 DL
section
variable {ι : Type} {m : ι} {K : PySem.W.Frag} {W : Wd ι} {Φ : ι → S → Prop}
theorem dN_cast (k : List Nat) : dN k = (k.map fun n : Nat => (n : Int)).map D.int := by simp [dN, List.map_map]
theorem tD_py (k : List Nat) : (tD k).py = some (.tuple ((k.map fun n : Nat => (n : Int)).map PyData.int)) := by
  unfold tD
  rw [dN_cast, D.py, pys_ints]
  rfl
theorem tDs_py : ∀ L : List (List Nat), D.pys (L.map tD) = some (L.map fun k => .tuple ((k.map fun n : Nat => (n : Int)).map PyData.int))
  | [] => by rw [List.map_nil, D.pys]; rfl
  | k :: L => by rw [List.map_cons, D.pys, tD_py, tDs_py L]; rfl
theorem tD_pl {n : Nat} (k : List Nat) : Pl (n + 1) (tD k) := .tup fun x hx => by obtain ⟨n, _, rfl⟩ := dN_mem hx; exact .int _
theorem cast_inj {k j : List Nat} : (k.map fun n : Nat => (n : Int)) = (j.map fun n : Nat => (n : Int)) ↔ k = j := by
  constructor
  · intro h
    have := congrArg (List.map Int.toNat) h
    simpa [List.map_map, Function.comp_def] using this
  · rintro rfl; rfl
theorem mem_any (L : List (List Nat)) (k : List Nat) (x : PyData) (xs : List PyData) (h1 : (tD k).py = some x) (h2 : D.pys (L.map tD) = some xs) : (xs.any fun z => PyData.eqv z x) = decide (k ∈ L) := by
  rw [tD_py] at h1
  rw [tDs_py] at h2
  cases h1
  cases h2
  rw [Bool.eq_iff_iff, List.any_map, List.any_eq_true, decide_eq_true_iff]
  constructor
  · rintro ⟨j, hj, e⟩
    have e : PyData.eqv (.tuple ((j.map fun n : Nat => (n : Int)).map PyData.int)) (.tuple ((k.map fun n : Nat => (n : Int)).map PyData.int)) = true := e
    rw [PyData.eqv, eqv_ints, decide_eq_true_iff, cast_inj] at e
    exact e ▸ hj
  · intro h
    refine ⟨k, h, ?_⟩
    show PyData.eqv (.tuple ((k.map fun n : Nat => (n : Int)).map PyData.int)) (.tuple ((k.map fun n : Nat => (n : Int)).map PyData.int)) = true
    rw [PyData.eqv, eqv_ints, decide_eq_true_iff]
theorem ops_notInK {s1 s2 : S} {L : List (List Nat)} {k : List Nat} (h1 : s1.view = some (tD k)) (h2 : s2.view = some (.lst (L.map tD))) (h : Φ m (.dat (.bl (!decide (k ∈ L))))) : OpS K W m (rNotInD K) s1 s2 Φ :=
  ops_notInP (tD_pl k) (fun e he => by obtain ⟨j, _, rfl⟩ := List.mem_map.mp he; exact tD_pl j) h1 h2 _ (mem_any L k) h
end
end Pf
set_option Elab.async false
set_option linter.all false
set_option maxRecDepth 100000
set_option maxHeartbeats 1000000
namespace DL
open PySem L2 Evl
section
variable {ι : Type} {m : ι} {K : PySem.W.Frag} {W : Wd ι} {Φ : ι → S → Prop}
/-- len of an own list with own items -/
theorem cb_lenN {its : List It} (h : Φ m (.dat (.int its.length))) : CbS K W m (rLenA K) [.vw (.nest its)] Φ := fun H0 G H vs ok rr Q q => by
  obtain ⟨v, rfl, r⟩ := relss1 rr
  obtain ⟨p, rfl, f, xs, e, ri, nd⟩ := r
  exact .inl ⟨p, xs, rfl, .inl (.inl (.inl e)), by rw [ri.length]; exact q _ (.dat (.int _)) m G H ok.refl (Rp.int _) h⟩
def nonD : D → Bool
  | .non => true
  | _ => false
theorem ops_isNo {s : S} {d : D} (hs : s.frz = .dat d) (h : Φ m (.dat (.bl (nonD d)))) : OpS K W m (fun x y H Q => y = V.non ∧ Q (V.bl (decide (x = V.non))) H) s (.dat .non) Φ := fun H0 G H v1 v2 ok r1 r2 Q q => by
  cases r2
  refine ⟨rfl, ?_⟩
  have e : decide (v1 = V.non) = nonD d := by
    cases s with
    | dat d' => cases hs; have r1 : Rp K G v1 d := r1; cases r1 <;> simp [nonD]
    | own o =>
      obtain ⟨p, rfl, ob⟩ := r1
      cases hs
      cases o with
      | one o => cases o <;> simp [nonD, O.frz, O1.frz]
      | nest its => simp [nonD, O.frz]
      | ins C fs => simp [nonD, O.frz]
    | _ => cases hs
  rw [e]
  exact q _ (.dat (.bl _)) m G H ok.refl (Rp.bl _) h
theorem ops_notNo {s : S} {d : D} (hs : s.frz = .dat d) (h : Φ m (.dat (.bl (!nonD d)))) : OpS K W m (fun x y H Q => y = V.non ∧ Q (V.bl (!decide (x = V.non))) H) s (.dat .non) Φ := fun H0 G H v1 v2 ok r1 r2 Q q => by
  cases r2
  refine ⟨rfl, ?_⟩
  have e : decide (v1 = V.non) = nonD d := by
    cases s with
    | dat d' => cases hs; have r1 : Rp K G v1 d := r1; cases r1 <;> simp [nonD]
    | own o =>
      obtain ⟨p, rfl, ob⟩ := r1
      cases hs
      cases o with
      | one o => cases o <;> simp [nonD, O.frz, O1.frz]
      | nest its => simp [nonD, O.frz]
      | ins C fs => simp [nonD, O.frz]
    | _ => cases hs
  rw [e]
  exact q _ (.dat (.bl _)) m G H ok.refl (Rp.bl _) h
end
end DL
set_option Elab.async false
set_option linter.all false
set_option maxRecDepth 100000
set_option maxHeartbeats 1000000
namespace DL
open PySem PySem.Spec PyProof.Rows L2 Evl
/-! ### == and != by an own __eq__, len by an own __len__ -/
section
variable {prog : Program} {w : World} {A : Around} {E : Value → Shared → Prop} {s : Shared} {K : PySem.W.Frag} {x C f : Addr} {ox : Obj} {od : Option Obj} {b tb : Value}
/-- what a class with an own __eq__, and without an own __ne__, must have -/
structure EqC (K : PySem.W.Frag) (C f : Addr) : Prop where
  eq : PySem.W.findIn K (.ref C) "__eq__" = some (some (.ref f))
  fn : PySem.W.isFn K (.ref f) = true
  ne : PySem.W.findIn K (.ref C) "__ne__" = some (some (.builtin "object.__ne__"))
  ob : PySem.W.subIn K (.ref C) (.type "object") = some true
  li : PySem.W.subIn K (.type "list") (.ref C) = some false
def NotB (Q : Value → Shared → Prop) (v : Value) (s' : Shared) : Prop := ∃ r, v = .bool r ∧ Q (.bool (!r)) s'
theorem ne_entry (X : K.In s.heap) (I : PySem.W.InstAt s.heap x ox C od) (c : EqC K C f) (hu : A.units < cLine) {Q : Fin → Shared → Prop}
    (h : wpAny (model prog w) A (call (.ref f) [.ref x, b]) (NotB fun v s' => Q (.done (.ret v)) s') E s) : wpAny (model prog w) A (Builtin.«object.__ne__» ⟨[.ref x, b], []⟩) Q E s := by
  unfold Builtin.«object.__ne__»
  have one : ∀ {R : Option Value → Shared → Prop}, (∀ v s', NotB (fun v s' => Q (.done (.ret v)) s') v s' → R (some v) s') → wpAny (model prog w) A (callSpecialIfBound? (.ref x) (Str.ofString "__eq__") [b]) R E s := fun k =>
    PySem.W.ifBound_K X I c.eq c.fn (wpAny_mono h (fun v s' z => k v s' z) fun _ _ z => z)
  repeat (first
    | with_reducible refine wpAny_cRoomFor hu ?_
    | (refine wpAny_bind (m := callSpecialIfBound? (.ref x) (Str.ofString "__eq__") [b]) (one fun v s' z => ?_); obtain ⟨r, rfl, q⟩ := z)
    | exact q
    | (with_reducible exact wpAny_pure q)
    | (refine wpAny_bind (m := truthy (.bool _)) (wpAny_truthy_bool ?_))
    | wp_step)
theorem ne_check {M : Model} {R : Unit → Shared → Prop} (X : K.In s.heap) (I : PySem.W.InstAt s.heap x ox C od) (c : EqC K C f) (q : R () s) : wpAny M A (checkBuiltinCall "object.__ne__" ⟨[.ref x, b], []⟩) R E s := by
  simp only [checkBuiltinCall, F.cmpKind_ne, F.cmpSplit_ne]
  refine wpAny_bind ?_
  unfold isInstance
  refine wpAny_bind (I.type.here ((PySem.W.looks_subIn X c.ob).here ?_))
  have ok := F.cmpArgs_ne (.ref x) b
  cases sig : Manifest.signature? "object.__ne__" with
  | none => exact wpAny_pure q
  | some z =>
    simp only [argsOk, sig] at ok
    have e : Bind.checkArgs "object.__ne__" z ⟨[.ref x, b], []⟩ = pure () := ok
    show wpAny M A (Bind.checkArgs "object.__ne__" z ⟨[.ref x, b], []⟩) R E s
    rw [e]
    exact wpAny_pure q
theorem ne_try (X : K.In s.heap) (I : PySem.W.InstAt s.heap x ox C od) (c : EqC K C f) (hu : A.in1.units < cLine) {Q : Option Value → Shared → Prop}
    (h : wpAny (model prog w) A.in1 (call (.ref f) [.ref x, b]) (NotB fun v s' => Q (some v) s') E s) : wpAny (model prog w) A (tryCompare (.ref x) "__ne__" b) Q E s := by
  have inner : wpAny (model prog w) A (call (.builtin "object.__ne__") [.ref x, b]) (fun v s' => ∃ r, v = .bool r ∧ Q (some (.bool r)) s') E s := by
    refine wpAny_call (codeAny_call_builtin F.cmp_object.ne.plain F.cmpEntry_ne (ne_check X I c ?_))
    refine wpAny_mono (ne_entry (A := A.in1) (Q := fun z s' => ∃ r, z = .done (.ret (.bool r)) ∧ Q (some (.bool r)) s') X I c hu (wpAny_mono h (fun v s' z => ?_) fun _ _ z => z)) (fun z s' y => ?_) fun _ _ z => z
    · obtain ⟨r, rfl, q⟩ := z
      exact ⟨r, rfl, _, rfl, q⟩
    · obtain ⟨r, rfl, q⟩ := y
      first | exact ⟨r, rfl, q⟩ | exact wpAny_pure ⟨r, rfl, q⟩
  unfold tryCompare
  refine wpAny_bind ?_
  simp only [callSpecialIfBound?, bindSpecialIfBound?]
  refine wpAny_holding (wpAny_bind (wpAny_bind (wpAny_bind (I.type.here ((PySem.W.looks_findIn X c.ne).here ?_)))))
  simp only [F.cmp_object.ne.bind]
  have fin : wpAny (model prog w) A (call (.builtin "object.__ne__") ([.ref x] ++ [b]) >>= fun v => pure (some v)) (fun r s' => ∃ v, r = some v ∧ ∃ r', v = .bool r' ∧ Q (some (.bool r')) s') E s :=
    wpAny_bind (wpAny_mono inner (fun v s' z => wpAny_pure ⟨_, rfl, z⟩) fun _ _ z => z)
  refine wpAny_bind (wpAny_askSetting (wpAny_ite ?_))
  split
  · refine wpAny_bind (wpAny_pure (wpAny_pure ?_))
    refine wpAny_mono fin (fun r s' z => ?_) fun _ _ z => z
    obtain ⟨v, rfl, r', rfl, q⟩ := z
    exact wpAny_pure q
  · refine wpAny_tryCatch (wpAny_bind (wpAny_pure (wpAny_pure ?_)))
    refine wpAny_mono fin (fun r s' z => ?_) fun _ _ z => z
    obtain ⟨v, rfl, r', rfl, q⟩ := z
    exact wpAny_pure q
theorem ne_own (X : K.In s.heap) (I : PySem.W.InstAt s.heap x ox C od) (c : EqC K C f) (hu : A.units + 1 < cLine) (hb : PySem.W.Looks (model prog w) s.heap (typeOf b) tb) (hn : PySem.W.notFirst K C tb = true) {Q : Value → Shared → Prop}
    (h : wpAny (model prog w) A.in1 (call (.ref f) [.ref x, b]) (NotB Q) E s) : wpAny (model prog w) A (richCompare .NotEq (.ref x) b) Q E s := by
  have go : wpAny (model prog w) A (tryCompare (.ref x) "__ne__" b) (fun r s' => ∃ v, r = some v ∧ Q v s') E s := ne_try X I c (by show A.units + 1 < cLine; exact hu) (wpAny_mono h (fun v s' ⟨r, e, q⟩ => ⟨r, e, _, rfl, q⟩) fun _ _ z => z)
  unfold richCompare
  simp only [oneThing_ref]
  refine wpAny_holding (wpAny_bind (wpAny_cRoomFor (by omega) ?_))
  rw [cmpInfo_NotEq]
  dsimp only
  refine wpAny_bind (I.type.here (wpAny_bind (hb.here ?_)))
  have tail : ∀ {k : Option Value → Sem Value}, (∀ v s', Q v s' → wpAny (model prog w) A (k (some v)) Q E s') → wpAny (model prog w) A (tryCompare (.ref x) "__ne__" b >>= k) Q E s := fun hk =>
    wpAny_bind (wpAny_mono go (fun r s' ⟨v, e, q⟩ => by subst e; exact hk v s' q) fun _ _ z => z)
  split
  · rename_i ne
    have no : PySem.W.subIn K tb (.ref C) = some false := by
      rcases Bool.or_eq_true_iff.mp hn with z | z
      · rw [beq_iff_eq.mp z] at ne; simp at ne
      · exact beq_iff_eq.mp z
    refine wpAny_bind ((PySem.W.looks_subIn X no).here ?_)
    simp only [Bool.false_eq_true, if_false]
    exact tail fun v s' q => wpAny_pure q
  · refine wpAny_bind (wpAny_pure ?_)
    simp only [Bool.false_eq_true, if_false]
    exact tail fun v s' q => wpAny_pure q
end
section
variable {X : Cx} {C f : Addr} {fd : FuncData} {k : Nat} {sp : Sp}
/-- the other side of a comparison: of the same class, or a list -/
inductive Side (K : PySem.W.Frag) (C : Addr) (H : Hp) : V → Prop
  | ins {b dx : Addr} {fs : List (Str × V)} : H b = some (.ins C dx fs) → Side K C H (.ref b)
  | lst {b : Addr} {xs : List V} : SqL K H b xs → Side K C H (.ref b)
def rEqI (K : PySem.W.Frag) (C : Addr) (sp : Sp) : R2 := fun x y H Q => ∃ a dx fs, x = .ref a ∧ H a = some (.ins C dx fs) ∧ Side K C H y ∧ sp [x, y] H (fun v H' => ∃ b, v = V.bl b ∧ Q (.bl b) H') E0
def rNeI (K : PySem.W.Frag) (C : Addr) (sp : Sp) : R2 := fun x y H Q => ∃ a dx fs, x = .ref a ∧ H a = some (.ins C dx fs) ∧ Side K C H y ∧ sp [x, y] H (fun v H' => ∃ b, v = V.bl b ∧ Q (.bl (!b)) H') E0
theorem side_type {pins : List (Addr × Obj)} {σ : L2.St} {H : Hp} {s : Shared} {y : V} {u : Value} (I : Inv X pins σ H s) (c : EqC X.K C f) (d : Side X.K C H y) (ry : RelV y u) : ∃ tb, PySem.W.Looks (model X.prog X.w) s.heap (typeOf u) tb ∧ PySem.W.notFirst X.K C tb = true := by
  cases d with
  | ins h =>
    cases ry
    obtain ⟨mA, J, _⟩ := ins_get I.hok h
    obtain ⟨od, J, _⟩ := J.look
    exact ⟨_, J.type, by simp [PySem.W.notFirst]⟩
  | @lst b xs h =>
    cases ry
    obtain ⟨its, _, o, h1, h2, _⟩ := seqK_at (k := .l) I h
    exact ⟨.type "list", h2 ▸ (PySem.W.Looks.ld h1).andThen .now, by unfold PySem.W.notFirst; rw [c.li]; simp⟩
/-- the class's own __eq__ as a def that is called -/
structure Oe (P : Program) (w : World) (K : PySem.W.Frag) (mg : Str → Option Value) (base : Heap) (k : Nat) (C : Addr) (F : Fc) : Prop where
  cl : Cls K C
  ex : ∃ (f : Addr) (fd : FuncData), EqC K C f ∧ FnOk P w K mg base CX0 k f fd ["self", "other"] (spF K F) ∧ Binds K fd ["self", "other"] []
variable {K : PySem.W.Frag} {F : Fc} {j : Nat}
/-- a def that raises nothing, called one deeper -/
theorem call_in1 {f : Addr} {fd : FuncData} {ps : List Str} {sp : Sp} {pins : List (Addr × Obj)} {σ : L2.St} {H : Hp} {s : Shared} {Q : VK} {us : List Value} {vs : List V} (fn : FnOk X.prog X.w X.K X.mg X.base CX0 k f fd ps sp) (hr : Room k X.A.in1) (bi : Binds X.K fd ps [])
    (I : Inv X pins σ H s) (r : Vals vs us) (h : sp vs H Q E0) : wpAny (model X.prog X.w) X.A.in1 (call (.ref f) us) (EP X pins σ Q) X.xe s := by
  have e := I.env0
  have e0 : Env0 X.prog X.w X.K X.mg X.base X.A.in1 X.stack s H := ⟨e.frames, e.mod, e.bs, e.bsz, e.funs, e.frf, e.hok, e.bare⟩
  have hl : us.length = ps.length := by rw [← r.length]; exact fn.len _ _ _ _ h
  have b := bi s us I.kIn (by rw [List.append_nil]; exact hl)
  rw [List.append_nil] at b
  refine wpAny_call (codeAny_mono (fn.run X.A.in1 X.stack s H ⟨us, []⟩ us vs Q E0 hr e0 b r h) fun z s' q => ?_)
  cases z with
  | error z => exact (q : False).elim
  | ok fl =>
    cases fl with
    | ret z =>
      obtain ⟨v, H', I', rv, q'⟩ := I.after q
      exact ⟨v, H', I', rv, q'⟩
    | next => exact (q : False).elim
    | brk => exact (q : False).elim
    | cont => exact (q : False).elim
theorem k_eqI (c : Oe X.prog X.w K X.mg X.base k C F) (hK : X.K = K) (hr : Room j X.A) (hk : k + 1 ≤ j := by decide) : OpR X (compareOp .Eq) (rEqI K C (spF K F)) := by
  subst hK
  obtain ⟨f, fd, ec, fn, bi⟩ := c.ex
  intro pins s σ H x y v u Q I rx ry ⟨a, dx, fs, hx, ha, sd, hsp⟩
  subst hx
  cases rx
  obtain ⟨tb, lk, nf⟩ := side_type I ec sd ry
  obtain ⟨mA, J, _⟩ := ins_get I.hok ha
  obtain ⟨od, J, _⟩ := J.look
  obtain ⟨m, hF⟩ := I.fr
  unfold compareOp
  refine PySem.W.cmp_K (op := .Eq) (tb := tb) hr.units0 hF I.ok.mod.kin J lk nf ec.eq ec.fn ?_
  refine wpAny_mono (L2.run_fn (ds := []) (dvs := []) (vs := [.ref a, y]) (us := [.ref a, u]) (Q := fun v H' => ∃ b, v = V.bl b ∧ Q (.bl b) H') fn (hr.mono (by omega)) bi .nil pass0 I (.cons rfl (.cons ry .nil)) (by rw [List.append_nil]; exact hsp)) (fun v s' h => ?_) fun _ _ z => z
  obtain ⟨v', H', I', r', b, rfl, q⟩ := h
  cases r'
  exact ⟨.bl b, H', I', rfl, q⟩
theorem k_neI (c : Oe X.prog X.w K X.mg X.base k C F) (hK : X.K = K) (hr : Room j X.A) (hk : k + 1 ≤ j := by decide) : OpR X (compareOp .NotEq) (rNeI K C (spF K F)) := by
  subst hK
  obtain ⟨f, fd, ec, fn, bi⟩ := c.ex
  intro pins s σ H x y v u Q I rx ry ⟨a, dx, fs, hx, ha, sd, hsp⟩
  subst hx
  cases rx
  obtain ⟨tb, lk, nf⟩ := side_type I ec sd ry
  obtain ⟨mA, J, _⟩ := ins_get I.hok ha
  obtain ⟨od, J, _⟩ := J.look
  have hu := (hr.mono (show 1 ≤ j by omega)).in1.units0
  unfold compareOp
  refine ne_own I.kIn J ec (by exact hu) lk nf ?_
  refine wpAny_mono (call_in1 (vs := [.ref a, y]) (us := [.ref a, u]) (Q := fun v H' => ∃ b, v = V.bl b ∧ Q (.bl (!b)) H') fn (hr.mono hk).in1 bi I (.cons rfl (.cons ry .nil)) hsp) (fun v s' h => ?_) fun _ _ z => z
  obtain ⟨v', H', I', r', b, rfl, q⟩ := h
  cases r'
  exact ⟨b, rfl, .bl (!b), H', I', rfl, q⟩
/-- len of an instance by its own __len__ -/
structure Ol (P : Program) (w : World) (K : PySem.W.Frag) (mg : Str → Option Value) (base : Heap) (k : Nat) (C : Addr) (F : Fc) : Prop where
  ex : ∃ (f : Addr) (fd : FuncData), PySem.W.findIn K (.ref C) "__len__" = some (some (.ref f)) ∧ PySem.W.isFn K (.ref f) = true ∧ FnOk P w K mg base CX0 k f fd ["self"] (spF K F) ∧ Binds K fd ["self"] []
def rLenI (C : Addr) (sp : Sp) : List V → Hp → VK → Prop := fun xs H Q => ∃ a dx fs, xs = [.ref a] ∧ H a = some (.ins C dx fs) ∧ sp [.ref a] H (fun v H' => ∃ n : Nat, v = V.int (n : Nat) ∧ n < 2 ^ 62 ∧ Q (.int (n : Nat)) H') E0
theorem k_lenI (c : Ol X.prog X.w X.K X.mg X.base k C F) (hK : X.K = K) (hr : Room j X.A) (hk : k + 1 ≤ j := by decide) : CallR X (.builtin "len") (rLenI C (spF K F)) := by
  subst hK
  obtain ⟨f, fd, hs, hf, fn, bi⟩ := c.ex
  intro pins s σ H xs us Q I rv ⟨a, dx, fs, hx, ha, hsp⟩
  subst hx
  obtain ⟨u, rfl, ru⟩ : ∃ u, us = [u] ∧ RelV (.ref a) u := by
    cases rv with
    | cons r t => cases t; exact ⟨_, rfl, r⟩
  cases ru
  obtain ⟨mA, J, _⟩ := ins_get I.hok ha
  obtain ⟨od, J, _⟩ := J.look
  obtain ⟨m, hF⟩ := I.fr
  refine PySem.W.len_K hF I.ok.mod.kin J hs hf ?_
  refine wpAny_mono (call_in1 (vs := [.ref a]) (us := [.ref a]) (Q := fun v H' => ∃ n : Nat, v = V.int (n : Nat) ∧ n < 2 ^ 62 ∧ Q (.int (n : Nat)) H') fn (hr.mono hk).in1 bi I (.cons rfl .nil) hsp) (fun v s' h => ?_) fun _ _ z => z
  obtain ⟨v', H', I', r', n, rfl, hn, q⟩ := h
  obtain ⟨t, rfl⟩ := r'
  exact ⟨⟨by omega, by omega⟩, .int (n : Nat), H', I'.tok _, ⟨_, rfl⟩, q⟩
end
/-! ### the same, of data -/
section
variable {ι : Type} {m : ι} {K : PySem.W.Frag} {W : Wd ι} {Φ : ι → S → Prop} {C : Addr} {F : Fc}
/-- what stands on the other side -/
inductive SideD (C : Addr) : S → Prop
  | ins {s : S} {fs : List (Str × D)} : s = .dat (.ins C fs) → SideD C s
  | lst {s : S} {ds : List D} : s = .dat (.lst ds) → SideD C s
theorem sideD {H0 G H : Hp} {v : V} {s : S} (ok : Ok W m G H) (r : RelS K W H0 G H v s) (d : SideD C s) : Side K C H v := by
  cases d with
  | ins e =>
    subst e
    cases r with
    | ins a b _ _ => exact .ins (ok.ex _ _ a)
  | lst e =>
    subst e
    cases r with
    | lst a _ => exact .lst (.inl (.inl (ok.ex _ _ a)))
theorem dat_arg {s : S} (d : SideD C s) : argS s = true := by cases d <;> (rename_i e; rw [e]; rfl)
theorem ops_eqIns {fs : List (Str × D)} {s2 : S} (d : SideD C s2) (h : F ι W m [.dat (.ins C fs), s2] (fun m s => ∃ b, s = .dat (.bl b) ∧ Φ m (.dat (.bl b))) fun _ _ _ => False) : OpS K W m (rEqI K C (spF K F)) (.dat (.ins C fs)) s2 Φ := fun H0 G H v1 v2 ok r1 r2 Q q => by
  have sd := sideD ok r2 d
  have r2 : RelS K W H G H v2 s2 := by cases d <;> (rename_i e; subst e; exact r2)
  have r1 : Rp K G v1 (.ins C fs) := r1
  cases id r1 with
  | @ins a dx _ fv _ e1 e2 e3 e4 =>
    refine ⟨a, dx, fv, rfl, ok.ex _ _ e1, sd, ι, W, m, G, [.dat (.ins C fs), s2], _, _, ok, .cons r1 (.cons r2 .nil), by cases d <;> (rename_i e; subst e; rfl), h, fun v s m' G' H' g r ⟨b, e, p⟩ => ?_, fun _ _ _ _ _ _ _ _ _ _ _ _ _ z => z.elim⟩
    subst e
    cases r
    exact ⟨b, rfl, q _ (.dat (.bl b)) m' G' H' g (Rp.bl b) p⟩
theorem ops_neIns {fs : List (Str × D)} {s2 : S} (d : SideD C s2) (h : F ι W m [.dat (.ins C fs), s2] (fun m s => ∃ b, s = .dat (.bl b) ∧ Φ m (.dat (.bl (!b)))) fun _ _ _ => False) : OpS K W m (rNeI K C (spF K F)) (.dat (.ins C fs)) s2 Φ := fun H0 G H v1 v2 ok r1 r2 Q q => by
  have sd := sideD ok r2 d
  have r2 : RelS K W H G H v2 s2 := by cases d <;> (rename_i e; subst e; exact r2)
  have r1 : Rp K G v1 (.ins C fs) := r1
  cases id r1 with
  | @ins a dx _ fv _ e1 e2 e3 e4 =>
    refine ⟨a, dx, fv, rfl, ok.ex _ _ e1, sd, ι, W, m, G, [.dat (.ins C fs), s2], _, _, ok, .cons r1 (.cons r2 .nil), by cases d <;> (rename_i e; subst e; rfl), h, fun v s m' G' H' g r ⟨b, e, p⟩ => ?_, fun _ _ _ _ _ _ _ _ _ _ _ _ _ z => z.elim⟩
    subst e
    cases r
    exact ⟨b, rfl, q _ (.dat (.bl (!b))) m' G' H' g (Rp.bl _) p⟩
theorem cb_lenIns {fs : List (Str × D)} (h : F ι W m [.dat (.ins C fs)] (fun m s => ∃ n : Nat, s = .dat (.int (n : Nat)) ∧ n < 2 ^ 62 ∧ Φ m (.dat (.int (n : Nat)))) fun _ _ _ => False) : CbS K W m (rLenI C (spF K F)) [.dat (.ins C fs)] Φ := fun H0 G H vs ok rr Q q => by
  obtain ⟨v, rfl, r⟩ := relss1 rr
  have r1 : Rp K G v (.ins C fs) := r
  cases id r1 with
  | @ins a dx _ fv _ e1 e2 e3 e4 =>
    refine ⟨a, dx, fv, rfl, ok.ex _ _ e1, ι, W, m, G, [.dat (.ins C fs)], _, _, ok, .cons r1 .nil, rfl, h, fun v s m' G' H' g r ⟨n, e, hn, p⟩ => ?_, fun _ _ _ _ _ _ _ _ _ _ _ _ _ z => z.elim⟩
    subst e
    cases r
    exact ⟨n, rfl, hn, q _ (.dat (.int n)) m' G' H' g (Rp.int _) p⟩
end
end DL
set_option Elab.async false
set_option linter.all false
set_option maxRecDepth 100000
set_option maxHeartbeats 1000000
namespace DL
open PySem PySem.Spec PyProof.Rows L2 Evl
/-! ### == and != of dicts of numbers -/
def sameV (ks ls : List (Key × V)) : Bool := ks.length == ls.length && ks.all fun p => decide (valV ls p.1 = some p.2)
def allI (ks : List (Key × V)) : Prop := ∀ p ∈ ks, ∃ i, p.2 = V.int i
def rEqK : R2 := fun x y H Q => ∃ a b ks ls, x = .ref a ∧ y = .ref b ∧ Rd H a (.dK ks) ∧ Rd H b (.dK ls) ∧ allI ks ∧ allI ls ∧ Q (.bl (sameV ks ls)) H
def rNeK : R2 := fun x y H Q => ∃ a b ks ls, x = .ref a ∧ y = .ref b ∧ Rd H a (.dK ks) ∧ Rd H b (.dK ls) ∧ allI ks ∧ allI ls ∧ Q (.bl (!sameV ks ls)) H
theorem eqAt_int2 {A : Around} {s : Shared} {i j : Int} {t u : Tok} (hu : A.units < cLine) : SeqAt.EqAt A s (.int i t) (.int j u) (decide (i = j)) := by
  have := SeqAt.eqAt_reads (.int i) (.int j) A s (.int i t) (.int j u) [] [] (.int _ _) (.int _ _) rfl rfl (by simpa [PyData.depth] using hu)
  have e : PyData.eqv (.int i) (.int j) = decide (i = j) := by by_cases z : i = j <;> simp [PyData.eqv, z]
  rw [e] at this
  exact this
theorem valV_mem {ls : List (Key × V)} {k : Key} {v : V} (h : valV ls k = some v) : (k, v) ∈ ls := by
  unfold valV at h
  cases e : ls.find? fun kv => decide (kv.1 = k) with
  | none => rw [e] at h; cases h
  | some p =>
    rw [e] at h
    have h1 := List.find?_some e
    have h2 := List.mem_of_find?_eq_some e
    have h : p.2 = v := by simpa using h
    have h1 : p.1 = k := by simpa using h1
    rw [← h, ← h1]
    exact h2
theorem hits_int {A : Around} {s : Shared} {ls : List (Key × V)} {vb : List (Key × Value)} (hu : A.units < cLine) (rb : KV ls vb) (hl : allI ls) : ∀ {ks : List (Key × V)} {va : List (Key × Value)}, KV ks va → allI ks → PySem.W.KeqHits A s vb va (ks.all fun p => decide (valV ls p.1 = some p.2))
  | [], [], _, _ => .nil
  | [], _ :: _, r, _ => by cases r
  | _ :: _, [], r, _ => by cases r
  | (k, v) :: ks, (k', u) :: va, r, h => by
    have r' : (k = k' ∧ RelV v u) ∧ KV ks va := by cases r with | cons a b => exact ⟨a, b⟩
    obtain ⟨⟨rfl, rv⟩, rt⟩ := r'
    have ih := hits_int (s := s) hu rb hl rt fun p hp => h p (List.mem_cons_of_mem _ hp)
    obtain ⟨i, hi⟩ := h (k, v) List.mem_cons_self
    have hi : v = V.int i := hi
    subst hi
    obtain ⟨t, rfl⟩ := rv
    have ro := rb.val k
    rw [List.all_cons]
    cases e : valV ls k with
    | none =>
      rw [e] at ro
      simp only [reduceCtorEq, decide_false, Bool.false_and]
      exact .miss ro.none_of
    | some w =>
      rw [e] at ro
      obtain ⟨y, hy, ry⟩ := ro.some_of
      obtain ⟨j, hj⟩ := hl _ (valV_mem e)
      have hj : w = V.int j := hj
      subst hj
      obtain ⟨u', rfl⟩ := ry
      have : decide (some (V.int j) = some (V.int i)) = decide (i = j) := by
        by_cases z : i = j
        · subst z; simp
        · have : ¬ j = i := fun q => z q.symm
          simp [z, this]
      dsimp only
      rw [this]
      exact .hit hy (eqAt_int2 hu) ih
section
variable {X : Cx}
theorem k_eqK (hu : X.A.units + 64 < cLine) : OpR X (compareOp .Eq) rEqK := by
  intro pins s σ H x y v u Q I rx ry ⟨a, b, ks, ls, hx, hy, ha, hb, ia, ib, q⟩
  subst hx hy
  cases rx
  cases ry
  obtain ⟨_, ya, va, ra, da⟩ := dk_rd I.hok ha
  obtain ⟨_, yb, vb, rb, db⟩ := dk_rd I.hok hb
  have hl : (va.length == vb.length) = (ks.length == ls.length) := by rw [← ra.length, ← rb.length]
  refine PySem.W.keq_eq (knd := mixKind X.prog X.w) ya yb da db (by omega) (fun _ => hits_int (by show X.A.units + 1 < cLine; omega) rb ib ra ia) ?_
  rw [hl]
  exact ⟨.bl _, H, I, rfl, q⟩
theorem k_neK (hu : X.A.units + 64 < cLine) : OpR X (compareOp .NotEq) rNeK := by
  intro pins s σ H x y v u Q I rx ry ⟨a, b, ks, ls, hx, hy, ha, hb, ia, ib, q⟩
  subst hx hy
  cases rx
  cases ry
  obtain ⟨_, ya, va, ra, da⟩ := dk_rd I.hok ha
  obtain ⟨_, yb, vb, rb, db⟩ := dk_rd I.hok hb
  have hl : (va.length == vb.length) = (ks.length == ls.length) := by rw [← ra.length, ← rb.length]
  refine PySem.W.keq_ne (knd := mixKind X.prog X.w) ya yb da db (by omega) (fun _ => hits_int (by show X.A.units + 1 < cLine; omega) rb ib ra ia) ?_
  rw [hl]
  exact ⟨.bl _, H, I, rfl, q⟩
end
end DL
namespace Pf
open PySem PySem.Spec PyProof.Rows L2 DL
/-- the same games -/
def sameG (gs hs : List (Nat × Nat)) : Bool := gs.length == hs.length && gs.all fun p => decide (gv hs p.1 = some p.2)
def gV (gs : List (Nat × Nat)) : List (Key × V) := gs.map fun p => (Sum.inl (p.1 : Int), V.int (p.2 : Nat))
theorem gV_of {K : PySem.W.Frag} {G : Hp} : ∀ {gs : List (Nat × Nat)} {kvs : List (Key × V)}, kvs.map (·.1) = (gD gs).map (·.1) → RpL K G (kvs.map (·.2)) ((gD gs).map (·.2)) → kvs = gV gs
  | [], [], _, _ => rfl
  | [], _ :: _, h, _ => by cases h
  | _ :: _, [], h, _ => by cases h
  | g :: gs, (k, v) :: kvs, h, r => by
    have h' : k = Sum.inl (g.1 : Int) ∧ kvs.map (·.1) = (gD gs).map (·.1) := by
      unfold gD at h ⊢
      rw [List.map_cons, List.map_cons, List.map_cons] at h
      exact ⟨(List.cons.inj h).1, (List.cons.inj h).2⟩
    have r' : Rp K G v (.int (g.2 : Nat)) ∧ RpL K G (kvs.map (·.2)) ((gD gs).map (·.2)) := by
      unfold gD at r ⊢
      rw [List.map_cons, List.map_cons, List.map_cons] at r
      cases r with
      | cons a b => exact ⟨a, b⟩
    obtain ⟨rfl, h1⟩ := h'
    obtain ⟨r1, r2⟩ := r'
    cases r1
    rw [gV_of h1 r2]
    rfl
theorem gV_val : ∀ (gs : List (Nat × Nat)) (t : Nat), valV (gV gs) (Sum.inl (t : Int)) = (gv gs t).map fun v => V.int (v : Nat)
  | [], t => rfl
  | g :: gs, t => by
    have ih := gV_val gs t
    unfold valV gv gV at ih ⊢
    rw [List.map_cons, List.find?_cons, List.find?_cons]
    by_cases e : g.1 = t
    · subst e
      simp
    · have : ¬ ((g.1 : Int) = t) := by omega
      simp only [Sum.inl.injEq, this, e, decide_false]
      exact ih
theorem gV_same (gs hs : List (Nat × Nat)) : sameV (gV gs) (gV hs) = sameG gs hs := by
  unfold sameV sameG
  have h1 : ((gV gs).length == (gV hs).length) = (gs.length == hs.length) := by unfold gV; rw [List.length_map, List.length_map]
  rw [h1]
  congr 1
  have e : ∀ p : Nat × Nat, decide (valV (gV hs) (Sum.inl (p.1 : Int)) = some (V.int (p.2 : Nat))) = decide (gv hs p.1 = some p.2) := by
    intro p
    rw [gV_val]
    cases gv hs p.1 with
    | none => simp
    | some v =>
      by_cases z : v = p.2
      · subst z; simp
      · have : ¬ ((v : Int) = p.2) := by omega
        simp [z, this]
  unfold gV
  rw [List.all_map]
  congr 1
  funext p
  exact e p
theorem gV_all (gs : List (Nat × Nat)) : allI (gV gs) := fun p hp => by
  obtain ⟨g, _, rfl⟩ := List.mem_map.mp hp
  exact ⟨_, rfl⟩
section
variable {ι : Type} {m : ι} {K : PySem.W.Frag} {W : Wd ι} {Φ : ι → S → Prop} {gs hs : List (Nat × Nat)} {s1 s2 : S}
theorem ops_eqG (h1 : s1.dct? = some (.K (gD gs))) (h2 : s2.dct? = some (.K (gD hs))) (h : Φ m (.dat (.bl (sameG gs hs)))) : OpS K W m rEqK s1 s2 Φ := fun H0 G H v1 v2 ok r1 r2 Q q => by
  obtain ⟨a, ks, rfl, ha, k1, l1⟩ := r1.dicV ok h1
  obtain ⟨b, ls, rfl, hb, k2, l2⟩ := r2.dicV ok h2
  obtain rfl := gV_of k1 l1
  obtain rfl := gV_of k2 l2
  exact ⟨a, b, _, _, rfl, rfl, ha, hb, gV_all _, gV_all _, by rw [gV_same]; exact q _ (.dat (.bl _)) m G H ok.refl (Rp.bl _) h⟩
theorem ops_neG (h1 : s1.dct? = some (.K (gD gs))) (h2 : s2.dct? = some (.K (gD hs))) (h : Φ m (.dat (.bl (!sameG gs hs)))) : OpS K W m rNeK s1 s2 Φ := fun H0 G H v1 v2 ok r1 r2 Q q => by
  obtain ⟨a, ks, rfl, ha, k1, l1⟩ := r1.dicV ok h1
  obtain ⟨b, ls, rfl, hb, k2, l2⟩ := r2.dicV ok h2
  obtain rfl := gV_of k1 l1
  obtain rfl := gV_of k2 l2
  exact ⟨a, b, _, _, rfl, rfl, ha, hb, gV_all _, gV_all _, by rw [gV_same]; exact q _ (.dat (.bl _)) m G H ok.refl (Rp.bl _) h⟩
end
theorem sameG_refl {gs : List (Nat × Nat)} (nd : (gs.map (·.1)).Nodup) : sameG gs gs = true := by
  unfold sameG
  rw [Bool.and_eq_true]
  refine ⟨by simp, ?_⟩
  rw [List.all_eq_true]
  rintro ⟨t, v⟩ hp
  simp [gv_mem nd hp]
end Pf
set_option Elab.async false
set_option linter.all false
set_option maxRecDepth 100000
set_option maxHeartbeats 1000000
namespace DL
open PySem L2 Evl
/-! ### what is another's, lent to a def as data -/
def atomD : D → Bool
  | .non => true | .bl _ => true | .int _ => true | .str _ => true | _ => false
def flatD : D → Bool
  | .tup ds => ds.all atomD | d => atomD d
def lendS : S → S
  | .vw o => .dat o.frz | .own o => .dat o.frz | s => s
def lendOk : S → Bool
  | .dat _ => true | .vw _ => true | _ => false
def retOk : S → Bool
  | .dat d => atomD d | .own (.one (.lst ds)) => ds.all flatD | .own (.one (.dT ds)) => (ds.map (·.2)).all atomD | _ => false
def plain : HO → Bool
  | .lst _ => true | .dK _ => true | .dT _ => true | .ins _ _ _ => true | .own _ => true | _ => false
section
variable {ι : Type}
/-- the world, sealed -/
def sealW (W : Wd ι) (Hs : Hp) (hs : ∀ a, W.M a → ∃ u, Hs a = some u ∧ noTup u = true) : Wd Unit where
  M := W.M
  L := W.L
  I := fun _ _ H => ∀ a, W.M a → H a = Hs a
  dep := fun _ _ _ _ _ _ k h a ha => (k a ha).trans (h a ha)
  has := fun _ _ _ a h ha => by obtain ⟨u, e, t⟩ := hs a ha; exact ⟨u, (h a ha).trans e, t⟩
  sw := fun _ _ _ _ _ _ _ h => h
  pin := fun _ _ => False
  pinned := fun _ _ _ _ _ _ h => h.elim
open Classical in
noncomputable def lendG (W : Wd ι) (G H : Hp) : Hp := fun a => if G a = none ∧ ¬ W.M a ∧ (∃ u, H a = some u ∧ plain u = true) then H a else G a
def tupG (G G' : Hp) : Hp := fun a => match G a with
  | some o => some o
  | none => match G' a with
    | some (.tup xs) => some (.tup xs)
    | _ => none
variable {W : Wd ι} {K : PySem.W.Frag} {m : ι} {G H G' H' : Hp}
theorem lendG_ex : Ex G (lendG W G H) := fun a o h => by
  unfold lendG
  rw [if_neg]
  · exact h
  · rintro ⟨z, _⟩
    rw [h] at z
    cases z
theorem lendG_at {a : Addr} {u : HO} (f : Fv W G a) (h : H a = some u) (p : plain u = true) : lendG W G H a = some u := by
  unfold lendG
  rw [if_pos ⟨f.1, f.2, u, h, p⟩]
  exact h
theorem lend_ok (ok : Ok W m G H) (hs : ∀ a, W.M a → ∃ u, H a = some u ∧ noTup u = true) : Ok (sealW W H hs) () (lendG W G H) H := by
  refine ⟨fun a o h => ?_, fun a _ => rfl, fun a ha => ?_, fun a o u h n => ?_⟩
  · unfold lendG at h
    split at h
    · exact h
    · exact ok.ex a o h
  · unfold lendG
    rw [if_neg]
    · exact ok.off a ha
    · rintro ⟨_, z, _⟩
      exact z ha
  · unfold lendG at h
    split at h
    · rename_i z
      obtain ⟨_, _, w, e, p⟩ := z
      rw [h] at e
      cases e
      cases p
    · exact ok.lk a o u h n
theorem Ob1.lend {p : Addr} {o : O1} (f : Fv W G p) (h : Ob1 K G H p o) : Rp K (lendG W G H) (.ref p) o.frz := by
  cases o with
  | lst ds => obtain ⟨xs, e, r⟩ := h; exact .lst (lendG_at f e rfl) (r.mono lendG_ex)
  | dK ds => obtain ⟨xs, e, k, r⟩ := h; exact .dic (.inl (lendG_at f e rfl)) k (r.mono lendG_ex)
  | dT ds => obtain ⟨xs, e, k, r⟩ := h; exact .dit (.inl (lendG_at f e rfl)) k (r.mono lendG_ex)
theorem RIts.lend : ∀ {vs : List V} {is : List It}, RIts K (Fv W G) G H vs is → RpL K (lendG W G H) vs (is.map It.frz)
  | _, _, .nil => .nil
  | _, _, .cons (i := .d d) r rs => .cons (Rp.mono lendG_ex r) rs.lend
  | _, _, .cons (i := .o o) r rs => by
    obtain ⟨q, rfl, f, ob⟩ := r
    exact .cons (ob.lend f) rs.lend
theorem OwnAt.lend {p : Addr} {o : O} (h : OwnAt K (Fv W G) G H p o) : Rp K (lendG W G H) (.ref p) o.frz := by
  cases o with
  | one o => exact h.2.lend h.1
  | nest its => obtain ⟨f, vs, e, r, _⟩ := h; exact .lst (lendG_at f e rfl) r.lend
  | ins C fs =>
    obtain ⟨f, dx, fv, fx, e, ex, k, r, _⟩ := h
    obtain ⟨z1, z2⟩ := zip_map_eq (l := fs) (f := fun i : It => i.frz)
    refine .ins (lendG_at f e rfl) (lendG_at fx ex rfl) (by rw [k]; exact z1.symm) ?_
    show RpL K _ _ ((fs.map fun f => (f.1, f.2.frz)).map (·.2))
    rw [z2]
    exact r.lend
theorem atom_rp {v : V} {d : D} (h : atomD d = true) (r : Rp K G v d) : Rp K G' v d := by
  cases r <;> first | exact .non | exact .bl _ | exact .int _ | exact .str _ | cases h
theorem atoms_rp : ∀ {vs : List V} {ds : List D}, ds.all atomD = true → RpL K G vs ds → RpL K G' vs ds
  | _, _, _, .nil => .nil
  | _, _, h, .cons r rs => by
    rw [List.all_cons, Bool.and_eq_true] at h
    exact .cons (atom_rp h.1 r) (atoms_rp h.2 rs)
theorem flat_rp {v : V} {d : D} (ex : Ex G G') (h : flatD d = true) (r : Rp K G' v d) : Rp K (tupG G G') v d := by
  cases r with
  | @tup a xs ds e rs =>
    refine .tup ?_ (atoms_rp h rs)
    unfold tupG
    cases g : G a with
    | some o =>
      have := ex _ _ g
      rw [e] at this
      dsimp only
      exact this.symm
    | none => simp only [e]
  | non => exact .non
  | bl b => exact .bl b
  | int i => exact .int i
  | str x => exact .str x
  | _ => cases h
theorem flats_rp (ex : Ex G G') : ∀ {vs : List V} {ds : List D}, ds.all flatD = true → RpL K G' vs ds → RpL K (tupG G G') vs ds
  | _, _, _, .nil => .nil
  | _, _, h, .cons r rs => by
    rw [List.all_cons, Bool.and_eq_true] at h
    exact .cons (flat_rp ex h.1 r) (flats_rp ex h.2 rs)
theorem tupG_ex : Ex G (tupG G G') := fun a o h => by unfold tupG; rw [h]
theorem tupG_none {a : Addr} (h : G a = none) (h' : ∀ xs, G' a ≠ some (.tup xs)) : tupG G G' a = none := by
  unfold tupG
  rw [h]
  dsimp only
  split
  · rename_i xs e
    exact absurd e (h' xs)
  · rfl
theorem lend_back (ok : Ok W m G H) (hs : ∀ a, W.M a → ∃ u, H a = some u ∧ noTup u = true) (g : Grow (sealW W H hs) (lendG W G H) H () G' H') : Grow W G H m (tupG G G') H' := by
  have ok' := g.ok (lend_ok ok hs)
  have ex : Ex G G' := lendG_ex.trans g.ex
  refine ⟨tupG_ex, fun a o h => ?_, fun a o h t n => tupG_none n fun xs e => ?_, g.keep, W.dep _ _ _ _ _ tupG_ex g.inv ok.inv, fun a o u h n => .inr ?_⟩
  · unfold tupG at h
    split at h
    · rename_i o' e
      cases h
      exact g.sub _ _ (ex _ _ e)
    · split at h
      · rename_i xs e
        cases h
        exact g.sub _ _ e
      · cases h
  · by_cases ma : W.M a
    · have := ok'.off a ma
      rw [e] at this
      cases this
    · have k := g.keep a o ma h
      rw [g.sub _ _ e] at k
      cases k
      cases t
  · unfold tupG at h
    split at h
    · rename_i o' e
      cases h
      exact e
    · split at h <;> cases h
end
section
variable {ι : Type} {c : Cc ι} {m : ι} {ρ : List S} {Φ : ι → S → Prop} {tr : TA} {E : XK} {F : Fc}
theorem lend_args {W : Wd ι} {K : PySem.W.Frag} {G H : Hp} {H0 H1 : Hp} {hs : ∀ a, W.M a → ∃ u, H a = some u ∧ noTup u = true} : ∀ {vs : List V} {ss : List S}, RelSs K W H0 G H vs ss → ss.all lendOk = true → RelSs K (sealW W H hs) H1 (lendG W G H) H vs (ss.map lendS) ∧ (ss.map lendS).all argS = true
  | _, _, .nil, _ => ⟨.nil, rfl⟩
  | _, _, .cons (s := s) r rs, h => by
    rw [List.all_cons, Bool.and_eq_true] at h
    obtain ⟨i1, i2⟩ := lend_args (H1 := H1) (hs := hs) rs h.2
    cases s with
    | dat d => exact ⟨.cons (s := .dat d) (Rp.mono lendG_ex r) i1, by simpa [lendS, argS] using i2⟩
    | vw o =>
      obtain ⟨p, rfl, ob⟩ := r
      exact ⟨.cons (s := .dat o.frz) ob.lend i1, by simpa [lendS, argS] using i2⟩
    | _ => cases h.1
/-- f(..), where what is another's, or one's own, is only looked at -/
theorem de_lend (h : DA c m tr ρ fun m' ss => ss.all lendOk = true ∧ ∀ Hs hs, F Unit (sealW c.W Hs hs) () (ss.map lendS) (fun _ s => retOk s = true ∧ Φ m' s) fun _ _ _ => False) : De c m (tCall (spF c.K F) [] E tr) ρ Φ := fun σ G H e Q q => h σ G H e _ fun vs ss m1 G1 H1 g1 r1 ⟨ha, hf⟩ => by
  rw [List.append_nil]
  have ok := (e.grow g1).ok
  have hs : ∀ a, c.W.M a → ∃ u, H1 a = some u ∧ noTup u = true := fun a ma => c.W.has _ _ _ a ok.inv ma
  obtain ⟨a1, a2⟩ := lend_args (H1 := H1) (hs := hs) r1 ha
  refine ⟨Unit, sealW c.W H1 hs, (), lendG c.W G1 H1, _, _, _, lend_ok ok hs, a1, a2, hf H1 hs, fun v s m' G' H' g r ⟨rt, p⟩ => ?_, fun _ _ _ _ _ _ _ _ _ _ _ _ _ z => z.elim⟩
  have gb := lend_back ok hs g
  have ex : Ex G1 G' := lendG_ex.trans g.ex
  refine q v s m1 (tupG G1 G') H' (g1.trans gb) ?_ p
  cases s with
  | dat d => exact atom_rp (G := G') rt r
  | own o =>
    cases o with
    | one o =>
      cases o with
      | lst ds =>
        obtain ⟨p', rfl, ⟨f1, f2, f3⟩, xs, e1, rr⟩ := r
        have n1 : G1 p' = none := fresh_back ok.ex f1
        exact ⟨p', rfl, ⟨g1.back f1, tupG_none n1 (fun xs z => by rw [f2] at z; cases z), f3⟩, xs, e1, flats_rp ex rt rr⟩
      | dT ds =>
        obtain ⟨p', rfl, ⟨f1, f2, f3⟩, xs, e1, hk, rr⟩ := r
        have n1 : G1 p' = none := fresh_back ok.ex f1
        exact ⟨p', rfl, ⟨g1.back f1, tupG_none n1 (fun xs z => by rw [f2] at z; cases z), f3⟩, xs, e1, hk, atoms_rp rt rr⟩
      | _ => cases rt
    | _ => cases rt
  | _ => cases rt
end
/-! ### walks over what is another's -/
section
variable {ι : Type} {c : Cc ι} {m m2 : ι} {ρ : List S} {G H G2 H2 : Hp} {σ : L2.St}
/-- a view stays a view -/
theorem view_stays {p : Addr} {o : O} (e : EnvOk c m G H σ ρ) (ob : OwnAt c.K (Fv c.W G) G H p o) (old : ∀ a, Ads H p o a → c.H0 a ≠ none) (g2 : Grow c.W c.G0 c.H0 m2 G2 H2) (x : Ex G G2) : OwnAt c.K (Fv c.W G2) G2 H2 p o ∧ (∀ a, Ads H p o a → H2 a = H a) ∧ ∀ a, Ads H2 p o a → c.H0 a ≠ none := by
  have key : ∀ a, Ads H p o a → H2 a = H a ∧ Fv c.W G2 a := fun a ha => by
    obtain ⟨f, u, hu, pl⟩ := ob.ads ha
    have h0 := old a ha
    have k1 := grow_at e.gr f.2 h0
    have k2 := grow_at g2 f.2 h0
    have eq : H2 a = H a := k2.trans k1.symm
    refine ⟨eq, ?_, f.2⟩
    refine g2.fresh a u (by rw [← k1]; exact hu) (pln2_t pl) ?_
    exact fresh_back e.gr.ex f.1
  exact ⟨ob.monoA x key, fun a ha => (key a ha).1, fun a ha => old a (ha.eq (key p (Ads.root o)).1)⟩
theorem EnvOk.setV {i : Nat} {p : Addr} {o : O} (e : EnvOk c m G H σ ρ) (hn : noEl i ρ = true) (ob : OwnAt c.K (Fv c.W G) G H p o) (old : ∀ a, Ads H p o a → c.H0 a ≠ none) : EnvOk c m G H (σ.set i (some (.ref p))) (ρ.set i (.vw o)) := by
  have u := e.unset (i := i) (some (.ref p)) hn
  have here : i < ρ.length → (σ.set i (some (V.ref p)))[i]? = some (some (.ref p)) := fun hl => by rw [List.getElem?_set]; simp only [if_true]; rw [if_pos (by rw [e.len]; exact hl)]
  have back : ∀ {k : Nat} {s : S}, i ≠ k → (ρ.set i (.vw o))[k]? = some s → (ρ.set i .no)[k]? = some s := fun hk h => by
    rw [List.getElem?_set_ne hk] at h ⊢
    exact h
  refine ⟨u.ok0, u.gr, u.exc, by rw [List.length_set, List.length_set]; exact e.len, fun j t ht => ?_, fun j k o1 o2 q1 q2 hjk hj hk pj pk => ?_, fun k a j hk => ?_, fun k w q hk hq a ha => ?_⟩
  · rcases set_get ht with ⟨rfl, rfl, hl⟩ | ⟨ne, _⟩
    · exact .inr ⟨_, here hl, p, rfl, ob⟩
    · exact u.at_ j t (back ne ht)
  · have n1 : i ≠ j := fun z => by
      rcases set_get hj with ⟨_, h2, _⟩ | ⟨h2, _⟩
      · cases h2
      · exact h2 z
    have n2 : i ≠ k := fun z => by
      rcases set_get hk with ⟨_, h2, _⟩ | ⟨h2, _⟩
      · cases h2
      · exact h2 z
    exact u.sep j k o1 o2 q1 q2 hjk (back n1 hj) (back n2 hk) pj pk
  · have n1 : i ≠ k := fun z => by
      rcases set_get hk with ⟨_, h2, _⟩ | ⟨h2, _⟩
      · cases h2
      · exact h2 z
    obtain ⟨its, q, vs, r, w, h1, h2⟩ := u.els k a j (back n1 hk)
    refine ⟨its, q, vs, r, w, ?_, h2⟩
    have na : i ≠ a := fun z => by
      subst z
      rcases set_get h1 with ⟨_, h3, _⟩ | ⟨h3, _⟩
      · cases h3
      · exact h3 rfl
    rw [List.getElem?_set_ne na] at h1 ⊢
    exact h1
  · rcases set_get hk with ⟨rfl, h1, hl⟩ | ⟨ne, _⟩
    · cases h1
      rw [here hl] at hq
      cases hq
      exact old a ha
    · exact u.vws k w q (back ne hk) hq a ha
/-- the items of a list that is another's -/
def S.items? : S → Option (List S)
  | .vw (.one (.lst ds)) => some (ds.map S.dat)
  | .vw (.nest its) => some (its.map fun | .d d => .dat d | .o o => .vw (.one o))
  | _ => none
/-- an item, laid into a slot -/
theorem item_set {k : Nat} {p : Addr} {o : O} {ss : List S} (e0 : EnvOk c m G H σ ρ) (ob : OwnAt c.K (Fv c.W G) G H p o) (old : ∀ a, Ads H p o a → c.H0 a ≠ none) (hs : (S.vw o).items? = some ss) : ∃ vs, H p = some (.lst vs) ∧ vs.length = ss.length ∧ ∀ (j : Nat) (s : S), ss[j]? = some s → ∃ v, vs[j]? = some v ∧
    ∀ (m2 : ι) (G2 H2 : Hp) (σ2 : L2.St) (ρ2 : List S), Ex G G2 → EnvOk c m2 G2 H2 σ2 ρ2 → noEl k ρ2 = true → EnvOk c m2 G2 H2 (σ2.set k (some v)) (ρ2.set k s) := by
  cases o with
  | one o =>
    cases o with
    | lst ds =>
      obtain ⟨f, vs, h1, r⟩ := ob
      obtain rfl : ds.map S.dat = ss := Option.some.inj hs
      refine ⟨vs, h1, by rw [List.length_map]; exact r.length, fun j s hj => ?_⟩
      rw [List.getElem?_map] at hj
      cases hd : ds[j]? with
      | none => rw [hd] at hj; cases hj
      | some d =>
        rw [hd] at hj
        cases hj
        obtain ⟨v, hv, rv⟩ := r.getD hd
        exact ⟨v, hv, fun m2 G2 H2 σ2 ρ2 x e2 hn => e2.setD hn (rv.mono x)⟩
    | _ => cases hs
  | nest its =>
    obtain ⟨f, vs, h1, r, nd⟩ := id ob
    obtain rfl := Option.some.inj hs
    refine ⟨vs, h1, by rw [List.length_map]; exact r.length, fun j s hj => ?_⟩
    rw [List.getElem?_map] at hj
    cases hd : its[j]? with
    | none => rw [hd] at hj; cases hj
    | some it =>
      rw [hd] at hj
      obtain ⟨v, hv, rv⟩ := r.getD hd
      refine ⟨v, hv, fun m2 G2 H2 σ2 ρ2 x e2 hn => ?_⟩
      cases it with
      | d d => cases hj; exact e2.setD hn (Rp.mono x rv)
      | o o =>
        cases hj
        obtain ⟨q, rfl, fq, oq⟩ := rv
        have hk : q ∈ kids vs its := kid_at r hv hd
        have one : OwnAt c.K (Fv c.W G) G H q (.one o) := ⟨fq, oq⟩
        have od : ∀ a, Ads H q (.one o) a → c.H0 a ≠ none := fun a ha => by
          obtain rfl : a = q := ha
          exact old a (.inr ⟨vs, h1, hk⟩)
        obtain ⟨s1, s2, s3⟩ := view_stays e0 one od e2.gr x
        exact e2.setV hn s1 s3
  | ins C fs => cases hs
variable {t : TS} {N B C : ι → List S → Prop} {R : ι → S → Prop} {i k : Nat} {o : O}
/-- for x in xs: .., xs another's -/
theorem ds_forV {ss : List S} (hi : ρ[i]? = some (.vw o)) (hs : (S.vw o).items? = some ss) (J : Nat → ι → List S → Prop) (j0 : J 0 m ρ)
    (jt : ∀ j s m ρ', ss[j]? = some s → J j m ρ' → noEl k ρ' = true ∧ Ds c m t (ρ'.set k s) (J (j + 1)) R N (J (j + 1))) (jd : ∀ m ρ', J ss.length m ρ' → N m ρ') : Ds c m (tFor (iList c.K (tVar i)) (gName k) t) ρ N R B C := fun D σ G H e k1 k2 k3 k4 => by
  rcases e.at_ i _ hi with z | ⟨v, hv, p, rfl, ob⟩
  · cases z
  have old := e.vws i o p hi hv
  obtain ⟨vs, h1, hl, it⟩ := item_set (k := k) e ob old hs
  have root : ¬ c.W.M p := ob.root.1.2
  have h0 : c.H0 p ≠ none := old p (Ads.root o)
  have keep : ∀ {m2 : ι} {G2 H2 : Hp}, Grow c.W c.G0 c.H0 m2 G2 H2 → SqL c.K H2 p vs := fun g => by
    have a1 := grow_at g root h0
    have a2 := grow_at e.gr root h0
    exact .inl (.inl (a1.trans (a2.symm.trans h1)))
  refine ⟨.ref p, hv, p, rfl, ⟨vs, keep e.gr⟩, ?_⟩
  refine ⟨fun j n σ2 H2 => n = ss.length - j ∧ j ≤ ss.length ∧ ∃ m2 ρ2 G2, Ex G G2 ∧ EnvOk c m2 G2 H2 σ2 ρ2 ∧ J j m2 ρ2, ⟨ss.length, by simp, Nat.zero_le _, m, ρ, G, Ex.refl _, e, j0⟩, ?_⟩
  rintro j n σ2 H2 ⟨hn, hj, m2, ρ2, G2, x2, e2, jj⟩
  have sq := keep e2.gr
  by_cases lt : j < ss.length
  · right
    have hss : ss[j]? = some ss[j] := List.getElem?_eq_getElem lt
    obtain ⟨w, hw, st⟩ := it j _ hss
    obtain ⟨nk, body⟩ := jt j _ m2 ρ2 hss jj
    refine ⟨⟨vs, w, sq, hw⟩, fun σ' H' => ∃ m3 ρ3 G3, Ex G G3 ∧ EnvOk c m3 G3 H' σ' ρ3 ∧ J (j + 1) m3 ρ3, fun σ' H' ⟨m3, ρ3, G3, x3, e3, j3⟩ => ⟨n - 1, by omega, by omega, lt, m3, ρ3, G3, x3, e3, j3⟩, fun y H' ⟨eh, hy⟩ => ?_⟩
    subst eh
    have ey := hy vs sq
    rw [hw] at ey
    cases ey
    refine body _ _ G2 _ (st m2 G2 _ σ2 ρ2 x2 e2 nk) (fun ρ' σ'' m' G' H'' n y z => ⟨_, ρ', G', x2.trans y, z, n⟩) (fun s v m' G' H' r y gg rr => k2 s v m' G' H' r (x2.trans y) gg rr) (fun ρ' σ'' m' G' H'' n y z => k1 ρ' σ'' m' G' H'' n (x2.trans y) z) (fun ρ' σ'' m' G' H'' n y z => ⟨_, ρ', G', x2.trans y, z, n⟩)
  · left
    have : j = ss.length := by omega
    subst this
    exact ⟨⟨vs, sq, by omega⟩, k1 ρ2 σ2 m2 G2 H2 (jd m2 ρ2 jj) x2 e2⟩
variable {te : TE} {Φ : ι → S → Prop}
/-- [f x for x in xs], xs another's -/
theorem de_lcV {ss : List S} (f : Nat → D) (hi : ρ[i]? = some (.vw o)) (hs : (S.vw o).items? = some ss) (hl : ss.length < 1000000)
    (each : ∀ j s, ss[j]? = some s → noEl k (wipeS ρ [k]) = true ∧ De c m te ((wipeS ρ [k]).set k s) fun m' s' => m' = m ∧ s'.frz = .dat (f j)) (hΦ : Φ m (.own (.lst ((List.range ss.length).map f)))) (hw : noEls [k] ρ = true := by with_unfolding_all rfl) :
    De c m (tLc (iList c.K (tVar i)) (gName k) tYes te [k]) ρ Φ := fun σ G H e Q q => by
  rcases e.at_ i _ hi with z | ⟨v, hv, p, rfl, ob⟩
  · cases z
  have old := e.vws i o p hi hv
  obtain ⟨vs, h1, hlen, it⟩ := item_set (k := k) e ob old hs
  have root : ¬ c.W.M p := ob.root.1.2
  have keep : ∀ {m2 : ι} {G2 H2 : Hp}, Grow c.W G H m2 G2 H2 → SqL c.K H2 p vs := fun g => .inl (.inl (g.keep p _ root h1))
  refine ⟨.ref p, hv, p, rfl, ⟨vs, keep e.refl⟩, fun Dd hD => ?_⟩
  have mD : ¬ c.W.M Dd := fun mm => c.W.ne e.ok.inv mm hD
  have up : ∀ {m2 : ι} {G2 H2 : Hp} {ys : List V}, Grow c.W G H m2 G2 H2 → G2 Dd = none → Grow c.W G H m2 G2 (upd H2 Dd (.lst ys)) := fun g n => g.mut hD n mD
  refine ⟨fun j n H2 => n = ss.length - j ∧ j ≤ ss.length ∧ ∃ G2 xs, Grow c.W G H m G2 H2 ∧ H2 Dd = some (.lst xs) ∧ G2 Dd = none ∧ RpL c.K G2 xs ((List.range j).map f), ⟨ss.length, by simp, Nat.zero_le _, G, [], up e.refl (fresh_back e.ok.ex hD), upd_same, fresh_back e.ok.ex hD, .nil⟩, ?_⟩
  rintro j n H2 ⟨hn, hj, G2, xs, g2, hx, nD, rx⟩
  have sq := keep g2
  by_cases lt : j < ss.length
  · right
    have hss : ss[j]? = some ss[j] := List.getElem?_eq_getElem lt
    obtain ⟨w, hw', st⟩ := it j _ hss
    obtain ⟨nk, body⟩ := each j _ hss
    refine ⟨⟨vs, w, sq, hw'⟩, fun H' => ∃ G3 ys, Grow c.W G H m G3 H' ∧ H' Dd = some (.lst ys) ∧ G3 Dd = none ∧ RpL c.K G3 ys ((List.range (j + 1)).map f), fun H' z => ⟨n - 1, by omega, by omega, lt, z⟩, fun y H' ⟨eh, hy⟩ => ?_⟩
    subst H'
    have ey := hy vs sq
    rw [hw'] at ey
    cases ey
    have wp : wipe ((wipe σ [k]).set k (some w)) [k] = wipe σ [k] := by rw [wipe_set (by simp), wipe_wipe]
    refine ⟨wp, ?_⟩
    unfold tYes
    dsimp only
    rw [if_pos rfl]
    have e3 := (e.grow g2).wipe [k] hw
    refine body ((wipe σ [k]).set k (some w)) G2 H2 (st m G2 H2 (wipe σ [k]) (wipeS ρ [k]) g2.ex e3 nk) _ fun u s m5 G5 H5 g5 r5 ⟨em, es⟩ => ?_
    subst em
    obtain ⟨G6, g6, r6⟩ := r5.freeze g5
    rw [es] at r6
    have k1 : H5 Dd = some (.lst xs) := g6.keep _ _ mD hx
    have k2 : G6 Dd = none := g6.fresh _ _ hx rfl nD
    have len : xs.length = j := by rw [rx.length]; simp
    refine ⟨xs, k1, szl (by omega), G6, xs ++ [u], up (g2.trans g6) k2, upd_same, k2, ?_⟩
    rw [List.range_succ, List.map_append]
    exact (rx.mono g6.ex).append (.one r6)
  · left
    have : j = ss.length := by omega
    subst this
    exact ⟨⟨vs, sq, by omega⟩, q (.ref Dd) (.own (.lst ((List.range ss.length).map f))) m G2 H2 g2 ⟨Dd, rfl, ⟨hD, nD, mD⟩, xs, hx, rx⟩ hΦ⟩
theorem iSeq_var {K : PySem.W.Frag} {R : L2.It → Hp → Prop} (h : iList K (tVar i) σ H R) : iSeq K (tVar i) σ H R := by
  obtain ⟨v, hv, a, rfl, ⟨xs, sq⟩, r⟩ := h
  exact ⟨_, hv, a, rfl, .inl ⟨xs, sq, r⟩⟩
theorem ds_forVS {ss : List S} (hi : ρ[i]? = some (.vw o)) (hs : (S.vw o).items? = some ss) (J : Nat → ι → List S → Prop) (j0 : J 0 m ρ)
    (jt : ∀ j s m ρ', ss[j]? = some s → J j m ρ' → noEl k ρ' = true ∧ Ds c m t (ρ'.set k s) (J (j + 1)) R N (J (j + 1))) (jd : ∀ m ρ', J ss.length m ρ' → N m ρ') : Ds c m (tFor (iSeq c.K (tVar i)) (gName k) t) ρ N R B C :=
  fun D σ G H e k1 k2 k3 k4 => iSeq_var (ds_forV hi hs J j0 jt jd D σ G H e k1 k2 k3 k4)
theorem de_lcVS {ss : List S} (f : Nat → D) (hi : ρ[i]? = some (.vw o)) (hs : (S.vw o).items? = some ss) (hl : ss.length < 1000000)
    (each : ∀ j s, ss[j]? = some s → noEl k (wipeS ρ [k]) = true ∧ De c m te ((wipeS ρ [k]).set k s) fun m' s' => m' = m ∧ s'.frz = .dat (f j)) (hΦ : Φ m (.own (.lst ((List.range ss.length).map f)))) (hw : noEls [k] ρ = true := by with_unfolding_all rfl) :
    De c m (tLc (iSeq c.K (tVar i)) (gName k) tYes te [k]) ρ Φ := fun σ G H e Q q => iSeq_var (de_lcV f hi hs hl each hΦ hw σ G H e Q q)
/-- isinstance of a list that is another's -/
theorem de_isiN {T : String} (h : De c m te ρ fun m s => ∃ its b, s = .vw (.nest its) ∧ kitB "list" T = some b ∧ Φ m (.dat (.bl b))) : De c m (tCB (rIsiW c.K) (tCons te (tCons (tC (.ty T)) tNil))) ρ Φ := fun σ G H e Q q => h σ G H e _ fun v s m1 G1 H1 g1 r1 ⟨its, b, es, hb, p⟩ => by
  subst es
  obtain ⟨a, rfl, f, vs, e1, _⟩ := r1
  exact .inl ⟨.ref a, .ty T, .type "list", .type T, b, rfl, .ty T, .base (.lst e1), kit_ty hb, q _ (.dat (.bl b)) m1 G1 H1 g1 (Rp.bl b) p⟩
end
end DL
set_option Elab.async false
set_option linter.all false
set_option maxRecDepth 100000
set_option maxHeartbeats 1000000
namespace DL
open PySem L2 Evl PySem.Spec PyProof.Rows
section
variable {ι : Type} {c : Cc ι} {m : ι} {ρ : List S} {te ta : TE} {N B C : ι → List S → Prop} {R : ι → S → Prop} {Φ : ι → S → Prop}
/-- d.clear(), also of a dict with tuple keys -/
def rDClearW : V → List V → Hp → VK → Prop := fun x vs H Q => rDClear x vs H Q ∨ ∃ (a : Addr) (kvs : List (List Key × V)), x = .ref a ∧ vs = [] ∧ H a = some (.dT kvs) ∧ Q .non (upd H a (.dT []))
theorem mtd_clearW {X : Cx} : MtR X "dict.clear" rDClearW := by
  intro pins s σ H x vs v us Q I rx rv h
  rcases h with h | ⟨a, kvs, rfl, rfl, ha, q⟩
  · exact mtd_clear pins s σ H x vs v us Q I rx rv h
  · obtain rfl : v = Value.ref a := rx
    obtain rfl := rv.zero
    obtain ⟨z, hd, xs, pr, o, es, ep, g1, g2, g3, g4, _⟩ := (show ObjOk X.prog X.w H s.heap a (.dT kvs) from I.hok a _ ha)
    have raw : s.heap.DictRaw a es ep := ⟨o, g1, g2, g3⟩
    have len : es.size = kvs.length := by
      have h1 := congrArg List.length g4
      have h2 := pr.length
      simp only [List.length_map, Array.length_toList] at h1
      omega
    refine call_meetsIn PySem.F.slot_dict_clear raw.typeIs PySem.F.entry_dict_clear (PySem.F.args_dict_clear_1 _) (meets_dict_clear_raw a) ⟨es, ep, raw, by omega, fun h' hr hs => ?_⟩
    obtain ⟨o2, f1, f2, f3⟩ := hr
    exact ⟨.non, _, d_write (ob := .dT []) (t' := s.toks) I (by rw [ha]; exact True.intro) hs ⟨o2, f1⟩ ⟨Nat.zero_le _, hd, [], .nil, o2, #[], ep + 1, f1, f2, f3, rfl, List.nodup_nil⟩, rfl, q⟩
section
variable {X : Cx} {o : Expr} {to : TE} {apos cpos : Pos}
theorem pe_dclearW (ho : PE X o to) (hbase : attributeBase o "clear" X.env (eval o X.env) = eval o X.env := by rfl) (hline : (apos.endLine == cpos.line) = true := by rfl) : PE X (.Call (.Attribute o "clear" apos) [] [] cpos) (tBM0 X.K "dict" rDClearW to) :=
  pe_bm0 PySem.F.plainAttrs_dict PySem.F.slot_dict_clear PySem.F.type_dict_clear mtd_clearW ho hbase hline
end
/-- f(..).append(e), a new list of lists that no one keeps -/
theorem de_appTX (h : De c m te ρ fun m s => (∃ its, s = .own (.nest its) ∧ its.length < 1000000) ∧ De c m ta ρ fun m' _ => Φ m' (.dat .non)) : De c m (tBM c.K "list" rAppend te (tCons ta tNil)) ρ Φ := fun σ G H e Q q => h σ G H e _ fun v s m1 G1 H1 g1 r1 ⟨⟨its, es, hl⟩, h2⟩ => by
  subst es
  obtain ⟨p1, rfl, f, vs, hx, rx, nd⟩ := r1
  refine ⟨.inl ⟨rfl, vs, SqL.of hx⟩, h2 σ G1 H1 (e.grow g1) _ fun v2 s2 m2 G2 H2 g2 r2 p => ?_⟩
  have k2 : H2 p1 = some (.lst vs) := g2.keep _ _ f.2.2 hx
  have n2 : G2 p1 = none := g2.fresh _ _ hx rfl f.2.1
  exact ⟨p1, vs, v2, rfl, rfl, k2, szl (by rw [rx.length]; exact hl), q _ (.dat .non) m2 G2 _ ((g1.trans g2).mut f.1 n2 f.2.2) Rp.non p⟩
/-- f(..).clear(), a new dict that no one keeps -/
theorem de_clrT (h : De c m te ρ fun m s => (∃ kvs, s = .own (.dK kvs)) ∧ Φ m (.dat .non)) : De c m (tBM0 c.K "dict" rDClearW te) ρ Φ := fun σ G H e Q q => h σ G H e _ fun v s m1 G1 H1 g1 r1 ⟨⟨kvs, es⟩, p⟩ => by
  subst es
  obtain ⟨p1, rfl, f, xs, hx, k, rx⟩ := r1
  exact ⟨.inr (.inr (.inl ⟨rfl, .inl ⟨_, hx⟩⟩)), .inl ⟨p1, xs, rfl, rfl, hx, q _ (.dat .non) m1 G1 _ (g1.mut f.1 f.2.1 f.2.2) Rp.non p⟩⟩
/-- d.clear() -/
theorem ds_clrD {i : Nat} {kvs : List (Key × D)} (hi : ρ[i]? = some (.own (.dK kvs))) (h : N m (ρ.set i (.own (.dK [])))) : Ds c m (tDrop (tBM0 c.K "dict" rDClearW (tVar i))) ρ N R B C := fun D σ G H e k1 _ _ _ => by
  obtain ⟨p, hp, f, xs, hx, k, rx⟩ := e.own hi
  refine ⟨_, hp, .inr (.inr (.inl ⟨rfl, .inl ⟨_, hx⟩⟩)), .inl ⟨p, xs, rfl, rfl, hx, k1 _ σ m G _ h (Ex.refl _) (e.mut1 hi hp ⟨[], upd_same, rfl, .nil⟩)⟩⟩
/-- xs[n].clear(), an item of an own list -/
theorem ds_clearAt {i j : Nat} {n : Int} {its : List It} {ds : List D} (hi : ρ[i]? = some (.own (.nest its))) (hn : ixN its.length n = some j) (hj : its[j]? = some (.o (.lst ds))) (h : N m (ρ.set i (.own (.nest (its.set j (.o (.lst []))))))) : Ds c m (tDrop (tBM0 c.K "list" rClear (tOp (rIxL c.K) (tVar i) (tC (.int n))))) ρ N R B C := fun D σ G H e k1 _ _ _ => by
  obtain ⟨p, hp, ob⟩ := e.own hi
  obtain ⟨f, vs, e1, r, nd⟩ := id ob
  obtain ⟨v, hv, q, rfl, fq, xs, hx, rx⟩ := r.getD hj
  have hat : atI vs n = some (.ref q) := by
    unfold atI
    rw [r.length, hn]
    exact hv
  have hk := kid_at r hv hj
  obtain ⟨nd1, nd2⟩ := List.nodup_cons.mp nd
  have pq : p ≠ q := fun z => nd1 (by rw [z]; exact hk)
  have stay : upd H q (.lst []) p = some (.lst vs) := by rw [upd_ne pq]; exact e1
  obtain ⟨r', kk⟩ := kid_put (H' := upd H q (.lst [])) (q := q) (o' := .lst []) (fun a ne => upd_ne ne) ⟨[], upd_same, .nil⟩ r nd2 hv hj
  refine ⟨.ref p, hp, p, vs, n, _, rfl, rfl, SqL.of e1, hat, .inl ⟨rfl, xs, SqL.of hx⟩, q, xs, rfl, rfl, hx, k1 _ σ m G _ h (Ex.refl _) ?_⟩
  refine e.mut hi hp (.inr ⟨vs, e1, hk⟩) ⟨f, vs, stay, r', by rw [kk]; exact nd⟩ (fun a ha => ?_) fun its2 vs2 z hz => ?_
  · rcases ha with ha | ⟨ws, hw, ha⟩
    · exact .inl ha
    · rw [stay] at hw
      cases hw
      rw [kk] at ha
      exact .inr ⟨vs, e1, ha⟩
  · cases z
    rw [e1] at hz
    cases hz
    refine ⟨_, vs, rfl, stay, fun j2 q2 o2 a b => ⟨a, ?_⟩⟩
    by_cases ne : j = j2
    · subst ne
      exact ⟨.lst [], by rw [List.getElem?_set]; simp only [if_true]; rw [if_pos (List.getElem?_eq_some_iff.mp b).1]⟩
    · exact ⟨o2, by rw [List.getElem?_set_ne ne]; exact b⟩
/-- f(..).clear(), a new dict with tuple keys that no one keeps -/
theorem de_clrTT (h : De c m te ρ fun m s => (∃ kvs, s = .own (.dT kvs)) ∧ Φ m (.dat .non)) : De c m (tBM0 c.K "dict" rDClearW te) ρ Φ := fun σ G H e Q q => h σ G H e _ fun v s m1 G1 H1 g1 r1 ⟨⟨kvs, es⟩, p⟩ => by
  subst es
  obtain ⟨p1, rfl, f, xs, hx, k, rx⟩ := r1
  exact ⟨.inr (.inr (.inl ⟨rfl, .inr ⟨_, hx⟩⟩)), .inr ⟨p1, xs, rfl, rfl, hx, q _ (.dat .non) m1 G1 _ (g1.mut f.1 f.2.1 f.2.2) Rp.non p⟩⟩
/-- f(..)[n].clear(), an item of a new list of dicts that no one keeps -/
theorem de_clearIxT {i : Int} (h : De c m te ρ fun m s => (∃ its j ds, s = .own (.nest its) ∧ ixN its.length i = some j ∧ its[j]? = some (.o (.dT ds))) ∧ Φ m (.dat .non)) : De c m (tBM0 c.K "dict" rDClearW (tOp (rIxL c.K) te (tC (.int i)))) ρ Φ := fun σ G H e Q q => h σ G H e _ fun v s m1 G1 H1 g1 r1 ⟨⟨its, j, ds, es, hj, hd⟩, p⟩ => by
  subst es
  obtain ⟨p1, rfl, f, vs, hx, rx, nd⟩ := r1
  obtain ⟨w, hw, q1, rfl, fq, xs, hq, _⟩ := rx.getD hd
  have hat : atI vs i = some (.ref q1) := by
    unfold atI
    rw [rx.length, hj]
    exact hw
  exact ⟨p1, vs, i, _, rfl, rfl, SqL.of hx, hat, .inr (.inr (.inl ⟨rfl, .inr ⟨_, hq⟩⟩)), .inr ⟨q1, xs, rfl, rfl, hq, q _ (.dat .non) m1 G1 _ (g1.mut fq.1 fq.2.1 fq.2.2) Rp.non p⟩⟩
/-- xs[n].clear(), a dict with tuple keys in an own list -/
theorem ds_clearAtT {i j : Nat} {n : Int} {its : List It} {ds : List (List Key × D)} (hi : ρ[i]? = some (.own (.nest its))) (hn : ixN its.length n = some j) (hj : its[j]? = some (.o (.dT ds))) (h : N m (ρ.set i (.own (.nest (its.set j (.o (.dT []))))))) : Ds c m (tDrop (tBM0 c.K "dict" rDClearW (tOp (rIxL c.K) (tVar i) (tC (.int n))))) ρ N R B C := fun D σ G H e k1 _ _ _ => by
  obtain ⟨p, hp, ob⟩ := e.own hi
  obtain ⟨f, vs, e1, r, nd⟩ := id ob
  obtain ⟨v, hv, q, rfl, fq, xs, hx, rx⟩ := r.getD hj
  have hat : atI vs n = some (.ref q) := by
    unfold atI
    rw [r.length, hn]
    exact hv
  have hk := kid_at r hv hj
  obtain ⟨nd1, nd2⟩ := List.nodup_cons.mp nd
  have pq : p ≠ q := fun z => nd1 (by rw [z]; exact hk)
  have stay : upd H q (.dT []) p = some (.lst vs) := by rw [upd_ne pq]; exact e1
  obtain ⟨r', kk⟩ := kid_put (H' := upd H q (.dT [])) (q := q) (o' := .dT []) (fun a ne => upd_ne ne) ⟨[], upd_same, rfl, .nil⟩ r nd2 hv hj
  refine ⟨.ref p, hp, p, vs, n, _, rfl, rfl, SqL.of e1, hat, .inr (.inr (.inl ⟨rfl, .inr ⟨_, hx⟩⟩)), .inr ⟨q, xs, rfl, rfl, hx, k1 _ σ m G _ h (Ex.refl _) ?_⟩⟩
  refine e.mut hi hp (.inr ⟨vs, e1, hk⟩) ⟨f, vs, stay, r', by rw [kk]; exact nd⟩ (fun a ha => ?_) fun its2 vs2 z hz => ?_
  · rcases ha with ha | ⟨ws, hw, ha⟩
    · exact .inl ha
    · rw [stay] at hw
      cases hw
      rw [kk] at ha
      exact .inr ⟨vs, e1, ha⟩
  · cases z
    rw [e1] at hz
    cases hz
    refine ⟨_, vs, rfl, stay, fun j2 q2 o2 a b => ⟨a, ?_⟩⟩
    by_cases ne : j = j2
    · subst ne
      exact ⟨.dT [], by rw [List.getElem?_set]; simp only [if_true]; rw [if_pos (List.getElem?_eq_some_iff.mp b).1]⟩
    · exact ⟨o2, by rw [List.getElem?_set_ne ne]; exact b⟩
/-- isinstance of an own class -/
structure Kc (K : PySem.W.Frag) (C : Addr) : Prop where
  cl : Cls K C
  ha : PySem.W.findIn K (.ref C) "__class__" = some (some (.builtin "object.__class__"))
  hn : PySem.W.specialIn K (.builtin "object.__class__") "__get__" = some (some (.builtin "getset_descriptor.__get__"))
  ht : PySem.W.takesIn K (.builtin "object.__class__") = some true
  hm : PySem.W.mroIn K C (.type "object") = some true
  ki : PySem.W.kitOne K (.ref C) (.ref C) = some true
  kl : PySem.W.kitOne K (.type "list") (.ref C) = some false
theorem de_isiC {D : Addr} (kc : Kc c.K D) (h : De c m te ρ fun m s => (∃ fs, s = .dat (.ins D fs) ∧ Φ m (.dat (.bl true))) ∨ ∃ ds, s = .dat (.lst ds) ∧ Φ m (.dat (.bl false))) : De c m (tCB (rIsiW c.K) (tCons te (tCons (tC (.ref D)) tNil))) ρ Φ := fun σ G H e Q q => h σ G H e _ fun v s m1 G1 H1 g1 r1 z => by
  have ok := (e.grow g1).ok
  rcases z with ⟨fs, es, p⟩ | ⟨ds, es, p⟩
  · subst es
    have r1 : Rp c.K G1 v (.ins D fs) := r1
    cases r1 with
    | ins a _ _ _ => exact .inl ⟨_, .ref D, .ref D, .ref D, true, rfl, .own D, .base (.ins (ok.ex _ _ a) kc.cl kc.ha kc.hn kc.ht kc.hm), kc.ki, q _ (.dat (.bl true)) m1 G1 H1 g1 (Rp.bl _) p⟩
  · subst es
    have r1 : Rp c.K G1 v (.lst ds) := r1
    cases r1 with
    | lst a _ => exact .inl ⟨_, .ref D, .type "list", .ref D, false, rfl, .own D, .base (.lst (ok.ex _ _ a)), kc.kl, q _ (.dat (.bl false)) m1 G1 H1 g1 (Rp.bl _) p⟩
end
/-! ### list.count of data -/
def rCntD (K : PySem.W.Frag) : V → List V → Hp → VK → Prop := fun x xs H Q => ∃ (a : Addr) (y : V) (ys : List V) (d : PyData) (es : List PyData), x = V.ref a ∧ xs = [y] ∧ SqL K H a ys ∧ DpAll K H ys es ∧ Dp K H y d ∧ PyData.plainAll es = true ∧ d.plain = true ∧ d.depth ≤ 60 ∧ Q (.int (es.countP fun z => PyData.eqv z d : Nat)) H
theorem mt_cntD {X : Cx} (hu : X.A.units + 64 < cLine) : MtR X "list.count" (rCntD X.K) := by
  intro pins s σ H x xs v us Q I rx rxs ⟨a, y, ys, d, es, hx, hxs, hs, da, dy, pa, pd, dd, q⟩
  subst hx hxs
  cases rx
  obtain ⟨u, rfl, ru⟩ := rxs.one
  obtain ⟨its, rv, p, hz⟩ := I.list hs
  obtain ⟨as, r1⟩ := Dp.readsAll I es ys its da rv
  obtain ⟨bs, r2⟩ := Dp.reads I d y u dy ru
  exact PySem.SeqAt.count_list_data p.isList (by simpa using r1) r2 pa pd (by omega) ⟨.int _, H, I.tok _, ⟨_, rfl⟩, q⟩
section
variable {X : Cx} {K : PySem.W.Frag} {o e : Expr} {es : List Expr} {t : TA} {to : TE} {apos cpos : Pos}
theorem k_countD (hK : X.K = K) (hu : X.A.units + 64 < cLine) (ho : PE X o to) (ha : PA X (e :: es) t)
    (hbase : attributeBase o "count" X.env (eval o X.env) = eval o X.env := by rfl)
    (hfew : ((backTo cpos (starEach (e :: es) X.env)).all (fun x => !x.1) && (backToKw cpos (keywordEach [] X.env)).all (fun x => x.1.isSome)
      && decide ((e :: es).length + ([] : List Keyword).length + (if ([] : List Keyword).isEmpty then 0 else 1) < 30)) = true := by rfl)
    (hline : (apos.endLine == cpos.line) = true := by rfl) (hs : starEach (e :: es) X.env = (false, eval e X.env) :: starEach es X.env := by rfl) (hplain : (backTo cpos (starEach es X.env)).any (·.1) = false := by rfl) :
    PE X (.Call (.Attribute o "count" apos) (e :: es) [] cpos) (tBM K "list" (rCntD K) to t) := by subst hK; exact pe_bm PySem.F.plainAttrs_list PySem.F.slot_list_count PySem.F.type_list_count (mt_cntD hu) ho ha hbase hfew hline hs hplain
end
end DL
set_option Elab.async false
set_option linter.all false
set_option maxRecDepth 100000
set_option maxHeartbeats 1000000
namespace DL
open PySem PySem.Spec PyProof.Rows L2
/-! ### the head's facts of a class with its own __eq__, and of isinstance of it -/
section
variable {K : PySem.W.Frag} {C f : Addr}
def kcB (K : PySem.W.Frag) (C : Addr) : Bool := He.eqO (PySem.W.findIn K (.ref C) "__class__") (some (some (.builtin "object.__class__"))) && (He.eqO (PySem.W.specialIn K (.builtin "object.__class__") "__get__") (some (some (.builtin "getset_descriptor.__get__"))) && (decide (PySem.W.takesIn K (.builtin "object.__class__") = some true) && (decide (PySem.W.mroIn K C (.type "object") = some true) && (decide (PySem.W.kitOne K (.ref C) (.ref C) = some true) && decide (PySem.W.kitOne K (.type "list") (.ref C) = some false)))))
theorem kcB_ok (cl : Cls K C) (h : kcB K C = true) : Kc K C := by
  obtain ⟨h1, h⟩ := He.ba h
  obtain ⟨h2, h⟩ := He.ba h
  obtain ⟨h3, h⟩ := He.ba h
  obtain ⟨h4, h⟩ := He.ba h
  obtain ⟨h5, h6⟩ := He.ba h
  exact ⟨cl, He.eqO_ok h1, He.eqO_ok h2, of_decide_eq_true h3, of_decide_eq_true h4, of_decide_eq_true h5, of_decide_eq_true h6⟩
def eqB (K : PySem.W.Frag) (C : Addr) : Bool := He.eqO (PySem.W.findIn K (.ref C) "__ne__") (some (some (.builtin "object.__ne__"))) && (decide (PySem.W.subIn K (.ref C) (.type "object") = some true) && decide (PySem.W.subIn K (.type "list") (.ref C) = some false))
theorem eqB_ok (m : L2.Meth K C "__eq__" f) (h : eqB K C = true) : EqC K C f := by
  obtain ⟨h1, h⟩ := He.ba h
  obtain ⟨h2, h3⟩ := He.ba h
  exact ⟨m.at_, m.fn, He.eqO_ok h1, of_decide_eq_true h2, of_decide_eq_true h3⟩
end
end DL
set_option Elab.async false
set_option linter.all false
set_option maxRecDepth 100000
set_option maxHeartbeats 0
namespace Pf
open PySem PySem.Spec PyProof.Rows L2 DL
def d_law_source : He.DefD := ⟨("_law_source", none), "_law_source", "_law_source", defArgs (top 44), defBody (top 44), defScope (top 44), [], []⟩
def d_law_draw : He.DefD := ⟨("_law_draw", none), "_law_draw", "_law_draw", defArgs (top 45), defBody (top 45), defScope (top 45), [], []⟩
def d_law_choose : He.DefD := ⟨("_law_choose", none), "_law_choose", "_law_choose", defArgs (top 46), defBody (top 46), defScope (top 46), [], []⟩
def d_law_people : He.DefD := ⟨("_law_people", none), "_law_people", "_law_people", defArgs (top 49), defBody (top 49), defScope (top 49), [], []⟩
def d_law_subsets : He.DefD := ⟨("_law_subsets", none), "_law_subsets", "_law_subsets", defArgs (top 47), defBody (top 47), defScope (top 47), [], []⟩
def d_law_teams : He.DefD := ⟨("_law_teams", none), "_law_teams", "_law_teams", defArgs (top 48), defBody (top 48), defScope (top 48), [], []⟩
def d_law_plan : He.DefD := ⟨("_law_plan", none), "_law_plan", "_law_plan", defArgs (top 50), defBody (top 50), defScope (top 50), [], []⟩
def d_law_spoiled : He.DefD := ⟨("_law_spoiled", none), "_law_spoiled", "_law_spoiled", defArgs (top 53), defBody (top 53), defScope (top 53), [], []⟩
def d_law_is_rows : He.DefD := ⟨("_law_is_rows", none), "_law_is_rows", "_law_is_rows", defArgs (top 54), defBody (top 54), defScope (top 54), [], []⟩
def d_law_wanted : He.DefD := ⟨("_law_wanted", none), "_law_wanted", "_law_wanted", defArgs (top 52), defBody (top 52), defScope (top 52), [], []⟩
def d_is_between : He.DefD := ⟨("is_between", none), "is_between", "is_between", defArgs (top 17), defBody (top 17), defScope (top 17), [], []⟩
def d_are_games : He.DefD := ⟨("are_games", none), "are_games", "are_games", defArgs (top 20), defBody (top 20), defScope (top 20), [], []⟩
def d_choices : He.DefD := ⟨("choices", none), "choices", "choices", defArgs (top 19), defBody (top 19), defScope (top 19), [], []⟩
def d_all_teams : He.DefD := ⟨("all_teams", none), "all_teams", "all_teams", defArgs (top 21), defBody (top 21), defScope (top 21), [], []⟩
def d_check_games : He.DefD := ⟨("check_games", none), "check_games", "check_games", defArgs (top 22), defBody (top 22), defScope (top 22), [], []⟩
def d_check_people : He.DefD := ⟨("check_people", none), "check_people", "check_people", defArgs (top 23), defBody (top 23), defScope (top 23), [], []⟩
def d_is_list : He.DefD := ⟨("is_list", none), "is_list", "is_list", defArgs (top 18), defBody (top 18), defScope (top 18), [], []⟩
def d_is_team : He.DefD := ⟨("is_team", none), "is_team", "is_team", defArgs (top 24), defBody (top 24), defScope (top 24), [], []⟩
def d_is_game_team : He.DefD := ⟨("is_game_team", none), "is_game_team", "is_game_team", defArgs (top 36), defBody (top 36), defScope (top 36), [], []⟩
def d_parts_of : He.DefD := ⟨("parts_of", none), "parts_of", "parts_of", defArgs (top 25), defBody (top 25), defScope (top 25), [], []⟩
def d_team_list : He.DefD := ⟨("team_list", none), "team_list", "team_list", defArgs (top 26), defBody (top 26), defScope (top 26), [], []⟩
def d_every_team : He.DefD := ⟨("every_team", none), "every_team", "every_team", defArgs (top 38), defBody (top 38), defScope (top 38), [], []⟩
def d_check_times : He.DefD := ⟨("check_times", none), "check_times", "check_times", defArgs (top 39), defBody (top 39), defScope (top 39), [], []⟩
def d_ordered : He.DefD := ⟨("ordered", none), "ordered", "ordered", defArgs (top 37), defBody (top 37), defScope (top 37), [], []⟩
def d_Plan___init : He.DefD := ⟨("Plan", some "__init__"), "__init__", "Plan.__init__", defArgs (inClass (top 41) 0), defBody (inClass (top 41) 0), defScope (inClass (top 41) 0), [], []⟩
def d_law_told : He.DefD := ⟨("_law_told", none), "_law_told", "_law_told", defArgs (top 51), defBody (top 51), defScope (top 51), [], []⟩
def d_law : He.DefD := ⟨("law", none), "law", "law", defArgs (top 55), defBody (top 55), defScope (top 55), [], []⟩
def d_BadGames___init : He.DefD := ⟨("BadGames", some "__init__"), "__init__", "BadGames.__init__", defArgs (inClass (top 4) 0), defBody (inClass (top 4) 0), defScope (inClass (top 4) 0), [], []⟩
def d_BadPeople___init : He.DefD := ⟨("BadPeople", some "__init__"), "__init__", "BadPeople.__init__", defArgs (inClass (top 3) 0), defBody (inClass (top 3) 0), defScope (inClass (top 3) 0), [], []⟩
def d_BadRounds___init : He.DefD := ⟨("BadRounds", some "__init__"), "__init__", "BadRounds.__init__", defArgs (inClass (top 7) 0), defBody (inClass (top 7) 0), defScope (inClass (top 7) 0), [], []⟩
def d_BadTeam___init : He.DefD := ⟨("BadTeam", some "__init__"), "__init__", "BadTeam.__init__", defArgs (inClass (top 6) 0), defBody (inClass (top 6) 0), defScope (inClass (top 6) 0), [], []⟩
def d_TooMany___init : He.DefD := ⟨("TooMany", some "__init__"), "__init__", "TooMany.__init__", defArgs (inClass (top 5) 0), defBody (inClass (top 5) 0), defScope (inClass (top 5) 0), [], []⟩
def d_WrongTimes___init : He.DefD := ⟨("WrongTimes", some "__init__"), "__init__", "WrongTimes.__init__", defArgs (inClass (top 9) 0), defBody (inClass (top 9) 0), defScope (inClass (top 9) 0), [], []⟩
def fn : List He.DefD := [d_law_source, d_law_draw, d_law_choose, d_law_people, d_law_subsets, d_law_teams, d_law_plan, d_law_spoiled, d_law_is_rows, d_law_wanted, d_is_between, d_are_games, d_choices, d_all_teams, d_check_games, d_check_people, d_is_list, d_is_team, d_is_game_team, d_parts_of, d_team_list, d_every_team, d_check_times, d_ordered, d_Plan___init, d_law_told, d_law, d_BadGames___init, d_BadPeople___init, d_BadRounds___init, d_BadTeam___init, d_TooMany___init, d_WrongTimes___init]
def pr : List PrD := []
def fa : List He.Fa := [.glo "law", .free "len", .free "isinstance", .free "int", .free "bool", .free "list", .free "tuple", .free "dict", .free "range", .free "max", .free "min", .free "sum", .free "all", .free "any", .free "sorted", .free "zip", .free "enumerate", .free "str", .free "set", .free "repr", .free "reversed", .int "MOST_PEOPLE" 10, .int "MOST_ROUNDS" 130, .int "MOST_SIZE" 4, .int "MOST_TEAMS" 130, .int "MOST_TIMES" 3, .noat "BadGames" "value", .glo "BadGames", .exm "BadGames" "BadGames" true, .meth "BadGames" "__init__", .noat "BadPeople" "value", .glo "BadPeople", .exm "BadPeople" "BadPeople" true, .meth "BadPeople" "__init__", .noat "BadRounds" "value", .glo "BadRounds", .exm "BadRounds" "BadRounds" true, .meth "BadRounds" "__init__", .noat "BadTeam" "value", .glo "BadTeam", .exm "BadTeam" "BadTeam" true, .meth "BadTeam" "__init__", .noat "TooMany" "count", .glo "TooMany", .exm "TooMany" "TooMany" true, .meth "TooMany" "__init__", .noat "WrongTimes" "team", .noat "WrongTimes" "count", .glo "WrongTimes", .exm "WrongTimes" "WrongTimes" true, .meth "WrongTimes" "__init__", .cls "Plan", .noat "Plan" "own_people", .noat "Plan" "own_games", .noat "Plan" "rows", .exm "BadTeam" "BadRounds" false, .exm "WrongTimes" "BadRounds" false, .exm "WrongTimes" "BadTeam" false, .glo "_law_source", .glo "_law_draw", .glo "_law_choose", .glo "_law_people", .glo "_law_subsets", .glo "_law_teams", .glo "_law_plan", .glo "_law_spoiled", .glo "_law_is_rows", .glo "_law_wanted", .glo "is_between", .glo "are_games", .glo "choices", .glo "all_teams", .glo "check_games", .glo "check_people", .glo "is_list", .glo "is_team", .glo "is_game_team", .glo "parts_of", .glo "team_list", .glo "every_team", .glo "check_times", .glo "ordered", .mkr "Plan", .glo "Plan", .glo "_law_told"]
def sysB (K : PySem.W.Frag) : Bool := (K.lookup sysModules).isNone
theorem sysB_ok {K : PySem.W.Frag} (h : sysB K = true) : K.lookup sysModules = none := by unfold sysB at h; cases e : K.lookup sysModules with | none => rfl | some o => rw [e] at h; cases h
def ex (K : PySem.W.Frag) : Bool := oexB K (He.ga K "BadGames") && (oexB K (He.ga K "BadPeople") && (oexB K (He.ga K "BadRounds") && (oexB K (He.ga K "BadTeam") && (oexB K (He.ga K "TooMany") && (oexB K (He.ga K "WrongTimes") && (sysB K))))))
abbrev R : PySem.W.OpenRow := PySem.W.OpenLaw.row PySem.Challenge.rw_allteams_k12_plans_refused
abbrev hk : PySem.W.Hook := hookP 5 fa fn pr ex
def ob (s : PySem.W.SharedT) : AlP := obsPG 5 fa fn pr ex (HandSHeadRun.getT s)
theorem ob_eq (s : PySem.W.SharedT) : ob s = hk.obs s.abs := obsPG_eq (HandSHeadRun.getT_eq s)
def loose0 : List Str := ["_wall", "TeamError", "BadPeople", "BadGames", "TooMany", "BadTeam", "BadRounds", "BadText", "WrongTimes", "UnlikePeople", "MOST_PEOPLE", "MOST_SIZE", "MOST_TIMES", "MOST_TEAMS", "MOST_ROUNDS", "is_between", "is_list", "choices", "are_games", "all_teams", "check_games", "check_people", "is_team", "parts_of", "team_list", "FIGURES", "MOST_FIGURES", "number_in", "numbers_in", "games_in"]
def loose1 : List Str := ["kind_text", "games_line", "is_game_team", "ordered", "every_team", "check_times", "teams_in", "Plan", "_law_cell", "_law_source", "_law_draw", "_law_choose", "_law_subsets", "_law_teams", "_law_people", "_law_plan", "_law_told", "_law_wanted", "_law_spoiled", "_law_is_rows"]
abbrev loose : List Str := loose0 ++ loose1
theorem run (w : World) : HandSHeadRun.RunEq R (PySem.W.view R.prog [55]) hk ob 12000 loose w := by
  intro os
  kernel_rfl
end Pf
set_option Elab.async false
set_option linter.all false
set_option maxRecDepth 100000
set_option maxHeartbeats 1000000
namespace Pf
open PySem PySem.Spec PyProof.Rows L2 DL
local macro_rules | `(tactic| walk_at "len") => `(tactic| with_unfolding_all first | exact Nat.le_of_ble_eq_true rfl | (simp; done) | (simp; omega))
local macro_rules | `(tactic| walk_at "side") => `(tactic| with_unfolding_all first | exact Or.inr ⟨by omega, by omega⟩ | exact Or.inl ⟨by omega, by omega⟩ | exact ⟨by omega, by omega⟩ | exact ⟨by omega, by omega, by omega⟩ | (show (0 : Int) < _; omega) | decide)
local macro_rules | `(tactic| walk_at "d1") => `(tactic| with_reducible first
  | (refine ds_seq ?_; try dsimp only [List.set_cons_zero, List.set_cons_succ, List.cons_append, List.nil_append, O.frz])
  | refine ds_asg ?_
  | refine ds_ret ?_
  | refine ds_retN ?_
  | refine ds_next ?_
  | refine ds_dropC ?_
  | refine ds_drop0 ?_
  | refine ds_dropB ?_
  | refine ds_if ?_
  | refine dt_test ?_
  | refine dt_B ?_
  | refine dt_not ?_
  | refine dt_and ?_
  | refine dt_or ?_
  | refine dt_yes ?_
  | refine de_int ?_
  | refine de_bl ?_
  | refine de_str ?_
  | refine de_non ?_
  | refine de_varD (by with_unfolding_all rfl) ?_
  | refine de_varO (by with_unfolding_all rfl) ?_
  | refine de_varA (by with_unfolding_all rfl) ?_
  | refine de_varV (by with_unfolding_all rfl) ?_
  | refine de_isi ?_
  | refine de_dget ?_
  | refine de_dget2 ?_
  | refine de_dnotin ?_
  | refine de_din ?_
  | refine de_dnew ?_
  | refine de_dnewT ?_
  | refine de_cb ?_
  | refine de_call0G ?_
  | refine de_callG ?_
  | refine de_andB ?_
  | refine de_orB ?_
  | refine de_notV ?_
  | refine de_ifE ?_
  | refine de_chain ?_
  | refine de_op ?_
  | refine de_neg ?_
  | refine de_tupG ?_
  | refine de_lstG ?_
  | refine de_slL ?_
  | refine de_slT ?_
  | refine do_none ?_
  | refine do_some ?_
  | refine daf_cons ?_
  | refine daf_nil ?_
  | refine daf_star ?_
  | refine da_cons ?_
  | refine da_nil ?_
  | refine lk_dat ?_
  | refine lk_nil ?_
  | refine ak_dat ?_
  | refine ak_nil ?_
  | refine ak_at ?_
  | refine ak_lst ?_
  | refine lk_lst ?_
  | refine ak_dK ?_
  | refine ak_dT ?_
  | refine ak_vw ?_
  | refine lk_dT ?_
  | refine lk_dK ?_
  | refine da_star ?_
  | refine de_lstRg1 ?_
  | refine de_lstRg2 ?_
  | refine de_revL ?_
  | refine de_count ?_
  | refine de_index ?_
  | refine di_enum ?_
  | refine dt_tru ?_
  | refine de_fld ?_
  | refine de_prop ?_
  | refine di_rng1 ?_
  | refine di_rng2 ?_
  | refine di_list ?_
  | refine di_tup ?_
  | refine di_seq ?_
  | refine di_zip ?_
  | refine ops_int ?_
  | (refine ops_cat (by with_unfolding_all rfl) (by with_unfolding_all rfl) ?side ?_; (case side => walk_at "len"))
  | (refine ops_catA ?side ?_; (case side => walk_at "len"))
  | refine ops_eqI ?_
  | refine ops_neI ?_
  | refine ops_bool ?_
  | (refine ops_intC ?side ?_; (case side => walk_at "side"))
  | refine cb_lenL (by with_unfolding_all rfl) ?_
  | refine cb_lenT (by with_unfolding_all rfl) ?_
  | refine cb_lenK (by with_unfolding_all rfl) ?_
  | refine cb_max2 ?_
  | refine cb_min2 ?_
  | refine cb_int ?_
  | refine ⟨fun _ => ?_, fun z => Bool.noConfusion z⟩
  | refine ⟨fun z => Bool.noConfusion z, fun _ => ?_⟩
  | refine ⟨rfl, ?_⟩
  | refine ⟨_, rfl, ?_⟩
  | refine ⟨_, Or.inl (by with_unfolding_all rfl), ?_⟩
  | (with_unfolding_all refine ⟨_, true, rfl, rfl, (fun _ z => by cases z), rfl, ?_⟩)
  | (with_unfolding_all refine ⟨_, false, rfl, rfl, (fun _ z => by cases z), rfl, ?_⟩))
local macro_rules | `(tactic| walk_at "d") => `(tactic| repeat walk_at "d1")
local macro_rules | `(tactic| walk_at "wk") => `(tactic| repeat first | exact Wk.nil | refine Wk.keep ?_ | refine Wk.drop ?_)
section
variable {P : Program} {w : World} {K : PySem.W.Frag} {mg : Str → Option Value} {base : Heap} {f : Addr} {fd : FuncData}
def btw (d : D) (lo hi : Int) : Bool := match d with
  | .int i => decide (lo ≤ i) && decide (i ≤ hi)
  | _ => false
/-- a value whose type may be asked -/
def ask (d : D) : Prop := d.ty? = true ∧ ∀ ds, d ≠ .dit ds

def C_is_between : Fc := fun _ W m ss Φ Ξ => ∃ d lo hi b, ss = [.dat d, .dat (.int lo), .dat (.int hi)] ∧ ask d ∧ btw d lo hi = b ∧ Φ m (.dat (.bl b))

abbrev s_is_between : Stmt := (top 17)
abbrev N_is_between : List Str := ["value", "least", "most"]
theorem sc_is_between : FnScope N_is_between ["value", "least", "most"] (defScope s_is_between) := ⟨rfl, rfl, rfl, by decide +kernel, rfl, by decide +kernel, by decide +kernel⟩
theorem ok_is_between (F : FnP K "is_between" s_is_between f fd) (b : BI mg) : FnOk P w K mg base CX0 1 f fd ["value", "least", "most"] (spF K C_is_between) := by
  have hlen := spF_len (K := K) (C := C_is_between) (m := 3) fun κ W m ss Φ Ξ ⟨d, lo, hi, b, e, _⟩ => by first | exact e | (rw [e]; rfl)
  refine F.ok sc_is_between hlen ?_
  intro cdv A outer s H vs Q E hr h
  refine ⟨_, PSs.nox (pss_one (ps_ret (pe_and (pe_callB (k_isi (K := K) rfl) rfl b.isinstance boot_isinstance (pa_cons (pv 0) (pa_cons (pe_bltn (v := .ty "int") rfl b.int_ boot_int rfl) pa_nil))) (pe_and (pe_not (pe_callB (k_isi (K := K) rfl) rfl b.isinstance boot_isinstance (pa_cons (pv 0) (pa_cons (pe_bltn (v := .ty "bool") rfl b.bool_ boot_bool rfl) pa_nil)))) (pe_one (pe_chain op_le op_le (pv 1) (pv 0) (pv 2))))))), ?_⟩
  refine DL.run_fnP  [] (Nm := N_is_between) (n := 3) (k := 0) rfl (hlen _ _ _ _ h) rfl h fun κ W m ss Φ Ξ G hc => ?_
  try dsimp only [cxOf, Cx.nox, Cx.wish, Cx.blk]
  obtain ⟨d, lo, hi, b, rfl, hd, rfl, hΦ⟩ := hc
  cases d <;> first | exact absurd rfl (hd.2 _) | exact absurd hd.1 Bool.false_ne_true | skip
  all_goals walk_at "d"
  all_goals try exact hΦ
  rename_i i _ _
  by_cases h1 : lo ≤ i
  · refine ⟨fun _ => ?_, fun z => by simp [h1] at z⟩
    walk_at "d"
    simpa [btw, h1] using hΦ
  · refine ⟨fun z => by simp [h1] at z, fun _ => ⟨rfl, ?_⟩⟩
    simpa [btw, h1] using hΦ


def isL : D → Bool
  | .lst _ => true | .tup _ => true | .scr _ => true | _ => false
def C_is_list : Fc := fun _ W m ss Φ Ξ => ∃ d b, ss = [.dat d] ∧ ask d ∧ isL d = b ∧ Φ m (.dat (.bl b))

abbrev s_is_list : Stmt := (top 18)
abbrev N_is_list : List Str := ["value"]
theorem sc_is_list : FnScope N_is_list ["value"] (defScope s_is_list) := ⟨rfl, rfl, rfl, by decide +kernel, rfl, by decide +kernel, by decide +kernel⟩
theorem ok_is_list (F : FnP K "is_list" s_is_list f fd) (b : BI mg) : FnOk P w K mg base CX0 1 f fd ["value"] (spF K C_is_list) := by
  have hlen := spF_len (K := K) (C := C_is_list) (m := 1) fun κ W m ss Φ Ξ ⟨d, b, e, _⟩ => by first | exact e | (rw [e]; rfl)
  refine F.ok sc_is_list hlen ?_
  intro cdv A outer s H vs Q E hr h
  refine ⟨_, PSs.nox (pss_one (ps_ret (pe_or (pe_callB (k_isi (K := K) rfl) rfl b.isinstance boot_isinstance (pa_cons (pv 0) (pa_cons (pe_bltn (v := .ty "list") rfl b.list_ boot_list rfl) pa_nil))) (pe_one (pe_callB (k_isi (K := K) rfl) rfl b.isinstance boot_isinstance (pa_cons (pv 0) (pa_cons (pe_bltn (v := .ty "tuple") rfl b.tuple_ boot_tuple rfl) pa_nil))))))), ?_⟩
  refine DL.run_fnP  [] (Nm := N_is_list) (n := 1) (k := 0) rfl (hlen _ _ _ _ h) rfl h fun κ W m ss Φ Ξ G hc => ?_
  try dsimp only [cxOf, Cx.nox, Cx.wish, Cx.blk]
  obtain ⟨d, b, rfl, hd, rfl, hΦ⟩ := hc
  cases d <;> first | exact absurd rfl (hd.2 _) | exact absurd hd.1 Bool.false_ne_true | skip
  all_goals walk_at "d"
  all_goals exact hΦ


end
end Pf
set_option Elab.async false
set_option linter.all false
set_option maxRecDepth 100000
set_option maxHeartbeats 1000000
namespace Pf
open PySem PySem.Spec PyProof.Rows L2 DL
local macro_rules | `(tactic| walk_at "len") => `(tactic| with_unfolding_all first | exact Nat.le_of_ble_eq_true rfl | (simp; done) | (simp; omega))
local macro_rules | `(tactic| walk_at "side") => `(tactic| with_unfolding_all first | exact Or.inr ⟨by omega, by omega⟩ | exact Or.inl ⟨by omega, by omega⟩ | exact ⟨by omega, by omega⟩ | exact ⟨by omega, by omega, by omega⟩ | (show (0 : Int) < _; omega) | decide)
local macro_rules | `(tactic| walk_at "d1") => `(tactic| with_reducible first
  | (refine ds_seq ?_; try dsimp only [List.set_cons_zero, List.set_cons_succ, List.cons_append, List.nil_append, O.frz])
  | refine ds_asg ?_
  | refine ds_ret ?_
  | refine ds_retN ?_
  | refine ds_next ?_
  | refine ds_dropC ?_
  | refine ds_drop0 ?_
  | refine ds_dropB ?_
  | refine ds_if ?_
  | refine dt_test ?_
  | refine dt_B ?_
  | refine dt_not ?_
  | refine dt_and ?_
  | refine dt_or ?_
  | refine dt_yes ?_
  | refine de_int ?_
  | refine de_bl ?_
  | refine de_str ?_
  | refine de_non ?_
  | refine de_varD (by with_unfolding_all rfl) ?_
  | refine de_varO (by with_unfolding_all rfl) ?_
  | refine de_varA (by with_unfolding_all rfl) ?_
  | refine de_varV (by with_unfolding_all rfl) ?_
  | refine de_isi ?_
  | refine de_dget ?_
  | refine de_dget2 ?_
  | refine de_dnotin ?_
  | refine de_din ?_
  | refine de_dnew ?_
  | refine de_dnewT ?_
  | refine de_cb ?_
  | refine de_call0G ?_
  | refine de_callG ?_
  | refine de_andB ?_
  | refine de_orB ?_
  | refine de_notV ?_
  | refine de_ifE ?_
  | refine de_chain ?_
  | refine de_op ?_
  | refine de_neg ?_
  | refine de_tupG ?_
  | refine de_lstG ?_
  | refine de_slL ?_
  | refine de_slT ?_
  | refine do_none ?_
  | refine do_some ?_
  | refine daf_cons ?_
  | refine daf_nil ?_
  | refine daf_star ?_
  | refine da_cons ?_
  | refine da_nil ?_
  | refine lk_dat ?_
  | refine lk_nil ?_
  | refine ak_dat ?_
  | refine ak_nil ?_
  | refine ak_at ?_
  | refine ak_lst ?_
  | refine lk_lst ?_
  | refine ak_dK ?_
  | refine ak_dT ?_
  | refine ak_vw ?_
  | refine lk_dT ?_
  | refine lk_dK ?_
  | refine da_star ?_
  | refine de_lstRg1 ?_
  | refine de_lstRg2 ?_
  | refine de_revL ?_
  | refine de_count ?_
  | refine de_index ?_
  | refine di_enum ?_
  | refine dt_tru ?_
  | refine de_fld ?_
  | refine de_prop ?_
  | refine di_rng1 ?_
  | refine di_rng2 ?_
  | refine di_list ?_
  | refine di_tup ?_
  | refine di_seq ?_
  | refine di_zip ?_
  | refine ops_int ?_
  | (refine ops_cat (by with_unfolding_all rfl) (by with_unfolding_all rfl) ?side ?_; (case side => walk_at "len"))
  | (refine ops_catA ?side ?_; (case side => walk_at "len"))
  | refine ops_eqI ?_
  | refine ops_neI ?_
  | refine ops_bool ?_
  | (refine ops_intC ?side ?_; (case side => walk_at "side"))
  | refine cb_lenL (by with_unfolding_all rfl) ?_
  | refine cb_lenT (by with_unfolding_all rfl) ?_
  | refine cb_lenK (by with_unfolding_all rfl) ?_
  | refine cb_max2 ?_
  | refine cb_min2 ?_
  | refine cb_int ?_
  | refine ⟨fun _ => ?_, fun z => Bool.noConfusion z⟩
  | refine ⟨fun z => Bool.noConfusion z, fun _ => ?_⟩
  | refine ⟨rfl, ?_⟩
  | refine ⟨_, rfl, ?_⟩
  | refine ⟨_, Or.inl (by with_unfolding_all rfl), ?_⟩
  | (with_unfolding_all refine ⟨_, true, rfl, rfl, (fun _ z => by cases z), rfl, ?_⟩)
  | (with_unfolding_all refine ⟨_, false, rfl, rfl, (fun _ z => by cases z), rfl, ?_⟩))
local macro_rules | `(tactic| walk_at "d") => `(tactic| repeat walk_at "d1")
local macro_rules | `(tactic| walk_at "wk") => `(tactic| repeat first | exact Wk.nil | refine Wk.keep ?_ | refine Wk.drop ?_)
section
variable {P : Program} {w : World} {K : PySem.W.Frag} {mg : Str → Option Value} {base : Heap} {f : Addr} {fd : FuncData} {a_BadGames a_TooMany a_BadPeople : Addr}
theorem look_g {gs : List (Nat × Nat)} (nd : (gs.map (·.1)).Nodup) {t v : Nat} (h : (t, v) ∈ gs) : Look (.K (gD gs)) (.int (t : Int)) (some (.int (v : Nat))) := by
  have := Look.k (ds := gD gs) (Sum.inl (t : Int))
  rw [gD_val, gv_mem nd h] at this
  exact this
theorem ask_int (i : Int) : ask (.int i) := ⟨rfl, fun _ z => by cases z⟩

def C_choices : Fc := fun _ W m ss Φ Ξ => ∃ n k : Nat, ss = [.dat (.int n), .dat (.int k)] ∧ n ≤ 1000 ∧ k ≤ 1000 ∧ Φ m (.dat (.int (KM.ch n k)))

abbrev s_choices : Stmt := (top 19)
abbrev N_choices : List Str := ["many", "few", "found", "turn"]
theorem sc_choices : FnScope N_choices ["many", "few"] (defScope s_choices) := ⟨rfl, rfl, rfl, by decide +kernel, rfl, by decide +kernel, by decide +kernel⟩
theorem ok_choices (F : FnP K "choices" s_choices f fd) (b : BI mg) : FnOk P w K mg base CX0 1 f fd ["many", "few"] (spF K C_choices) := by
  have hlen := spF_len (K := K) (C := C_choices) (m := 2) fun κ W m ss Φ Ξ ⟨n, k, e, _⟩ => by first | exact e | (rw [e]; rfl)
  refine F.ok sc_choices hlen ?_
  intro cdv A outer s H vs Q E hr h
  refine ⟨_, PSs.nox (pss_cons (ps_set (i := 2) sc_choices.nd rfl (by first | exact Or.inl rfl | exact Or.inr rfl) pe_int)
      (pss_cons (ps_for PassesOwn.never rfl (pi_range1 rfl b.range (pa_cons (pv 1) pa_nil)) (pg_name (i := 3) sc_choices.nd rfl (by first | exact Or.inl rfl | exact Or.inr rfl))
      (pss_one (ps_set (i := 2) sc_choices.nd rfl (by first | exact Or.inl rfl | exact Or.inr rfl) (pe_op op_fdiv (pe_op op_mul (pv 2) (pe_callB (call_max2 rfl) rfl b.max boot_max (pa_cons pe_int (pa_cons (pe_op op_sub (pv 0) (pv 3)) pa_nil)))) (pe_op op_add (pv 3) pe_int)))))
      (pss_one (ps_ret (pv 2))))), ?_⟩
  refine DL.run_fnP  [.no, .no] (Nm := N_choices) (n := 2) (k := 2) rfl (hlen _ _ _ _ h) rfl h fun κ W m ss Φ Ξ G hc => ?_
  try dsimp only [cxOf, Cx.nox, Cx.wish, Cx.blk]
  obtain ⟨n, k, rfl, hn, hk, hΦ⟩ := hc
  walk_at "d"
  refine ds_forW (vs := [3]) ?_
  walk_at "d"
  refine ⟨by omega, by omega, fun i m' ρ => m' = m ∧ ρ = [.dat (.int n), .dat (.int k), .dat (.int (KM.ch n i)), .no], ⟨_, Wk.refl _, rfl, rfl, by rw [KM.ch_zero]; rfl⟩, ?_, ?_⟩
  · rintro i d m' ρ hd ⟨rfl, rfl⟩
    obtain ⟨hi, rfl⟩ := rng_at hd
    refine ⟨_, dg_name (by simp), ?_⟩
    walk_at "d"
    rw [Int.zero_add, KM.ch_divI]
    exact ⟨_, by walk_at "wk", rfl, rfl, rfl⟩
  · rintro m' ρ ⟨rfl, rfl⟩
    walk_at "d"
    rw [rng_len]
    exact hΦ


def C_are_games : Fc := fun _ W m ss Φ Ξ => ∃ n gs, ss = [.dat (.int (n : Nat)), .dat (.dic (gD gs))] ∧ n ≤ 10 ∧ GGm n gs ∧ (∀ a, ¬ W.L a) ∧ Φ m (.dat (.bl true))

abbrev s_are_games : Stmt := (top 20)
abbrev N_are_games : List Str := ["people", "value", "most", "size"]
theorem sc_are_games : FnScope N_are_games ["people", "value"] (defScope s_are_games) := ⟨rfl, rfl, rfl, by decide +kernel, rfl, by decide +kernel, by decide +kernel⟩
theorem ok_are_games (F : FnP K "are_games" s_are_games f fd) (b : BI mg) (k_MOST_SIZE : ∃ u, mg "MOST_SIZE" = some u ∧ RelV (.int 4) u) (k_MOST_TIMES : ∃ u, mg "MOST_TIMES" = some u ∧ RelV (.int 3) u) (c_is_between : Cl P w K mg base CX0 1 "is_between" ["value", "least", "most"] C_is_between) : FnOk P w K mg base CX0 2 f fd ["people", "value"] (spF K C_are_games) := by
  have hlen := spF_len (K := K) (C := C_are_games) (m := 2) fun κ W m ss Φ Ξ ⟨n, gs, e, _⟩ => by first | exact e | (rw [e]; rfl)
  refine F.ok sc_are_games hlen ?_
  intro cdv A outer s H vs Q E hr h
  refine ⟨_, PSs.nox (pss_cons (ps_if (PW.pt (pw_or (pt_not (pt_val (pe_callB (k_isi (K := K) rfl) rfl b.isinstance boot_isinstance (pa_cons (pv 1) (pa_cons (pe_bltn (v := .ty "dict") rfl b.dict_ boot_dict rfl) pa_nil))))) (pw_or1 (pt_not (pt_chain op_le op_le pe_int (pe_callB (k_len (K := K) rfl) rfl b.len boot_len (pa_cons (pv 1) pa_nil)) pe_int))))) (pss_one (ps_ret pe_bl)) pss_nil)
      (pss_cons (ps_set (i := 2) sc_are_games.nd rfl (by first | exact Or.inl rfl | exact Or.inr rfl) (pe_callB (call_min2 rfl) rfl b.min boot_min (pa_cons (C8.pe_gc rfl k_MOST_SIZE) (pa_cons (pv 0) pa_nil))))
      (pss_one (ps_ret (pe_callB (k_all (K := K) rfl rfl) rfl b.all boot_all (pa_cons (pe_lock (pe_lc (own := [("size", 3)]) rfl sc_are_games.nd (pi_keys (pv 1)) (blkOk_by (own := [("size", 3)]) (N := N_are_games) (sc := (defScope s_are_games)) (by decide +kernel)) (fun _ _ _ _ _ => (pg_name (i := 3) sc_are_games.nd rfl (by first | exact Or.inl rfl | exact Or.inr rfl))) (fun _ _ _ _ _ => pts_nil) (fun _ _ _ _ _ => (pe_and (k_cl0 c_is_between rfl hr (pa_cons (pv 3) (pa_cons pe_int (pa_cons (pv 2) pa_nil)))) (pe_one (k_cl0 c_is_between rfl hr (pa_cons (pe_dget (hu_of hr) (pv 1) (pv 3) (fun _ _ => rfl)) (pa_cons pe_int (pa_cons (C8.pe_gc rfl k_MOST_TIMES) pa_nil))))))))) pa_nil)))))), ?_⟩
  refine DL.run_fnP  [.no, .no] (Nm := N_are_games) (n := 2) (k := 2) rfl (hlen _ _ _ _ h) rfl h fun κ W m ss Φ Ξ G hc => ?_
  try dsimp only [cxOf, Cx.nox, Cx.wish, Cx.blk]
  obtain ⟨n, gs, rfl, hn, hg, hL, hΦ⟩ := hc
  have l1 := hg.l1
  have l2 := hg.l2
  walk_at "d"
  rw [gD_len]
  rw [show decide ((1 : Int) ≤ (gs.length : Nat)) = true by simp; omega]
  walk_at "d"
  rw [show decide (((gs.length : Nat) : Int) ≤ 2) = true by simp; omega]
  walk_at "d"
  refine de_lcKM (fun _ => .bl true) (dp_var rfl) (.inl ⟨_, rfl⟩) hL walks_keysK (by rw [List.length_map, gD_len]; omega) (fun d F x hx => ⟨_, dg_name (by simp), ?_⟩) ?_
  · obtain ⟨p, hp, rfl⟩ := List.mem_map.mp hx
    obtain ⟨t, v, htv, rfl⟩ := gD_mem hp
    obtain ⟨o1, o2, o3, o4, o5⟩ := hg.ok t v htv
    walk_at "d"
    refine ⟨_, _, _, true, rfl, ask_int _, by simp [keyD, btw]; omega, ?_⟩
    walk_at "d"
    refine ⟨_, _, _, rfl, rfl, look_g hg.nd htv, ?_⟩
    walk_at "d"
    exact ⟨_, _, _, true, rfl, ask_int _, by simp [btw]; omega, rfl, rfl⟩
  · walk_at "d"
    refine cb_allT ?_
    walk_at "d"
    exact hΦ


def C_all_teams : Fc := fun _ W m ss Φ Ξ => ∃ n gs, ss = [.dat (.int (n : Nat)), .dat (.dic (gD gs))] ∧ n ≤ 10 ∧ GGm n gs ∧ (∀ a, ¬ W.L a) ∧ Φ m (.dat (.int (tot n gs : Nat)))
def atF (n : Nat) (gs : List (Nat × Nat)) (d : D) : D := match d with
  | .int t => .int (((gv gs t.toNat).getD 0 * KM.ch n t.toNat : Nat) : Int)
  | _ => .non
theorem atF_eq {n : Nat} {gs : List (Nat × Nat)} (nd : (gs.map (·.1)).Nodup) : (((gD gs).map fun p => keyD p.1).map (atF n gs)) = dN (gs.map fun p => p.2 * KM.ch n p.1) := by
  unfold gD dN
  rw [List.map_map, List.map_map, List.map_map]
  apply List.map_congr_left
  rintro ⟨t, v⟩ h
  simp [atF, keyD, gv_mem nd h]

abbrev s_all_teams : Stmt := (top 21)
abbrev N_all_teams : List Str := ["people", "games", "size"]
theorem sc_all_teams : FnScope N_all_teams ["people", "games"] (defScope s_all_teams) := ⟨rfl, rfl, rfl, by decide +kernel, rfl, by decide +kernel, by decide +kernel⟩
theorem ok_all_teams (F : FnP K "all_teams" s_all_teams f fd) (b : BI mg) (c_choices : Cl P w K mg base CX0 1 "choices" ["many", "few"] C_choices) : FnOk P w K mg base CX0 2 f fd ["people", "games"] (spF K C_all_teams) := by
  have hlen := spF_len (K := K) (C := C_all_teams) (m := 2) fun κ W m ss Φ Ξ ⟨n, gs, e, _⟩ => by first | exact e | (rw [e]; rfl)
  refine F.ok sc_all_teams hlen ?_
  intro cdv A outer s H vs Q E hr h
  refine ⟨_, PSs.nox (pss_one (ps_ret (pe_callB (k_sum (K := K) rfl rfl) rfl b.sum boot_sum (pa_cons (pe_lock (pe_lc (own := [("size", 2)]) rfl sc_all_teams.nd (pi_keys (pv 1)) (blkOk_by (own := [("size", 2)]) (N := N_all_teams) (sc := (defScope s_all_teams)) (by decide +kernel)) (fun _ _ _ _ _ => (pg_name (i := 2) sc_all_teams.nd rfl (by first | exact Or.inl rfl | exact Or.inr rfl))) (fun _ _ _ _ _ => pts_nil) (fun _ _ _ _ _ => (pe_op op_mul (pe_dget (hu_of hr) (pv 1) (pv 2) (fun _ _ => rfl)) (k_cl0 c_choices rfl hr (pa_cons (pv 0) (pa_cons (pv 2) pa_nil))))))) pa_nil)))), ?_⟩
  refine DL.run_fnP  [.no] (Nm := N_all_teams) (n := 2) (k := 1) rfl (hlen _ _ _ _ h) rfl h fun κ W m ss Φ Ξ G hc => ?_
  try dsimp only [cxOf, Cx.nox, Cx.wish, Cx.blk]
  obtain ⟨n, gs, rfl, hn, hg, hL, hΦ⟩ := hc
  have l1 := hg.l1
  have l2 := hg.l2
  walk_at "d"
  refine de_lcKM (atF n gs) (dp_var rfl) (.inl ⟨_, rfl⟩) hL walks_keysK (by rw [List.length_map, gD_len]; omega) (fun d F x hx => ⟨_, dg_name (by simp), ?_⟩) ?_
  · obtain ⟨p, hp, rfl⟩ := List.mem_map.mp hx
    obtain ⟨t, v, htv, rfl⟩ := gD_mem hp
    obtain ⟨o1, o2, o3, o4, o5⟩ := hg.ok t v htv
    walk_at "d"
    refine ⟨_, _, _, rfl, rfl, look_g hg.nd htv, ?_⟩
    walk_at "d"
    refine ⟨n, t, rfl, by omega, by omega, ?_⟩
    walk_at "d"
    simp [atF, keyD, gv_mem hg.nd htv, S.frz]
  · walk_at "d"
    rw [atF_eq hg.nd]
    refine cb_sumN (.inl rfl) ?_
    walk_at "d"
    exact hΦ


def C_check_games : Fc := fun _ W m ss Φ Ξ => ∃ n gs, ss = [.dat (.int (n : Nat)), .dat (.dic (gD gs))] ∧ n ≤ 10 ∧ GGm n gs ∧ tot n gs ≤ 130 ∧ (∀ a, ¬ W.L a) ∧ Φ m (.dat .non)

abbrev s_check_games : Stmt := (top 22)
abbrev N_check_games : List Str := ["people", "games", "count"]
theorem sc_check_games : FnScope N_check_games ["people", "games"] (defScope s_check_games) := ⟨rfl, rfl, rfl, by decide +kernel, rfl, by decide +kernel, by decide +kernel⟩
theorem ok_check_games (F : FnP K "check_games" s_check_games f fd) (b : BI mg) (k_MOST_TEAMS : ∃ u, mg "MOST_TEAMS" = some u ∧ RelV (.int 130) u) (x_BadGames : Xc P w K mg base "BadGames" a_BadGames ["value"]) (x_TooMany : Xc P w K mg base "TooMany" a_TooMany ["count"]) (c_are_games : Cl P w K mg base CX0 2 "are_games" ["people", "value"] C_are_games) (c_all_teams : Cl P w K mg base CX0 2 "all_teams" ["people", "games"] C_all_teams) : FnOk P w K mg base (L2.CX P w) 3 f fd ["people", "games"] (spF K C_check_games) := by
  have hlen := spF_len (K := K) (C := C_check_games) (m := 2) fun κ W m ss Φ Ξ ⟨n, gs, e, _⟩ => by first | exact e | (rw [e]; rfl)
  refine F.ok sc_check_games hlen ?_
  intro cdv A outer s H vs Q E hr h
  refine ⟨_, (pss_cons (ps_if (pt_not (pt_val (k_cl0 c_are_games rfl hr (pa_cons (pv 0) (pa_cons (pv 1) pa_nil))))) (pss_one (raiseX x_BadGames hr (takes_of rfl rfl rfl rfl) (pa_cons (pv 1) pa_nil))) pss_nil)
      (pss_cons (ps_set (i := 2) sc_check_games.nd rfl (by first | exact Or.inl rfl | exact Or.inr rfl) (k_cl0 c_all_teams rfl hr (pa_cons (pv 0) (pa_cons (pv 1) pa_nil))))
      (pss_one (ps_if (pt_cmpR op_gt (pv 2) (C8.pe_gc rfl k_MOST_TEAMS) (nomark _)) (pss_one (raiseX x_TooMany hr (takes_of rfl rfl rfl rfl) (pa_cons (pv 2) pa_nil))) pss_nil)))), ?_⟩
  refine DL.run_fnP  [.no] (Nm := N_check_games) (n := 2) (k := 1) rfl (hlen _ _ _ _ h) rfl h fun κ W m ss Φ Ξ G hc => ?_
  try dsimp only [cxOf, Cx.nox, Cx.wish, Cx.blk]
  obtain ⟨n, gs, rfl, hn, hg, ht, hL, hΦ⟩ := hc
  walk_at "d"
  refine ⟨n, gs, rfl, hn, hg, hL, ?_⟩
  walk_at "d"
  refine ⟨n, gs, rfl, hn, hg, hL, ?_⟩
  walk_at "d"
  rw [show decide (((tot n gs : Nat) : Int) > 130) = false by simp; omega]
  walk_at "d"
  exact hΦ


def C_check_people : Fc := fun _ W m ss Φ Ξ => ∃ n gs, ss = [.dat (.int (n : Nat)), .dat (.dic (gD gs))] ∧ 1 ≤ n ∧ n ≤ 10 ∧ GGm n gs ∧ tot n gs ≤ 130 ∧ (∀ a, ¬ W.L a) ∧ Φ m (.dat .non)

abbrev s_check_people : Stmt := (top 23)
abbrev N_check_people : List Str := ["people", "games"]
theorem sc_check_people : FnScope N_check_people ["people", "games"] (defScope s_check_people) := ⟨rfl, rfl, rfl, by decide +kernel, rfl, by decide +kernel, by decide +kernel⟩
theorem ok_check_people (F : FnP K "check_people" s_check_people f fd) (b : BI mg) (k_MOST_PEOPLE : ∃ u, mg "MOST_PEOPLE" = some u ∧ RelV (.int 10) u) (x_BadPeople : Xc P w K mg base "BadPeople" a_BadPeople ["value"]) (c_is_between : Cl P w K mg base CX0 1 "is_between" ["value", "least", "most"] C_is_between) (c_check_games : Cl P w K mg base (L2.CX P w) 3 "check_games" ["people", "games"] C_check_games) : FnOk P w K mg base (L2.CX P w) 4 f fd ["people", "games"] (spF K C_check_people) := by
  have hlen := spF_len (K := K) (C := C_check_people) (m := 2) fun κ W m ss Φ Ξ ⟨n, gs, e, _⟩ => by first | exact e | (rw [e]; rfl)
  refine F.ok sc_check_people hlen ?_
  intro cdv A outer s H vs Q E hr h
  refine ⟨_, (pss_cons (ps_if (pt_not (pt_val (k_cl0 c_is_between rfl hr (pa_cons (pv 0) (pa_cons pe_int (pa_cons (C8.pe_gc rfl k_MOST_PEOPLE) pa_nil)))))) (pss_one (raiseX x_BadPeople hr (takes_of rfl rfl rfl rfl) (pa_cons (pv 0) pa_nil))) pss_nil)
      (pss_one (ps_expr (k_cl c_check_games rfl hr (passes_call (takes_of rfl rfl rfl rfl) (fun _ _ _ _ h => h)) (pa_cons (pv 0) (pa_cons (pv 1) pa_nil)))))), ?_⟩
  refine DL.run_fnP  [] (Nm := N_check_people) (n := 2) (k := 0) rfl (hlen _ _ _ _ h) rfl h fun κ W m ss Φ Ξ G hc => ?_
  try dsimp only [cxOf, Cx.nox, Cx.wish, Cx.blk]
  obtain ⟨n, gs, rfl, h1, hn, hg, ht, hL, hΦ⟩ := hc
  walk_at "d"
  refine ⟨_, _, _, true, rfl, ask_int _, by simp [btw]; omega, ?_⟩
  walk_at "d"
  refine ⟨n, gs, rfl, hn, hg, ht, hL, ?_⟩
  walk_at "d"
  exact hΦ


end
end Pf
set_option Elab.async false
set_option linter.all false
set_option maxRecDepth 100000
set_option maxHeartbeats 1000000
namespace Pf
open PySem PySem.Spec PyProof.Rows L2 DL
/-! ### teams: increasing tuples -/
def inc (t : List Nat) : Prop := t.Pairwise (· < ·)
def lst1 (b : Nat) (t : List Nat) : Nat := match t.getLast? with
  | none => b
  | some x => x + 1
def ext1 (b hi : Nat) (one : List Nat) : List (List Nat) := (List.range' (lst1 b one) (hi - lst1 b one)).map fun p => one ++ [p]
def stepS (b hi : Nat) (acc : List (List Nat)) : List (List Nat) := acc.flatMap (ext1 b hi)
def SB (b hi : Nat) : Nat → List (List Nat)
  | 0 => [[]]
  | k + 1 => stepS b hi (SB b hi k)
theorem ext1_len (b hi : Nat) (one : List Nat) : (ext1 b hi one).length ≤ hi := by simp [ext1]
theorem stepS_len (b hi : Nat) (acc : List (List Nat)) : (stepS b hi acc).length ≤ acc.length * hi := by
  unfold stepS
  induction acc with
  | nil => simp
  | cons a l ih =>
    have := ext1_len b hi a
    simp only [List.flatMap_cons, List.length_append, List.length_cons, Nat.succ_mul]
    omega
theorem SB_len (b hi : Nat) : ∀ k, (SB b hi k).length ≤ hi ^ k
  | 0 => by simp [SB]
  | k + 1 => Nat.le_trans (stepS_len b hi _) (by rw [Nat.pow_succ]; exact Nat.mul_le_mul_right _ (SB_len b hi k))
theorem SB_le {b hi k : Nat} (hh : hi ≤ 10) (hk : k ≤ 4) : (SB b hi k).length ≤ 10000 :=
  Nat.le_trans (SB_len b hi k) (Nat.le_trans (Nat.pow_le_pow_left hh k) (Nat.pow_le_pow_right (n := 10) (by decide) hk))
theorem lst1_snoc (b : Nat) (t : List Nat) (x : Nat) : lst1 b (t ++ [x]) = x + 1 := by simp [lst1]
theorem inc_lt {b : Nat} {t : List Nat} (h : inc t) (hb : ∀ x ∈ t, b ≤ x) {p : Nat} : (lst1 b t ≤ p) ↔ (b ≤ p ∨ t ≠ []) ∧ ∀ x ∈ t, x < p := by
  rcases List.eq_nil_or_concat t with rfl | ⟨l, x, rfl⟩
  · simp [lst1]
  · rw [List.concat_eq_append] at h hb ⊢
    rw [lst1_snoc]
    have h2 := List.pairwise_append.mp h
    constructor
    · intro hp
      refine ⟨.inr (by simp), fun y hy => ?_⟩
      rcases List.mem_append.mp hy with hy | hy
      · have := h2.2.2 y hy x (by simp); omega
      · simp at hy; omega
    · rintro ⟨_, hx⟩
      exact hx x (by simp)
theorem SB_mem {b hi : Nat} : ∀ {k : Nat} {t : List Nat}, t ∈ SB b hi k ↔ t.length = k ∧ inc t ∧ ∀ x ∈ t, b ≤ x ∧ x < hi
  | 0, t => by
    simp only [SB, List.mem_singleton, List.length_eq_zero_iff]
    constructor
    · rintro rfl; exact ⟨rfl, List.Pairwise.nil, fun _ h => by cases h⟩
    · exact fun h => h.1
  | k + 1, t => by
    simp only [SB, stepS, List.mem_flatMap]
    constructor
    · rintro ⟨a, ha, ht⟩
      obtain ⟨h1, h2, h3⟩ := SB_mem.mp ha
      obtain ⟨p, hp, rfl⟩ := List.mem_map.mp ht
      rw [List.mem_range'_1] at hp
      obtain ⟨q1, q2⟩ := (inc_lt h2 fun x hx => (h3 x hx).1).mp hp.1
      have bp : b ≤ p := by
        rcases q1 with q1 | q1
        · exact q1
        · obtain ⟨y, l, rfl⟩ := List.exists_cons_of_ne_nil q1
          have := q2 y (by simp); have := (h3 y (by simp)).1; omega
      refine ⟨by simp [h1], List.pairwise_append.mpr ⟨h2, by simp, fun x hx y hy => by simp at hy; rw [hy]; exact q2 x hx⟩, fun x hx => ?_⟩
      rcases List.mem_append.mp hx with hx | hx
      · exact h3 x hx
      · simp at hx; rw [hx]; exact ⟨bp, by omega⟩
    · rintro ⟨h1, h2, h3⟩
      rcases List.eq_nil_or_concat t with rfl | ⟨l, x, rfl⟩
      · simp at h1
      · rw [List.concat_eq_append] at h1 h2 h3 ⊢
        obtain ⟨p1, p2, p3⟩ := List.pairwise_append.mp h2
        have hl : l ∈ SB b hi k := SB_mem.mpr ⟨by simpa using h1, p1, fun y hy => h3 y (by simp [hy])⟩
        refine ⟨l, hl, List.mem_map.mpr ⟨x, ?_, rfl⟩⟩
        have hx := h3 x (by simp)
        rw [List.mem_range'_1]
        have := (inc_lt (p := x) p1 fun y hy => (h3 y (by simp [hy])).1).mpr ⟨.inl hx.1, fun y hy => p3 y hy x (by simp)⟩
        omega
theorem flatMap_nodup {α β : Type} {f : α → List β} : ∀ {l : List α}, l.Nodup → (∀ a ∈ l, (f a).Nodup) → (∀ a ∈ l, ∀ a' ∈ l, ∀ x, x ∈ f a → x ∈ f a' → a = a') → (l.flatMap f).Nodup
  | [], _, _, _ => by simp
  | a :: l, nd, h1, h2 => by
    rw [List.flatMap_cons, List.nodup_append]
    obtain ⟨n1, n2⟩ := List.nodup_cons.mp nd
    refine ⟨h1 a (by simp), flatMap_nodup n2 (fun b hb => h1 b (by simp [hb])) (fun b hb c hc => h2 b (by simp [hb]) c (by simp [hc])), fun x hx y hy z => ?_⟩
    subst z
    obtain ⟨c, hc, hxc⟩ := List.mem_flatMap.mp hy
    have := h2 a (by simp) c (by simp [hc]) x hx hxc
    exact n1 (by rw [this]; exact hc)
theorem SB_nodup (b hi : Nat) : ∀ k, (SB b hi k).Nodup
  | 0 => by simp [SB]
  | k + 1 => by
    unfold SB stepS
    refine flatMap_nodup (SB_nodup b hi k) (fun a ha => ?_) (fun a ha a' ha' x hx hx' => ?_)
    · unfold ext1
      rw [List.Nodup, List.pairwise_map]
      refine List.Pairwise.imp (fun {x y} h z => h ?_) (List.nodup_range' : (List.range' (lst1 b a) (hi - lst1 b a)).Nodup)
      simpa using z
    · obtain ⟨p, _, rfl⟩ := List.mem_map.mp hx
      obtain ⟨q, _, e⟩ := List.mem_map.mp hx'
      exact (List.append_inj_left' e rfl).symm
structure Team (n : Nat) (t : List Nat) : Prop where
  l1 : 1 ≤ t.length
  l4 : t.length ≤ 4
  inc : inc t
  lt : ∀ x ∈ t, x < n
theorem inc_at {t : List Nat} (h : inc t) {i a b : Nat} (ha : t[i]? = some a) (hb : t[i + 1]? = some b) : a < b := by
  obtain ⟨h1, rfl⟩ := List.getElem?_eq_some_iff.mp ha
  obtain ⟨h2, rfl⟩ := List.getElem?_eq_some_iff.mp hb
  exact List.pairwise_iff_getElem.mp h i (i + 1) h1 h2 (by omega)
end Pf
set_option Elab.async false
set_option linter.all false
set_option maxRecDepth 100000
set_option maxHeartbeats 1000000
namespace Pf
open PySem PySem.Spec PyProof.Rows L2 DL
local macro_rules | `(tactic| walk_at "len") => `(tactic| with_unfolding_all first | exact Nat.le_of_ble_eq_true rfl | (simp; done) | (simp; omega))
local macro_rules | `(tactic| walk_at "side") => `(tactic| with_unfolding_all first | exact Or.inr ⟨by omega, by omega⟩ | exact Or.inl ⟨by omega, by omega⟩ | exact ⟨by omega, by omega⟩ | exact ⟨by omega, by omega, by omega⟩ | (show (0 : Int) < _; omega) | decide)
local macro_rules | `(tactic| walk_at "d1") => `(tactic| with_reducible first
  | (refine ds_seq ?_; try dsimp only [List.set_cons_zero, List.set_cons_succ, List.cons_append, List.nil_append, O.frz])
  | refine ds_asg ?_
  | refine ds_ret ?_
  | refine ds_retN ?_
  | refine ds_next ?_
  | refine ds_dropC ?_
  | refine ds_drop0 ?_
  | refine ds_dropB ?_
  | refine ds_if ?_
  | refine dt_test ?_
  | refine dt_B ?_
  | refine dt_not ?_
  | refine dt_and ?_
  | refine dt_or ?_
  | refine dt_yes ?_
  | refine de_int ?_
  | refine de_bl ?_
  | refine de_str ?_
  | refine de_non ?_
  | refine de_varD (by with_unfolding_all rfl) ?_
  | refine de_varO (by with_unfolding_all rfl) ?_
  | refine de_varA (by with_unfolding_all rfl) ?_
  | refine de_varV (by with_unfolding_all rfl) ?_
  | refine de_isi ?_
  | refine de_dget ?_
  | refine de_dget2 ?_
  | refine de_dnotin ?_
  | refine de_din ?_
  | refine de_dnew ?_
  | refine de_dnewT ?_
  | refine de_cb ?_
  | refine de_call0G ?_
  | refine de_callG ?_
  | refine de_andB ?_
  | refine de_orB ?_
  | refine de_notV ?_
  | refine de_ifE ?_
  | refine de_chain ?_
  | refine de_op ?_
  | refine de_neg ?_
  | refine de_tupG ?_
  | refine de_lstG ?_
  | refine de_slL ?_
  | refine de_slT ?_
  | refine do_none ?_
  | refine do_some ?_
  | refine daf_cons ?_
  | refine daf_nil ?_
  | refine daf_star ?_
  | refine da_cons ?_
  | refine da_nil ?_
  | refine lk_dat ?_
  | refine lk_nil ?_
  | refine ak_dat ?_
  | refine ak_nil ?_
  | refine ak_at ?_
  | refine ak_lst ?_
  | refine lk_lst ?_
  | refine ak_dK ?_
  | refine ak_dT ?_
  | refine ak_vw ?_
  | refine lk_dT ?_
  | refine lk_dK ?_
  | refine da_star ?_
  | refine de_lstRg1 ?_
  | refine de_lstRg2 ?_
  | refine de_revL ?_
  | refine de_count ?_
  | refine de_index ?_
  | refine di_enum ?_
  | refine dt_tru ?_
  | refine de_fld ?_
  | refine de_prop ?_
  | refine di_rng1 ?_
  | refine di_rng2 ?_
  | refine di_list ?_
  | refine di_tup ?_
  | refine di_seq ?_
  | refine di_zip ?_
  | refine ops_int ?_
  | (refine ops_cat (by with_unfolding_all rfl) (by with_unfolding_all rfl) ?side ?_; (case side => walk_at "len"))
  | (refine ops_catA ?side ?_; (case side => walk_at "len"))
  | refine ops_eqI ?_
  | refine ops_neI ?_
  | refine ops_bool ?_
  | (refine ops_intC ?side ?_; (case side => walk_at "side"))
  | refine cb_lenL (by with_unfolding_all rfl) ?_
  | refine cb_lenT (by with_unfolding_all rfl) ?_
  | refine cb_lenK (by with_unfolding_all rfl) ?_
  | refine cb_max2 ?_
  | refine cb_min2 ?_
  | refine cb_int ?_
  | refine ⟨fun _ => ?_, fun z => Bool.noConfusion z⟩
  | refine ⟨fun z => Bool.noConfusion z, fun _ => ?_⟩
  | refine ⟨rfl, ?_⟩
  | refine ⟨_, rfl, ?_⟩
  | refine ⟨_, Or.inl (by with_unfolding_all rfl), ?_⟩
  | (with_unfolding_all refine ⟨_, true, rfl, rfl, (fun _ z => by cases z), rfl, ?_⟩)
  | (with_unfolding_all refine ⟨_, false, rfl, rfl, (fun _ z => by cases z), rfl, ?_⟩))
local macro_rules | `(tactic| walk_at "d") => `(tactic| repeat walk_at "d1")
local macro_rules | `(tactic| walk_at "wk") => `(tactic| repeat first | exact Wk.nil | refine Wk.keep ?_ | refine Wk.drop ?_)
section
variable {P : Program} {w : World} {K : PySem.W.Frag} {mg : Str → Option Value} {base : Heap} {f : Addr} {fd : FuncData}
theorem lstK_dats {n : Nat} {ds : List D} {d : D} {Ψ : List D → Prop} (hl : ds.length + 1 ≤ n) (h : Ψ (ds ++ [d])) : LstK n (ds.map S.dat ++ [S.dat d]) Ψ := by
  refine ⟨by simp [isD], by simpa using hl, ?_⟩
  have e : (ds.map S.dat ++ [S.dat d]).map unD = ds ++ [d] := by
    rw [List.map_append, List.map_map]
    congr 1
    conv => rhs; rw [← List.map_id ds]
    rfl
  rw [e]; exact h
theorem atI_dN {t : List Nat} {i a : Nat} (h : t[i]? = some a) : atI (dN t) (i : Nat) = some (.int (a : Nat)) := by
  obtain ⟨h1, _⟩ := List.getElem?_eq_some_iff.mp h
  unfold atI
  rw [show ixN (dN t).length ((i : Nat) : Int) = some i by unfold ixN; rw [dN_len]; simp [h1]]
  simp [dN_get, h]

/-- one place below the next -/
def ltA (xs : List D) (d : D) : Bool := match d with
  | .int i => (match xs[i.toNat]?, xs[i.toNat + 1]? with
    | some (.int a), some (.int b) => decide (a < b)
    | _, _ => false)
  | _ => false
/-- is it a team of n people? -/
def itm (n : Nat) (d : D) : Bool := match d with
  | .tup xs => decide (1 ≤ xs.length) && (decide (xs.length ≤ 4) && ((xs.all fun x => btw x 0 ((n : Int) - 1)) && (rngD 0 ((xs.length : Int) - 1).toNat).all (ltA xs)))
  | _ => false
def askT (d : D) : Prop := ask d ∧ ∀ xs, d = .tup xs → ∀ x ∈ xs, ask x
theorem askT_tD (k : List Nat) : askT (tD k) := ⟨⟨rfl, fun _ z => by cases z⟩, fun xs e x hx => by cases e; obtain ⟨n, _, rfl⟩ := dN_mem hx; exact ask_int _⟩
theorem btw_nat {n : Nat} {d : D} (h : btw d 0 ((n : Int) - 1) = true) : ∃ x : Nat, d = .int (x : Nat) ∧ x < n := by
  cases d with
  | int i =>
    have h : (decide (0 ≤ i) && decide (i ≤ (n : Int) - 1)) = true := by simpa [btw] using h
    simp at h
    exact ⟨i.toNat, by congr 1; omega, by omega⟩
  | _ => simp [btw] at h
theorem all_nat {n : Nat} : ∀ {xs : List D}, (xs.all fun x => btw x 0 ((n : Int) - 1)) = true → ∃ t, xs = dN t ∧ ∀ x ∈ t, x < n
  | [], _ => ⟨[], rfl, by simp⟩
  | d :: xs, h => by
    rw [List.all_cons, Bool.and_eq_true] at h
    obtain ⟨x, rfl, hx⟩ := btw_nat h.1
    obtain ⟨t, rfl, ht⟩ := all_nat h.2
    exact ⟨x :: t, rfl, by simpa using ⟨hx, ht⟩⟩
theorem ltA_nat (t : List Nat) (i : Nat) (h : i + 1 < t.length) : ltA (dN t) (.int (i : Nat)) = decide (t[i] < t[i + 1]) := by
  unfold ltA
  have e1 : (dN t)[(i : Int).toNat]? = some (.int (t[i] : Nat)) := by rw [Int.toNat_natCast, dN_get, List.getElem?_eq_getElem (by omega)]; rfl
  have e2 : (dN t)[(i : Int).toNat + 1]? = some (.int (t[i + 1] : Nat)) := by rw [Int.toNat_natCast, dN_get, List.getElem?_eq_getElem h]; rfl
  dsimp only
  rw [e1, e2]
  simp
theorem inc_iff : ∀ {t : List Nat}, inc t ↔ ∀ i (h : i + 1 < t.length), t[i] < t[i + 1]
  | [] => by simp [inc]
  | [a] => by simp [inc]
  | a :: b :: t => by
    have ih := inc_iff (t := b :: t)
    constructor
    · intro h i hi
      have h' : inc (a :: b :: t) := h
      cases i with
      | zero => exact (List.pairwise_cons.mp h').1 b (by simp)
      | succ i => exact ih.mp (List.pairwise_cons.mp h').2 i (by simpa using hi)
    · intro h
      have h1 : inc (b :: t) := ih.mpr fun i hi => by
        have := h (i + 1) (by simpa using hi)
        simpa using this
      refine List.pairwise_cons.mpr ⟨fun x hx => ?_, h1⟩
      have ab : a < b := h 0 (by simp)
      rcases List.mem_cons.mp hx with rfl | hx
      · exact ab
      · exact Nat.lt_trans ab ((List.pairwise_cons.mp h1).1 x hx)
theorem itm_iff {n : Nat} {d : D} : itm n d = true ↔ ∃ t, d = tD t ∧ Team n t := by
  constructor
  · intro h
    cases d with
    | tup xs =>
      unfold itm at h
      simp only [Bool.and_eq_true, decide_eq_true_eq] at h
      obtain ⟨h1, h2, h3, h4⟩ := h
      obtain ⟨t, rfl, ht⟩ := all_nat h3
      rw [dN_len] at h1 h2 h4
      refine ⟨t, rfl, h1, h2, inc_iff.mpr fun i hi => ?_, ht⟩
      rw [List.all_eq_true] at h4
      have m : D.int (i : Nat) ∈ rngD 0 ((t.length : Int) - 1).toNat := List.mem_map.mpr ⟨i, by simp; omega, by simp⟩
      have := h4 _ m
      rw [ltA_nat t i hi] at this
      simpa using this
    | _ => simp [itm] at h
  · rintro ⟨t, rfl, ht⟩
    unfold itm
    simp only [Bool.and_eq_true, decide_eq_true_eq, dN_len]
    refine ⟨ht.l1, ht.l4, ?_, ?_⟩
    · rw [List.all_eq_true]
      intro d hd
      obtain ⟨x, hx, rfl⟩ := dN_mem hd
      have := ht.lt x hx
      simp [btw]
      omega
    · rw [List.all_eq_true]
      intro d hd
      obtain ⟨i, hi⟩ := List.getElem?_of_mem hd
      obtain ⟨hi, rfl⟩ := rng_at hi
      rw [Int.zero_add, ltA_nat t i (by omega)]
      have := inc_iff.mp ht.inc i (by omega)
      simpa using this
def C_is_team : Fc := fun _ W m ss Φ Ξ => ∃ n d b, ss = [.dat (.int (n : Nat)), .dat d] ∧ n ≤ 10 ∧ askT d ∧ itm n d = b ∧ Φ m (.dat (.bl b))

abbrev s_is_team : Stmt := (top 24)
abbrev N_is_team : List Str := ["people", "value", "place", "person"]
theorem sc_is_team : FnScope N_is_team ["people", "value"] (defScope s_is_team) := ⟨rfl, rfl, rfl, by decide +kernel, rfl, by decide +kernel, by decide +kernel⟩
theorem ok_is_team (F : FnP K "is_team" s_is_team f fd) (b : BI mg) (k_MOST_SIZE : ∃ u, mg "MOST_SIZE" = some u ∧ RelV (.int 4) u) (c_is_between : Cl P w K mg base CX0 1 "is_between" ["value", "least", "most"] C_is_between) : FnOk P w K mg base CX0 2 f fd ["people", "value"] (spF K C_is_team) := by
  have hlen := spF_len (K := K) (C := C_is_team) (m := 2) fun κ W m ss Φ Ξ ⟨n, d, b, e, _⟩ => by first | exact e | (rw [e]; rfl)
  refine F.ok sc_is_team hlen ?_
  intro cdv A outer s H vs Q E hr h
  refine ⟨_, PSs.nox (pss_cons (ps_if (PW.pt (pw_or (pt_not (pt_val (pe_callB (k_isi (K := K) rfl) rfl b.isinstance boot_isinstance (pa_cons (pv 1) (pa_cons (pe_bltn (v := .ty "tuple") rfl b.tuple_ boot_tuple rfl) pa_nil))))) (pw_or1 (pt_not (pt_chain op_le op_le pe_int (pe_callB (k_len (K := K) rfl) rfl b.len boot_len (pa_cons (pv 1) pa_nil)) (C8.pe_gc rfl k_MOST_SIZE)))))) (pss_one (ps_ret pe_bl)) pss_nil)
      (pss_cons (ps_if (pt_not (pt_val (pe_callB (k_all (K := K) rfl rfl) rfl b.all boot_all (pa_cons (pe_lc (own := [("person", 3)]) rfl sc_is_team.nd (k_piT (K := K) rfl (pv 1)) (blkOk_by (own := [("person", 3)]) (N := N_is_team) (sc := (defScope s_is_team)) (by decide +kernel)) (fun _ _ _ _ _ => (pg_name (i := 3) sc_is_team.nd rfl (by first | exact Or.inl rfl | exact Or.inr rfl))) (fun _ _ _ _ _ => pts_nil) (fun _ _ _ _ _ => (k_cl0 c_is_between rfl hr (pa_cons (pv 3) (pa_cons pe_int (pa_cons (pe_op op_sub (pv 0) pe_int) pa_nil)))))) pa_nil)))) (pss_one (ps_ret pe_bl)) pss_nil)
      (pss_one (ps_ret (pe_callB (k_all (K := K) rfl rfl) rfl b.all boot_all (pa_cons (pe_lc (own := [("place", 2)]) rfl sc_is_team.nd (pi_range1 rfl b.range (pa_cons (pe_op op_sub (pe_callB (k_len (K := K) rfl) rfl b.len boot_len (pa_cons (pv 1) pa_nil)) pe_int) pa_nil)) (blkOk_by (own := [("place", 2)]) (N := N_is_team) (sc := (defScope s_is_team)) (by decide +kernel)) (fun _ _ _ _ _ => (pg_name (i := 2) sc_is_team.nd rfl (by first | exact Or.inl rfl | exact Or.inr rfl))) (fun _ _ _ _ _ => pts_nil) (fun _ _ _ _ _ => (pe_cmpR op_lt (pe_ix (k_ixT (K := K) rfl) (pv 1) (pv 2) (fun _ _ => rfl)) (pe_ix (k_ixT (K := K) rfl) (pv 1) (pe_op op_add (pv 2) pe_int) (fun _ _ => rfl)) (nomark _)))) pa_nil)))))), ?_⟩
  refine DL.run_fnP  [.no, .no] (Nm := N_is_team) (n := 2) (k := 2) rfl (hlen _ _ _ _ h) rfl h fun κ W m ss Φ Ξ G hc => ?_
  try dsimp only [cxOf, Cx.nox, Cx.wish, Cx.blk]
  obtain ⟨n, d, b, rfl, hn, hd, rfl, hΦ⟩ := hc
  cases d with
  | tup xs =>
    unfold itm at hΦ
    dsimp only at hΦ
    walk_at "d"
    by_cases h1 : 1 ≤ xs.length
    · rw [show decide ((1 : Int) ≤ (xs.length : Nat)) = true by simp; omega]
      walk_at "d"
      by_cases h4 : xs.length ≤ 4
      · rw [show decide (((xs.length : Nat) : Int) ≤ 4) = true by simp; omega]
        rw [show decide (1 ≤ xs.length) = true by simp; omega, show decide (xs.length ≤ 4) = true by simp; omega, Bool.true_and, Bool.true_and] at hΦ
        walk_at "d"
        refine de_lcMap (f := fun d => .bl (btw d 0 ((n : Int) - 1))) ?_
        walk_at "d"
        refine ⟨by omega, fun d hd' => ⟨_, dg_name (by simp), ?_⟩, ?_⟩
        · walk_at "d"
          exact ⟨_, _, _, _, rfl, hd.2 _ rfl d hd', rfl, rfl, rfl⟩
        walk_at "d"
        refine cb_allM ?_
        cases ha : xs.all fun d => btw d 0 ((n : Int) - 1) with
        | true =>
          rw [ha, Bool.true_and] at hΦ
          obtain ⟨t, rfl, ht⟩ := all_nat ha
          walk_at "d"
          refine de_lcMap (f := fun d => .bl (ltA (dN t) d)) ?_
          walk_at "d"
          rw [dN_len] at h4 ⊢
          refine ⟨by omega, by omega, by rw [rng_len]; omega, fun d hd' => ⟨_, dg_name (by simp), ?_⟩, ?_⟩
          · obtain ⟨i, hi⟩ := List.getElem?_of_mem hd'
            obtain ⟨hi, rfl⟩ := rng_at hi
            rw [dN_len] at h1
            have i1 : i < t.length := by omega
            have i2 : i + 1 < t.length := by omega
            have e1 : t[i]? = some t[i] := by simp [i1]
            have e2 : t[i + 1]? = some t[i + 1] := by simp [i2]
            rw [Int.zero_add]
            walk_at "d"
            refine ops_ixT (atI_dN e1) ?_
            walk_at "d"
            refine ops_ixT (by have := atI_dN e2; simpa using this) ?_
            walk_at "d"
            rw [ltA_nat t i i2]
            simp [S.frz]
          · walk_at "d"
            refine cb_allM ?_
            rw [dN_len] at hΦ
            exact ⟨rfl, hΦ⟩
        | false =>
          rw [ha, Bool.false_and] at hΦ
          walk_at "d"
          exact hΦ
      · rw [show decide (((xs.length : Nat) : Int) ≤ 4) = false by simp; omega]
        rw [show decide (xs.length ≤ 4) = false by simp; omega, Bool.false_and, Bool.and_false] at hΦ
        walk_at "d"
        exact hΦ
    · rw [show decide ((1 : Int) ≤ (xs.length : Nat)) = false by simp; omega]
      rw [show decide (1 ≤ xs.length) = false by simp only [decide_eq_false_iff_not]; exact h1, Bool.false_and] at hΦ
      walk_at "d"
      exact hΦ
  | dit ds => exact absurd rfl (hd.1.2 _)
  | ins C fs => exact absurd hd.1.1 Bool.false_ne_true
  | _ =>
    walk_at "d"
    exact hΦ
def exF (t : List Nat) (d : D) : D := match d with
  | .int p => .tup (dN t ++ [.int p])
  | _ => .non
theorem exF_eq {b hi : Nat} {t : List Nat} {z : Int} (hz : z = (lst1 b t : Nat)) : (rngD z ((hi : Int) - z).toNat).map (exF t) = (ext1 b hi t).map tD := by
  subst hz
  rw [show ((hi : Int) - (lst1 b t : Nat)).toNat = hi - lst1 b t by omega]
  unfold rngD ext1
  rw [List.map_map, List.map_map, List.range'_eq_map_range, List.map_map]
  apply List.map_congr_left
  intro i _
  simp [exF, tD, dN]
theorem atI_last (t : List Nat) (x : Nat) : atI (dN (t ++ [x])) (-1) = some (.int (x : Nat)) := by
  unfold atI
  rw [show ixN (dN (t ++ [x])).length (-1) = some t.length by unfold ixN; rw [dN_len]; simp; omega]
  simp [dN_get]


def C_parts_of : Fc := fun _ W m ss Φ Ξ => ∃ b s k, ss = [.dat (.int (b : Nat)), .dat (.int (s : Nat)), .dat (.int (k : Nat))] ∧ b + s ≤ 10 ∧ k ≤ 4 ∧ Φ m (.dat (.lst ((SB b (b + s) k).map tD)))

abbrev s_parts_of : Stmt := (top 25)
abbrev N_parts_of : List Str := ["first", "size", "number", "found", "place", "longer", "one", "least", "person"]
theorem sc_parts_of : FnScope N_parts_of ["first", "size", "number"] (defScope s_parts_of) := ⟨rfl, rfl, rfl, by decide +kernel, rfl, by decide +kernel, by decide +kernel⟩
theorem ok_parts_of (F : FnP K "parts_of" s_parts_of f fd) (b : BI mg) : FnOk P w K mg base CX0 1 f fd ["first", "size", "number"] (spF K C_parts_of) := by
  have hlen := spF_len (K := K) (C := C_parts_of) (m := 3) fun κ W m ss Φ Ξ ⟨b, s, k, e, _⟩ => by first | exact e | (rw [e]; rfl)
  refine F.ok sc_parts_of hlen ?_
  intro cdv A outer s H vs Q E hr h
  refine ⟨_, PSs.nox (pss_cons (ps_set (i := 3) sc_parts_of.nd rfl (by first | exact Or.inl rfl | exact Or.inr rfl) (pe_lst (pa_cons (pe_tup pa_nil) pa_nil)))
      (pss_cons (ps_for PassesOwn.never rfl (pi_range1 rfl b.range (pa_cons (pv 2) pa_nil)) (pg_name (i := 4) sc_parts_of.nd rfl (by first | exact Or.inl rfl | exact Or.inr rfl))
      (pss_cons (ps_set (i := 5) sc_parts_of.nd rfl (by first | exact Or.inl rfl | exact Or.inr rfl) (pe_lst pa_nil))
      (pss_cons (ps_for PassesOwn.never rfl (k_piL (K := K) rfl (pv 3)) (pg_name (i := 6) sc_parts_of.nd rfl (by first | exact Or.inl rfl | exact Or.inr rfl))
      (pss_cons (ps_set (i := 7) sc_parts_of.nd rfl (by first | exact Or.inl rfl | exact Or.inr rfl) (pe_ifExp (pt_cmpR (k_eqD (K := K) rfl hr.units) (pv 4) pe_int (nomark _)) (pv 0) (pe_op op_add (pe_ix (k_ixT (K := K) rfl) (pv 6) (pe_un un_neg pe_int) (fun _ _ => rfl)) pe_int)))
      (pss_one (ps_expr (pe_bm PySem.F.plainAttrs_list PySem.F.slot_list_extend PySem.F.type_list_extend mt_extend (pv 5) (pa_cons (pe_lc (own := [("person", 8)]) rfl sc_parts_of.nd (pi_range2 rfl b.range (pa_cons (pv 7) (pa_cons (pe_op op_add (pv 0) (pv 1)) pa_nil))) (blkOk_by (own := [("person", 8)]) (N := N_parts_of) (sc := (defScope s_parts_of)) (by decide +kernel)) (fun _ _ _ _ _ => (pg_name (i := 8) sc_parts_of.nd rfl (by first | exact Or.inl rfl | exact Or.inr rfl))) (fun _ _ _ _ _ => pts_nil) (fun _ _ _ _ _ => (pe_tup (k_star (K := K) rfl (pv 6) (pa_cons (pv 8) pa_nil))))) pa_nil))))))
      (pss_one (ps_set (i := 3) sc_parts_of.nd rfl (by first | exact Or.inl rfl | exact Or.inr rfl) (pv 5))))))
      (pss_one (ps_ret (pv 3))))), ?_⟩
  refine DL.run_fnP  [.no, .no, .no, .no, .no, .no] (Nm := N_parts_of) (n := 3) (k := 6) rfl (hlen _ _ _ _ h) rfl h fun κ W m ss Φ Ξ G hc => ?_
  try dsimp only [cxOf, Cx.nox, Cx.wish, Cx.blk]
  obtain ⟨b, s, k, rfl, hn, hk, hΦ⟩ := hc
  walk_at "d"
  refine ds_frz (i := 3) rfl ?_
  refine ds_forW (vs := [4]) ?_
  walk_at "d"
  refine ⟨by omega, by omega, fun i m' ρ => m' = m ∧ ρ = [.dat (.int b), .dat (.int s), .dat (.int k), .dat (.lst ((SB b (b + s) i).map tD)), .no, .no, .no, .no, .no], ⟨_, Wk.refl _, rfl, rfl, by with_unfolding_all rfl⟩, ?_, ?_⟩
  · rintro i d m' ρ hd ⟨rfl, rfl⟩
    obtain ⟨hi, rfl⟩ := rng_at hd
    rw [Int.zero_add]
    refine ⟨_, dg_name (by simp), ?_⟩
    walk_at "d"
    refine ds_forW (vs := [6]) ?_
    walk_at "d"
    have lSB : (SB b (b + s) i).length ≤ 10000 := SB_le hn (by omega)
    refine ⟨fun j m'' ρ => m'' = m' ∧ ρ = [.dat (.int b), .dat (.int s), .dat (.int k), .dat (.lst ((SB b (b + s) i).map tD)), .dat (.int i), .own (.lst ((((SB b (b + s) i).take j).flatMap (ext1 b (b + s))).map tD)), .no, .no, .no], ⟨_, Wk.refl _, rfl, rfl, rfl⟩, ?_, ?_⟩
    · rintro j d m' ρ hd ⟨rfl, rfl⟩
      rw [List.getElem?_map] at hd
      cases ht : (SB b (b + s) i)[j]? with
      | none => rw [ht] at hd; cases hd
      | some t =>
        rw [ht] at hd
        cases hd
        have hm := SB_mem.mp (List.mem_of_getElem? ht)
        have hx : lst1 b t ≤ b + s := by
          rcases List.eq_nil_or_concat t with rfl | ⟨l, x, rfl⟩
          · simp [lst1]
          · rw [List.concat_eq_append] at hm ⊢
            rw [lst1_snoc]
            have := (hm.2.2 x (by simp)).2
            omega
        have hlen : (((SB b (b + s) i).take j).flatMap (ext1 b (b + s))).length ≤ 100000 := by
          refine Nat.le_trans (stepS_len b (b + s) _) ?_
          have : ((SB b (b + s) i).take j).length ≤ 10000 := Nat.le_trans (by simp; omega) lSB
          exact Nat.le_trans (Nat.mul_le_mul this hn) (by decide)
        have hlen2 := ext1_len b (b + s) t
        have step : ((SB b (b + s) i).take (j + 1)).flatMap (ext1 b (b + s)) = ((SB b (b + s) i).take j).flatMap (ext1 b (b + s)) ++ ext1 b (b + s) t := by
          rw [List.take_add_one, ht]; simp
        refine ⟨_, dg_name (by simp), ?_⟩
        walk_at "d"
        refine ⟨fun h0 => ?_, fun h0 => ?_⟩
        · have hz : (b : Int) = (lst1 b t : Nat) := by
            simp at h0
            have : t = [] := by rw [← List.length_eq_zero_iff]; omega
            subst this
            rfl
          walk_at "d"
          refine ds_ext (by with_unfolding_all rfl) ?_
          refine de_lcMap (f := exF t) ?_
          walk_at "d"
          refine ⟨_, _, rfl, ⟨by omega, by omega, by omega, by omega⟩, by rw [rng_len]; omega, fun d hd => ⟨_, dg_name (by simp), ?_⟩, ?_⟩
          · obtain ⟨p, hp⟩ := List.getElem?_of_mem hd
            obtain ⟨hp, rfl⟩ := rng_at hp
            walk_at "d"
            refine lstK_dats (by rw [dN_len]; omega) ?_
            exact ⟨rfl, rfl⟩
          · rw [show ((b : Int) + (s : Nat)) = ((b + s : Nat) : Int) by simp, exF_eq hz]
            refine ⟨_, rfl, by simp only [List.length_map]; omega, _, ?_, rfl, rfl, by rw [step, List.map_append]⟩
            walk_at "wk"
        · simp at h0
          rcases List.eq_nil_or_concat t with rfl | ⟨l, x, rfl⟩
          · simp at hm; omega
          · rw [List.concat_eq_append] at *
            have hz : (x : Int) + 1 = (lst1 b (l ++ [x]) : Nat) := by rw [lst1_snoc]; omega
            walk_at "d"
            refine ops_ixT (atI_last l x) ?_
            walk_at "d"
            refine ds_ext (by with_unfolding_all rfl) ?_
            refine de_lcMap (f := exF (l ++ [x])) ?_
            walk_at "d"
            refine ⟨_, _, rfl, ⟨by omega, by omega, by omega, by omega⟩, by rw [rng_len]; omega, fun d hd => ⟨_, dg_name (by simp), ?_⟩, ?_⟩
            · obtain ⟨p, hp⟩ := List.getElem?_of_mem hd
              obtain ⟨hp, rfl⟩ := rng_at hp
              walk_at "d"
              refine lstK_dats (by rw [dN_len]; omega) ?_
              exact ⟨rfl, rfl⟩
            · rw [show ((b : Int) + (s : Nat)) = ((b + s : Nat) : Int) by simp, exF_eq hz]
              refine ⟨_, rfl, by simp only [List.length_map]; omega, _, ?_, rfl, rfl, by rw [step, List.map_append]⟩
              walk_at "wk"
    · rintro m'' ρ ⟨rfl, rfl⟩
      refine ds_frz (i := 5) rfl ?_
      walk_at "d"
      rw [List.length_map, List.take_length]
      refine ⟨_, ?_, rfl, rfl, rfl⟩
      walk_at "wk"
  · rintro m' ρ ⟨rfl, rfl⟩
    walk_at "d"
    rw [rng_len]
    exact hΦ


def C_team_list : Fc := fun _ W m ss Φ Ξ => ∃ n k : Nat, ss = [.dat (.lst [.int n]), .dat (tD [k])] ∧ n ≤ 10 ∧ k ≤ 4 ∧ Φ m (.own (.lst ((SB 0 n k).map tD)))

abbrev s_team_list : Stmt := (top 26)
abbrev N_team_list : List Str := ["sizes", "kind", "found", "first", "size", "number", "parts", "one", "part"]
theorem sc_team_list : FnScope N_team_list ["sizes", "kind"] (defScope s_team_list) := ⟨rfl, rfl, rfl, by decide +kernel, rfl, by decide +kernel, by decide +kernel⟩
theorem ok_team_list (F : FnP K "team_list" s_team_list f fd) (b : BI mg) (c_parts_of : Cl P w K mg base CX0 1 "parts_of" ["first", "size", "number"] C_parts_of) : FnOk P w K mg base CX0 2 f fd ["sizes", "kind"] (spF K C_team_list) := by
  have hlen := spF_len (K := K) (C := C_team_list) (m := 2) fun κ W m ss Φ Ξ ⟨n, k, e, _⟩ => by first | exact e | (rw [e]; rfl)
  refine F.ok sc_team_list hlen ?_
  intro cdv A outer s H vs Q E hr h
  refine ⟨_, PSs.nox (pss_cons (ps_set (i := 2) sc_team_list.nd rfl (by first | exact Or.inl rfl | exact Or.inr rfl) (pe_lst (pa_cons (pe_tup pa_nil) pa_nil)))
      (pss_cons (ps_set (i := 3) sc_team_list.nd rfl (by first | exact Or.inl rfl | exact Or.inr rfl) pe_int)
      (pss_cons (ps_for PassesOwn.never rfl (k_zip (K := K) rfl rfl b.zip (pa_cons (pv 0) (pa_cons (pv 1) pa_nil))) (k_gTup (K := K) (n := 2) rfl rfl (pgs_cons (pg_name (i := 4) sc_team_list.nd rfl (by first | exact Or.inl rfl | exact Or.inr rfl)) (pgs_cons (pg_name (i := 5) sc_team_list.nd rfl (by first | exact Or.inl rfl | exact Or.inr rfl)) pgs_nil)))
      (pss_cons (ps_set (i := 6) sc_team_list.nd rfl (by first | exact Or.inl rfl | exact Or.inr rfl) (k_cl0 c_parts_of rfl hr (pa_cons (pv 3) (pa_cons (pv 4) (pa_cons (pv 5) pa_nil)))))
      (pss_cons (ps_setLc2 (i := 2) (own := [("one", 7), ("part", 8)]) rfl sc_team_list.nd rfl rfl (sw_true rfl rfl rfl (by decide +kernel)) (k_piL (K := K) rfl (pv 2)) (blkOk_by (own := [("one", 7), ("part", 8)]) (N := N_team_list) (sc := (defScope s_team_list)) (by decide +kernel)) (vs1 := [8]) (by decide) (fun _ _ _ _ _ => (pg_name (i := 7) sc_team_list.nd rfl (by first | exact Or.inl rfl | exact Or.inr rfl))) (fun _ _ _ _ _ => pts_nil) (fun _ _ _ _ _ => (k_piL (K := K) rfl (pv 6))) (fun _ _ _ _ _ => (pg_name (i := 8) sc_team_list.nd rfl (by first | exact Or.inl rfl | exact Or.inr rfl))) (fun _ _ _ _ _ => pts_nil) (fun _ _ _ _ _ => (pe_op (k_catA (K := K) rfl) (pv 7) (pv 8))))
      (pss_one (ps_set (i := 3) sc_team_list.nd rfl (by first | exact Or.inl rfl | exact Or.inr rfl) (pe_op op_add (pv 3) (pv 4)))))))
      (pss_one (ps_ret (pv 2)))))), ?_⟩
  refine DL.run_fnP  [.no, .no, .no, .no, .no, .no, .no] (Nm := N_team_list) (n := 2) (k := 7) rfl (hlen _ _ _ _ h) rfl h fun κ W m ss Φ Ξ G hc => ?_
  try dsimp only [cxOf, Cx.nox, Cx.wish, Cx.blk]
  obtain ⟨n, k, rfl, hn, hk, hΦ⟩ := hc
  walk_at "d"
  refine ds_frz (i := 2) rfl ?_
  refine ds_forW (vs := [4, 5]) ?_
  walk_at "d"
  refine ⟨_, _, _, _, rfl, rfl, rfl, fun i m' ρ => m' = m ∧ ((i = 0 ∧ ρ = [.dat (.lst [.int n]), .dat (tD [k]), .dat (.lst [.tup []]), .dat (.int 0), .no, .no, .no, .no, .no]) ∨ (i = 1 ∧ ρ = [.no, .no, .own (.lst ((SB 0 n k).map tD)), .no, .no, .no, .no, .no, .no])), ⟨_, Wk.refl _, rfl, rfl, .inl ⟨rfl, by with_unfolding_all rfl⟩⟩, ?_, ?_⟩
  · rintro i d m' ρ hd ⟨rfl, ⟨rfl, rfl⟩ | ⟨rfl, rfl⟩⟩
    · have hd : d = .tup [.int n, .int k] := by
        simp [zipD, dN] at hd
        exact hd.symm
      subst hd
      refine ⟨_, dg_tup2 (by simp) (by simp), ?_⟩
      walk_at "d"
      refine ⟨0, n, k, rfl, by omega, by omega, ?_⟩
      walk_at "d"
      rw [Nat.zero_add]
      have lSB : (SB 0 n k).length ≤ 10000 := SB_le hn hk
      refine de_lc2M (fun _ => (SB 0 n k).map tD) (fun _ _ => true) (fun _ e => e) ?_
      walk_at "d"
      have e : (List.flatMap (fun d => ((List.filter (fun _ => true) ((SB 0 n k).map tD)).map fun e => e)) [D.tup []]) = (SB 0 n k).map tD := by simp
      refine ⟨by rw [e, List.length_map]; omega, fun d hd => ⟨_, dg_name (by simp), by with_unfolding_all rfl, ?_⟩, ?_⟩
      · have hd : d = .tup [] := by simpa using hd
        subst hd
        walk_at "d"
        refine fun e he => ⟨_, dg_name (by simp), ?_⟩
        obtain ⟨t, ht, rfl⟩ := List.mem_map.mp he
        have := (SB_mem.mp ht).1
        walk_at "d"
        intro _
        walk_at "d"
        refine ops_catA (by rw [dN_len]; show 0 + t.length ≤ 1000000; omega) ?_
        exact ⟨rfl, rfl⟩
      · rw [e]
        walk_at "d"
        refine ⟨_, ?_, rfl, rfl, .inr ⟨rfl, rfl⟩⟩
        walk_at "wk"
    · simp [zipD, dN] at hd
  · rintro m' ρ ⟨rfl, ⟨h, _⟩ | ⟨_, rfl⟩⟩
    · simp [zipD, dN] at h
    · refine ds_retVar rfl ?_
      exact hΦ


def isGT (n : Nat) (gs : List (Nat × Nat)) (d : D) : Bool := itm n d && (match d with
  | .tup xs => (gv gs xs.length).isSome
  | _ => false)
def C_is_game_team : Fc := fun _ W m ss Φ Ξ => ∃ n gs d b, ss = [.dat (.int (n : Nat)), .dat (.dic (gD gs)), .dat d] ∧ n ≤ 10 ∧ askT d ∧ isGT n gs d = b ∧ Φ m (.dat (.bl b))
theorem isGT_team {n : Nat} {gs : List (Nat × Nat)} {t : List Nat} (h : Team n t) (hg : (gv gs t.length).isSome = true) : isGT n gs (tD t) = true := by
  unfold isGT
  rw [itm_iff.mpr ⟨t, rfl, h⟩, Bool.true_and]
  show (gv gs (dN t).length).isSome = true
  rw [dN_len]
  exact hg

abbrev s_is_game_team : Stmt := (top 36)
abbrev N_is_game_team : List Str := ["people", "games", "value"]
theorem sc_is_game_team : FnScope N_is_game_team ["people", "games", "value"] (defScope s_is_game_team) := ⟨rfl, rfl, rfl, by decide +kernel, rfl, by decide +kernel, by decide +kernel⟩
theorem ok_is_game_team (F : FnP K "is_game_team" s_is_game_team f fd) (b : BI mg) (c_is_team : Cl P w K mg base CX0 2 "is_team" ["people", "value"] C_is_team) : FnOk P w K mg base CX0 3 f fd ["people", "games", "value"] (spF K C_is_game_team) := by
  have hlen := spF_len (K := K) (C := C_is_game_team) (m := 3) fun κ W m ss Φ Ξ ⟨n, gs, d, b, e, _⟩ => by first | exact e | (rw [e]; rfl)
  refine F.ok sc_is_game_team hlen ?_
  intro cdv A outer s H vs Q E hr h
  refine ⟨_, PSs.nox (pss_one (ps_ret (pe_and (k_cl0 c_is_team rfl hr (pa_cons (pv 0) (pa_cons (pv 2) pa_nil))) (pe_one (pe_cmp (pc_din (hu_of hr) (pe_callB (k_len (K := K) rfl) rfl b.len boot_len (pa_cons (pv 2) pa_nil)) (pv 1)) rfl))))), ?_⟩
  refine DL.run_fnP  [] (Nm := N_is_game_team) (n := 3) (k := 0) rfl (hlen _ _ _ _ h) rfl h fun κ W m ss Φ Ξ G hc => ?_
  try dsimp only [cxOf, Cx.nox, Cx.wish, Cx.blk]
  obtain ⟨n, gs, d, b, rfl, hn, hd, rfl, hΦ⟩ := hc
  walk_at "d"
  refine ⟨n, d, _, rfl, hn, hd, rfl, ?_⟩
  refine ⟨_, rfl, fun hb => ?_, fun hb => ?_⟩
  · obtain ⟨t, rfl, ht⟩ := itm_iff.mp hb
    unfold isGT at hΦ
    rw [hb, Bool.true_and] at hΦ
    dsimp only at hΦ
    walk_at "d"
    refine ⟨_, _, _, rfl, rfl, Look.k (ds := gD gs) (Sum.inl ((dN t).length : Int)), ?_⟩
    rw [gD_val]
    cases e : gv gs (dN t).length with
    | none => rw [e] at hΦ; exact ⟨rfl, hΦ⟩
    | some v => rw [e] at hΦ; exact ⟨rfl, hΦ⟩
  · unfold isGT at hΦ
    rw [hb, Bool.false_and] at hΦ
    exact ⟨rfl, hΦ⟩


end
end Pf
set_option Elab.async false
set_option linter.all false
set_option maxRecDepth 100000
set_option maxHeartbeats 1000000
namespace Pf
open PySem PySem.Spec PyProof.Rows L2 DL
local macro_rules | `(tactic| walk_at "len") => `(tactic| with_unfolding_all first | exact Nat.le_of_ble_eq_true rfl | (simp; done) | (simp; omega))
local macro_rules | `(tactic| walk_at "side") => `(tactic| with_unfolding_all first | exact Or.inr ⟨by omega, by omega⟩ | exact Or.inl ⟨by omega, by omega⟩ | exact ⟨by omega, by omega⟩ | exact ⟨by omega, by omega, by omega⟩ | (show (0 : Int) < _; omega) | decide)
local macro_rules | `(tactic| walk_at "d1") => `(tactic| with_reducible first
  | (refine ds_seq ?_; try dsimp only [List.set_cons_zero, List.set_cons_succ, List.cons_append, List.nil_append, O.frz])
  | refine ds_asg ?_
  | refine ds_ret ?_
  | refine ds_retN ?_
  | refine ds_next ?_
  | refine ds_dropC ?_
  | refine ds_drop0 ?_
  | refine ds_dropB ?_
  | refine ds_if ?_
  | refine dt_test ?_
  | refine dt_B ?_
  | refine dt_not ?_
  | refine dt_and ?_
  | refine dt_or ?_
  | refine dt_yes ?_
  | refine de_int ?_
  | refine de_bl ?_
  | refine de_str ?_
  | refine de_non ?_
  | refine de_varD (by with_unfolding_all rfl) ?_
  | refine de_varO (by with_unfolding_all rfl) ?_
  | refine de_varA (by with_unfolding_all rfl) ?_
  | refine de_varV (by with_unfolding_all rfl) ?_
  | refine de_isi ?_
  | refine de_dget ?_
  | refine de_dget2 ?_
  | refine de_dnotin ?_
  | refine de_din ?_
  | refine de_dnew ?_
  | refine de_dnewT ?_
  | refine de_cb ?_
  | refine de_call0G ?_
  | refine de_callG ?_
  | refine de_andB ?_
  | refine de_orB ?_
  | refine de_notV ?_
  | refine de_ifE ?_
  | refine de_chain ?_
  | refine de_op ?_
  | refine de_neg ?_
  | refine de_tupG ?_
  | refine de_lstG ?_
  | refine de_slL ?_
  | refine de_slT ?_
  | refine do_none ?_
  | refine do_some ?_
  | refine daf_cons ?_
  | refine daf_nil ?_
  | refine daf_star ?_
  | refine da_cons ?_
  | refine da_nil ?_
  | refine lk_dat ?_
  | refine lk_nil ?_
  | refine ak_dat ?_
  | refine ak_nil ?_
  | refine ak_at ?_
  | refine ak_lst ?_
  | refine lk_lst ?_
  | refine ak_dK ?_
  | refine ak_dT ?_
  | refine ak_vw ?_
  | refine lk_dT ?_
  | refine lk_dK ?_
  | refine da_star ?_
  | refine de_lstRg1 ?_
  | refine de_lstRg2 ?_
  | refine de_revL ?_
  | refine de_count ?_
  | refine de_index ?_
  | refine di_enum ?_
  | refine dt_tru ?_
  | refine de_fld ?_
  | refine de_prop ?_
  | refine di_rng1 ?_
  | refine di_rng2 ?_
  | refine di_list ?_
  | refine di_tup ?_
  | refine di_seq ?_
  | refine di_zip ?_
  | refine ops_int ?_
  | (refine ops_cat (by with_unfolding_all rfl) (by with_unfolding_all rfl) ?side ?_; (case side => walk_at "len"))
  | (refine ops_catA ?side ?_; (case side => walk_at "len"))
  | refine ops_eqI ?_
  | refine ops_neI ?_
  | refine ops_bool ?_
  | (refine ops_intC ?side ?_; (case side => walk_at "side"))
  | refine cb_lenL (by with_unfolding_all rfl) ?_
  | refine cb_lenT (by with_unfolding_all rfl) ?_
  | refine cb_lenK (by with_unfolding_all rfl) ?_
  | refine cb_max2 ?_
  | refine cb_min2 ?_
  | refine cb_int ?_
  | refine ⟨fun _ => ?_, fun z => Bool.noConfusion z⟩
  | refine ⟨fun z => Bool.noConfusion z, fun _ => ?_⟩
  | refine ⟨rfl, ?_⟩
  | refine ⟨_, rfl, ?_⟩
  | refine ⟨_, Or.inl (by with_unfolding_all rfl), ?_⟩
  | (with_unfolding_all refine ⟨_, true, rfl, rfl, (fun _ z => by cases z), rfl, ?_⟩)
  | (with_unfolding_all refine ⟨_, false, rfl, rfl, (fun _ z => by cases z), rfl, ?_⟩))
local macro_rules | `(tactic| walk_at "d") => `(tactic| repeat walk_at "d1")
local macro_rules | `(tactic| walk_at "wk") => `(tactic| repeat first | exact Wk.nil | refine Wk.keep ?_ | refine Wk.drop ?_)
section
variable {P : Program} {w : World} {K : PySem.W.Frag} {mg : Str → Option Value} {base : Heap} {f : Addr} {fd : FuncData}
def srtN (l : List Nat) : List Nat := (srt (l.map fun n : Nat => (n : Int))).map Int.toNat
theorem srtN_mem {l : List Nat} {a : Nat} : a ∈ srtN l ↔ a ∈ l := by
  unfold srtN
  have p := srt_perm (l.map fun n : Nat => (n : Int))
  constructor
  · intro h
    obtain ⟨z, hz, rfl⟩ := List.mem_map.mp h
    obtain ⟨b, hb, rfl⟩ := List.mem_map.mp (p.mem_iff.mp hz)
    simpa using hb
  · intro h
    exact List.mem_map.mpr ⟨(a : Int), p.mem_iff.mpr (List.mem_map.mpr ⟨a, h, rfl⟩), by simp⟩
theorem srtN_len (l : List Nat) : (srtN l).length = l.length := by
  unfold srtN
  rw [List.length_map, (srt_perm _).length_eq, List.length_map]
theorem srtN_int (l : List Nat) : (srt (l.map fun n : Nat => (n : Int))).map D.int = dN (srtN l) := by
  unfold srtN dN
  rw [List.map_map]
  apply List.map_congr_left
  intro z hz
  obtain ⟨b, hb, rfl⟩ := List.mem_map.mp ((srt_perm _).mem_iff.mp hz)
  simp
/-- every team of the games -/
def ET (n : Nat) (gs : List (Nat × Nat)) : List (List Nat) := (srtN (gs.map (·.1))).flatMap fun k => SB 0 n k
def etF (n : Nat) (d : D) : List D := match d with
  | .int t => (SB 0 n t.toNat).map tD
  | _ => []
theorem etF_eq (n : Nat) (l : List Nat) : ((dN l).flatMap fun d => ((etF n d).filter fun _ => true).map fun e => e) = (l.flatMap fun k => SB 0 n k).map tD := by
  induction l with
  | nil => rfl
  | cons a l ih =>
    rw [List.flatMap_cons, List.map_append, ← ih]
    simp [dN, etF]
theorem ET_len {n : Nat} {gs : List (Nat × Nat)} (hn : n ≤ 10) (hg : GGm n gs) : (ET n gs).length ≤ 20000 := by
  have h : ∀ l : List Nat, (∀ k ∈ l, k ≤ 4) → (l.flatMap fun k => SB 0 n k).length ≤ l.length * 10000 := fun l => by
    induction l with
    | nil => intro _; simp
    | cons a l ih =>
      intro h
      have h1 := ih fun k hk => h k (by simp [hk])
      have h2 : (SB 0 n a).length ≤ 10000 := SB_le hn (h a (by simp))
      rw [List.flatMap_cons, List.length_append, List.length_cons]
      omega
  refine Nat.le_trans (h _ fun k hk => ?_) ?_
  · obtain ⟨⟨t, v⟩, h1, rfl⟩ := List.mem_map.mp (srtN_mem.mp hk)
    exact (hg.ok t v h1).2.1
  · rw [srtN_len, List.length_map]
    have := hg.l2
    omega

def C_every_team : Fc := fun _ W m ss Φ Ξ => ∃ n gs, ss = [.dat (.int (n : Nat)), .dat (.dic (gD gs))] ∧ n ≤ 10 ∧ GGm n gs ∧ Φ m (.own (.lst ((ET n gs).map tD)))

abbrev s_every_team : Stmt := (top 38)
abbrev N_every_team : List Str := ["people", "games", "size", "team"]
theorem sc_every_team : FnScope N_every_team ["people", "games"] (defScope s_every_team) := ⟨rfl, rfl, rfl, by decide +kernel, rfl, by decide +kernel, by decide +kernel⟩
theorem ok_every_team (F : FnP K "every_team" s_every_team f fd) (b : BI mg) (c_team_list : Cl P w K mg base CX0 2 "team_list" ["sizes", "kind"] C_team_list) : FnOk P w K mg base CX0 3 f fd ["people", "games"] (spF K C_every_team) := by
  have hlen := spF_len (K := K) (C := C_every_team) (m := 2) fun κ W m ss Φ Ξ ⟨n, gs, e, _⟩ => by first | exact e | (rw [e]; rfl)
  refine F.ok sc_every_team hlen ?_
  intro cdv A outer s H vs Q E hr h
  refine ⟨_, PSs.nox (pss_one (ps_ret (pe_lc2 (own := [("size", 2), ("team", 3)]) rfl sc_every_team.nd (k_piL (K := K) rfl (pe_callB (call_sortedDI rfl) rfl b.sorted boot_sorted (pa_cons (pv 1) pa_nil))) (blkOk_by (own := [("size", 2), ("team", 3)]) (N := N_every_team) (sc := (defScope s_every_team)) (by decide +kernel)) (vs1 := [3]) (by decide) (fun _ _ _ _ _ => (pg_name (i := 2) sc_every_team.nd rfl (by first | exact Or.inl rfl | exact Or.inr rfl))) (fun _ _ _ _ _ => pts_nil) (fun _ _ _ _ _ => (k_piL (K := K) rfl (k_cl0 c_team_list rfl hr (pa_cons (pe_lst (pa_cons (pv 0) pa_nil)) (pa_cons (pe_tup (pa_cons (pv 2) pa_nil)) pa_nil))))) (fun _ _ _ _ _ => (pg_name (i := 3) sc_every_team.nd rfl (by first | exact Or.inl rfl | exact Or.inr rfl))) (fun _ _ _ _ _ => pts_nil) (fun _ _ _ _ _ => (pv 3))))), ?_⟩
  refine DL.run_fnP  [.no, .no] (Nm := N_every_team) (n := 2) (k := 2) rfl (hlen _ _ _ _ h) rfl h fun κ W m ss Φ Ξ G hc => ?_
  try dsimp only [cxOf, Cx.nox, Cx.wish, Cx.blk]
  obtain ⟨n, gs, rfl, hn, hg, hΦ⟩ := hc
  have l2 := hg.l2
  walk_at "d"
  refine de_lc2M (etF n) (fun _ _ => true) (fun _ e => e) ?_
  walk_at "d"
  refine cb_sortedK (ks := (gs.map (·.1)).map fun n : Nat => (n : Int)) rfl (by rw [gD_keys]; simp [List.map_map]) (by simp; omega) ?_
  walk_at "d"
  rw [srtN_int]
  refine ⟨by rw [etF_eq, List.length_map]; exact Nat.lt_of_le_of_lt (ET_len hn hg) (by decide), fun d hd => ⟨_, dg_name (by simp), by with_unfolding_all rfl, ?_⟩, ?_⟩
  · obtain ⟨k, hk, rfl⟩ := dN_mem hd
    obtain ⟨⟨t, v⟩, h1, rfl⟩ := List.mem_map.mp (srtN_mem.mp hk)
    obtain ⟨o1, o2, o3, o4, o5⟩ := hg.ok t v h1
    walk_at "d"
    refine ⟨n, t, rfl, hn, o2, ?_⟩
    walk_at "d"
    refine fun e he => ⟨_, dg_name (by simp), ?_⟩
    walk_at "d"
    intro _
    walk_at "d"
    rfl
  · rw [etF_eq]
    walk_at "d"
    exact hΦ
theorem pys_dN : ∀ t : List Nat, D.pys (dN t) = some (t.map fun n : Nat => PyData.int n)
  | [] => by unfold dN; rw [List.map_nil]; unfold D.pys; rfl
  | a :: t => by
    have ih := pys_dN t
    unfold dN at ih ⊢
    rw [List.map_cons, D.pys, ih, D.py]
    rfl
def enc (t : List Nat) : D := .tup [.int (t.length : Nat), tD t]
def encP (t : List Nat) : PyData := .tuple [.int (t.length : Nat), .tuple (t.map fun n : Nat => PyData.int n)]
theorem enc_py (t : List Nat) : (enc t).py = some (encP t) := by
  unfold enc
  rw [D.py, D.pys, D.py, D.pys, D.py, pys_dN, D.pys]
  rfl
theorem enc_pyT (t : List Nat) : (enc t).pyT = encP t := by unfold D.pyT; rw [enc_py]; rfl
theorem alike_ints : ∀ t u : List Nat, PySem.W.alikeAll (t.map fun n : Nat => PyData.int n) (u.map fun n : Nat => PyData.int n) = true
  | [], _ => by rw [List.map_nil, PySem.W.alikeAll]
  | _ :: _, [] => by rw [List.map_nil, List.map_cons, PySem.W.alikeAll]
  | a :: t, b :: u => by rw [List.map_cons, List.map_cons, PySem.W.alikeAll, alike_ints t u, PySem.W.alike]; rfl
theorem enc_alike (t u : List Nat) : PySem.W.alike (encP t) (encP u) = true := by
  unfold encP
  rw [PySem.W.alike, PySem.W.alikeAll, PySem.W.alikeAll, PySem.W.alikeAll, PySem.W.alike, PySem.W.alike, alike_ints]
  rfl
theorem depth_ints : ∀ t : List Nat, PyData.depthAll (t.map fun n : Nat => PyData.int n) ≤ 1
  | [] => by rw [List.map_nil, PyData.depthAll]; omega
  | a :: t => by
    have := depth_ints t
    rw [List.map_cons, PyData.depthAll, PyData.depth]
    omega
theorem enc_depth (t : List Nat) : (encP t).depth ≤ 60 := by
  have := depth_ints t
  unfold encP
  simp only [PyData.depth, PyData.depthAll]
  omega
def sndD (d : D) : D := match d with
  | .tup [_, x] => x
  | _ => .non
/-- the teams in order -/
def ordD (ts : List (List Nat)) : List D := (srtD (ts.map enc)).map sndD
theorem ordD_perm (ts : List (List Nat)) : (ordD ts).Perm (ts.map tD) := by
  have h := (srtD_perm (ts.map enc)).map sndD
  rw [List.map_map] at h
  exact h
theorem perm_map {α β : Type} {f : α → β} {m : List β} {l' : List β} (h : m.Perm l') : ∀ {l : List α}, l.map f = l' → ∃ us : List α, us.Perm l ∧ m = us.map f := by
  induction h with
  | nil => intro l e; exact ⟨[], by rw [List.map_eq_nil_iff.mp e], rfl⟩
  | cons x _ ih =>
    intro l e
    cases l with
    | nil => cases e
    | cons a l =>
      rw [List.map_cons, List.cons.injEq] at e
      obtain ⟨us, h1, h2⟩ := ih e.2
      exact ⟨a :: us, h1.cons a, by rw [List.map_cons, e.1, h2]⟩
  | swap x y t =>
    intro l e
    cases l with
    | nil => cases e
    | cons a l =>
      cases l with
      | nil => simp at e
      | cons b l =>
        simp only [List.map_cons, List.cons.injEq] at e
        exact ⟨b :: a :: l, List.Perm.swap a b l, by simp [e.1, e.2.1, e.2.2]⟩
  | trans _ _ ih1 ih2 =>
    intro l e
    obtain ⟨u2, h1, h2⟩ := ih2 e
    obtain ⟨u1, h3, h4⟩ := ih1 h2.symm
    exact ⟨u1, h3.trans h1, h4⟩
theorem ordD_us (ts : List (List Nat)) : ∃ us : List (List Nat), us.Perm ts ∧ ordD ts = us.map tD := perm_map (ordD_perm ts) rfl
theorem srt_enc {ts : List (List Nat)} {d : D} (h : d ∈ srtD (ts.map enc)) : ∃ t ∈ ts, d = enc t := by
  obtain ⟨t, ht, rfl⟩ := List.mem_map.mp ((srtD_perm _).mem_iff.mp h)
  exact ⟨t, ht, rfl⟩
def lenD (d : D) : D := match d with
  | .tup ds => .tup [.int (ds.length : Nat), .tup ds]
  | _ => .non
theorem lenD_eq (ts : List (List Nat)) : (ts.map tD).map lenD = ts.map enc := by
  rw [List.map_map]
  apply List.map_congr_left
  intro t _
  simp [lenD, enc, dN_len]


def C_ordered : Fc := fun _ W m ss Φ Ξ => ∃ (ts : List (List Nat)) (d : D), ss = [.dat d] ∧ (d = .lst (ts.map tD) ∨ d = .tup (ts.map tD)) ∧ ts.length ≤ 10000 ∧ Φ m (.own (.lst (ordD ts)))

abbrev s_ordered : Stmt := (top 37)
abbrev N_ordered : List Str := ["teams", "size", "team"]
theorem sc_ordered : FnScope N_ordered ["teams"] (defScope s_ordered) := ⟨rfl, rfl, rfl, by decide +kernel, rfl, by decide +kernel, by decide +kernel⟩
theorem ok_ordered (F : FnP K "ordered" s_ordered f fd) (b : BI mg) : FnOk P w K mg base CX0 1 f fd ["teams"] (spF K C_ordered) := by
  have hlen := spF_len (K := K) (C := C_ordered) (m := 1) fun κ W m ss Φ Ξ ⟨ts, d, e, _⟩ => by first | exact e | (rw [e]; rfl)
  refine F.ok sc_ordered hlen ?_
  intro cdv A outer s H vs Q E hr h
  refine ⟨_, PSs.nox (pss_one (ps_ret (pe_lc (own := [("size", 1), ("team", 2)]) rfl sc_ordered.nd (k_piL (K := K) rfl (pe_callB (k_sortedD (K := K) rfl hr.units) rfl b.sorted boot_sorted (pa_cons (pe_lc (own := [("team", 2)]) rfl sc_ordered.nd (k_piS (K := K) rfl (pv 0)) (blkOk_by (own := [("team", 2)]) (N := N_ordered) (sc := (defScope s_ordered)) (by decide +kernel)) (fun _ _ _ _ _ => (pg_name (i := 2) sc_ordered.nd rfl (by first | exact Or.inl rfl | exact Or.inr rfl))) (fun _ _ _ _ _ => pts_nil) (fun _ _ _ _ _ => (pe_tup (pa_cons (pe_callB (k_len (K := K) rfl) rfl b.len boot_len (pa_cons (pv 2) pa_nil)) (pa_cons (pv 2) pa_nil))))) pa_nil))) (blkOk_by (own := [("size", 1), ("team", 2)]) (N := N_ordered) (sc := (defScope s_ordered)) (by decide +kernel)) (fun _ _ _ _ _ => (k_gTup (K := K) (n := 2) rfl rfl (pgs_cons (pg_name (i := 1) sc_ordered.nd rfl (by first | exact Or.inl rfl | exact Or.inr rfl)) (pgs_cons (pg_name (i := 2) sc_ordered.nd rfl (by first | exact Or.inl rfl | exact Or.inr rfl)) pgs_nil)))) (fun _ _ _ _ _ => pts_nil) (fun _ _ _ _ _ => (pv 2))))), ?_⟩
  refine DL.run_fnP  [.no, .no] (Nm := N_ordered) (n := 1) (k := 2) rfl (hlen _ _ _ _ h) rfl h fun κ W m ss Φ Ξ G hc => ?_
  try dsimp only [cxOf, Cx.nox, Cx.wish, Cx.blk]
  obtain ⟨ts, d, rfl, hd, hl, hΦ⟩ := hc
  rcases hd with rfl | rfl
  all_goals
    walk_at "d"
    refine de_lcMap (f := sndD) ?_
    walk_at "d"
    refine de_lcMap (f := lenD) ?_
    walk_at "d"
    refine ⟨by rw [List.length_map]; omega, fun d hd => ⟨_, dg_name (by simp), ?_⟩, ?_⟩
    · obtain ⟨t, ht, rfl⟩ := List.mem_map.mp hd
      walk_at "d"
      rfl
    · rw [lenD_eq]
      walk_at "d"
      have hp : ∀ x ∈ (ts.map enc).map D.pyT, ∃ t, x = encP t := fun x hx => by
        obtain ⟨d, hd, rfl⟩ := List.mem_map.mp hx
        obtain ⟨t, _, rfl⟩ := List.mem_map.mp hd
        exact ⟨t, enc_pyT t⟩
      refine cb_sortedD rfl (fun d hd => ?_) (fun x hx y hy => ?_) (.inl fun x hx => ?_) (fun d hd => ?_) ?_
      · obtain ⟨t, _, rfl⟩ := List.mem_map.mp hd
        exact ⟨_, enc_py t⟩
      · obtain ⟨t, rfl⟩ := hp x hx
        obtain ⟨u, rfl⟩ := hp y hy
        exact enc_alike t u
      · obtain ⟨t, rfl⟩ := hp x hx
        exact ⟨_, _, rfl⟩
      · obtain ⟨t, _, rfl⟩ := List.mem_map.mp hd
        rw [enc_pyT]; exact enc_depth t
      · walk_at "d"
        refine ⟨by rw [(srtD_perm _).length_eq, List.length_map]; omega, fun d hd => ?_, ?_⟩
        · obtain ⟨t, _, rfl⟩ := srt_enc hd
          refine ⟨_, dg_tup2 (by simp) (by simp), ?_⟩
          walk_at "d"
          rfl
        · walk_at "d"
          exact hΦ


end
end Pf
set_option Elab.async false
set_option linter.all false
set_option maxRecDepth 100000
set_option maxHeartbeats 1000000
namespace Pf
open PySem PySem.Spec PyProof.Rows L2 DL
local macro_rules | `(tactic| walk_at "len") => `(tactic| with_unfolding_all first | exact Nat.le_of_ble_eq_true rfl | (simp; done) | (simp; omega))
local macro_rules | `(tactic| walk_at "side") => `(tactic| with_unfolding_all first | exact Or.inr ⟨by omega, by omega⟩ | exact Or.inl ⟨by omega, by omega⟩ | exact ⟨by omega, by omega⟩ | exact ⟨by omega, by omega, by omega⟩ | (show (0 : Int) < _; omega) | decide)
local macro_rules | `(tactic| walk_at "d1") => `(tactic| with_reducible first
  | (refine ds_seq ?_; try dsimp only [List.set_cons_zero, List.set_cons_succ, List.cons_append, List.nil_append, O.frz])
  | refine ds_asg ?_
  | refine ds_ret ?_
  | refine ds_retN ?_
  | refine ds_next ?_
  | refine ds_dropC ?_
  | refine ds_drop0 ?_
  | refine ds_dropB ?_
  | refine ds_if ?_
  | refine dt_test ?_
  | refine dt_B ?_
  | refine dt_not ?_
  | refine dt_and ?_
  | refine dt_or ?_
  | refine dt_yes ?_
  | refine de_int ?_
  | refine de_bl ?_
  | refine de_str ?_
  | refine de_non ?_
  | refine de_varD (by with_unfolding_all rfl) ?_
  | refine de_varO (by with_unfolding_all rfl) ?_
  | refine de_varA (by with_unfolding_all rfl) ?_
  | refine de_varV (by with_unfolding_all rfl) ?_
  | refine de_isi ?_
  | refine de_dget ?_
  | refine de_dget2 ?_
  | refine de_dnotin ?_
  | refine de_din ?_
  | refine de_dnew ?_
  | refine de_dnewT ?_
  | refine de_cb ?_
  | refine de_call0G ?_
  | refine de_callG ?_
  | refine de_andB ?_
  | refine de_orB ?_
  | refine de_notV ?_
  | refine de_ifE ?_
  | refine de_chain ?_
  | refine de_op ?_
  | refine de_neg ?_
  | refine de_tupG ?_
  | refine de_lstG ?_
  | refine de_slL ?_
  | refine de_slT ?_
  | refine do_none ?_
  | refine do_some ?_
  | refine daf_cons ?_
  | refine daf_nil ?_
  | refine daf_star ?_
  | refine da_cons ?_
  | refine da_nil ?_
  | refine lk_dat ?_
  | refine lk_nil ?_
  | refine ak_dat ?_
  | refine ak_nil ?_
  | refine ak_at ?_
  | refine ak_lst ?_
  | refine lk_lst ?_
  | refine ak_dK ?_
  | refine ak_dT ?_
  | refine ak_vw ?_
  | refine lk_dT ?_
  | refine lk_dK ?_
  | refine da_star ?_
  | refine de_lstRg1 ?_
  | refine de_lstRg2 ?_
  | refine de_revL ?_
  | refine de_count ?_
  | refine de_index ?_
  | refine di_enum ?_
  | refine dt_tru ?_
  | refine de_fld ?_
  | refine de_prop ?_
  | refine di_rng1 ?_
  | refine di_rng2 ?_
  | refine di_list ?_
  | refine di_tup ?_
  | refine di_seq ?_
  | refine di_zip ?_
  | refine ops_int ?_
  | (refine ops_cat (by with_unfolding_all rfl) (by with_unfolding_all rfl) ?side ?_; (case side => walk_at "len"))
  | (refine ops_catA ?side ?_; (case side => walk_at "len"))
  | refine ops_eqI ?_
  | refine ops_neI ?_
  | refine ops_bool ?_
  | (refine ops_intC ?side ?_; (case side => walk_at "side"))
  | refine cb_lenL (by with_unfolding_all rfl) ?_
  | refine cb_lenT (by with_unfolding_all rfl) ?_
  | refine cb_lenK (by with_unfolding_all rfl) ?_
  | refine cb_max2 ?_
  | refine cb_min2 ?_
  | refine cb_int ?_
  | refine ⟨fun _ => ?_, fun z => Bool.noConfusion z⟩
  | refine ⟨fun z => Bool.noConfusion z, fun _ => ?_⟩
  | refine ⟨rfl, ?_⟩
  | refine ⟨_, rfl, ?_⟩
  | refine ⟨_, Or.inl (by with_unfolding_all rfl), ?_⟩
  | (with_unfolding_all refine ⟨_, true, rfl, rfl, (fun _ z => by cases z), rfl, ?_⟩)
  | (with_unfolding_all refine ⟨_, false, rfl, rfl, (fun _ z => by cases z), rfl, ?_⟩))
local macro_rules | `(tactic| walk_at "d") => `(tactic| repeat walk_at "d1")
local macro_rules | `(tactic| walk_at "wk") => `(tactic| repeat first | exact Wk.nil | refine Wk.keep ?_ | refine Wk.drop ?_)
section
variable {P : Program} {w : World} {K : PySem.W.Frag} {mg : Str → Option Value} {base : Heap} {f : Addr} {fd : FuncData} {a_WrongTimes : Addr}
def keyN (t : List Nat) : List Key := t.map fun n : Nat => Sum.inl (n : Int)
theorem keyN_D (t : List Nat) : keyT (keyN t) = tD t := by simp [keyT, keyN, tD, dN, keyD, List.map_map]
theorem keyN_inj : ∀ {t u : List Nat}, keyN t = keyN u → t = u
  | [], [], _ => rfl
  | [], _ :: _, h => by cases h
  | _ :: _, [], h => by cases h
  | a :: t, b :: u, h => by
    unfold keyN at h
    rw [List.map_cons, List.map_cons, List.cons.injEq] at h
    have h1 : a = b := by have := h.1; simp at this; omega
    rw [h1, keyN_inj (t := t) (u := u) h.2]
section
variable {κ : Type} [DecidableEq κ]
theorem val_put (ds : List (κ × D)) (k k' : κ) (d : D) : valD (putD ds k d) k' = if k' = k then some d else valD ds k' := by
  unfold putD
  split
  · rename_i h
    induction ds with
    | nil => simp at h
    | cons p l ih =>
      obtain ⟨a, x⟩ := p
      rw [List.map_cons]
      by_cases e : a = k
      · subst e
        rw [if_pos rfl]
        by_cases e2 : a = k'
        · subst e2; simp [valD]
        · have e3 : ¬ k' = a := fun z => e2 z.symm
          rw [if_neg e3]
          have key : ∀ l : List (κ × D), valD (l.map fun kv => if kv.1 = a then (kv.1, d) else kv) k' = valD l k' := fun l => by
            induction l with
            | nil => rfl
            | cons q l ih2 =>
              obtain ⟨b, y⟩ := q
              rw [List.map_cons]
              by_cases e4 : b = a
              · subst e4
                rw [if_pos rfl]
                simp only [valD, List.find?_cons, e2, decide_false] at ih2 ⊢
                exact ih2
              · rw [if_neg e4]
                by_cases e5 : b = k'
                · simp [valD, e5]
                · simp only [valD, List.find?_cons, e5, decide_false] at ih2 ⊢
                  exact ih2
          have := key l
          simp only [valD, List.find?_cons, e2, decide_false] at this ⊢
          exact this
      · rw [if_neg e]
        have h2 : (l.any fun kv => decide (kv.1 = k)) = true := by simpa [e] using h
        have ih := ih h2
        by_cases e2 : a = k'
        · subst e2
          rw [if_neg e]
          simp [valD]
        · simp only [valD, List.find?_cons, e2, decide_false] at ih ⊢
          exact ih
  · rename_i h
    have hn : ∀ p ∈ ds, p.1 ≠ k := fun p hp z => h (by rw [List.any_eq_true]; exact ⟨p, hp, by simp [z]⟩)
    unfold valD
    rw [List.find?_append]
    by_cases e : k' = k
    · subst e
      have : ds.find? (fun kv => decide (kv.1 = k')) = none := by
        rw [List.find?_eq_none]
        intro p hp
        simp [hn p hp]
      rw [this]
      simp
    · have e2 : ¬ k = k' := fun z => e z.symm
      simp [e, e2]
theorem put_len (ds : List (κ × D)) (k : κ) (d : D) : (putD ds k d).length ≤ ds.length + 1 := by
  unfold putD
  split <;> simp
end
/-- the dict counts the teams -/
def Tal (ds : List (List Key × D)) (ts : List (List Nat)) : Prop := ds.length ≤ ts.length ∧ ∀ t : List Nat, valD ds (keyN t) = if ts.count t = 0 then none else some (.int (ts.count t : Nat))
theorem Tal.nil : Tal [] [] := ⟨Nat.le_refl _, fun t => rfl⟩
theorem Tal.get {ds : List (List Key × D)} {ts : List (List Nat)} (h : Tal ds ts) (t : List Nat) : (valD ds (keyN t)).getD (.int 0) = .int (ts.count t : Nat) := by
  rw [h.2 t]
  split
  · rename_i e; rw [e]; rfl
  · rfl
theorem Tal.put {ds : List (List Key × D)} {ts : List (List Nat)} (h : Tal ds ts) (t : List Nat) : Tal (putD ds (keyN t) (.int ((ts.count t : Nat) + 1))) (ts ++ [t]) := by
  refine ⟨Nat.le_trans (put_len _ _ _) (by have := h.1; simp; omega), fun u => ?_⟩
  rw [val_put]
  by_cases e : u = t
  · subst e
    rw [if_pos rfl]
    simp [List.count_append]
  · have e2 : keyN u ≠ keyN t := fun z => e (keyN_inj z)
    rw [if_neg e2, h.2 u]
    have : (ts ++ [t]).count u = ts.count u := by
      rw [List.count_append, List.count_cons_of_ne (fun z => e z.symm)]
      simp
    rw [this]
def rwD (r : List (List Nat)) : D := .lst (r.map tD)

def rwT (r : List (List Nat)) : D := .tup (r.map tD)
def C_check_times : Fc := fun _ W m ss Φ Ξ => ∃ (n : Nat) (gs : List (Nat × Nat)) (rs : List (List (List Nat))) (d : D), ss = [.dat (.int n), .dat (.dic (gD gs)), .dat d] ∧ (d = .lst (rs.map rwD) ∨ d = .tup (rs.map rwT)) ∧ n ≤ 10 ∧ GGm n gs ∧ rs.flatten.length ≤ 10000 ∧ (∀ t ∈ ET n gs, gv gs t.length = some (rs.flatten.count t)) ∧ Φ m (.dat .non)

end
end Pf
set_option Elab.async false
set_option linter.all false
set_option maxRecDepth 100000
set_option maxHeartbeats 1000000
namespace Pf
open PySem PySem.Spec PyProof.Rows L2 DL
local macro_rules | `(tactic| walk_at "len") => `(tactic| with_unfolding_all first | exact Nat.le_of_ble_eq_true rfl | (simp; done) | (simp; omega))
local macro_rules | `(tactic| walk_at "side") => `(tactic| with_unfolding_all first | exact Or.inr ⟨by omega, by omega⟩ | exact Or.inl ⟨by omega, by omega⟩ | exact ⟨by omega, by omega⟩ | exact ⟨by omega, by omega, by omega⟩ | (show (0 : Int) < _; omega) | decide)
local macro_rules | `(tactic| walk_at "d1") => `(tactic| with_reducible first
  | (refine ds_seq ?_; try dsimp only [List.set_cons_zero, List.set_cons_succ, List.cons_append, List.nil_append, O.frz])
  | refine ds_asg ?_
  | refine ds_ret ?_
  | refine ds_retN ?_
  | refine ds_next ?_
  | refine ds_dropC ?_
  | refine ds_drop0 ?_
  | refine ds_dropB ?_
  | refine ds_if ?_
  | refine dt_test ?_
  | refine dt_B ?_
  | refine dt_not ?_
  | refine dt_and ?_
  | refine dt_or ?_
  | refine dt_yes ?_
  | refine de_int ?_
  | refine de_bl ?_
  | refine de_str ?_
  | refine de_non ?_
  | refine de_varD (by with_unfolding_all rfl) ?_
  | refine de_varO (by with_unfolding_all rfl) ?_
  | refine de_varA (by with_unfolding_all rfl) ?_
  | refine de_varV (by with_unfolding_all rfl) ?_
  | refine de_isi ?_
  | refine de_dget ?_
  | refine de_dget2 ?_
  | refine de_dnotin ?_
  | refine de_din ?_
  | refine de_dnew ?_
  | refine de_dnewT ?_
  | refine de_cb ?_
  | refine de_call0G ?_
  | refine de_callG ?_
  | refine de_andB ?_
  | refine de_orB ?_
  | refine de_notV ?_
  | refine de_ifE ?_
  | refine de_chain ?_
  | refine de_op ?_
  | refine de_neg ?_
  | refine de_tupG ?_
  | refine de_lstG ?_
  | refine de_slL ?_
  | refine de_slT ?_
  | refine do_none ?_
  | refine do_some ?_
  | refine daf_cons ?_
  | refine daf_nil ?_
  | refine daf_star ?_
  | refine da_cons ?_
  | refine da_nil ?_
  | refine lk_dat ?_
  | refine lk_nil ?_
  | refine ak_dat ?_
  | refine ak_nil ?_
  | refine ak_at ?_
  | refine ak_lst ?_
  | refine lk_lst ?_
  | refine ak_dK ?_
  | refine ak_dT ?_
  | refine ak_vw ?_
  | refine lk_dT ?_
  | refine lk_dK ?_
  | refine da_star ?_
  | refine de_lstRg1 ?_
  | refine de_lstRg2 ?_
  | refine de_revL ?_
  | refine de_count ?_
  | refine de_index ?_
  | refine di_enum ?_
  | refine dt_tru ?_
  | refine de_fld ?_
  | refine de_prop ?_
  | refine di_rng1 ?_
  | refine di_rng2 ?_
  | refine di_list ?_
  | refine di_tup ?_
  | refine di_seq ?_
  | refine di_zip ?_
  | refine ops_int ?_
  | (refine ops_cat (by with_unfolding_all rfl) (by with_unfolding_all rfl) ?side ?_; (case side => walk_at "len"))
  | (refine ops_catA ?side ?_; (case side => walk_at "len"))
  | refine ops_eqI ?_
  | refine ops_neI ?_
  | refine ops_bool ?_
  | (refine ops_intC ?side ?_; (case side => walk_at "side"))
  | refine cb_lenL (by with_unfolding_all rfl) ?_
  | refine cb_lenT (by with_unfolding_all rfl) ?_
  | refine cb_lenK (by with_unfolding_all rfl) ?_
  | refine cb_max2 ?_
  | refine cb_min2 ?_
  | refine cb_int ?_
  | refine ⟨fun _ => ?_, fun z => Bool.noConfusion z⟩
  | refine ⟨fun z => Bool.noConfusion z, fun _ => ?_⟩
  | refine ⟨rfl, ?_⟩
  | refine ⟨_, rfl, ?_⟩
  | refine ⟨_, Or.inl (by with_unfolding_all rfl), ?_⟩
  | (with_unfolding_all refine ⟨_, true, rfl, rfl, (fun _ z => by cases z), rfl, ?_⟩)
  | (with_unfolding_all refine ⟨_, false, rfl, rfl, (fun _ z => by cases z), rfl, ?_⟩))
local macro_rules | `(tactic| walk_at "d") => `(tactic| repeat walk_at "d1")
local macro_rules | `(tactic| walk_at "wk") => `(tactic| repeat first | exact Wk.nil | refine Wk.keep ?_ | refine Wk.drop ?_)
section
variable {P : Program} {w : World} {K : PySem.W.Frag} {mg : Str → Option Value} {base : Heap} {f : Addr} {fd : FuncData}
/-- a list or a tuple, as rows -/
def sqD : D → Option (List D)
  | .lst ds => some ds
  | .tup ds => some ds
  | _ => none
/-- neither a script nor a dict with tuple keys -/
def ask2 (d : D) : Prop := ask d ∧ ∀ ns, d ≠ .scr ns
def rowOk (d : D) : Bool := match sqD d with
  | some (_ :: _) => true
  | _ => false
def flatR (rows : List D) : List D := rows.flatMap fun r => (sqD r).getD []
def intOf : D → Int
  | .int i => i
  | _ => 0
def parts (n : Nat) (d : D) : Bool := match sqD d with
  | some rows => rows.all rowOk && ((flatR rows).all (fun x => btw x 0 ((n : Int) - 1)) && decide (srt ((flatR rows).map intOf) = (List.range n).map fun i : Nat => (i : Int)))
  | none => false
structure AskP (d : D) : Prop where
  a1 : ask2 d
  a2 : ∀ rows, sqD d = some rows → rows.length ≤ 1000 ∧ ∀ r ∈ rows, ask2 r ∧ ∀ xs, sqD r = some xs → xs.length ≤ 100 ∧ ∀ x ∈ xs, ask x
theorem sqD_isL {d : D} (h : ask2 d) : isL d = (sqD d).isSome := by
  cases d <;> first | rfl | exact absurd rfl (h.2 _)
theorem sq_seq {d : D} {rows : List D} (h : sqD d = some rows) : (S.dat d).frz.seq? = some rows := by
  cases d <;> first | exact h | cases h
theorem flatR_len {rows : List D} {n : Nat} (h : ∀ r ∈ rows, ∀ xs, sqD r = some xs → xs.length ≤ n) : (flatR rows).length ≤ rows.length * n := by
  induction rows with
  | nil => simp [flatR]
  | cons r rows ih =>
    have h1 := ih fun x hx => h x (by simp [hx])
    have h2 : ((sqD r).getD []).length ≤ n := by
      cases e : sqD r with
      | none => simp
      | some xs => exact h r (by simp) xs e
    unfold flatR at h1 ⊢
    rw [List.flatMap_cons, List.length_append, List.length_cons, Nat.succ_mul]
    omega
theorem rng_ints (n : Nat) : rngD 0 n = ((List.range n).map fun i : Nat => (i : Int)).map D.int := by
  unfold rngD
  rw [List.map_map]
  apply List.map_congr_left
  intro i _
  simp

def C_parts_people : Fc := fun _ W m ss Φ Ξ => ∃ (n : Nat) (d : D) (b : Bool), ss = [.dat (.int n), .dat d] ∧ n ≤ 10 ∧ AskP d ∧ parts n d = b ∧ Φ m (.dat (.bl b))

end
end Pf
set_option Elab.async false
set_option linter.all false
set_option maxRecDepth 100000
set_option maxHeartbeats 1000000
namespace Pf
open PySem PySem.Spec PyProof.Rows L2 DL
local macro_rules | `(tactic| walk_at "len") => `(tactic| with_unfolding_all first | exact Nat.le_of_ble_eq_true rfl | (simp; done) | (simp; omega))
local macro_rules | `(tactic| walk_at "side") => `(tactic| with_unfolding_all first | exact Or.inr ⟨by omega, by omega⟩ | exact Or.inl ⟨by omega, by omega⟩ | exact ⟨by omega, by omega⟩ | exact ⟨by omega, by omega, by omega⟩ | (show (0 : Int) < _; omega) | decide)
local macro_rules | `(tactic| walk_at "d1") => `(tactic| with_reducible first
  | (refine ds_seq ?_; try dsimp only [List.set_cons_zero, List.set_cons_succ, List.cons_append, List.nil_append, O.frz])
  | refine ds_asg ?_
  | refine ds_ret ?_
  | refine ds_retN ?_
  | refine ds_next ?_
  | refine ds_dropC ?_
  | refine ds_drop0 ?_
  | refine ds_dropB ?_
  | refine ds_if ?_
  | refine dt_test ?_
  | refine dt_B ?_
  | refine dt_not ?_
  | refine dt_and ?_
  | refine dt_or ?_
  | refine dt_yes ?_
  | refine de_int ?_
  | refine de_bl ?_
  | refine de_str ?_
  | refine de_non ?_
  | refine de_varD (by with_unfolding_all rfl) ?_
  | refine de_varO (by with_unfolding_all rfl) ?_
  | refine de_varA (by with_unfolding_all rfl) ?_
  | refine de_varV (by with_unfolding_all rfl) ?_
  | refine de_isi ?_
  | refine de_dget ?_
  | refine de_dget2 ?_
  | refine de_dnotin ?_
  | refine de_din ?_
  | refine de_dnew ?_
  | refine de_dnewT ?_
  | refine de_cb ?_
  | refine de_call0G ?_
  | refine de_callG ?_
  | refine de_andB ?_
  | refine de_orB ?_
  | refine de_notV ?_
  | refine de_ifE ?_
  | refine de_chain ?_
  | refine de_op ?_
  | refine de_neg ?_
  | refine de_tupG ?_
  | refine de_lstG ?_
  | refine de_slL ?_
  | refine de_slT ?_
  | refine do_none ?_
  | refine do_some ?_
  | refine daf_cons ?_
  | refine daf_nil ?_
  | refine daf_star ?_
  | refine da_cons ?_
  | refine da_nil ?_
  | refine lk_dat ?_
  | refine lk_nil ?_
  | refine ak_dat ?_
  | refine ak_nil ?_
  | refine ak_at ?_
  | refine ak_lst ?_
  | refine lk_lst ?_
  | refine ak_dK ?_
  | refine ak_dT ?_
  | refine ak_vw ?_
  | refine lk_dT ?_
  | refine lk_dK ?_
  | refine da_star ?_
  | refine de_lstRg1 ?_
  | refine de_lstRg2 ?_
  | refine de_revL ?_
  | refine de_count ?_
  | refine de_index ?_
  | refine di_enum ?_
  | refine dt_tru ?_
  | refine de_fld ?_
  | refine de_prop ?_
  | refine di_rng1 ?_
  | refine di_rng2 ?_
  | refine di_list ?_
  | refine di_tup ?_
  | refine di_seq ?_
  | refine di_zip ?_
  | refine ops_int ?_
  | (refine ops_cat (by with_unfolding_all rfl) (by with_unfolding_all rfl) ?side ?_; (case side => walk_at "len"))
  | (refine ops_catA ?side ?_; (case side => walk_at "len"))
  | refine ops_eqI ?_
  | refine ops_neI ?_
  | refine ops_bool ?_
  | (refine ops_intC ?side ?_; (case side => walk_at "side"))
  | refine cb_lenL (by with_unfolding_all rfl) ?_
  | refine cb_lenT (by with_unfolding_all rfl) ?_
  | refine cb_lenK (by with_unfolding_all rfl) ?_
  | refine cb_max2 ?_
  | refine cb_min2 ?_
  | refine cb_int ?_
  | refine ⟨fun _ => ?_, fun z => Bool.noConfusion z⟩
  | refine ⟨fun z => Bool.noConfusion z, fun _ => ?_⟩
  | refine ⟨rfl, ?_⟩
  | refine ⟨_, rfl, ?_⟩
  | refine ⟨_, Or.inl (by with_unfolding_all rfl), ?_⟩
  | (with_unfolding_all refine ⟨_, true, rfl, rfl, (fun _ z => by cases z), rfl, ?_⟩)
  | (with_unfolding_all refine ⟨_, false, rfl, rfl, (fun _ z => by cases z), rfl, ?_⟩))
local macro_rules | `(tactic| walk_at "d") => `(tactic| repeat walk_at "d1")
local macro_rules | `(tactic| walk_at "wk") => `(tactic| repeat first | exact Wk.nil | refine Wk.keep ?_ | refine Wk.drop ?_)
local macro_rules | `(tactic| walk_at "l1") => `(tactic| with_reducible first
  | (refine ds_seq ?_; try dsimp only [List.set_cons_zero, List.set_cons_succ, List.cons_append, List.nil_append, O.frz])
  | refine ds_asg ?_
  | refine ds_ret ?_
  | refine ds_retN ?_
  | refine ds_next ?_
  | refine ds_dropC ?_
  | refine ds_drop0 ?_
  | refine ds_dropB ?_
  | refine ds_if ?_
  | refine dt_test ?_
  | refine dt_B ?_
  | refine dt_not ?_
  | refine dt_and ?_
  | refine dt_or ?_
  | refine dt_yes ?_
  | refine de_int ?_
  | refine de_bl ?_
  | refine de_str ?_
  | refine de_non ?_
  | refine de_varD (by with_unfolding_all rfl) ?_
  | refine de_varO (by with_unfolding_all rfl) ?_
  | refine de_varA (by with_unfolding_all rfl) ?_
  | refine de_varV (by with_unfolding_all rfl) ?_
  | refine de_isi ?_
  | refine de_dget ?_
  | refine de_dget2 ?_
  | refine de_dnotin ?_
  | refine de_din ?_
  | refine de_dnew ?_
  | refine de_dnewT ?_
  | refine de_cb ?_
  | refine de_lend ?_
  | refine de_andB ?_
  | refine de_orB ?_
  | refine de_notV ?_
  | refine de_ifE ?_
  | refine de_chain ?_
  | refine de_op ?_
  | refine de_neg ?_
  | refine de_tupG ?_
  | refine de_lstG ?_
  | refine de_slL ?_
  | refine de_slT ?_
  | refine do_none ?_
  | refine do_some ?_
  | refine daf_cons ?_
  | refine daf_nil ?_
  | refine daf_star ?_
  | refine da_cons ?_
  | refine da_nil ?_
  | refine lk_dat ?_
  | refine lk_nil ?_
  | refine ak_dat ?_
  | refine ak_nil ?_
  | refine ak_at ?_
  | refine ak_lst ?_
  | refine lk_lst ?_
  | refine ak_dK ?_
  | refine ak_dT ?_
  | refine ak_vw ?_
  | refine lk_dT ?_
  | refine lk_dK ?_
  | refine da_star ?_
  | refine de_lstRg1 ?_
  | refine de_lstRg2 ?_
  | refine de_revL ?_
  | refine de_count ?_
  | refine de_index ?_
  | refine di_enum ?_
  | refine dt_tru ?_
  | refine de_fld ?_
  | refine de_prop ?_
  | refine di_rng1 ?_
  | refine di_rng2 ?_
  | refine di_list ?_
  | refine di_tup ?_
  | refine di_seq ?_
  | refine di_zip ?_
  | refine ops_int ?_
  | (refine ops_cat (by with_unfolding_all rfl) (by with_unfolding_all rfl) ?side ?_; (case side => walk_at "len"))
  | (refine ops_catA ?side ?_; (case side => walk_at "len"))
  | refine ops_eqI ?_
  | refine ops_neI ?_
  | refine ops_bool ?_
  | (refine ops_intC ?side ?_; (case side => walk_at "side"))
  | refine cb_lenL (by with_unfolding_all rfl) ?_
  | refine cb_lenT (by with_unfolding_all rfl) ?_
  | refine cb_lenK (by with_unfolding_all rfl) ?_
  | refine cb_max2 ?_
  | refine cb_min2 ?_
  | refine cb_int ?_
  | refine ⟨fun _ => ?_, fun z => Bool.noConfusion z⟩
  | refine ⟨fun z => Bool.noConfusion z, fun _ => ?_⟩
  | refine ⟨rfl, ?_⟩
  | refine ⟨_, rfl, ?_⟩
  | refine ⟨_, Or.inl (by with_unfolding_all rfl), ?_⟩
  | (with_unfolding_all refine ⟨_, true, rfl, rfl, (fun _ z => by cases z), rfl, ?_⟩)
  | (with_unfolding_all refine ⟨_, false, rfl, rfl, (fun _ z => by cases z), rfl, ?_⟩))
local macro_rules | `(tactic| walk_at "l") => `(tactic| repeat walk_at "l1")
section
variable {P : Program} {w : World} {K : PySem.W.Frag} {mg : Str → Option Value} {base : Heap} {f : Addr} {fd : FuncData} {a_Plan a_BadRounds a_BadTeam a_WrongTimes a_BadPeople a_BadGames a_TooMany : Addr}
/-- a plan: people, games, rows in order -/
def planF (n : Nat) (gs : List (Nat × Nat)) (rs : List (List (List Nat))) : List (Str × D) := [("own_people", .int n), ("own_games", .dic (gD gs)), ("rows", .lst (rs.map rwD))]
theorem ne1 : (("own_people" : Str) == "own_games") = false := by decide +kernel
theorem ne2 : (("rows" : Str) == "own_people") = false := by decide +kernel
theorem ne3 : (("rows" : Str) == "own_games") = false := by decide +kernel
theorem ne4 : ¬ (("own_people" : Str) = "own_games") := by decide +kernel
theorem ne5 : ¬ (("own_people" : Str) = "rows") := by decide +kernel
theorem ne6 : ¬ (("own_games" : Str) = "rows") := by decide +kernel
theorem pl_people (n : Nat) (gs : List (Nat × Nat)) (rs : List (List (List Nat))) : (planF n gs rs).lookup ("own_people" : Str) = some (.int n) := by
  unfold planF
  rw [List.lookup_cons, beq_self_eq_true]
theorem pl_rows (n : Nat) (gs : List (Nat × Nat)) (rs : List (List (List Nat))) : (planF n gs rs).lookup ("rows" : Str) = some (.lst (rs.map rwD)) := by
  unfold planF
  rw [List.lookup_cons, ne2]
  show List.lookup _ _ = _
  rw [List.lookup_cons, ne3]
  show List.lookup _ _ = _
  rw [List.lookup_cons, beq_self_eq_true]
theorem pl_len (n : Nat) (d : D) : (putD' "own_games" d (putD' "own_people" (.int n) [])).length ≤ 2 := by
  show (if ("own_people" : Str) = "own_games" then [(("own_people" : Str), d)] else (("own_people" : Str), D.int n) :: putD' "own_games" d []).length ≤ 2
  split
  · show 1 ≤ 2; decide
  · show 2 ≤ 2; decide
theorem pl_make (n : Nat) (gs : List (Nat × Nat)) (rs : List (List (List Nat))) : putD' "rows" (.lst (rs.map rwD)) (putD' "own_games" (.dic (gD gs)) (putD' "own_people" (.int n) [])) = planF n gs rs := by
  have e1 : putD' "own_people" (.int n) [] = [(("own_people" : Str), D.int n)] := rfl
  rw [e1]
  have e2 : putD' "own_games" (.dic (gD gs)) [(("own_people" : Str), D.int n)] = [(("own_people" : Str), D.int n), (("own_games" : Str), D.dic (gD gs))] := by
    show (if ("own_people" : Str) = "own_games" then _ else (("own_people" : Str), D.int n) :: putD' "own_games" (.dic (gD gs)) []) = _
    rw [if_neg ne4]
    rfl
  rw [e2]
  show (if ("own_people" : Str) = "rows" then _ else (("own_people" : Str), D.int n) :: (if ("own_games" : Str) = "rows" then _ else (("own_games" : Str), D.dic (gD gs)) :: putD' "rows" (.lst (rs.map rwD)) [])) = _
  rw [if_neg ne5, if_neg ne6]
  rfl

def C_Plan_people (C : Addr) : Fc := fun _ W m ss Φ Ξ => ∃ n gs rs, ss = [.dat (.ins C (planF n gs rs))] ∧ Φ m (.dat (.int (n : Nat)))

abbrev s_Plan_people : Stmt := (inClass (top 41) 1)
abbrev N_Plan_people : List Str := ["self"]
theorem sc_Plan_people : FnScope N_Plan_people ["self"] (defScope s_Plan_people) := ⟨rfl, rfl, rfl, by decide +kernel, rfl, by decide +kernel, by decide +kernel⟩
theorem ok_Plan_people (F : FunD K "people" "Plan.people" (defArgs s_Plan_people) (defBody s_Plan_people) (defScope s_Plan_people) [] [] f fd) (b : BI mg) (i_Plan : Ci K a_Plan ["own_people", "own_games", "rows"]) : FnOk P w K mg base CX0 1 f fd ["self"] (spF K (C_Plan_people a_Plan)) := by
  have hlen := spF_len (K := K) (C := (C_Plan_people a_Plan)) (m := 1) fun κ W m ss Φ Ξ ⟨n, gs, rs, e, _⟩ => by first | exact e | (rw [e]; rfl)
  refine F.ok sc_Plan_people hlen ?_
  intro cdv A outer s H vs Q E hr h
  refine ⟨_, PSs.nox (pss_one (ps_ret (k_fld (K := K) rfl (pv 0)))), ?_⟩
  refine DL.run_fnP  [] (Nm := N_Plan_people) (n := 1) (k := 0) rfl (hlen _ _ _ _ h) rfl h fun κ W m ss Φ Ξ G hc => ?_
  try dsimp only [cxOf, Cx.nox, Cx.wish, Cx.blk]
  obtain ⟨n, gs, rs, rfl, hΦ⟩ := hc
  walk_at "d"
  exact ⟨_, _, _, rfl, i_Plan.cl, i_Plan.no _ (by simp), pl_people n gs rs, rfl, hΦ⟩
/-- a row as an item of an own list -/
def rowI (r : List (List Nat)) : DL.It := .o (.lst (r.map tD))
theorem nest_row (rs : List (List (List Nat))) : (O.nest (rs.map rowI)).frz = .lst (rs.map rwD) := by
  show D.lst ((rs.map rowI).map DL.It.frz) = _
  rw [List.map_map]
  rfl
def decT : D → List Nat
  | .tup ds => ds.map fun d => (intOf d).toNat
  | _ => []
def decR : D → List (List Nat)
  | .lst ds => ds.map decT
  | _ => []
theorem decT_eq (t : List Nat) : decT (tD t) = t := by
  show (dN t).map (fun d => (intOf d).toNat) = t
  unfold dN
  rw [List.map_map]
  conv => rhs; rw [← List.map_id t]
  apply List.map_congr_left
  intro x _
  simp [intOf]
theorem decR_eq (r : List (List Nat)) : decR (rwD r) = r := by
  show (r.map tD).map decT = r
  rw [List.map_map]
  conv => rhs; rw [← List.map_id r]
  apply List.map_congr_left
  intro x _
  exact decT_eq x


def C_Plan_rounds (C : Addr) : Fc := fun _ W m ss Φ Ξ => ∃ n gs rs, ss = [.dat (.ins C (planF n gs rs))] ∧ rs.length ≤ 1000 ∧ Φ m (.own (.nest (rs.map rowI)))

abbrev s_Plan_rounds : Stmt := (inClass (top 41) 3)
abbrev N_Plan_rounds : List Str := ["self", "row"]
theorem sc_Plan_rounds : FnScope N_Plan_rounds ["self"] (defScope s_Plan_rounds) := ⟨rfl, rfl, rfl, by decide +kernel, rfl, by decide +kernel, by decide +kernel⟩
theorem ok_Plan_rounds (F : FunD K "rounds" "Plan.rounds" (defArgs s_Plan_rounds) (defBody s_Plan_rounds) (defScope s_Plan_rounds) [] [] f fd) (b : BI mg) (i_Plan : Ci K a_Plan ["own_people", "own_games", "rows"]) : FnOk P w K mg base CX0 1 f fd ["self"] (spF K (C_Plan_rounds a_Plan)) := by
  have hlen := spF_len (K := K) (C := (C_Plan_rounds a_Plan)) (m := 1) fun κ W m ss Φ Ξ ⟨n, gs, rs, e, _⟩ => by first | exact e | (rw [e]; rfl)
  refine F.ok sc_Plan_rounds hlen ?_
  intro cdv A outer s H vs Q E hr h
  refine ⟨_, PSs.nox (pss_one (ps_ret (pe_lc (own := [("row", 1)]) rfl sc_Plan_rounds.nd (k_piL (K := K) rfl (k_fld (K := K) rfl (pv 0))) (blkOk_by (own := [("row", 1)]) (N := N_Plan_rounds) (sc := (defScope s_Plan_rounds)) (by decide +kernel)) (fun _ _ _ _ _ => (pg_name (i := 1) sc_Plan_rounds.nd rfl (by first | exact Or.inl rfl | exact Or.inr rfl))) (fun _ _ _ _ _ => pts_nil) (fun _ _ _ _ _ => (pe_callTy (k_listOf (K := K) rfl) rfl b.list_ boot_list (pa_cons (pv 1) pa_nil)))))), ?_⟩
  refine DL.run_fnP  [.no] (Nm := N_Plan_rounds) (n := 1) (k := 1) rfl (hlen _ _ _ _ h) rfl h fun κ W m ss Φ Ξ G hc => ?_
  try dsimp only [cxOf, Cx.nox, Cx.wish, Cx.blk]
  obtain ⟨n, gs, rs, rfl, hl, hΦ⟩ := hc
  walk_at "d"
  refine de_lcNM (f := fun d => .lst ((decR d).map tD)) ?_
  walk_at "d"
  refine ⟨_, _, _, rfl, i_Plan.cl, i_Plan.no _ (by simp), pl_rows n gs rs, ?_⟩
  walk_at "d"
  refine ⟨by rw [List.length_map]; omega, fun d hd => ⟨_, dg_name (by simp), ?_⟩, ?_⟩
  · obtain ⟨r, _, rfl⟩ := List.mem_map.mp hd
    walk_at "d"
    refine cb_list (.inl rfl) ?_
    rw [decR_eq]
    exact ⟨rfl, rfl⟩
  · have e : ((rs.map rwD).map fun d => DL.It.o (.lst ((decR d).map tD))) = rs.map rowI := by
      rw [List.map_map]
      apply List.map_congr_left
      intro r _
      show DL.It.o (.lst ((decR (rwD r)).map tD)) = _
      rw [decR_eq]
      rfl
    rw [e]
    exact ⟨rfl, hΦ⟩
/-- the games in order of their sizes -/
def srG (gs : List (Nat × Nat)) : List (Nat × Nat) := (srtN (gs.map (·.1))).map fun k => (k, (gv gs k).getD 0)
theorem srtN_nodup {l : List Nat} (h : l.Nodup) : (srtN l).Nodup := by
  unfold srtN
  have p := srt_perm (l.map fun n : Nat => (n : Int))
  have h2 : (l.map fun n : Nat => (n : Int)).Nodup := by
    rw [List.Nodup, List.pairwise_map]
    exact List.Pairwise.imp (fun {a b} h z => h (by omega)) h
  have h3 : (srt (l.map fun n : Nat => (n : Int))).Nodup := p.nodup_iff.mpr h2
  rw [List.Nodup, List.pairwise_map]
  refine List.Pairwise.imp_of_mem (fun {a b} ha hb h z => h ?_) h3
  obtain ⟨x, _, rfl⟩ := List.mem_map.mp (p.mem_iff.mp ha)
  obtain ⟨y, _, rfl⟩ := List.mem_map.mp (p.mem_iff.mp hb)
  simp at z
  omega
theorem putD_new {ks : List (Nat × Nat)} {k v : Nat} (h : k ∉ ks.map (·.1)) : putD (gD ks) (Sum.inl (k : Int)) (.int (v : Nat)) = gD (ks ++ [(k, v)]) := by
  unfold putD
  rw [if_neg]
  · simp [gD]
  · rw [List.any_eq_true]
    rintro ⟨p, hp, e⟩
    obtain ⟨a, b, hab, rfl⟩ := gD_mem hp
    simp at e
    have : a = k := by omega
    exact h (by rw [← this]; exact List.mem_map.mpr ⟨_, hab, rfl⟩)
/-- the rows, each in order -/
def orR (r : List (List Nat)) : List (List Nat) := (ordD r).map decT
theorem orR_D (r : List (List Nat)) : ordD r = (orR r).map tD := by
  obtain ⟨us, _, e⟩ := ordD_us r
  unfold orR
  rw [e, List.map_map, List.map_map]
  apply List.map_congr_left
  intro t _
  show tD t = tD (decT (tD t))
  rw [decT_eq]
theorem orR_perm (r : List (List Nat)) : (orR r).Perm r := by
  obtain ⟨us, p, e⟩ := ordD_us r
  have : orR r = us := by
    unfold orR
    rw [e, List.map_map]
    conv => rhs; rw [← List.map_id us]
    apply List.map_congr_left
    intro x _
    exact decT_eq x
  rw [this]; exact p
structure GoodP (n : Nat) (gs : List (Nat × Nat)) (rs : List (List (List Nat))) : Prop where
  n1 : 1 ≤ n
  n10 : n ≤ 10
  gg : GGm n gs
  tt : tot n gs ≤ 130
  r1 : 1 ≤ rs.length
  r2 : rs.length ≤ 130
  len : rs.flatten.length ≤ 10000
  tm : ∀ r ∈ rs, ∀ t ∈ r, Team n t ∧ (gv gs t.length).isSome = true
  cnt : ∀ t ∈ ET n gs, gv gs t.length = some (rs.flatten.count t)
def decR2 : D → List (List Nat)
  | .tup ds => ds.map decT
  | _ => []
theorem decR2_eq (r : List (List Nat)) : decR2 (rwT r) = r := by
  show (r.map tD).map decT = r
  rw [List.map_map]
  conv => rhs; rw [← List.map_id r]
  apply List.map_congr_left
  intro x _
  exact decT_eq x
theorem flat_ord (r : List (List Nat)) : retOk (.own (.lst (ordD r))) = true := by
  show (ordD r).all flatD = true
  rw [orR_D, List.all_eq_true]
  intro d hd
  obtain ⟨t, _, rfl⟩ := List.mem_map.mp hd
  show (dN t).all atomD = true
  rw [List.all_eq_true]
  intro x hx
  obtain ⟨n, _, rfl⟩ := dN_mem hx
  rfl


/-- what may be passed as rounds, beside what may be passed as games -/
inductive Pass (gs : List (Nat × Nat)) (rs : List (List (List Nat))) : S → S → Prop
  | l : Pass gs rs (.dat (.dic (gD gs))) (.dat (.lst (rs.map rwD)))
  | t : Pass gs rs (.dat (.dic (gD gs))) (.dat (.tup (rs.map rwT)))
  | v : Pass gs rs (.vw (.one (.dK (gD gs)))) (.vw (.nest (rs.map rowI)))
def C_Plan___init (K : PySem.W.Frag) (C : Addr) : Fc := fun _ W m ss Φ Ξ => ∃ (a : Addr) (L : Ins K W a C) (n : Nat) (gs : List (Nat × Nat)) (rs : List (List (List Nat))) (s2 s3 : S), ss = [.at_ a, .dat (.int n), s2, s3] ∧ Pass gs rs s2 s3 ∧ L.get m = [] ∧ GoodP n gs rs ∧ (∀ a, ¬ W.L a) ∧ Φ (L.put m (planF n (srG gs) (rs.map orR))) (.dat .non)

end
end Pf
set_option Elab.async false
set_option linter.all false
set_option maxRecDepth 100000
set_option maxHeartbeats 1000000
namespace Pf
open PySem PySem.Spec PyProof.Rows L2 DL
local macro_rules | `(tactic| walk_at "len") => `(tactic| with_unfolding_all first | exact Nat.le_of_ble_eq_true rfl | (simp; done) | (simp; omega))
local macro_rules | `(tactic| walk_at "side") => `(tactic| with_unfolding_all first | exact Or.inr ⟨by omega, by omega⟩ | exact Or.inl ⟨by omega, by omega⟩ | exact ⟨by omega, by omega⟩ | exact ⟨by omega, by omega, by omega⟩ | (show (0 : Int) < _; omega) | decide)
local macro_rules | `(tactic| walk_at "d1") => `(tactic| with_reducible first
  | (refine ds_seq ?_; try dsimp only [List.set_cons_zero, List.set_cons_succ, List.cons_append, List.nil_append, O.frz])
  | refine ds_asg ?_
  | refine ds_ret ?_
  | refine ds_retN ?_
  | refine ds_next ?_
  | refine ds_dropC ?_
  | refine ds_drop0 ?_
  | refine ds_dropB ?_
  | refine ds_if ?_
  | refine dt_test ?_
  | refine dt_B ?_
  | refine dt_not ?_
  | refine dt_and ?_
  | refine dt_or ?_
  | refine dt_yes ?_
  | refine de_int ?_
  | refine de_bl ?_
  | refine de_str ?_
  | refine de_non ?_
  | refine de_varD (by with_unfolding_all rfl) ?_
  | refine de_varO (by with_unfolding_all rfl) ?_
  | refine de_varA (by with_unfolding_all rfl) ?_
  | refine de_varV (by with_unfolding_all rfl) ?_
  | refine de_isi ?_
  | refine de_dget ?_
  | refine de_dget2 ?_
  | refine de_dnotin ?_
  | refine de_din ?_
  | refine de_dnew ?_
  | refine de_dnewT ?_
  | refine de_cb ?_
  | refine de_call0G ?_
  | refine de_callG ?_
  | refine de_andB ?_
  | refine de_orB ?_
  | refine de_notV ?_
  | refine de_ifE ?_
  | refine de_chain ?_
  | refine de_op ?_
  | refine de_neg ?_
  | refine de_tupG ?_
  | refine de_lstG ?_
  | refine de_slL ?_
  | refine de_slT ?_
  | refine do_none ?_
  | refine do_some ?_
  | refine daf_cons ?_
  | refine daf_nil ?_
  | refine daf_star ?_
  | refine da_cons ?_
  | refine da_nil ?_
  | refine lk_dat ?_
  | refine lk_nil ?_
  | refine ak_dat ?_
  | refine ak_nil ?_
  | refine ak_at ?_
  | refine ak_lst ?_
  | refine lk_lst ?_
  | refine ak_dK ?_
  | refine ak_dT ?_
  | refine ak_vw ?_
  | refine lk_dT ?_
  | refine lk_dK ?_
  | refine da_star ?_
  | refine de_lstRg1 ?_
  | refine de_lstRg2 ?_
  | refine de_revL ?_
  | refine de_count ?_
  | refine de_index ?_
  | refine di_enum ?_
  | refine dt_tru ?_
  | refine de_fld ?_
  | refine de_prop ?_
  | refine di_rng1 ?_
  | refine di_rng2 ?_
  | refine di_list ?_
  | refine di_tup ?_
  | refine di_seq ?_
  | refine di_zip ?_
  | refine ops_int ?_
  | (refine ops_cat (by with_unfolding_all rfl) (by with_unfolding_all rfl) ?side ?_; (case side => walk_at "len"))
  | (refine ops_catA ?side ?_; (case side => walk_at "len"))
  | refine ops_eqI ?_
  | refine ops_neI ?_
  | refine ops_bool ?_
  | (refine ops_intC ?side ?_; (case side => walk_at "side"))
  | refine cb_lenL (by with_unfolding_all rfl) ?_
  | refine cb_lenT (by with_unfolding_all rfl) ?_
  | refine cb_lenK (by with_unfolding_all rfl) ?_
  | refine cb_max2 ?_
  | refine cb_min2 ?_
  | refine cb_int ?_
  | refine ⟨fun _ => ?_, fun z => Bool.noConfusion z⟩
  | refine ⟨fun z => Bool.noConfusion z, fun _ => ?_⟩
  | refine ⟨rfl, ?_⟩
  | refine ⟨_, rfl, ?_⟩
  | refine ⟨_, Or.inl (by with_unfolding_all rfl), ?_⟩
  | (with_unfolding_all refine ⟨_, true, rfl, rfl, (fun _ z => by cases z), rfl, ?_⟩)
  | (with_unfolding_all refine ⟨_, false, rfl, rfl, (fun _ z => by cases z), rfl, ?_⟩))
local macro_rules | `(tactic| walk_at "d") => `(tactic| repeat walk_at "d1")
local macro_rules | `(tactic| walk_at "wk") => `(tactic| repeat first | exact Wk.nil | refine Wk.keep ?_ | refine Wk.drop ?_)
section
variable {P : Program} {w : World} {K : PySem.W.Frag} {mg : Str → Option Value} {base : Heap} {f : Addr} {fd : FuncData} {a_Plan a_BadClasses : Addr}
/-- how often each person plays in a round -/
def plR (n : Nat) (r : List (List Nat)) : List Nat := (List.range n).map fun p => r.flatten.count p
def plD (n : Nat) (rs : List (List (List Nat))) : List D := rs.map fun r => .lst (dN (plR n r))
structure SzP (n : Nat) (rs : List (List (List Nat))) : Prop where
  n10 : n ≤ 10
  rl : rs.length ≤ 1000
  fl : ∀ r ∈ rs, r.flatten.length ≤ 100000
def tupL (d : D) : List D := match d with
  | .tup ds => ds
  | _ => []
theorem tupL_eq (r : List (List Nat)) : ((r.map tD).flatMap fun d => ((tupL d).filter fun _ => true).map fun e => e) = dN r.flatten := by
  induction r with
  | nil => rfl
  | cons t r ih =>
    rw [List.map_cons, List.flatMap_cons, ih]
    simp [tupL, dN]
def cntF (l : List Nat) (d : D) : D := .int (((l.map fun n : Nat => (n : Int)).count (intOf d) : Nat))
theorem count_cast (l : List Nat) (p : Nat) : (l.map fun n : Nat => (n : Int)).count (p : Int) = l.count p := by
  induction l with
  | nil => rfl
  | cons a l ih =>
    rw [List.map_cons, List.count_cons, List.count_cons, ih]
    by_cases h : a = p
    · subst h; simp
    · have : ¬ ((a : Int) = p) := by omega
      simp [h, this]
theorem cntF_eq (n : Nat) (r : List (List Nat)) : (rngD 0 n).map (cntF r.flatten) = dN (plR n r) := by
  unfold rngD plR dN
  rw [List.map_map, List.map_map]
  apply List.map_congr_left
  intro p _
  show D.int _ = D.int _
  rw [show intOf (D.int (0 + ((p : Nat) : Int))) = (p : Int) by simp [intOf], count_cast]

def C_plays (C : Addr) : Fc := fun _ W m ss Φ Ξ => ∃ n gs rs, ss = [.dat (.ins C (planF n gs rs))] ∧ SzP n rs ∧ Φ m (.own (.lst (plD n rs)))

end
end Pf
set_option Elab.async false
set_option linter.all false
set_option maxRecDepth 100000
set_option maxHeartbeats 1000000
namespace Pf
open PySem PySem.Spec PyProof.Rows L2 DL
local macro_rules | `(tactic| walk_at "len") => `(tactic| with_unfolding_all first | exact Nat.le_of_ble_eq_true rfl | (simp; done) | (simp; omega))
local macro_rules | `(tactic| walk_at "side") => `(tactic| with_unfolding_all first | exact Or.inr ⟨by omega, by omega⟩ | exact Or.inl ⟨by omega, by omega⟩ | exact ⟨by omega, by omega⟩ | exact ⟨by omega, by omega, by omega⟩ | (show (0 : Int) < _; omega) | decide)
local macro_rules | `(tactic| walk_at "d1") => `(tactic| with_reducible first
  | (refine ds_seq ?_; try dsimp only [List.set_cons_zero, List.set_cons_succ, List.cons_append, List.nil_append, O.frz])
  | refine ds_asg ?_
  | refine ds_ret ?_
  | refine ds_retN ?_
  | refine ds_next ?_
  | refine ds_dropC ?_
  | refine ds_drop0 ?_
  | refine ds_dropB ?_
  | refine ds_if ?_
  | refine dt_test ?_
  | refine dt_B ?_
  | refine dt_not ?_
  | refine dt_and ?_
  | refine dt_or ?_
  | refine dt_yes ?_
  | refine de_int ?_
  | refine de_bl ?_
  | refine de_str ?_
  | refine de_non ?_
  | refine de_varD (by with_unfolding_all rfl) ?_
  | refine de_varO (by with_unfolding_all rfl) ?_
  | refine de_varA (by with_unfolding_all rfl) ?_
  | refine de_varV (by with_unfolding_all rfl) ?_
  | refine de_isi ?_
  | refine de_dget ?_
  | refine de_dget2 ?_
  | refine de_dnotin ?_
  | refine de_din ?_
  | refine de_dnew ?_
  | refine de_dnewT ?_
  | refine de_cb ?_
  | refine de_call0G ?_
  | refine de_callG ?_
  | refine de_andB ?_
  | refine de_orB ?_
  | refine de_notV ?_
  | refine de_ifE ?_
  | refine de_chain ?_
  | refine de_op ?_
  | refine de_neg ?_
  | refine de_tupG ?_
  | refine de_lstG ?_
  | refine de_slL ?_
  | refine de_slT ?_
  | refine do_none ?_
  | refine do_some ?_
  | refine daf_cons ?_
  | refine daf_nil ?_
  | refine daf_star ?_
  | refine da_cons ?_
  | refine da_nil ?_
  | refine lk_dat ?_
  | refine lk_nil ?_
  | refine ak_dat ?_
  | refine ak_nil ?_
  | refine ak_at ?_
  | refine ak_lst ?_
  | refine lk_lst ?_
  | refine ak_dK ?_
  | refine ak_dT ?_
  | refine ak_vw ?_
  | refine lk_dT ?_
  | refine lk_dK ?_
  | refine da_star ?_
  | refine de_lstRg1 ?_
  | refine de_lstRg2 ?_
  | refine de_revL ?_
  | refine de_count ?_
  | refine de_index ?_
  | refine di_enum ?_
  | refine dt_tru ?_
  | refine de_fld ?_
  | refine de_prop ?_
  | refine di_rng1 ?_
  | refine di_rng2 ?_
  | refine di_list ?_
  | refine di_tup ?_
  | refine di_seq ?_
  | refine di_zip ?_
  | refine ops_int ?_
  | (refine ops_cat (by with_unfolding_all rfl) (by with_unfolding_all rfl) ?side ?_; (case side => walk_at "len"))
  | (refine ops_catA ?side ?_; (case side => walk_at "len"))
  | refine ops_eqI ?_
  | refine ops_neI ?_
  | refine ops_bool ?_
  | (refine ops_intC ?side ?_; (case side => walk_at "side"))
  | refine cb_lenL (by with_unfolding_all rfl) ?_
  | refine cb_lenT (by with_unfolding_all rfl) ?_
  | refine cb_lenK (by with_unfolding_all rfl) ?_
  | refine cb_max2 ?_
  | refine cb_min2 ?_
  | refine cb_int ?_
  | refine ⟨fun _ => ?_, fun z => Bool.noConfusion z⟩
  | refine ⟨fun z => Bool.noConfusion z, fun _ => ?_⟩
  | refine ⟨rfl, ?_⟩
  | refine ⟨_, rfl, ?_⟩
  | refine ⟨_, Or.inl (by with_unfolding_all rfl), ?_⟩
  | (with_unfolding_all refine ⟨_, true, rfl, rfl, (fun _ z => by cases z), rfl, ?_⟩)
  | (with_unfolding_all refine ⟨_, false, rfl, rfl, (fun _ z => by cases z), rfl, ?_⟩))
local macro_rules | `(tactic| walk_at "d") => `(tactic| repeat walk_at "d1")
local macro_rules | `(tactic| walk_at "wk") => `(tactic| repeat first | exact Wk.nil | refine Wk.keep ?_ | refine Wk.drop ?_)
section
variable {P : Program} {w : World} {K : PySem.W.Frag} {mg : Str → Option Value} {base : Heap} {f : Addr} {fd : FuncData} {a_Plan a_BadClasses : Addr}
/-- an uneven part of a round -/
def unP (row part : List Nat) : Option (Nat × Nat) :=
  let ps := srtN part
  let ns := ps.map fun p => row.getD p 0
  match ns.max?, ns.min? with
  | some hi, some lo => if hi - lo > 1 then some (ps.getD (ns.idxOf lo) 0, ps.getD (ns.idxOf hi) 0) else none
  | _, _ => none
def unR (row : List Nat) : List (List Nat) → Option (Nat × Nat)
  | [] => none
  | p :: cl => match unP row p with
    | some x => some x
    | none => unR row cl
def unA (cl : List (List Nat)) : Nat → List (List Nat) → D
  | _, [] => .non
  | i, row :: rows => match unR row cl with
    | some (a, b) => .tup [.int (i : Nat), .int (a : Nat), .int (b : Nat)]
    | none => unA cl (i + 1) rows
def prt (r : D) : List Nat := ((sqD r).getD []).map fun x => (intOf x).toNat
def clOf (d : D) : List (List Nat) := ((sqD d).getD []).map prt
theorem parts_rows {n : Nat} {d : D} (h : parts n d = true) : ∃ rows, sqD d = some rows ∧ ∀ r ∈ rows, sqD r = some (dN (prt r)) ∧ prt r ≠ [] ∧ ∀ x ∈ prt r, x < n := by
  unfold parts at h
  cases hs : sqD d with
  | none => rw [hs] at h; cases h
  | some rows =>
    rw [hs] at h
    simp only [Bool.and_eq_true] at h
    obtain ⟨h1, h2, _⟩ := h
    refine ⟨rows, rfl, fun r hr => ?_⟩
    have ok := List.all_eq_true.mp h1 r hr
    cases hq : sqD r with
    | none => simp [rowOk, hq] at ok
    | some xs =>
      have hb : ∀ x ∈ xs, btw x 0 ((n : Int) - 1) = true := fun x hx => List.all_eq_true.mp h2 x (List.mem_flatMap.mpr ⟨r, hr, by rw [hq]; exact hx⟩)
      have ep : prt r = xs.map fun x => (intOf x).toNat := by unfold prt; rw [hq]; rfl
      refine ⟨?_, ?_, ?_⟩
      · rw [ep]
        unfold dN
        rw [List.map_map]
        congr 1
        conv => lhs; rw [← List.map_id xs]
        apply List.map_congr_left
        intro x hx
        have := hb x hx
        cases x <;> first | (cases this; done) | skip
        simp [btw] at this
        simp [intOf]
        omega
      · rw [ep]
        intro z
        rw [List.map_eq_nil_iff] at z
        rw [z] at hq
        simp [rowOk, hq] at ok
      · rw [ep]
        intro y hy
        obtain ⟨x, hx, rfl⟩ := List.mem_map.mp hy
        have := hb x hx
        cases x <;> first | (cases this; done) | skip
        simp [btw] at this
        simp [intOf]
        omega
theorem sq_cases {r : D} {xs : List D} (h : sqD r = some xs) : (S.dat r).lst? = some xs ∨ (S.dat r).tup? = some xs := by
  cases r <;> first | (cases h; done) | skip
  · exact .inl h
  · exact .inr h
def nuF (row : List Nat) (x : D) : D := .int ((row.getD (intOf x).toNat 0 : Nat))
theorem nuF_eq (row ps : List Nat) : (dN ps).map (nuF row) = dN (ps.map fun p => row.getD p 0) := by
  unfold dN
  rw [List.map_map, List.map_map]
  apply List.map_congr_left
  intro x _
  simp [nuF, intOf]
theorem idx_spec : ∀ {l : List Nat} {k : Nat}, k ∈ l → l[l.idxOf k]? = some k ∧ ∀ i, i < l.idxOf k → l[i]? ≠ some k
  | [], k, h => by cases h
  | a :: l, k, h => by
    by_cases e : a = k
    · subst e
      rw [List.idxOf_cons_self]
      exact ⟨rfl, fun i hi => absurd hi (Nat.not_lt_zero i)⟩
    · have hk : k ∈ l := by
        rcases List.mem_cons.mp h with z | z
        · exact absurd z.symm e
        · exact z
      obtain ⟨h1, h2⟩ := idx_spec hk
      have ei : (a :: l).idxOf k = l.idxOf k + 1 := by
        have hb : (a == k) = false := by simp [e]
        rw [List.idxOf_cons, hb]
        rfl
      rw [ei]
      refine ⟨by simpa using h1, fun i hi => ?_⟩
      cases i with
      | zero => simpa using e
      | succ i => simpa using h2 i (by omega)
theorem idx_cast {l : List Nat} {k : Nat} (h : k ∈ l) : (l.map fun n : Nat => (n : Int))[l.idxOf k]? = some (k : Int) ∧ ∀ i, i < l.idxOf k → (l.map fun n : Nat => (n : Int))[i]? ≠ some (k : Int) := by
  obtain ⟨h1, h2⟩ := idx_spec h
  refine ⟨by rw [List.getElem?_map, h1]; rfl, fun i hi z => ?_⟩
  rw [List.getElem?_map] at z
  cases e : l[i]? with
  | none => rw [e] at z; cases z
  | some y =>
    rw [e] at z
    have z : (y : Int) = k := Option.some.inj z
    exact h2 i hi (by rw [e]; congr 1; omega)
theorem min_of {l : List Nat} {k : Nat} (h : k ∈ l) (hm : ∀ x ∈ l, k ≤ x) : l.min? = some k := List.min?_eq_some_iff.mpr ⟨h, hm⟩
theorem max_of {l : List Nat} {k : Nat} (h : k ∈ l) (hm : ∀ x ∈ l, x ≤ k) : l.max? = some k := List.max?_eq_some_iff.mpr ⟨h, hm⟩

def C_uneven (C X : Addr) : Fc := fun _ W m ss Φ Ξ => ∃ n gs rs d, ss = [.dat (.ins C (planF n gs rs)), .dat d] ∧ SzP n rs ∧ AskP d ∧ (parts n d = false → Ξ m X [("value", d)]) ∧ (parts n d = true → Φ m (.dat (unA (clOf d) 0 (rs.map (plR n)))))

end
end Pf
set_option Elab.async false
set_option linter.all false
set_option maxRecDepth 100000
set_option maxHeartbeats 1000000
namespace Pf
open PySem PySem.Spec PyProof.Rows L2 DL
local macro_rules | `(tactic| walk_at "len") => `(tactic| with_unfolding_all first | exact Nat.le_of_ble_eq_true rfl | (simp; done) | (simp; omega))
local macro_rules | `(tactic| walk_at "side") => `(tactic| with_unfolding_all first | exact Or.inr ⟨by omega, by omega⟩ | exact Or.inl ⟨by omega, by omega⟩ | exact ⟨by omega, by omega⟩ | exact ⟨by omega, by omega, by omega⟩ | (show (0 : Int) < _; omega) | decide)
local macro_rules | `(tactic| walk_at "d1") => `(tactic| with_reducible first
  | (refine ds_seq ?_; try dsimp only [List.set_cons_zero, List.set_cons_succ, List.cons_append, List.nil_append, O.frz])
  | refine ds_asg ?_
  | refine ds_ret ?_
  | refine ds_retN ?_
  | refine ds_next ?_
  | refine ds_dropC ?_
  | refine ds_drop0 ?_
  | refine ds_dropB ?_
  | refine ds_if ?_
  | refine dt_test ?_
  | refine dt_B ?_
  | refine dt_not ?_
  | refine dt_and ?_
  | refine dt_or ?_
  | refine dt_yes ?_
  | refine de_int ?_
  | refine de_bl ?_
  | refine de_str ?_
  | refine de_non ?_
  | refine de_varD (by with_unfolding_all rfl) ?_
  | refine de_varO (by with_unfolding_all rfl) ?_
  | refine de_varA (by with_unfolding_all rfl) ?_
  | refine de_varV (by with_unfolding_all rfl) ?_
  | refine de_isi ?_
  | refine de_dget ?_
  | refine de_dget2 ?_
  | refine de_dnotin ?_
  | refine de_din ?_
  | refine de_dnew ?_
  | refine de_dnewT ?_
  | refine de_cb ?_
  | refine de_call0G ?_
  | refine de_callG ?_
  | refine de_andB ?_
  | refine de_orB ?_
  | refine de_notV ?_
  | refine de_ifE ?_
  | refine de_chain ?_
  | refine de_op ?_
  | refine de_neg ?_
  | refine de_tupG ?_
  | refine de_lstG ?_
  | refine de_slL ?_
  | refine de_slT ?_
  | refine do_none ?_
  | refine do_some ?_
  | refine daf_cons ?_
  | refine daf_nil ?_
  | refine daf_star ?_
  | refine da_cons ?_
  | refine da_nil ?_
  | refine lk_dat ?_
  | refine lk_nil ?_
  | refine ak_dat ?_
  | refine ak_nil ?_
  | refine ak_at ?_
  | refine ak_lst ?_
  | refine lk_lst ?_
  | refine ak_dK ?_
  | refine ak_dT ?_
  | refine ak_vw ?_
  | refine lk_dT ?_
  | refine lk_dK ?_
  | refine da_star ?_
  | refine de_lstRg1 ?_
  | refine de_lstRg2 ?_
  | refine de_revL ?_
  | refine de_count ?_
  | refine de_index ?_
  | refine di_enum ?_
  | refine dt_tru ?_
  | refine de_fld ?_
  | refine de_prop ?_
  | refine di_rng1 ?_
  | refine di_rng2 ?_
  | refine di_list ?_
  | refine di_tup ?_
  | refine di_seq ?_
  | refine di_zip ?_
  | refine ops_int ?_
  | (refine ops_cat (by with_unfolding_all rfl) (by with_unfolding_all rfl) ?side ?_; (case side => walk_at "len"))
  | (refine ops_catA ?side ?_; (case side => walk_at "len"))
  | refine ops_eqI ?_
  | refine ops_neI ?_
  | refine ops_bool ?_
  | (refine ops_intC ?side ?_; (case side => walk_at "side"))
  | refine cb_lenL (by with_unfolding_all rfl) ?_
  | refine cb_lenT (by with_unfolding_all rfl) ?_
  | refine cb_lenK (by with_unfolding_all rfl) ?_
  | refine cb_max2 ?_
  | refine cb_min2 ?_
  | refine cb_int ?_
  | refine ⟨fun _ => ?_, fun z => Bool.noConfusion z⟩
  | refine ⟨fun z => Bool.noConfusion z, fun _ => ?_⟩
  | refine ⟨rfl, ?_⟩
  | refine ⟨_, rfl, ?_⟩
  | refine ⟨_, Or.inl (by with_unfolding_all rfl), ?_⟩
  | (with_unfolding_all refine ⟨_, true, rfl, rfl, (fun _ z => by cases z), rfl, ?_⟩)
  | (with_unfolding_all refine ⟨_, false, rfl, rfl, (fun _ z => by cases z), rfl, ?_⟩))
local macro_rules | `(tactic| walk_at "d") => `(tactic| repeat walk_at "d1")
local macro_rules | `(tactic| walk_at "wk") => `(tactic| repeat first | exact Wk.nil | refine Wk.keep ?_ | refine Wk.drop ?_)
section
variable {P : Program} {w : World} {K : PySem.W.Frag} {mg : Str → Option Value} {base : Heap} {f : Addr} {fd : FuncData} {a_Plan a_BadClasses : Addr}
def isNon : D → Bool
  | .non => true
  | _ => false
theorem ops_isN {ι : Type} {K : PySem.W.Frag} {W : Wd ι} {m : ι} {Φ : ι → S → Prop} {d : D} (h : Φ m (.dat (.bl (isNon d)))) : OpS K W m (fun x y H Q => y = V.non ∧ Q (V.bl (decide (x = V.non))) H) (.dat d) (.dat .non) Φ := fun H0 G H v1 v2 ok r1 r2 Q q => by
  cases r2
  refine ⟨rfl, ?_⟩
  have r1 : Rp K G v1 d := r1
  have e : decide (v1 = V.non) = isNon d := by cases r1 <;> simp [isNon]
  rw [e]
  exact q _ (.dat (.bl _)) m G H ok.refl (Rp.bl _) h

def C_is_even (C X : Addr) : Fc := fun _ W m ss Φ Ξ => ∃ n gs rs d, ss = [.dat (.ins C (planF n gs rs)), .dat d] ∧ SzP n rs ∧ AskP d ∧ (parts n d = false → Ξ m X [("value", d)]) ∧ (parts n d = true → Φ m (.dat (.bl (isNon (unA (clOf d) 0 (rs.map (plR n)))))))

def C_law_choose : Fc := fun _ W m ss Φ Ξ => ∃ n k : Nat, ss = [.dat (.int n), .dat (.int k)] ∧ n ≤ 1000 ∧ k ≤ 1000 ∧ Φ m (.dat (.int (KM.ch n k)))

abbrev s_law_choose : Stmt := (top 46)
abbrev N_law_choose : List Str := ["_law_many", "_law_few", "_law_found", "_law_k"]
theorem sc_law_choose : FnScope N_law_choose ["_law_many", "_law_few"] (defScope s_law_choose) := ⟨rfl, rfl, rfl, by decide +kernel, rfl, by decide +kernel, by decide +kernel⟩
theorem ok_law_choose (F : FnP K "_law_choose" s_law_choose f fd) (b : BI mg) : FnOk P w K mg base CX0 1 f fd ["_law_many", "_law_few"] (spF K C_law_choose) := by
  have hlen := spF_len (K := K) (C := C_law_choose) (m := 2) fun κ W m ss Φ Ξ ⟨n, k, e, _⟩ => by first | exact e | (rw [e]; rfl)
  refine F.ok sc_law_choose hlen ?_
  intro cdv A outer s H vs Q E hr h
  refine ⟨_, PSs.nox (pss_cons (ps_if (pt_cmpR op_gt (pv 1) (pv 0) (nomark _)) (pss_one (ps_ret pe_int)) pss_nil)
      (pss_cons (ps_set (i := 2) sc_law_choose.nd rfl (by first | exact Or.inl rfl | exact Or.inr rfl) pe_int)
      (pss_cons (ps_for PassesOwn.never rfl (pi_range1 rfl b.range (pa_cons (pv 1) pa_nil)) (pg_name (i := 3) sc_law_choose.nd rfl (by first | exact Or.inl rfl | exact Or.inr rfl))
      (pss_one (ps_set (i := 2) sc_law_choose.nd rfl (by first | exact Or.inl rfl | exact Or.inr rfl) (pe_op op_fdiv (pe_op op_mul (pv 2) (pe_op op_sub (pv 0) (pv 3))) (pe_op op_add (pv 3) pe_int)))))
      (pss_one (ps_ret (pv 2)))))), ?_⟩
  refine DL.run_fnP  [.no, .no] (Nm := N_law_choose) (n := 2) (k := 2) rfl (hlen _ _ _ _ h) rfl h fun κ W m ss Φ Ξ G hc => ?_
  try dsimp only [cxOf, Cx.nox, Cx.wish, Cx.blk]
  obtain ⟨n, k, rfl, hn, hk, hΦ⟩ := hc
  walk_at "d"
  by_cases hkn : n < k
  · rw [show decide ((n : Int) < k) = true by simp; omega]
    walk_at "d"
    rw [KM.ch_gt hkn] at hΦ
    exact hΦ
  · rw [show decide ((n : Int) < k) = false by simp; omega]
    walk_at "d"
    refine ds_forW (vs := [3]) ?_
    walk_at "d"
    refine ⟨by omega, by omega, fun i m' ρ => m' = m ∧ ρ = [.dat (.int n), .dat (.int k), .dat (.int (KM.ch n i)), .no], ⟨_, Wk.refl _, rfl, rfl, by rw [KM.ch_zero]; rfl⟩, ?_, ?_⟩
    · rintro i d m' ρ hd ⟨rfl, rfl⟩
      obtain ⟨hi, rfl⟩ := rng_at hd
      have hi2 : i < k := by omega
      refine ⟨_, dg_name (by simp), ?_⟩
      walk_at "d"
      have e := KM.ch_divI n i
      rw [Int.max_eq_right (by omega)] at e
      rw [Int.zero_add, e]
      exact ⟨_, by walk_at "wk", rfl, rfl, rfl⟩
    · rintro m' ρ ⟨rfl, rfl⟩
      walk_at "d"
      rw [rng_len]
      exact hΦ


end
end Pf
set_option Elab.async false
set_option linter.all false
set_option maxRecDepth 100000
set_option maxHeartbeats 1000000
namespace Pf
open PySem PySem.Spec PyProof.Rows L2 DL
local macro_rules | `(tactic| walk_at "len") => `(tactic| with_unfolding_all first | exact Nat.le_of_ble_eq_true rfl | (simp; done) | (simp; omega))
local macro_rules | `(tactic| walk_at "side") => `(tactic| with_unfolding_all first | exact Or.inr ⟨by omega, by omega⟩ | exact Or.inl ⟨by omega, by omega⟩ | exact ⟨by omega, by omega⟩ | exact ⟨by omega, by omega, by omega⟩ | (show (0 : Int) < _; omega) | decide)
local macro_rules | `(tactic| walk_at "d1") => `(tactic| with_reducible first
  | (refine ds_seq ?_; try dsimp only [List.set_cons_zero, List.set_cons_succ, List.cons_append, List.nil_append, O.frz])
  | refine ds_asg ?_
  | refine ds_ret ?_
  | refine ds_retN ?_
  | refine ds_next ?_
  | refine ds_dropC ?_
  | refine ds_drop0 ?_
  | refine ds_dropB ?_
  | refine ds_if ?_
  | refine dt_test ?_
  | refine dt_B ?_
  | refine dt_not ?_
  | refine dt_and ?_
  | refine dt_or ?_
  | refine dt_yes ?_
  | refine de_int ?_
  | refine de_bl ?_
  | refine de_str ?_
  | refine de_non ?_
  | refine de_varD (by with_unfolding_all rfl) ?_
  | refine de_varO (by with_unfolding_all rfl) ?_
  | refine de_varA (by with_unfolding_all rfl) ?_
  | refine de_varV (by with_unfolding_all rfl) ?_
  | refine de_isi ?_
  | refine de_dget ?_
  | refine de_dget2 ?_
  | refine de_dnotin ?_
  | refine de_din ?_
  | refine de_dnew ?_
  | refine de_dnewT ?_
  | refine de_cb ?_
  | refine de_call0G ?_
  | refine de_callG ?_
  | refine de_andB ?_
  | refine de_orB ?_
  | refine de_notV ?_
  | refine de_ifE ?_
  | refine de_chain ?_
  | refine de_op ?_
  | refine de_neg ?_
  | refine de_tupG ?_
  | refine de_lstG ?_
  | refine de_slL ?_
  | refine de_slT ?_
  | refine do_none ?_
  | refine do_some ?_
  | refine daf_cons ?_
  | refine daf_nil ?_
  | refine daf_star ?_
  | refine da_cons ?_
  | refine da_nil ?_
  | refine lk_dat ?_
  | refine lk_nil ?_
  | refine ak_dat ?_
  | refine ak_nil ?_
  | refine ak_at ?_
  | refine ak_lst ?_
  | refine lk_lst ?_
  | refine ak_dK ?_
  | refine ak_dT ?_
  | refine ak_vw ?_
  | refine lk_dT ?_
  | refine lk_dK ?_
  | refine da_star ?_
  | refine de_lstRg1 ?_
  | refine de_lstRg2 ?_
  | refine de_revL ?_
  | refine de_count ?_
  | refine de_index ?_
  | refine di_enum ?_
  | refine dt_tru ?_
  | refine de_fld ?_
  | refine de_prop ?_
  | refine di_rng1 ?_
  | refine di_rng2 ?_
  | refine di_list ?_
  | refine di_tup ?_
  | refine di_seq ?_
  | refine di_zip ?_
  | refine ops_int ?_
  | (refine ops_cat (by with_unfolding_all rfl) (by with_unfolding_all rfl) ?side ?_; (case side => walk_at "len"))
  | (refine ops_catA ?side ?_; (case side => walk_at "len"))
  | refine ops_eqI ?_
  | refine ops_neI ?_
  | refine ops_bool ?_
  | (refine ops_intC ?side ?_; (case side => walk_at "side"))
  | refine cb_lenL (by with_unfolding_all rfl) ?_
  | refine cb_lenT (by with_unfolding_all rfl) ?_
  | refine cb_lenK (by with_unfolding_all rfl) ?_
  | refine cb_max2 ?_
  | refine cb_min2 ?_
  | refine cb_int ?_
  | refine ⟨fun _ => ?_, fun z => Bool.noConfusion z⟩
  | refine ⟨fun z => Bool.noConfusion z, fun _ => ?_⟩
  | refine ⟨rfl, ?_⟩
  | refine ⟨_, rfl, ?_⟩
  | refine ⟨_, Or.inl (by with_unfolding_all rfl), ?_⟩
  | (with_unfolding_all refine ⟨_, true, rfl, rfl, (fun _ z => by cases z), rfl, ?_⟩)
  | (with_unfolding_all refine ⟨_, false, rfl, rfl, (fun _ z => by cases z), rfl, ?_⟩))
local macro_rules | `(tactic| walk_at "d") => `(tactic| repeat walk_at "d1")
local macro_rules | `(tactic| walk_at "wk") => `(tactic| repeat first | exact Wk.nil | refine Wk.keep ?_ | refine Wk.drop ?_)
section
variable {P : Program} {w : World} {K : PySem.W.Frag} {mg : Str → Option Value} {base : Heap} {f : Addr} {fd : FuncData}

def C_law_subsets : Fc := fun _ W m ss Φ Ξ => ∃ n k : Nat, ss = [.dat (.int n), .dat (.int k)] ∧ n ≤ 10 ∧ k ≤ 4 ∧ Φ m (.dat (.lst ((SB 0 n k).map tD)))

abbrev s_law_subsets : Stmt := (top 47)
abbrev N_law_subsets : List Str := ["_law_people_here", "_law_few", "_law_rows", "_law_k", "_law_longer", "_law_row", "_law_least", "_law_person"]
theorem sc_law_subsets : FnScope N_law_subsets ["_law_people_here", "_law_few"] (defScope s_law_subsets) := ⟨rfl, rfl, rfl, by decide +kernel, rfl, by decide +kernel, by decide +kernel⟩
theorem ok_law_subsets (F : FnP K "_law_subsets" s_law_subsets f fd) (b : BI mg) : FnOk P w K mg base CX0 1 f fd ["_law_people_here", "_law_few"] (spF K C_law_subsets) := by
  have hlen := spF_len (K := K) (C := C_law_subsets) (m := 2) fun κ W m ss Φ Ξ ⟨n, k, e, _⟩ => by first | exact e | (rw [e]; rfl)
  refine F.ok sc_law_subsets hlen ?_
  intro cdv A outer s H vs Q E hr h
  refine ⟨_, PSs.nox (pss_cons (ps_set (i := 2) sc_law_subsets.nd rfl (by first | exact Or.inl rfl | exact Or.inr rfl) (pe_lst (pa_cons (pe_tup pa_nil) pa_nil)))
      (pss_cons (ps_for PassesOwn.never rfl (pi_range1 rfl b.range (pa_cons (pv 1) pa_nil)) (pg_name (i := 3) sc_law_subsets.nd rfl (by first | exact Or.inl rfl | exact Or.inr rfl))
      (pss_cons (ps_set (i := 4) sc_law_subsets.nd rfl (by first | exact Or.inl rfl | exact Or.inr rfl) (pe_lst pa_nil))
      (pss_cons (ps_for PassesOwn.never rfl (k_piL (K := K) rfl (pv 2)) (pg_name (i := 5) sc_law_subsets.nd rfl (by first | exact Or.inl rfl | exact Or.inr rfl))
      (pss_cons (ps_set (i := 6) sc_law_subsets.nd rfl (by first | exact Or.inl rfl | exact Or.inr rfl) pe_int)
      (pss_cons (ps_if (k_truth (K := K) rfl (pv 5) (by intro _; rfl)) (pss_one (ps_set (i := 6) sc_law_subsets.nd rfl (by first | exact Or.inl rfl | exact Or.inr rfl) (pe_op op_add (pe_ix (k_ixT (K := K) rfl) (pv 5) (pe_un un_neg pe_int) (fun _ _ => rfl)) pe_int))) pss_nil)
      (pss_one (ps_set (i := 4) sc_law_subsets.nd rfl (by first | exact Or.inl rfl | exact Or.inr rfl) (pe_op op_cat (pv 4) (pe_lc (own := [("_law_person", 7)]) rfl sc_law_subsets.nd (pi_range2 rfl b.range (pa_cons (pv 6) (pa_cons (pv 0) pa_nil))) (blkOk_by (own := [("_law_person", 7)]) (N := N_law_subsets) (sc := (defScope s_law_subsets)) (by decide +kernel)) (fun _ _ _ _ _ => (pg_name (i := 7) sc_law_subsets.nd rfl (by first | exact Or.inl rfl | exact Or.inr rfl))) (fun _ _ _ _ _ => pts_nil) (fun _ _ _ _ _ => (pe_op (k_catA (K := K) rfl) (pv 5) (pe_tup (pa_cons (pv 7) pa_nil)))))))))))
      (pss_one (ps_set (i := 2) sc_law_subsets.nd rfl (by first | exact Or.inl rfl | exact Or.inr rfl) (pv 4))))))
      (pss_one (ps_ret (pv 2))))), ?_⟩
  refine DL.run_fnP  [.no, .no, .no, .no, .no, .no] (Nm := N_law_subsets) (n := 2) (k := 6) rfl (hlen _ _ _ _ h) rfl h fun κ W m ss Φ Ξ G hc => ?_
  try dsimp only [cxOf, Cx.nox, Cx.wish, Cx.blk]
  obtain ⟨n, k, rfl, hn, hk, hΦ⟩ := hc
  walk_at "d"
  refine ds_frz (i := 2) rfl ?_
  refine ds_forW (vs := [3]) ?_
  walk_at "d"
  refine ⟨by omega, by omega, fun i m' ρ => m' = m ∧ ρ = [.dat (.int n), .dat (.int k), .dat (.lst ((SB 0 n i).map tD)), .no, .no, .no, .no, .no], ⟨_, Wk.refl _, rfl, rfl, by with_unfolding_all rfl⟩, ?_, ?_⟩
  · rintro i d m' ρ hd ⟨rfl, rfl⟩
    obtain ⟨hi, rfl⟩ := rng_at hd
    rw [Int.zero_add]
    refine ⟨_, dg_name (by simp), ?_⟩
    walk_at "d"
    refine ds_forW (vs := [5]) ?_
    walk_at "d"
    have lSB : (SB 0 n i).length ≤ 10000 := SB_le hn (by omega)
    refine ⟨fun j m'' ρ => m'' = m' ∧ ρ = [.dat (.int n), .dat (.int k), .dat (.lst ((SB 0 n i).map tD)), .no, .own (.lst ((((SB 0 n i).take j).flatMap (ext1 0 n)).map tD)), .no, .no, .no], ⟨_, ?_, rfl, rfl, rfl⟩, ?_, ?_⟩
    · walk_at "wk"
    · rintro j d m' ρ hd ⟨rfl, rfl⟩
      rw [List.getElem?_map] at hd
      cases ht : (SB 0 n i)[j]? with
      | none => rw [ht] at hd; cases hd
      | some t =>
        rw [ht] at hd
        cases hd
        have hm := SB_mem.mp (List.mem_of_getElem? ht)
        have hx : lst1 0 t ≤ n := by
          rcases List.eq_nil_or_concat t with rfl | ⟨l, x, rfl⟩
          · simp [lst1]
          · rw [List.concat_eq_append] at hm ⊢
            rw [lst1_snoc]
            have := (hm.2.2 x (by simp)).2
            omega
        have hlen : (((SB 0 n i).take j).flatMap (ext1 0 n)).length ≤ 100000 := by
          refine Nat.le_trans (stepS_len 0 n _) ?_
          have : ((SB 0 n i).take j).length ≤ 10000 := Nat.le_trans (by simp; omega) lSB
          exact Nat.le_trans (Nat.mul_le_mul this hn) (by decide)
        have hlen2 := ext1_len 0 n t
        have step : ((SB 0 n i).take (j + 1)).flatMap (ext1 0 n) = ((SB 0 n i).take j).flatMap (ext1 0 n) ++ ext1 0 n t := by
          rw [List.take_add_one, ht]; simp
        refine ⟨_, dg_name (by simp), ?_⟩
        walk_at "d"
        have tl := hm.1
        refine ⟨fun h0 => ?_, fun h0 => ?_⟩
        · rcases List.eq_nil_or_concat t with rfl | ⟨l, x, rfl⟩
          · cases h0
          · rw [List.concat_eq_append] at *
            have hz : (x : Int) + 1 = (lst1 0 (l ++ [x]) : Nat) := by rw [lst1_snoc]; omega
            walk_at "d"
            refine ops_ixT (atI_last l x) ?_
            walk_at "d"
            refine de_lcMap (f := exF (l ++ [x])) ?_
            walk_at "d"
            refine ⟨_, _, rfl, ⟨by omega, by omega, by omega, by omega⟩, by rw [rng_len]; omega, fun d hd => ⟨_, dg_name (by simp), ?_⟩, ?_⟩
            · obtain ⟨p, hp⟩ := List.getElem?_of_mem hd
              obtain ⟨hp, rfl⟩ := rng_at hp
              walk_at "d"
              refine ops_catA (by rw [dN_len]; show _ + 1 ≤ 1000000; omega) ?_
              exact ⟨rfl, rfl⟩
            · rw [exF_eq hz]
              refine ops_cat rfl rfl (by simp only [List.length_map]; omega) ?_
              rw [← List.map_append, ← step]
              walk_at "d"
              refine ⟨_, ?_, rfl, rfl, rfl⟩
              walk_at "wk"
        · have : t = [] := by
            cases t with
            | nil => rfl
            | cons _ _ => cases h0
          subst this
          have hz : (0 : Int) = (lst1 0 [] : Nat) := rfl
          walk_at "d"
          refine de_lcMap (f := exF []) ?_
          walk_at "d"
          refine ⟨_, _, rfl, ⟨by omega, by omega, by omega, by omega⟩, by rw [rng_len]; omega, fun d hd => ⟨_, dg_name (by simp), ?_⟩, ?_⟩
          · obtain ⟨p, hp⟩ := List.getElem?_of_mem hd
            obtain ⟨hp, rfl⟩ := rng_at hp
            walk_at "d"
            first | exact rfl | exact ⟨rfl, rfl⟩
          · rw [exF_eq hz]
            refine ops_cat rfl rfl (by simp only [List.length_map]; omega) ?_
            rw [← List.map_append, ← step]
            walk_at "d"
            refine ⟨_, ?_, rfl, rfl, rfl⟩
            walk_at "wk"
    · rintro m'' ρ ⟨rfl, rfl⟩
      refine ds_frz (i := 4) rfl ?_
      walk_at "d"
      rw [List.length_map, List.take_length]
      refine ⟨_, ?_, rfl, rfl, rfl⟩
      walk_at "wk"
  · rintro m' ρ ⟨rfl, rfl⟩
    walk_at "d"
    rw [rng_len]
    exact hΦ


end
end Pf
set_option Elab.async false
set_option linter.all false
set_option maxRecDepth 100000
set_option maxHeartbeats 1000000
namespace Pf
open PySem PySem.Spec PyProof.Rows L2 DL
local macro_rules | `(tactic| walk_at "len") => `(tactic| with_unfolding_all first | exact Nat.le_of_ble_eq_true rfl | (simp; done) | (simp; omega))
local macro_rules | `(tactic| walk_at "side") => `(tactic| with_unfolding_all first | exact Or.inr ⟨by omega, by omega⟩ | exact Or.inl ⟨by omega, by omega⟩ | exact ⟨by omega, by omega⟩ | exact ⟨by omega, by omega, by omega⟩ | (show (0 : Int) < _; omega) | decide)
local macro_rules | `(tactic| walk_at "d1") => `(tactic| with_reducible first
  | (refine ds_seq ?_; try dsimp only [List.set_cons_zero, List.set_cons_succ, List.cons_append, List.nil_append, O.frz])
  | refine ds_asg ?_
  | refine ds_ret ?_
  | refine ds_retN ?_
  | refine ds_next ?_
  | refine ds_dropC ?_
  | refine ds_drop0 ?_
  | refine ds_dropB ?_
  | refine ds_if ?_
  | refine dt_test ?_
  | refine dt_B ?_
  | refine dt_not ?_
  | refine dt_and ?_
  | refine dt_or ?_
  | refine dt_yes ?_
  | refine de_int ?_
  | refine de_bl ?_
  | refine de_str ?_
  | refine de_non ?_
  | refine de_varD (by with_unfolding_all rfl) ?_
  | refine de_varO (by with_unfolding_all rfl) ?_
  | refine de_varA (by with_unfolding_all rfl) ?_
  | refine de_varV (by with_unfolding_all rfl) ?_
  | refine de_isi ?_
  | refine de_dget ?_
  | refine de_dget2 ?_
  | refine de_dnotin ?_
  | refine de_din ?_
  | refine de_dnew ?_
  | refine de_dnewT ?_
  | refine de_cb ?_
  | refine de_call0G ?_
  | refine de_callG ?_
  | refine de_andB ?_
  | refine de_orB ?_
  | refine de_notV ?_
  | refine de_ifE ?_
  | refine de_chain ?_
  | refine de_op ?_
  | refine de_neg ?_
  | refine de_tupG ?_
  | refine de_lstG ?_
  | refine de_slL ?_
  | refine de_slT ?_
  | refine do_none ?_
  | refine do_some ?_
  | refine daf_cons ?_
  | refine daf_nil ?_
  | refine daf_star ?_
  | refine da_cons ?_
  | refine da_nil ?_
  | refine lk_dat ?_
  | refine lk_nil ?_
  | refine ak_dat ?_
  | refine ak_nil ?_
  | refine ak_at ?_
  | refine ak_lst ?_
  | refine lk_lst ?_
  | refine ak_dK ?_
  | refine ak_dT ?_
  | refine ak_vw ?_
  | refine lk_dT ?_
  | refine lk_dK ?_
  | refine da_star ?_
  | refine de_lstRg1 ?_
  | refine de_lstRg2 ?_
  | refine de_revL ?_
  | refine de_count ?_
  | refine de_index ?_
  | refine di_enum ?_
  | refine dt_tru ?_
  | refine de_fld ?_
  | refine de_prop ?_
  | refine di_rng1 ?_
  | refine di_rng2 ?_
  | refine di_list ?_
  | refine di_tup ?_
  | refine di_seq ?_
  | refine di_zip ?_
  | refine ops_int ?_
  | (refine ops_cat (by with_unfolding_all rfl) (by with_unfolding_all rfl) ?side ?_; (case side => walk_at "len"))
  | (refine ops_catA ?side ?_; (case side => walk_at "len"))
  | refine ops_eqI ?_
  | refine ops_neI ?_
  | refine ops_bool ?_
  | (refine ops_intC ?side ?_; (case side => walk_at "side"))
  | refine cb_lenL (by with_unfolding_all rfl) ?_
  | refine cb_lenT (by with_unfolding_all rfl) ?_
  | refine cb_lenK (by with_unfolding_all rfl) ?_
  | refine cb_max2 ?_
  | refine cb_min2 ?_
  | refine cb_int ?_
  | refine ⟨fun _ => ?_, fun z => Bool.noConfusion z⟩
  | refine ⟨fun z => Bool.noConfusion z, fun _ => ?_⟩
  | refine ⟨rfl, ?_⟩
  | refine ⟨_, rfl, ?_⟩
  | refine ⟨_, Or.inl (by with_unfolding_all rfl), ?_⟩
  | (with_unfolding_all refine ⟨_, true, rfl, rfl, (fun _ z => by cases z), rfl, ?_⟩)
  | (with_unfolding_all refine ⟨_, false, rfl, rfl, (fun _ z => by cases z), rfl, ?_⟩))
local macro_rules | `(tactic| walk_at "d") => `(tactic| repeat walk_at "d1")
local macro_rules | `(tactic| walk_at "wk") => `(tactic| repeat first | exact Wk.nil | refine Wk.keep ?_ | refine Wk.drop ?_)
section
variable {P : Program} {w : World} {K : PySem.W.Frag} {mg : Str → Option Value} {base : Heap} {f : Addr} {fd : FuncData}

def C_law_teams : Fc := fun _ W m ss Φ Ξ => ∃ n gs, ss = [.dat (.int (n : Nat)), .dat (.dic (gD gs))] ∧ n ≤ 10 ∧ GGm n gs ∧ Φ m (.own (.lst ((ET n gs).map tD)))

abbrev s_law_teams : Stmt := (top 48)
abbrev N_law_teams : List Str := ["_law_people_here", "_law_games", "_law_rows", "_law_team"]
theorem sc_law_teams : FnScope N_law_teams ["_law_people_here", "_law_games"] (defScope s_law_teams) := ⟨rfl, rfl, rfl, by decide +kernel, rfl, by decide +kernel, by decide +kernel⟩
theorem ok_law_teams (F : FnP K "_law_teams" s_law_teams f fd) (b : BI mg) (c_law_subsets : Cl P w K mg base CX0 1 "_law_subsets" ["_law_people_here", "_law_few"] C_law_subsets) : FnOk P w K mg base CX0 2 f fd ["_law_people_here", "_law_games"] (spF K C_law_teams) := by
  have hlen := spF_len (K := K) (C := C_law_teams) (m := 2) fun κ W m ss Φ Ξ ⟨n, gs, e, _⟩ => by first | exact e | (rw [e]; rfl)
  refine F.ok sc_law_teams hlen ?_
  intro cdv A outer s H vs Q E hr h
  refine ⟨_, PSs.nox (pss_cons (ps_set (i := 2) sc_law_teams.nd rfl (by first | exact Or.inl rfl | exact Or.inr rfl) (pe_lst pa_nil))
      (pss_cons (ps_for PassesOwn.never rfl (k_piL (K := K) rfl (pe_callB (call_sortedDI rfl) rfl b.sorted boot_sorted (pa_cons (pv 1) pa_nil))) (pg_name (i := 3) sc_law_teams.nd rfl (by first | exact Or.inl rfl | exact Or.inr rfl))
      (pss_one (ps_set (i := 2) sc_law_teams.nd rfl (by first | exact Or.inl rfl | exact Or.inr rfl) (pe_op op_cat (pv 2) (k_cl0 c_law_subsets rfl hr (pa_cons (pv 0) (pa_cons (pv 3) pa_nil)))))))
      (pss_one (ps_ret (pv 2))))), ?_⟩
  refine DL.run_fnP  [.no, .no] (Nm := N_law_teams) (n := 2) (k := 2) rfl (hlen _ _ _ _ h) rfl h fun κ W m ss Φ Ξ G hc => ?_
  try dsimp only [cxOf, Cx.nox, Cx.wish, Cx.blk]
  obtain ⟨n, gs, rfl, hn, hg, hΦ⟩ := hc
  have l2 := hg.l2
  walk_at "d"
  refine ds_forW (vs := [3]) ?_
  walk_at "d"
  refine cb_sortedK (ks := (gs.map (·.1)).map fun n : Nat => (n : Int)) rfl (by rw [gD_keys]; simp [List.map_map]) (by simp; omega) ?_
  walk_at "d"
  rw [srtN_int]
  refine ⟨fun i m' ρ => m' = m ∧ ρ = [.dat (.int n), .dat (.dic (gD gs)), .own (.lst ((((srtN (gs.map (·.1))).take i).flatMap fun k => SB 0 n k).map tD)), .no], ⟨_, Wk.refl _, rfl, rfl, rfl⟩, ?_, ?_⟩
  · rintro i d m' ρ hd ⟨rfl, rfl⟩
    rw [dN_get] at hd
    cases hk : (srtN (gs.map (·.1)))[i]? with
    | none => rw [hk] at hd; cases hd
    | some k =>
      rw [hk] at hd
      cases hd
      obtain ⟨⟨t, v⟩, h1, et⟩ := List.mem_map.mp (srtN_mem.mp (List.mem_of_getElem? hk))
      have et : t = k := et
      subst et
      obtain ⟨o1, o2, o3, o4, o5⟩ := hg.ok t v h1
      refine ⟨_, dg_name (by simp), ?_⟩
      walk_at "d"
      refine ⟨n, t, rfl, hn, o2, ?_⟩
      have la : (((srtN (gs.map (·.1))).take i).flatMap fun k => SB 0 n k).length + (SB 0 n t).length ≤ 20000 := by
        have e : ((srtN (gs.map (·.1))).take (i + 1)).flatMap (fun k => SB 0 n k) = (((srtN (gs.map (·.1))).take i).flatMap fun k => SB 0 n k) ++ SB 0 n t := by rw [List.take_add_one, hk]; simp
        have h2 := congrArg List.length e
        rw [List.length_append] at h2
        rw [← h2]
        refine Nat.le_trans ?_ (ET_len hn hg)
        unfold ET
        conv => rhs; rw [← List.take_append_drop (i + 1) (srtN (gs.map (·.1)))]
        rw [List.flatMap_append, List.length_append]
        omega
      refine ops_cat rfl rfl (by simp only [List.length_map]; omega) ?_
      walk_at "d"
      rw [← List.map_append]
      have e : (((srtN (gs.map (·.1))).take i).flatMap fun k => SB 0 n k) ++ SB 0 n t = ((srtN (gs.map (·.1))).take (i + 1)).flatMap (fun k => SB 0 n k) := by rw [List.take_add_one, hk]; simp
      rw [e]
      refine ⟨_, ?_, rfl, rfl, rfl⟩
      walk_at "wk"
  · rintro m' ρ ⟨rfl, rfl⟩
    refine ds_retVar rfl ?_
    rw [dN_len, List.take_length]
    exact hΦ


end
end Pf
set_option Elab.async false
set_option linter.all false
set_option maxRecDepth 100000
set_option maxHeartbeats 1000000
namespace Pf
open PySem PySem.Spec PyProof.Rows L2 DL
local macro_rules | `(tactic| walk_at "len") => `(tactic| with_unfolding_all first | exact Nat.le_of_ble_eq_true rfl | (simp; done) | (simp; omega))
local macro_rules | `(tactic| walk_at "side") => `(tactic| with_unfolding_all first | exact Or.inr ⟨by omega, by omega⟩ | exact Or.inl ⟨by omega, by omega⟩ | exact ⟨by omega, by omega⟩ | exact ⟨by omega, by omega, by omega⟩ | (show (0 : Int) < _; omega) | decide)
local macro_rules | `(tactic| walk_at "d1") => `(tactic| with_reducible first
  | (refine ds_seq ?_; try dsimp only [List.set_cons_zero, List.set_cons_succ, List.cons_append, List.nil_append, O.frz])
  | refine ds_asg ?_
  | refine ds_ret ?_
  | refine ds_retN ?_
  | refine ds_next ?_
  | refine ds_dropC ?_
  | refine ds_drop0 ?_
  | refine ds_dropB ?_
  | refine ds_if ?_
  | refine dt_test ?_
  | refine dt_B ?_
  | refine dt_not ?_
  | refine dt_and ?_
  | refine dt_or ?_
  | refine dt_yes ?_
  | refine de_int ?_
  | refine de_bl ?_
  | refine de_str ?_
  | refine de_non ?_
  | refine de_varD (by with_unfolding_all rfl) ?_
  | refine de_varO (by with_unfolding_all rfl) ?_
  | refine de_varA (by with_unfolding_all rfl) ?_
  | refine de_varV (by with_unfolding_all rfl) ?_
  | refine de_isi ?_
  | refine de_dget ?_
  | refine de_dget2 ?_
  | refine de_dnotin ?_
  | refine de_din ?_
  | refine de_dnew ?_
  | refine de_dnewT ?_
  | refine de_cb ?_
  | refine de_call0G ?_
  | refine de_callG ?_
  | refine de_andB ?_
  | refine de_orB ?_
  | refine de_notV ?_
  | refine de_ifE ?_
  | refine de_chain ?_
  | refine de_op ?_
  | refine de_neg ?_
  | refine de_tupG ?_
  | refine de_lstG ?_
  | refine de_slL ?_
  | refine de_slT ?_
  | refine do_none ?_
  | refine do_some ?_
  | refine daf_cons ?_
  | refine daf_nil ?_
  | refine daf_star ?_
  | refine da_cons ?_
  | refine da_nil ?_
  | refine lk_dat ?_
  | refine lk_nil ?_
  | refine ak_dat ?_
  | refine ak_nil ?_
  | refine ak_at ?_
  | refine ak_lst ?_
  | refine lk_lst ?_
  | refine ak_dK ?_
  | refine ak_dT ?_
  | refine ak_vw ?_
  | refine lk_dT ?_
  | refine lk_dK ?_
  | refine da_star ?_
  | refine de_lstRg1 ?_
  | refine de_lstRg2 ?_
  | refine de_revL ?_
  | refine de_count ?_
  | refine de_index ?_
  | refine di_enum ?_
  | refine dt_tru ?_
  | refine de_fld ?_
  | refine de_prop ?_
  | refine di_rng1 ?_
  | refine di_rng2 ?_
  | refine di_list ?_
  | refine di_tup ?_
  | refine di_seq ?_
  | refine di_zip ?_
  | refine ops_int ?_
  | (refine ops_cat (by with_unfolding_all rfl) (by with_unfolding_all rfl) ?side ?_; (case side => walk_at "len"))
  | (refine ops_catA ?side ?_; (case side => walk_at "len"))
  | refine ops_eqI ?_
  | refine ops_neI ?_
  | refine ops_bool ?_
  | (refine ops_intC ?side ?_; (case side => walk_at "side"))
  | refine cb_lenL (by with_unfolding_all rfl) ?_
  | refine cb_lenT (by with_unfolding_all rfl) ?_
  | refine cb_lenK (by with_unfolding_all rfl) ?_
  | refine cb_max2 ?_
  | refine cb_min2 ?_
  | refine cb_int ?_
  | refine ⟨fun _ => ?_, fun z => Bool.noConfusion z⟩
  | refine ⟨fun z => Bool.noConfusion z, fun _ => ?_⟩
  | refine ⟨rfl, ?_⟩
  | refine ⟨_, rfl, ?_⟩
  | refine ⟨_, Or.inl (by with_unfolding_all rfl), ?_⟩
  | (with_unfolding_all refine ⟨_, true, rfl, rfl, (fun _ z => by cases z), rfl, ?_⟩)
  | (with_unfolding_all refine ⟨_, false, rfl, rfl, (fun _ z => by cases z), rfl, ?_⟩))
local macro_rules | `(tactic| walk_at "d") => `(tactic| repeat walk_at "d1")
local macro_rules | `(tactic| walk_at "wk") => `(tactic| repeat first | exact Wk.nil | refine Wk.keep ?_ | refine Wk.drop ?_)
section
variable {P : Program} {w : World} {K : PySem.W.Frag} {mg : Str → Option Value} {base : Heap} {f : Addr} {fd : FuncData}

def C_law_source : Fc := fun _ W m ss Φ Ξ => ∃ n : Int, ss = [.dat (.int n)] ∧ Φ m (.own (.lst [.int n, .int n, .int 0]))

abbrev s_law_source : Stmt := (top 44)
abbrev N_law_source : List Str := ["_law_cell_here"]
theorem sc_law_source : FnScope N_law_source ["_law_cell_here"] (defScope s_law_source) := ⟨rfl, rfl, rfl, by decide +kernel, rfl, by decide +kernel, by decide +kernel⟩
theorem ok_law_source (F : FnP K "_law_source" s_law_source f fd) (b : BI mg) : FnOk P w K mg base CX0 1 f fd ["_law_cell_here"] (spF K C_law_source) := by
  have hlen := spF_len (K := K) (C := C_law_source) (m := 1) fun κ W m ss Φ Ξ ⟨n, e, _⟩ => by first | exact e | (rw [e]; rfl)
  refine F.ok sc_law_source hlen ?_
  intro cdv A outer s H vs Q E hr h
  refine ⟨_, PSs.nox (pss_one (ps_ret (pe_lst (pa_cons (pv 0) (pa_cons (pv 0) (pa_cons pe_int pa_nil)))))), ?_⟩
  refine DL.run_fnP  [] (Nm := N_law_source) (n := 1) (k := 0) rfl (hlen _ _ _ _ h) rfl h fun κ W m ss Φ Ξ G hc => ?_
  try dsimp only [cxOf, Cx.nox, Cx.wish, Cx.blk]
  obtain ⟨n, rfl, hΦ⟩ := hc
  walk_at "d"
  exact hΦ


def C_law_draw : Fc := fun _ W m ss Φ Ξ => ∃ (p : Addr) (L : Src W p) (k : Nat), ss = [.at_ p, .dat (.int (k : Nat))] ∧ 0 < k ∧ k < 1000000 ∧ 0 < L.left m ∧ ∀ d : Nat, d < k → Φ (L.dec m) (.dat (.int (d : Nat)))

abbrev s_law_draw : Stmt := (top 45)
abbrev N_law_draw : List Str := ["_law_source_here", "_law_limit", "_law_seed", "_law_mixed", "_law_digit"]
theorem sc_law_draw : FnScope N_law_draw ["_law_source_here", "_law_limit"] (defScope s_law_draw) := ⟨rfl, rfl, rfl, by decide +kernel, rfl, by decide +kernel, by decide +kernel⟩
theorem ok_law_draw (F : FnP K "_law_draw" s_law_draw f fd) (b : BI mg) : FnOk P w K mg base CX0 1 f fd ["_law_source_here", "_law_limit"] (spF K C_law_draw) := by
  have hlen := spF_len (K := K) (C := C_law_draw) (m := 2) fun κ W m ss Φ Ξ ⟨p, L, k, e, _⟩ => by first | exact e | (rw [e]; rfl)
  refine F.ok sc_law_draw hlen ?_
  intro cdv A outer s H vs Q E hr h
  refine ⟨_, PSs.nox (pss_cons (ps_asg (pe_op op_add (pe_ix (k_ixL (K := K) rfl) (pv 0) pe_int (fun _ _ => rfl)) pe_int) (pg_sub (pv 0) pe_int set_list))
      (pss_cons (ps_if (pt_cmpR op_ge (pe_ix (k_ixL (K := K) rfl) (pv 0) pe_int (fun _ _ => rfl)) (pe_op op_pow pe_int pe_int) (nomark _)) (pss_cons (ps_set (i := 4) sc_law_draw.nd rfl (by first | exact Or.inl rfl | exact Or.inr rfl) (pe_op op_mod (pe_callTy call_int1 rfl b.int_ boot_int (pa_cons (pe_ix (k_ixL (K := K) rfl) (pv 0) pe_int (fun _ _ => rfl)) pa_nil)) (pv 1)))
      (pss_cons (ps_asg (pe_op op_fdiv (pe_ix (k_ixL (K := K) rfl) (pv 0) pe_int (fun _ _ => rfl)) (pv 1)) (pg_sub (pv 0) pe_int set_list))
      (pss_one (ps_ret (pv 4))))) pss_nil)
      (pss_cons (ps_set (i := 2) sc_law_draw.nd rfl (by first | exact Or.inl rfl | exact Or.inr rfl) (pe_op op_mod (pe_callTy call_int1 rfl b.int_ boot_int (pa_cons (pe_ix (k_ixL (K := K) rfl) (pv 0) pe_int (fun _ _ => rfl)) pa_nil)) pe_int))
      (pss_cons (ps_set (i := 3) sc_law_draw.nd rfl (by first | exact Or.inl rfl | exact Or.inr rfl) (pe_op op_mod (pe_callTy call_int1 rfl b.int_ boot_int (pa_cons (pe_op op_pow (pe_callTy call_int1 rfl b.int_ boot_int (pa_cons (pe_op op_add (pe_op op_add (pe_op op_mul (pv 2) pe_int) (pe_op op_mul (pe_ix (k_ixL (K := K) rfl) (pv 0) pe_int (fun _ _ => rfl)) pe_int)) pe_int) pa_nil)) pe_int) pa_nil)) pe_int))
      (pss_cons (ps_set (i := 3) sc_law_draw.nd rfl (by first | exact Or.inl rfl | exact Or.inr rfl) (pe_op op_mod (pe_callTy call_int1 rfl b.int_ boot_int (pa_cons (pe_op op_pow (pe_callTy call_int1 rfl b.int_ boot_int (pa_cons (pe_op op_add (pv 3) (pe_op op_mul (pe_op op_mul (pe_ix (k_ixL (K := K) rfl) (pv 0) pe_int (fun _ _ => rfl)) (pe_ix (k_ixL (K := K) rfl) (pv 0) pe_int (fun _ _ => rfl))) pe_int)) pa_nil)) pe_int) pa_nil)) pe_int))
      (pss_one (ps_ret (pe_op op_mod (pe_op op_fdiv (pv 3) pe_int) (pv 1))))))))), ?_⟩
  obtain ⟨κ, W, m, G, ss, Φ, Ξ, ok, rs, ha, ⟨p, L, k, rfl, hk, hk2, hl, hΦ⟩, hq, he⟩ := h
  obtain ⟨v1, v2, rfl, r1, r2⟩ := relss2 rs
  obtain rfl : v1 = .ref p := r1
  cases r2
  obtain ⟨a, b', n, hp, h0, hn⟩ := L.out _ _ _ ok.inv
  have fin : ∀ (H' : Hp) (d a2 b2 : Int), 0 ≤ d → d < k → (∀ x, x ≠ p → H' x = H x) → H' p = some (.lst [.int a2, .int b2, .int (n + 1)]) → Q (.int d) H' := fun H' d a2 b2 d0 d1 ne hp' => by
    obtain ⟨dn, rfl⟩ : ∃ dn : Nat, d = dn := ⟨d.toNat, by omega⟩
    exact hq _ (.dat (.int dn)) (L.dec m) G H' (src_grow L ok hl hp ⟨h0, hn⟩ ne hp') (Rp.int _) (hΦ dn (by omega))
  dsimp only [tSeq, tAsg, tOp, tC, gSub, tIfS, tTest, tCB, tCons, tNil, gName, tRet, tNext]
  refine h_var rfl ?_
  refine h_ix hp rfl ?_
  refine h_i0 ?_
  refine h_var rfl ?_
  refine h_set (j := 2) hp rfl ?_
  have hp1 : upd H p (.lst [.int a, .int b', .int (n + 1)]) p = some (.lst [.int a, .int b', .int (n + 1)]) := upd_same
  have ne1 : ∀ x, x ≠ p → upd H p (.lst [.int a, .int b', .int (n + 1)]) x = H x := fun x hx => upd_ne hx
  generalize hH1 : upd H p (.lst [.int a, .int b', .int (n + 1)]) = H1 at hp1 ne1
  have hH1' : upd H p (.lst (List.set [V.int a, V.int b', V.int n] 2 (V.int (n + 1)))) = H1 := hH1
  rw [hH1']
  refine h_var rfl ?_
  refine h_ix hp1 rfl ?_
  refine h_i ⟨by decide, by decide, by decide⟩ ?_
  refine h_i0 ?_
  refine ⟨_, rfl, ?_⟩
  by_cases ha : a ≥ 10 ^ 18
  · rw [if_pos (by simpa using ha)]
    refine h_var rfl ?_
    refine h_ix hp1 rfl ?_
    refine .inl ⟨_, rfl, ?_⟩
    refine h_var rfl ?_
    refine h_i (by show (0 : Int) < _; omega) ?_
    refine h_var rfl ?_
    refine h_ix hp1 rfl ?_
    refine h_var rfl ?_
    refine h_i ⟨by omega, by omega⟩ ?_
    refine h_var rfl ?_
    refine h_set (j := 1) hp1 rfl ?_
    refine h_var rfl ?_
    exact fin _ _ a (b' / k) (Int.emod_nonneg _ (by omega)) (Int.emod_lt_of_pos _ (by omega)) (fun x hx => (upd_ne hx).trans (ne1 x hx)) upd_same
  · rw [if_neg (by simpa using ha)]
    have hs0 := Int.emod_nonneg a (show (2147480053 : Int) ≠ 0 by decide)
    have hs1 := Int.emod_lt_of_pos a (show (0 : Int) < 2147480053 by decide)
    refine h_var rfl ?_
    refine h_ix hp1 rfl ?_
    refine .inl ⟨_, rfl, ?_⟩
    refine h_i (by show (0 : Int) < _; decide) ?_
    generalize hseed : a % 2147480053 = seed at hs0 hs1
    refine h_var rfl ?_
    refine h_i (Or.inr ⟨by decide, by decide⟩) ?_
    refine h_var rfl ?_
    refine h_ix hp1 rfl ?_
    refine h_i (Or.inr ⟨by decide, by decide⟩) ?_
    refine h_i0 ?_
    refine h_i0 ?_
    refine .inl ⟨_, rfl, ?_⟩
    refine h_i ⟨by decide, by decide, by omega⟩ ?_
    refine .inl ⟨_, rfl, ?_⟩
    refine h_i (by show (0 : Int) < _; decide) ?_
    have hm0 : ∀ y : Int, 0 ≤ y % 2147483647 := fun y => Int.emod_nonneg y (by decide)
    have hm1 : ∀ y : Int, y % 2147483647 < 2147483647 := fun y => Int.emod_lt_of_pos y (by decide)
    generalize hmix : ((seed * 7919 + (n + 1) * 104173 + 12011) ^ (5 : Int).toNat) % 2147483647 = mix
    have hx0 : 0 ≤ mix := by rw [← hmix]; exact hm0 _
    have hx1 : mix < 2147483647 := by rw [← hmix]; exact hm1 _
    have hnn : 0 ≤ (n + 1) * (n + 1) ∧ (n + 1) * (n + 1) ≤ 1048576 * 1048576 := ⟨Int.mul_nonneg (by omega) (by omega), Int.mul_le_mul (by omega) (by omega) (by omega) (by decide)⟩
    refine h_var rfl ?_
    refine h_var rfl ?_
    refine h_ix hp1 rfl ?_
    refine h_var rfl ?_
    refine h_ix hp1 rfl ?_
    refine h_i (Or.inr ⟨by omega, by omega⟩) ?_
    refine h_i (Or.inr ⟨by decide, by decide⟩) ?_
    refine h_i0 ?_
    refine .inl ⟨_, rfl, ?_⟩
    refine h_i ⟨by decide, by decide, by omega⟩ ?_
    refine .inl ⟨_, rfl, ?_⟩
    refine h_i (by show (0 : Int) < _; decide) ?_
    refine h_var rfl ?_
    refine h_i ⟨by decide, by decide⟩ ?_
    refine h_var rfl ?_
    refine h_i (by show (0 : Int) < _; omega) ?_
    exact fin _ _ a b' (Int.emod_nonneg _ (by omega)) (Int.emod_lt_of_pos _ (by omega)) ne1 hp1

end
end Pf
set_option Elab.async false
set_option linter.all false
set_option maxRecDepth 100000
set_option maxHeartbeats 1000000
namespace Pf
open PySem PySem.Spec PyProof.Rows L2 DL
local macro_rules | `(tactic| walk_at "len") => `(tactic| with_unfolding_all first | exact Nat.le_of_ble_eq_true rfl | (simp; done) | (simp; omega))
local macro_rules | `(tactic| walk_at "side") => `(tactic| with_unfolding_all first | exact Or.inr ⟨by omega, by omega⟩ | exact Or.inl ⟨by omega, by omega⟩ | exact ⟨by omega, by omega⟩ | exact ⟨by omega, by omega, by omega⟩ | (show (0 : Int) < _; omega) | decide)
local macro_rules | `(tactic| walk_at "d1") => `(tactic| with_reducible first
  | (refine ds_seq ?_; try dsimp only [List.set_cons_zero, List.set_cons_succ, List.cons_append, List.nil_append, O.frz])
  | refine ds_asg ?_
  | refine ds_ret ?_
  | refine ds_retN ?_
  | refine ds_next ?_
  | refine ds_dropC ?_
  | refine ds_drop0 ?_
  | refine ds_dropB ?_
  | refine ds_if ?_
  | refine dt_test ?_
  | refine dt_B ?_
  | refine dt_not ?_
  | refine dt_and ?_
  | refine dt_or ?_
  | refine dt_yes ?_
  | refine de_int ?_
  | refine de_bl ?_
  | refine de_str ?_
  | refine de_non ?_
  | refine de_varD (by with_unfolding_all rfl) ?_
  | refine de_varO (by with_unfolding_all rfl) ?_
  | refine de_varA (by with_unfolding_all rfl) ?_
  | refine de_varV (by with_unfolding_all rfl) ?_
  | refine de_isi ?_
  | refine de_dget ?_
  | refine de_dget2 ?_
  | refine de_dnotin ?_
  | refine de_din ?_
  | refine de_dnew ?_
  | refine de_dnewT ?_
  | refine de_cb ?_
  | refine de_call0G ?_
  | refine de_callG ?_
  | refine de_andB ?_
  | refine de_orB ?_
  | refine de_notV ?_
  | refine de_ifE ?_
  | refine de_chain ?_
  | refine de_op ?_
  | refine de_neg ?_
  | refine de_tupG ?_
  | refine de_lstG ?_
  | refine de_slL ?_
  | refine de_slT ?_
  | refine do_none ?_
  | refine do_some ?_
  | refine daf_cons ?_
  | refine daf_nil ?_
  | refine daf_star ?_
  | refine da_cons ?_
  | refine da_nil ?_
  | refine lk_dat ?_
  | refine lk_nil ?_
  | refine ak_dat ?_
  | refine ak_nil ?_
  | refine ak_at ?_
  | refine ak_lst ?_
  | refine lk_lst ?_
  | refine ak_dK ?_
  | refine ak_dT ?_
  | refine ak_vw ?_
  | refine lk_dT ?_
  | refine lk_dK ?_
  | refine da_star ?_
  | refine de_lstRg1 ?_
  | refine de_lstRg2 ?_
  | refine de_revL ?_
  | refine de_count ?_
  | refine de_index ?_
  | refine di_enum ?_
  | refine dt_tru ?_
  | refine de_fld ?_
  | refine de_prop ?_
  | refine di_rng1 ?_
  | refine di_rng2 ?_
  | refine di_list ?_
  | refine di_tup ?_
  | refine di_seq ?_
  | refine di_zip ?_
  | refine ops_int ?_
  | (refine ops_cat (by with_unfolding_all rfl) (by with_unfolding_all rfl) ?side ?_; (case side => walk_at "len"))
  | (refine ops_catA ?side ?_; (case side => walk_at "len"))
  | refine ops_eqI ?_
  | refine ops_neI ?_
  | refine ops_bool ?_
  | (refine ops_intC ?side ?_; (case side => walk_at "side"))
  | refine cb_lenL (by with_unfolding_all rfl) ?_
  | refine cb_lenT (by with_unfolding_all rfl) ?_
  | refine cb_lenK (by with_unfolding_all rfl) ?_
  | refine cb_max2 ?_
  | refine cb_min2 ?_
  | refine cb_int ?_
  | refine ⟨fun _ => ?_, fun z => Bool.noConfusion z⟩
  | refine ⟨fun z => Bool.noConfusion z, fun _ => ?_⟩
  | refine ⟨rfl, ?_⟩
  | refine ⟨_, rfl, ?_⟩
  | refine ⟨_, Or.inl (by with_unfolding_all rfl), ?_⟩
  | (with_unfolding_all refine ⟨_, true, rfl, rfl, (fun _ z => by cases z), rfl, ?_⟩)
  | (with_unfolding_all refine ⟨_, false, rfl, rfl, (fun _ z => by cases z), rfl, ?_⟩))
local macro_rules | `(tactic| walk_at "d") => `(tactic| repeat walk_at "d1")
local macro_rules | `(tactic| walk_at "wk") => `(tactic| repeat first | exact Wk.nil | refine Wk.keep ?_ | refine Wk.drop ?_)
section
variable {P : Program} {w : World} {K : PySem.W.Frag} {mg : Str → Option Value} {base : Heap} {f : Addr} {fd : FuncData}
/-- games put in -/
def gput (gs : List (Nat × Nat)) (k v : Nat) : List (Nat × Nat) := if k ∈ gs.map (·.1) then gs.map fun p => if p.1 = k then (p.1, v) else p else gs ++ [(k, v)]
theorem gput_D (gs : List (Nat × Nat)) (k v : Nat) : putD (gD gs) (Sum.inl (k : Int)) (.int (v : Nat)) = gD (gput gs k v) := by
  by_cases h : k ∈ gs.map (·.1)
  · unfold putD gput
    rw [if_pos h, if_pos]
    · unfold gD
      rw [List.map_map, List.map_map]
      apply List.map_congr_left
      rintro ⟨a, b⟩ _
      by_cases e : a = k
      · subst e; simp
      · have : ¬ ((a : Int) = k) := by omega
        simp [e, this]
    · rw [List.any_eq_true]
      obtain ⟨⟨a, b⟩, h1, rfl⟩ := List.mem_map.mp h
      exact ⟨(Sum.inl (a : Int), .int (b : Nat)), List.mem_map.mpr ⟨_, h1, rfl⟩, by simp⟩
  · rw [putD_new h]; unfold gput; rw [if_neg h]
theorem gput_keys (gs : List (Nat × Nat)) (k v : Nat) : (gput gs k v).map (·.1) = if k ∈ gs.map (·.1) then gs.map (·.1) else gs.map (·.1) ++ [k] := by
  unfold gput
  split
  · rw [List.map_map]
    apply List.map_congr_left
    rintro ⟨a, b⟩ _
    show (if a = k then (a, v) else (a, b)).1 = a
    split <;> rfl
  · simp
theorem gput_mem {gs : List (Nat × Nat)} {k v t u : Nat} (h : (t, u) ∈ gput gs k v) : (t = k ∧ u = v) ∨ (t, u) ∈ gs := by
  unfold gput at h
  split at h
  · obtain ⟨⟨a, b⟩, h1, e⟩ := List.mem_map.mp h
    have e : (if a = k then (a, v) else (a, b)) = (t, u) := e
    split at e
    · cases e; left; exact ⟨by assumption, rfl⟩
    · cases e; right; exact h1
  · rcases List.mem_append.mp h with h | h
    · exact .inr h
    · simp at h; exact .inl h
theorem gput_len (gs : List (Nat × Nat)) (k v : Nat) : 1 ≤ (gput gs k v).length ∧ (gput gs k v).length ≤ gs.length + 1 := by
  have e := congrArg List.length (gput_keys gs k v)
  simp only [List.length_map] at e
  rw [e]
  split
  · rename_i h
    have : gs ≠ [] := fun z => by rw [z] at h; cases h
    have := List.length_pos_iff.mpr this
    rw [List.length_map]; omega
  · simp
theorem gput_nd {gs : List (Nat × Nat)} (nd : (gs.map (·.1)).Nodup) (k v : Nat) : ((gput gs k v).map (·.1)).Nodup := by
  rw [gput_keys]
  split
  · exact nd
  · rename_i h
    rw [List.nodup_append]
    exact ⟨nd, by simp, by intro a ha b hb z; simp at hb; subst hb; subst z; exact h ha⟩
theorem ch_small : ∀ (n : Fin 11) (t : Fin 4), KM.ch n.1 t.1 ≤ 130 := by decide +kernel

def C_law_people : Fc := fun _ W m ss Φ Ξ => ∃ (p : Addr) (L : Src W p), ss = [.at_ p] ∧ 6 ≤ L.left m ∧ (∀ a, ¬ W.L a) ∧ ∀ n gs m', 1 ≤ n → n ≤ 10 → GGm n gs → tot n gs ≤ 130 → L.left m ≤ L.left m' + 6 → Φ m' (.dat (.tup [.int (n : Nat), .dic (gD gs)]))

abbrev s_law_people : Stmt := (top 49)
abbrev N_law_people : List Str := ["_law_source_here", "_law_people_here", "_law_games", "_law_k", "_law_team"]
theorem sc_law_people : FnScope N_law_people ["_law_source_here"] (defScope s_law_people) := ⟨rfl, rfl, rfl, by decide +kernel, rfl, by decide +kernel, by decide +kernel⟩
theorem ok_law_people (F : FnP K "_law_people" s_law_people f fd) (b : BI mg) (c_law_draw : Cl P w K mg base CX0 1 "_law_draw" ["_law_source_here", "_law_limit"] C_law_draw) (c_law_choose : Cl P w K mg base CX0 1 "_law_choose" ["_law_many", "_law_few"] C_law_choose) : FnOk P w K mg base CX0 2 f fd ["_law_source_here"] (spF K C_law_people) := by
  have hlen := spF_len (K := K) (C := C_law_people) (m := 1) fun κ W m ss Φ Ξ ⟨p, L, e, _⟩ => by first | exact e | (rw [e]; rfl)
  refine F.ok sc_law_people hlen ?_
  intro cdv A outer s H vs Q E hr h
  refine ⟨_, PSs.nox (pss_cons (ps_set (i := 1) sc_law_people.nd rfl (by first | exact Or.inl rfl | exact Or.inr rfl) (pe_op op_add pe_int (k_cl0 c_law_draw rfl hr (pa_cons (pv 0) (pa_cons pe_int pa_nil)))))
      (pss_cons (ps_set (i := 2) sc_law_people.nd rfl (by first | exact Or.inl rfl | exact Or.inr rfl) pe_dnewK)
      (pss_cons (ps_for PassesOwn.never rfl (pi_range1 rfl b.range (pa_cons (pe_op op_add pe_int (k_cl0 c_law_draw rfl hr (pa_cons (pv 0) (pa_cons pe_int pa_nil)))) pa_nil)) (pg_name (i := 3) sc_law_people.nd rfl (by first | exact Or.inl rfl | exact Or.inr rfl))
      (pss_one (ps_dput (hu_of hr) (pv 2) (pe_op op_add pe_int (k_cl0 c_law_draw rfl hr (pa_cons (pv 0) (pa_cons (pe_callB (call_min2 rfl) rfl b.min boot_min (pa_cons pe_int (pa_cons (pv 1) pa_nil))) pa_nil)))) (pe_op op_add pe_int (k_cl0 c_law_draw rfl hr (pa_cons (pv 0) (pa_cons pe_int pa_nil)))) rfl)))
      (pss_cons (ps_if (pt_cmpR op_gt (pe_callB (k_sum (K := K) rfl rfl) rfl b.sum boot_sum (pa_cons (pe_lock (pe_lc (own := [("_law_team", 4)]) rfl sc_law_people.nd (pi_keys (pv 2)) (blkOk_by (own := [("_law_team", 4)]) (N := N_law_people) (sc := (defScope s_law_people)) (by decide +kernel)) (fun _ _ _ _ _ => (pg_name (i := 4) sc_law_people.nd rfl (by first | exact Or.inl rfl | exact Or.inr rfl))) (fun _ _ _ _ _ => pts_nil) (fun _ _ _ _ _ => (pe_op op_mul (pe_dget (hu_of hr) (pv 2) (pv 4) (fun _ _ => rfl)) (k_cl0 c_law_choose rfl hr (pa_cons (pv 1) (pa_cons (pv 4) pa_nil))))))) pa_nil)) pe_int (nomark _)) (pss_one (ps_set (i := 2) sc_law_people.nd rfl (by first | exact Or.inl rfl | exact Or.inr rfl) (pe_disp (pps_cons (pe_callB (call_min2 rfl) rfl b.min boot_min (pa_cons pe_int (pa_cons (pe_callB (cr_minK rfl) rfl b.min boot_min (pa_cons (pv 2) pa_nil)) pa_nil))) pe_int pps_nil) rfl rfl (fun z => by cases z) (by decide)))) pss_nil)
      (pss_one (ps_ret (pe_tup (pa_cons (pv 1) (pa_cons (pv 2) pa_nil))))))))), ?_⟩
  refine DL.run_fnP  [.no, .no, .no, .no] (Nm := N_law_people) (n := 1) (k := 4) rfl (hlen _ _ _ _ h) rfl h fun κ W m ss Φ Ξ G hc => ?_
  try dsimp only [cxOf, Cx.nox, Cx.wish, Cx.blk]
  obtain ⟨p, L, rfl, hl, hL, hΦ⟩ := hc
  walk_at "d"
  refine ⟨p, L, 7, rfl, by decide, by decide, by omega, fun n0 hn0 => ?_⟩
  have l1 := L.less m (by omega)
  obtain ⟨n, hn, en⟩ : ∃ n : Nat, n = n0 + 1 ∧ (1 + (n0 : Int)) = (n : Nat) := ⟨n0 + 1, rfl, by omega⟩
  walk_at "d"
  rw [en]
  refine ds_forW (vs := [3]) ?_
  walk_at "d"
  refine ⟨p, L, 2, rfl, by decide, by decide, by omega, fun r hr => ?_⟩
  have l2 := L.less (L.dec m) (by omega)
  walk_at "d"
  refine ⟨by omega, by omega, fun i m' ρ => ∃ gs : List (Nat × Nat), ρ = [.at_ p, .dat (.int (n : Nat)), .own (.dK (gD gs)), .no, .no] ∧ (0 < i → 1 ≤ gs.length) ∧ gs.length ≤ i ∧ (∀ t v : Nat, (t, v) ∈ gs → 1 ≤ t ∧ t ≤ 4 ∧ t ≤ n ∧ 1 ≤ v ∧ v ≤ 3) ∧ (gs.map (·.1)).Nodup ∧ L.left m ≤ L.left m' + 2 + 2 * i, ⟨_, Wk.refl _, rfl, [], rfl, by simp, by simp, by simp, by simp, by omega⟩, ?_, ?_⟩
  · rintro i d m1 ρ hd ⟨gs, rfl, g1, g2, g3, g4, g5⟩
    obtain ⟨hi, rfl⟩ := rng_at hd
    have hi2 : i < 2 := by omega
    refine ⟨_, dg_name (by simp), ?_⟩
    refine ds_dput (i := 2) rfl (by show (gD gs).length < _; rw [gD_len]; omega) ?_
    walk_at "d"
    refine ⟨p, L, 3, rfl, by decide, by decide, by omega, fun v hv => ?_⟩
    have l3 := L.less m1 (by omega)
    walk_at "d"
    refine ⟨p, L, min 4 n, by rw [show (min (4 : Int) (n : Nat)) = ((min 4 n : Nat) : Int) by omega], by omega, by omega, by omega, fun t ht => ?_⟩
    have l4 := L.less (L.dec m1) (by omega)
    walk_at "d"
    refine ⟨.int (1 + (v : Int)), .int (1 + (t : Int)), _, rfl, rfl, PutS.k (Sum.inl (1 + (t : Int))) _, ?_⟩
    rw [show (1 + (t : Int)) = ((t + 1 : Nat) : Int) by omega, show (1 + (v : Int)) = ((v + 1 : Nat) : Int) by omega, gput_D]
    have gl := gput_len gs (t + 1) (v + 1)
    refine ⟨_, by walk_at "wk", rfl, _, rfl, fun _ => gl.1, by omega, ?_, gput_nd g4 _ _, by omega⟩
    intro t' u h
    rcases gput_mem h with ⟨rfl, rfl⟩ | h
    · omega
    · exact g3 _ _ h
  · rintro m1 ρ ⟨gs, rfl, g1, g2, g3, g4, g5⟩
    rw [rng_len] at g1 g2 g5
    have gg : GGm n gs := ⟨g1 (by omega), by omega, g3, g4⟩
    refine ds_frz (i := 2) rfl ?_
    dsimp only [O.frz, O1.frz]
    walk_at "d"
    refine de_lcKM (atF n gs) (dp_var rfl) (.inl ⟨_, rfl⟩) hL walks_keysK (by rw [List.length_map, gD_len]; omega) (fun d F x hx => ⟨_, dg_name (by simp), ?_⟩) ?_
    · obtain ⟨p, hp, rfl⟩ := List.mem_map.mp hx
      obtain ⟨t, v, htv, rfl⟩ := gD_mem hp
      obtain ⟨o1, o2, o3, o4, o5⟩ := gg.ok t v htv
      walk_at "d"
      refine ⟨_, _, _, rfl, rfl, look_g gg.nd htv, ?_⟩
      walk_at "d"
      refine ⟨n, t, rfl, by omega, by omega, ?_⟩
      walk_at "d"
      simp [atF, keyD, gv_mem gg.nd htv, S.frz]
    · walk_at "d"
      rw [atF_eq gg.nd]
      refine cb_sumN (.inl rfl) ?_
      walk_at "d"
      by_cases ht : tot n gs ≤ 130
      · rw [show decide ((130 : Int) < ((gs.map fun p => p.2 * KM.ch n p.1).sum : Nat)) = false by simp; unfold tot at ht; omega]
        walk_at "d"
        exact hΦ n gs m1 (by omega) (by omega) gg ht (by omega)
      · rw [show decide ((130 : Int) < ((gs.map fun p => p.2 * KM.ch n p.1).sum : Nat)) = true by simp; unfold tot at ht; omega]
        walk_at "d"
        refine de_disp1 ?_
        walk_at "d"
        refine cb_minKD hL (gD_keys gs) (fun z => by have h1 := congrArg List.length z; have h2 := gg.l1; rw [List.length_map] at h1; simp only [List.length_nil] at h1; omega) (fun k hk _ => ?_)
        obtain ⟨⟨t, v⟩, htv, rfl⟩ := List.mem_map.mp hk
        obtain ⟨o1, o2, o3, o4, o5⟩ := gg.ok t v htv
        walk_at "d"
        refine ⟨Sum.inl (min 3 (t : Int)), .int 1, rfl, rfl, ?_⟩
        rw [show (min (3 : Int) (t : Nat)) = ((min 3 t : Nat) : Int) by omega]
        refine ⟨rfl, ds_frz (i := 2) rfl ?_⟩
        dsimp only [O.frz, O1.frz, List.set_cons_zero, List.set_cons_succ]
        walk_at "d"
        refine hΦ n [(min 3 t, 1)] m1 (by omega) (by omega) ⟨by simp, by simp, fun a b h => by simp at h; omega, by simp⟩ ?_ (by omega)
        have := ch_small ⟨n, by omega⟩ ⟨min 3 t, by omega⟩
        simpa [tot] using this


end
end Pf
set_option Elab.async false
set_option linter.all false
set_option maxRecDepth 100000
set_option maxHeartbeats 1000000
namespace Pf
open PySem PySem.Spec PyProof.Rows L2 DL
local macro_rules | `(tactic| walk_at "len") => `(tactic| with_unfolding_all first | exact Nat.le_of_ble_eq_true rfl | (simp; done) | (simp; omega))
local macro_rules | `(tactic| walk_at "side") => `(tactic| with_unfolding_all first | exact Or.inr ⟨by omega, by omega⟩ | exact Or.inl ⟨by omega, by omega⟩ | exact ⟨by omega, by omega⟩ | exact ⟨by omega, by omega, by omega⟩ | (show (0 : Int) < _; omega) | decide)
local macro_rules | `(tactic| walk_at "d1") => `(tactic| with_reducible first
  | (refine ds_seq ?_; try dsimp only [List.set_cons_zero, List.set_cons_succ, List.cons_append, List.nil_append, O.frz])
  | refine ds_asg ?_
  | refine ds_ret ?_
  | refine ds_retN ?_
  | refine ds_next ?_
  | refine ds_dropC ?_
  | refine ds_drop0 ?_
  | refine ds_dropB ?_
  | refine ds_if ?_
  | refine dt_test ?_
  | refine dt_B ?_
  | refine dt_not ?_
  | refine dt_and ?_
  | refine dt_or ?_
  | refine dt_yes ?_
  | refine de_int ?_
  | refine de_bl ?_
  | refine de_str ?_
  | refine de_non ?_
  | refine de_varD (by with_unfolding_all rfl) ?_
  | refine de_varO (by with_unfolding_all rfl) ?_
  | refine de_varA (by with_unfolding_all rfl) ?_
  | refine de_varV (by with_unfolding_all rfl) ?_
  | refine de_isi ?_
  | refine de_dget ?_
  | refine de_dget2 ?_
  | refine de_dnotin ?_
  | refine de_din ?_
  | refine de_dnew ?_
  | refine de_dnewT ?_
  | refine de_cb ?_
  | refine de_call0G ?_
  | refine de_callG ?_
  | refine de_andB ?_
  | refine de_orB ?_
  | refine de_notV ?_
  | refine de_ifE ?_
  | refine de_chain ?_
  | refine de_op ?_
  | refine de_neg ?_
  | refine de_tupG ?_
  | refine de_lstG ?_
  | refine de_slL ?_
  | refine de_slT ?_
  | refine do_none ?_
  | refine do_some ?_
  | refine daf_cons ?_
  | refine daf_nil ?_
  | refine daf_star ?_
  | refine da_cons ?_
  | refine da_nil ?_
  | refine lk_dat ?_
  | refine lk_nil ?_
  | refine ak_dat ?_
  | refine ak_nil ?_
  | refine ak_at ?_
  | refine ak_lst ?_
  | refine lk_lst ?_
  | refine ak_dK ?_
  | refine ak_dT ?_
  | refine ak_vw ?_
  | refine lk_dT ?_
  | refine lk_dK ?_
  | refine da_star ?_
  | refine de_lstRg1 ?_
  | refine de_lstRg2 ?_
  | refine de_revL ?_
  | refine de_count ?_
  | refine de_index ?_
  | refine di_enum ?_
  | refine dt_tru ?_
  | refine de_fld ?_
  | refine de_prop ?_
  | refine di_rng1 ?_
  | refine di_rng2 ?_
  | refine di_list ?_
  | refine di_tup ?_
  | refine di_seq ?_
  | refine di_zip ?_
  | refine ops_int ?_
  | (refine ops_cat (by with_unfolding_all rfl) (by with_unfolding_all rfl) ?side ?_; (case side => walk_at "len"))
  | (refine ops_catA ?side ?_; (case side => walk_at "len"))
  | refine ops_eqI ?_
  | refine ops_neI ?_
  | refine ops_bool ?_
  | (refine ops_intC ?side ?_; (case side => walk_at "side"))
  | refine cb_lenL (by with_unfolding_all rfl) ?_
  | refine cb_lenT (by with_unfolding_all rfl) ?_
  | refine cb_lenK (by with_unfolding_all rfl) ?_
  | refine cb_max2 ?_
  | refine cb_min2 ?_
  | refine cb_int ?_
  | refine ⟨fun _ => ?_, fun z => Bool.noConfusion z⟩
  | refine ⟨fun z => Bool.noConfusion z, fun _ => ?_⟩
  | refine ⟨rfl, ?_⟩
  | refine ⟨_, rfl, ?_⟩
  | refine ⟨_, Or.inl (by with_unfolding_all rfl), ?_⟩
  | (with_unfolding_all refine ⟨_, true, rfl, rfl, (fun _ z => by cases z), rfl, ?_⟩)
  | (with_unfolding_all refine ⟨_, false, rfl, rfl, (fun _ z => by cases z), rfl, ?_⟩))
local macro_rules | `(tactic| walk_at "d") => `(tactic| repeat walk_at "d1")
local macro_rules | `(tactic| walk_at "wk") => `(tactic| repeat first | exact Wk.nil | refine Wk.keep ?_ | refine Wk.drop ?_)
section
variable {P : Program} {w : World} {K : PySem.W.Frag} {mg : Str → Option Value} {base : Heap} {f : Addr} {fd : FuncData}
theorem SB_ch : ∀ (n : Fin 11) (k : Fin 5), (SB 0 n.1 k.1).length = KM.ch n.1 k.1 := by decide +kernel
theorem srtN_perm (l : List Nat) : (srtN l).Perm l := by
  have p := (srt_perm (l.map fun n : Nat => (n : Int))).map Int.toNat
  rw [List.map_map] at p
  have e : l.map (Int.toNat ∘ fun n : Nat => (n : Int)) = l := by
    conv => rhs; rw [← List.map_id l]
    apply List.map_congr_left
    intro a _
    simp
  rw [e] at p
  exact p
def gN (gs : List (Nat × Nat)) (t : List Nat) : Nat := (gv gs t.length).getD 0
def AT (n : Nat) (gs : List (Nat × Nat)) : List (List Nat) := (ET n gs).flatMap fun t => List.replicate (gN gs t) t
theorem rep_len (gs : List (Nat × Nat)) (k : Nat) : ∀ ts : List (List Nat), (∀ t ∈ ts, t.length = k) → (ts.flatMap fun t => List.replicate (gN gs t) t).length = ts.length * (gv gs k).getD 0
  | [], _ => by simp
  | t :: ts, h => by
    rw [List.flatMap_cons, List.length_append, rep_len gs k ts (fun t ht => h t (by simp [ht])), List.length_replicate, List.length_cons, Nat.add_mul]
    unfold gN
    rw [h t (by simp)]
    omega
theorem AT_len {n : Nat} {gs : List (Nat × Nat)} (hn : n ≤ 10) (hg : GGm n gs) : (AT n gs).length = tot n gs := by
  unfold AT ET
  have h1 : ∀ ks : List Nat, (∀ k ∈ ks, k ≤ 4) → ((ks.flatMap fun k => SB 0 n k).flatMap fun t => List.replicate (gN gs t) t).length = (ks.map fun k => (gv gs k).getD 0 * KM.ch n k).sum := fun ks => by
    induction ks with
    | nil => intro _; rfl
    | cons k ks ih =>
      intro h
      rw [List.flatMap_cons, List.flatMap_append, List.length_append, ih (fun a ha => h a (by simp [ha])), List.map_cons, List.sum_cons, rep_len gs k _ (fun t ht => (SB_mem.mp ht).1)]
      have := SB_ch ⟨n, by omega⟩ ⟨k, by have := h k (by simp); omega⟩
      simp only at this
      rw [this, Nat.mul_comm]
  rw [h1 _ fun k hk => by
    obtain ⟨⟨t, v⟩, h2, rfl⟩ := List.mem_map.mp (srtN_mem.mp hk)
    exact (hg.ok t v h2).2.1]
  rw [((srtN_perm (gs.map (·.1))).map fun k => (gv gs k).getD 0 * KM.ch n k).sum_nat]
  unfold tot
  rw [List.map_map]
  congr 1
  apply List.map_congr_left
  rintro ⟨t, v⟩ h
  simp [gv_mem hg.nd h]
theorem ET_nodup {n : Nat} {gs : List (Nat × Nat)} (hg : GGm n gs) : (ET n gs).Nodup :=
  flatMap_nodup (srtN_nodup hg.nd) (fun k _ => SB_nodup 0 n k) (fun a _ b _ x hx hy => by rw [← (SB_mem.mp hx).1, (SB_mem.mp hy).1])
theorem ET_team {n : Nat} {gs : List (Nat × Nat)} (hg : GGm n gs) {t : List Nat} (h : t ∈ ET n gs) : Team n t ∧ (gv gs t.length).isSome = true := by
  obtain ⟨k, hk, ht⟩ := List.mem_flatMap.mp h
  obtain ⟨⟨s, v⟩, h2, e⟩ := List.mem_map.mp (srtN_mem.mp hk)
  have e : s = k := e
  subst e
  obtain ⟨q1, q2, q3⟩ := SB_mem.mp ht
  obtain ⟨o1, o2, o3, o4, o5⟩ := hg.ok s v h2
  refine ⟨⟨by omega, by omega, q2, fun x hx => (q3 x hx).2⟩, ?_⟩
  rw [q1, gv_mem hg.nd h2]
  rfl
theorem cnt_rep (g : List Nat → Nat) : ∀ {ts : List (List Nat)}, ts.Nodup → ∀ {t : List Nat}, (ts.flatMap fun s => List.replicate (g s) s).count t = if t ∈ ts then g t else 0
  | [], _, t => by simp
  | s :: ts, nd, t => by
    obtain ⟨n1, n2⟩ := List.nodup_cons.mp nd
    rw [List.flatMap_cons, List.count_append, cnt_rep g n2, List.count_replicate]
    by_cases e : s = t
    · subst e
      simp [n1]
    · have e2 : ¬ t = s := fun z => e z.symm
      simp [e, e2]
theorem good_of {n k : Nat} {gs : List (Nat × Nat)} {rs : List (List (List Nat))} (h1 : 1 ≤ n) (hn : n ≤ 10) (hg : GGm n gs) (ht : tot n gs ≤ 130) (hk : 1 ≤ k) (hk2 : k ≤ 130) (hl : rs.length = k) (p : rs.flatten.Perm (AT n gs)) : GoodP n gs rs where
  n1 := h1
  n10 := hn
  gg := hg
  tt := ht
  r1 := by omega
  r2 := by omega
  len := by rw [p.length_eq, AT_len hn hg]; omega
  tm := fun r hr t h => by
    have : t ∈ AT n gs := p.mem_iff.mp (List.mem_flatten.mpr ⟨r, hr, h⟩)
    obtain ⟨s, hs, h2⟩ := List.mem_flatMap.mp this
    have : t = s := List.eq_of_mem_replicate h2
    subst this
    exact ET_team hg hs
  cnt := fun t h => by
    have e := p.count_eq t
    unfold AT at e
    rw [cnt_rep _ (ET_nodup hg), if_pos h] at e
    rw [e]
    obtain ⟨v, hv⟩ := Option.isSome_iff_exists.mp (ET_team hg h).2
    unfold gN
    rw [hv]
    rfl
theorem flat_set {α : Type} : ∀ {rs : List (List α)} {j : Nat} {r : List α} {x : α}, rs[j]? = some r → (rs.set j (r ++ [x])).flatten.Perm (rs.flatten ++ [x])
  | [], j, r, x, h => by simp at h
  | a :: rs, 0, r, x, h => by
    simp at h
    subst h
    simp only [List.set_cons_zero, List.flatten_cons, List.append_assoc]
    exact List.Perm.append_left _ List.perm_append_comm
  | a :: rs, j + 1, r, x, h => by
    simp only [List.set_cons_succ, List.flatten_cons, List.append_assoc]
    exact List.Perm.append_left _ (flat_set (by simpa using h))
theorem flat_rev {α : Type} : ∀ (rs : List (List α)), (rs.map List.reverse).flatten.Perm rs.flatten
  | [] => by simp
  | a :: rs => by
    simp only [List.map_cons, List.flatten_cons]
    exact (List.reverse_perm a).append (flat_rev rs)
theorem row_le {α : Type} : ∀ {rs : List (List α)} {j : Nat} {r : List α}, rs[j]? = some r → r.length ≤ rs.flatten.length
  | [], j, r, h => by simp at h
  | a :: rs, 0, r, h => by simp at h; subst h; simp
  | a :: rs, j + 1, r, h => by
    have := row_le (rs := rs) (j := j) (by simpa using h)
    rw [List.flatten_cons, List.length_append]; omega

def C_law_plan : Fc := fun _ W m ss Φ Ξ => ∃ (p : Addr) (L : Src W p) (n k : Nat) (gs : List (Nat × Nat)), ss = [.at_ p, .dat (.int (n : Nat)), .dat (.dic (gD gs)), .dat (.int (k : Nat))] ∧ 1 ≤ n ∧ n ≤ 10 ∧ GGm n gs ∧ tot n gs ≤ 130 ∧ 1 ≤ k ∧ k ≤ 130 ∧ 130 ≤ L.left m ∧ ∀ rs m', GoodP n gs rs → rs.length = k → L.left m ≤ L.left m' + 130 → Φ m' (.own (.lst (rs.map rwD)))

abbrev s_law_plan : Stmt := (top 50)
abbrev N_law_plan : List Str := ["_law_source_here", "_law_people_here", "_law_games", "_law_many", "_law_rounds", "_law_team", "_law_k", "_law_row"]
theorem sc_law_plan : FnScope N_law_plan ["_law_source_here", "_law_people_here", "_law_games", "_law_many"] (defScope s_law_plan) := ⟨rfl, rfl, rfl, by decide +kernel, rfl, by decide +kernel, by decide +kernel⟩
theorem ok_law_plan (F : FnP K "_law_plan" s_law_plan f fd) (b : BI mg) (c_law_teams : Cl P w K mg base CX0 2 "_law_teams" ["_law_people_here", "_law_games"] C_law_teams) (c_law_draw : Cl P w K mg base CX0 1 "_law_draw" ["_law_source_here", "_law_limit"] C_law_draw) : FnOk P w K mg base CX0 3 f fd ["_law_source_here", "_law_people_here", "_law_games", "_law_many"] (spF K C_law_plan) := by
  have hlen := spF_len (K := K) (C := C_law_plan) (m := 4) fun κ W m ss Φ Ξ ⟨p, L, n, k, gs, e, _⟩ => by first | exact e | (rw [e]; rfl)
  refine F.ok sc_law_plan hlen ?_
  intro cdv A outer s H vs Q E hr h
  refine ⟨_, PSs.nox (pss_cons (ps_setLc (i := 4) (own := [("_law_k", 6)]) rfl sc_law_plan.nd rfl rfl (sw_true rfl rfl rfl (by decide +kernel)) (pi_range1 rfl b.range (pa_cons (pv 3) pa_nil)) (blkOk_by (own := [("_law_k", 6)]) (N := N_law_plan) (sc := (defScope s_law_plan)) (by decide +kernel)) (fun _ _ _ _ _ => (pg_name (i := 6) sc_law_plan.nd rfl (by first | exact Or.inl rfl | exact Or.inr rfl))) (fun _ _ _ _ _ => pts_nil) (fun _ _ _ _ _ => (pe_lst pa_nil)))
      (pss_cons (ps_for PassesOwn.never rfl (k_piL (K := K) rfl (k_cl0 c_law_teams rfl hr (pa_cons (pv 1) (pa_cons (pv 2) pa_nil)))) (pg_name (i := 5) sc_law_plan.nd rfl (by first | exact Or.inl rfl | exact Or.inr rfl))
      (pss_one (ps_for PassesOwn.never rfl (pi_range1 rfl b.range (pa_cons (pe_dget (hu_of hr) (pv 2) (pe_callB (k_len (K := K) rfl) rfl b.len boot_len (pa_cons (pv 5) pa_nil)) (fun _ _ => rfl)) pa_nil)) (pg_name (i := 6) sc_law_plan.nd rfl (by first | exact Or.inl rfl | exact Or.inr rfl))
      (pss_cons (ps_set (i := 7) sc_law_plan.nd rfl (by first | exact Or.inl rfl | exact Or.inr rfl) (pe_ix (k_ixL (K := K) rfl) (pv 4) (k_cl0 c_law_draw rfl hr (pa_cons (pv 0) (pa_cons (pv 3) pa_nil))) (fun _ _ => rfl)))
      (pss_one (ps_expr (k_app (K := K) rfl (pv 7) (pa_cons (pv 5) pa_nil))))))))
      (pss_one (ps_ret (pe_lc (own := [("_law_row", 7)]) rfl sc_law_plan.nd (k_piL (K := K) rfl (pv 4)) (blkOk_by (own := [("_law_row", 7)]) (N := N_law_plan) (sc := (defScope s_law_plan)) (by decide +kernel)) (fun _ _ _ _ _ => (pg_name (i := 7) sc_law_plan.nd rfl (by first | exact Or.inl rfl | exact Or.inr rfl))) (fun _ _ _ _ _ => pts_nil) (fun _ _ _ _ _ => (k_revL (K := K) rfl (pv 7)))))))), ?_⟩
  refine DL.run_fnP  [.no, .no, .no, .no] (Nm := N_law_plan) (n := 4) (k := 4) rfl (hlen _ _ _ _ h) rfl h fun κ W m ss Φ Ξ G hc => ?_
  try dsimp only [cxOf, Cx.nox, Cx.wish, Cx.blk]
  obtain ⟨p, L, n, k, gs, rfl, h1, hn, hg, ht, hk, hk2, hl, hΦ⟩ := hc
  have al := AT_len hn hg
  walk_at "d"
  refine de_lcNM (f := fun _ => .lst []) ?_
  walk_at "d"
  refine ⟨by omega, by omega, by rw [rng_len]; omega, fun d hd => ⟨_, dg_name (by simp), ?_⟩, ?_⟩
  · walk_at "d"
    rfl
  have e0 : ((rngD 0 (k : Int).toNat).map fun _ => DL.It.o (.lst [])) = (List.replicate k ([] : List (List Nat))).map rowI := by
    simp [rngD, rowI, List.map_map, Function.comp_def, List.map_const']
  rw [e0]
  walk_at "d"
  refine ds_forW (vs := [5]) ?_
  walk_at "d"
  refine ⟨n, gs, rfl, hn, hg, ?_⟩
  walk_at "d"
  refine ⟨fun i m' ρ => ∃ rs : List (List (List Nat)), ρ = [.at_ p, .dat (.int (n : Nat)), .dat (.dic (gD gs)), .dat (.int (k : Nat)), .own (.nest (rs.map rowI)), .no, .no, .no] ∧ rs.length = k ∧ rs.flatten.Perm (((ET n gs).take i).flatMap fun t => List.replicate (gN gs t) t) ∧ L.left m ≤ L.left m' + rs.flatten.length, ⟨_, Wk.refl _, rfl, _, rfl, by simp, ?_, by omega⟩, ?_, ?_⟩
  · simp
  · rintro i d m1 ρ hd ⟨rs, rfl, r1, r2, r3⟩
    rw [List.getElem?_map] at hd
    cases hT : (ET n gs)[i]? with
    | none => rw [hT] at hd; cases hd
    | some t =>
      rw [hT] at hd
      cases hd
      have tm := List.mem_of_getElem? hT
      obtain ⟨v, hv⟩ := Option.isSome_iff_exists.mp (ET_team hg tm).2
      obtain ⟨o1, o2, o3, o4, o5⟩ := hg.ok _ _ (gv_some hv)
      have gt : gN gs t = v := by unfold gN; rw [hv]; rfl
      have es : ((ET n gs).take (i + 1)).flatMap (fun t => List.replicate (gN gs t) t) = (((ET n gs).take i).flatMap fun t => List.replicate (gN gs t) t) ++ List.replicate v t := by
        rw [List.take_add_one, hT]; simp [gt]
      have bl : (((ET n gs).take i).flatMap fun t => List.replicate (gN gs t) t).length + v ≤ 130 := by
        have h2 := congrArg List.length es
        rw [List.length_append, List.length_replicate] at h2
        rw [← h2]
        refine Nat.le_trans ?_ (Nat.le_trans (Nat.le_of_eq al) ht)
        unfold AT
        conv => rhs; rw [← List.take_append_drop (i + 1) (ET n gs)]
        rw [List.flatMap_append, List.length_append]
        omega
      refine ⟨_, dg_name (by simp), ?_⟩
      refine ds_forW (vs := [6]) ?_
      walk_at "d"
      refine ⟨_, .int (t.length : Nat), .int (v : Nat), rfl, by rw [dN_len], look_g hg.nd (gv_some hv), ?_⟩
      walk_at "d"
      refine ⟨by omega, by omega, fun j m' ρ => ∃ rs : List (List (List Nat)), ρ = [.at_ p, .dat (.int (n : Nat)), .dat (.dic (gD gs)), .dat (.int (k : Nat)), .own (.nest (rs.map rowI)), .dat (tD t), .no, .no] ∧ rs.length = k ∧ rs.flatten.Perm ((((ET n gs).take i).flatMap fun t => List.replicate (gN gs t) t) ++ List.replicate j t) ∧ L.left m ≤ L.left m' + rs.flatten.length, ⟨_, Wk.refl _, rfl, rs, rfl, r1, by simpa using r2, r3⟩, ?_, ?_⟩
      · rintro j d m2 ρ hd ⟨rs, rfl, q1, q2, q3⟩
        obtain ⟨hj, rfl⟩ := rng_at hd
        have ql := q2.length_eq
        rw [List.length_append, List.length_replicate] at ql
        refine ⟨_, dg_name (by simp), ?_⟩
        refine ds_seq ?_
        refine ds_asgEl (k := 7) (i := 4) rfl (by decide) ?_
        walk_at "d"
        refine ⟨p, L, k, rfl, by omega, by omega, by omega, fun x hx => ?_⟩
        have l3 := L.less m2 (by omega)
        have hx2 : x < rs.length := by omega
        refine ⟨(x : Int), x, .lst (rs[x].map tD), rfl, ?_, ?_, ?_⟩
        · unfold ixN
          rw [if_pos (by omega), if_pos (by rw [List.length_map]; omega)]
          simp
        · rw [List.getElem?_map, List.getElem?_eq_getElem hx2]; rfl
        dsimp only [List.set_cons_zero, List.set_cons_succ]
        have rl : rs[x].length ≤ rs.flatten.length := row_le (List.getElem?_eq_getElem hx2)
        refine ds_appE (k := 7) (i := 4) rfl rfl (by rw [List.getElem?_map, List.getElem?_eq_getElem hx2]; rfl) (by rw [List.length_map]; omega) ?_
        walk_at "d"
        dsimp only [List.set_cons_zero, List.set_cons_succ]
        have es2 : (rs.map rowI).set x (DL.It.o (.lst (rs[x].map tD ++ [tD t]))) = (rs.set x (rs[x] ++ [t])).map rowI := by
          rw [List.map_set]
          simp [rowI]
        rw [es2]
        have fp := flat_set (x := t) (List.getElem?_eq_getElem hx2)
        have fl := fp.length_eq
        rw [List.length_append] at fl
        refine ⟨_, by walk_at "wk", rfl, _, rfl, by rw [List.length_set]; exact q1, ?_, by rw [List.length_singleton] at fl; omega⟩
        rw [List.replicate_succ', ← List.append_assoc]
        exact fp.trans (q2.append_right _)
      · rintro m2 ρ ⟨rs, rfl, q1, q2, q3⟩
        rw [rng_len] at q2
        rw [show ((v : Nat) : Int).toNat = v by simp, ← es] at q2
        exact ⟨_, by walk_at "wk", rfl, rs, rfl, q1, q2, q3⟩
  · rintro m1 ρ ⟨rs, rfl, q1, q2, q3⟩
    rw [List.length_map, List.take_length] at q2
    have q2 : rs.flatten.Perm (AT n gs) := q2
    have ql := q2.length_eq
    refine ds_frz (i := 4) rfl ?_
    have ef : (O.nest (rs.map rowI)).frz = .lst (rs.map rwD) := by
      show D.lst ((rs.map rowI).map DL.It.frz) = _
      rw [List.map_map]
      rfl
    rw [ef]
    dsimp only [List.set_cons_zero, List.set_cons_succ]
    walk_at "d"
    refine de_lcMap (f := fun d => rwD (decR d).reverse) ?_
    walk_at "d"
    refine ⟨by rw [List.length_map]; omega, fun d hd => ⟨_, dg_name (by simp), ?_⟩, ?_⟩
    · obtain ⟨r, hr, rfl⟩ := List.mem_map.mp hd
      walk_at "d"
      rw [decR_eq]
      show S.dat (.lst (r.map tD).reverse) = _
      rw [← List.map_reverse]
      rfl
    · refine ⟨rfl, ?_⟩
      have e2 : (rs.map rwD).map (fun d => rwD (decR d).reverse) = (rs.map List.reverse).map rwD := by
        rw [List.map_map, List.map_map]
        apply List.map_congr_left
        intro r _
        show rwD (decR (rwD r)).reverse = _
        rw [decR_eq]
        rfl
      rw [e2]
      exact hΦ _ m1 (good_of h1 hn hg ht hk hk2 (by rw [List.length_map]; exact q1) ((flat_rev rs).trans q2)) (by rw [List.length_map]; exact q1) (by omega)


end
end Pf
set_option Elab.async false
set_option linter.all false
set_option maxRecDepth 100000
set_option maxHeartbeats 1000000
namespace DL
open PySem PySem.Spec PyProof.Rows L2 Evl
/-! ### a def that is called where no text of a container is under way (repr) -/
structure FnG (P : Program) (w : World) (K : PySem.W.Frag) (mg : Str → Option Value) (base : Heap) (CX : CXT) (k : Nat) (f : Addr) (fd : FuncData) (ps : List Str) (sp : Sp) : Prop where
  at_ : ∀ (A : Around), A.guards = some [] → Room k A → ∀ (outer : List Env) (s : Shared) (H : Hp) (args : Args) (us : List Value) (vs : List V) (Q : VK) (E : XK), Env0 P w K mg base A outer s H → BindsTo s fd args (ps.zip us) → Vals vs us → sp vs H Q E →
    codeAny (model P w) A (.call (.ref f) args) (CR CX outer P w H s Q E) s
section
variable {P : Program} {w : World} {K : PySem.W.Frag} {mg : Str → Option Value} {base : Heap} {x qual : Str} {params : Arguments} {body : List Stmt} {scope : Scope} {dvs : List V} {kws : List (Str × V)} {f : Addr} {fd : FuncData}
theorem okG {CX : CXT} {N ps : List Str} {k : Nat} {sp : Sp} (F : FunD K x qual params body scope dvs kws f fd) (S : FnScope N ps scope) (len : ∀ vs H Q E, sp vs H Q E → vs.length = ps.length)
    (each : ∀ (cdv : Value) (A : Around) (outer : List Env) (s : Shared) (H : Hp) (vs : List V) (Q : VK) (E : XK), A.guards = some [] → Room k (A.deeper (envOfC qual scope s.heap.objs.size f cdv)) → sp vs H Q E →
      ∃ t, PSs (cxOf CX P w K mg base N qual scope f cdv A outer s H E) body t ∧ t { nx := fun _ H' => Q .non H', rt := Q } (start N vs) H) : FnG P w K mg base CX (k + 1) f fd ps sp := by
  obtain ⟨_, _, _, _, _, _, _, cdv, _, _, rfl, lk, hcd, _, _⟩ := F.ex
  constructor
  intro A hg hr outer s H args us vs Q E e0 hb r hsp
  have before : ∀ {b o}, base.get? b = some o → s.heap.get? b = some o := fun e => (e0.bs _ _ e).1
  have kx : K.In s.heap := e0.mod.kin.keeps fun b o e => before e
  have free := e0.mod.nolimit.keeps fun b o e => before e
  obtain ⟨t, run, want⟩ := each cdv A outer s H vs Q E hg (hr.deeper _) hsp
  apply codeAny_call_function hr.depth (kx _ _ lk) rfl S.co S.gen rfl (PySem.W.codeRec_of kx hcd)
  apply hb
  apply wpAny_newFunctionEnv_cells S.kind
  · rintro ⟨n, v⟩ hy
    have hp := (List.of_mem_zip hy).1
    exact (S.par n hp).imp id fun q => ⟨q, PySem.W.cellsFrom_some _ _ _ (.inl q)⟩
  · rintro env rfl s1 made
    refine ⟨free.keeps made.toInCall.keep, codeAny_func ?_⟩
    have start_ : Inv (cxOf CX P w K mg base N qual scope f cdv A outer s H E) [] (L2.start N vs) H s1 := inv_start S hr.hd e0 (len _ _ _ _ hsp) r made
    refine wpAny_mono (run.run [] s1 (start N vs) H _ start_ want) ?_ fun _ _ z => z
    intro fl s' told
    match fl, told with
    | .ret u, ⟨v, _, H', J, rv, q⟩ => exact ⟨v, H', J.os, J.bare, J.base, J.hok, rv, q⟩
    | .next, ⟨_, H', J, q⟩ => exact ⟨V.non, H', J.os, J.bare, J.base, J.hok, rfl, q⟩
    | .brk, ⟨_, _, _, z⟩ => exact z.elim
    | .cont, ⟨_, _, _, z⟩ => exact z.elim
end
end DL
set_option Elab.async false
set_option linter.all false
set_option maxRecDepth 100000
set_option maxHeartbeats 1000000
namespace DL
open PySem PySem.Spec PyProof.Rows L2 Evl
/-! ### the law's call, where no text is under way -/
/-- what is tracked when the law begins: the script, unless it is a thing of the module, and the dict of all modules (as a thing that stays) -/
def H1 (own : Bool) (a : Addr) (vs : List Value) (ns : List Int) (oS : Obj) : Hp := fun b => if own = false ∧ b = a then some (.frz { cls := .type "list", data := .seq vs.toArray } (.lst (ns.map V.int))) else if b = sysModules then some (.frz oS (.own 0)) else none
theorem H1_cases (own : Bool) (a : Addr) (vs : List Value) (ns : List Int) (oS : Obj) (b : Addr) : (b ≠ sysModules ∧ H1 own a vs ns oS b = none) ∨ (own = false ∧ b = a ∧ H1 own a vs ns oS b = some (.frz { cls := .type "list", data := .seq vs.toArray } (.lst (ns.map V.int)))) ∨ (b = sysModules ∧ H1 own a vs ns oS b = some (.frz oS (.own 0))) := by
  unfold H1
  by_cases h : own = false ∧ b = a
  · rw [if_pos h]; exact .inr (.inl ⟨h.1, h.2, rfl⟩)
  · rw [if_neg h]
    by_cases h2 : b = sysModules
    · rw [if_pos h2]; exact .inr (.inr ⟨h2, rfl⟩)
    · rw [if_neg h2]; exact .inl ⟨h2, rfl⟩
section
variable {P : Program} {w : World} {K : PySem.W.Frag} {mg mb : Str → Option Value} {k : Nat} {fa a : Addr} {fd : FuncData} {x : Str} {sp : Sp} {s : Shared} {vs : List Value} {ns : List Int}
theorem callG (KX : K.In s.heap) (hns : s.heap.Ns mainGlobals mg) (hb : s.heap.Ns builtinsNs mb) (hbb : ∀ x : Str, x ≠ "__name__" → mb x = bootBuiltins x) (hlim : s.heap.NoLimit) (hg : s.gens = #[])
    (hsys : ∃ m, s.heap.Ns sysModules m) (hKs : K.lookup sysModules = none)
    (ha : s.heap.get? a = some { cls := .type "list", data := .seq vs.toArray }) (hi : IntsAre vs ns) (hl : ns.length ≤ sizeLine) (hr : Room k callerA)
    (F : ∀ base : Heap, K.In base → base.Ns mainGlobals mg → FnG P w K mg base CX0 k fa fd [x] sp) (hbind : ∀ (s : Shared) (u : Value), BindsTo s fd ⟨[u], []⟩ [(x, u)])
    (hsp : ∀ (H : Hp) (o : Obj), H sysModules = some (.frz o (.own 0)) → SqL K H a (ns.map V.int) → sp [.ref a] H (fun v _ => v = .bl true) fun _ _ _ => False) :
    codeAny (model P w) callerA (.call (.ref fa) ⟨[.ref a], []⟩) (fun r s' => r = .ok (.ret (.bool true)) ∧ OldK s.heap s'.heap ∧ s'.os = s.os ∧ AllBare s'.gens) s := by
  have rv := vals_ints hi
  have len := hi.length
  obtain ⟨_, oS, esS, epS, hS, dS, _⟩ := hsys
  have as : sysModules ≠ a := fun z => by
    rw [z, ha] at hS
    cases hS
    cases dS
  -- the script is the module's own, or it is tracked
  obtain ⟨own, hown⟩ : ∃ own : Bool, (own = true → ∃ o, K.lookup a = some o) ∧ (own = false → K.lookup a = none) := by
    cases hk : K.lookup a with
    | some o => exact ⟨true, fun _ => ⟨o, rfl⟩, fun z => by cases z⟩
    | none => exact ⟨false, fun z => (by cases z), fun _ => rfl⟩
  let H := H1 own a vs ns oS
  have atS : H sysModules = some (.frz oS (.own 0)) := by
    rcases H1_cases own a vs ns oS sysModules with ⟨h, _⟩ | ⟨_, h, _⟩ | ⟨_, h⟩
    · exact absurd rfl h
    · exact absurd h as
    · exact h
  have sq : SqL K H a (ns.map V.int) := by
    cases own with
    | false => exact .inl (.inr ⟨{ cls := .type "list", data := .seq vs.toArray }, by show H1 false a vs ns oS a = _; unfold H1; rw [if_pos ⟨rfl, rfl⟩]⟩)
    | true =>
      obtain ⟨o, hk⟩ := hown.1 rfl
      obtain rfl : _ = o := Option.some.inj (ha.symm.trans (KX a o hk))
      exact .inr ⟨_, vs.toArray, _, hk, rfl, rfl, rfl, by rw [List.size_toArray, len]; exact hl, by simpa using rv⟩
  have hok : HOk P w H s.heap := fun b u z => by
    rcases H1_cases own a vs ns oS b with ⟨_, h⟩ | ⟨_, rfl, h⟩ | ⟨rfl, h⟩
    · rw [show H b = none from h] at z; cases z
    · rw [show H b = _ from h] at z
      cases z
      exact ⟨ha, by rw [List.length_map]; exact hl, vs, _, rv, ha⟩
    · rw [show H sysModules = _ from h] at z
      cases z
      exact ⟨hS, oS, hS⟩
  have ns_ : ∀ {b : Addr} {m : Str → Option Value}, b ≠ sysModules → s.heap.Ns b m → (hidT s.heap H).Ns b m := by
    rintro b m nb ⟨o, es, ep, e, d, r⟩
    refine ⟨o, es, ep, hidT_get e ?_, d, r⟩
    rcases H1_cases own a vs ns oS b with ⟨_, h⟩ | ⟨_, rfl, _⟩ | ⟨h, _⟩
    · exact h
    · rw [ha] at e
      cases e
      cases d
    · exact absurd h nb
  have kin : K.In (hidT s.heap H) := fun b o e => hidT_get (KX b o e) (by
    rcases H1_cases own a vs ns oS b with ⟨_, h⟩ | ⟨h1, rfl, _⟩ | ⟨rfl, _⟩
    · exact h
    · rw [hown.2 h1] at e; cases e
    · rw [hKs] at e; cases e)
  obtain ⟨mc, l1, l2⟩ := hlim
  have hmain := ns_ (by decide) hns
  have md : Mod K mg (hidT s.heap H) := ⟨kin, hmain, ⟨mb, ns_ (by decide) hb, hbb⟩, mc, ns_ (by decide) l1, l2⟩
  have env : Env0 P w K mg (hidT s.heap H) callerA [] s H := ⟨rfl, md, fun b o e => of_hidT e, Nat.le_of_eq (hidT_size _ _), trivial, fun b z => absurd (show b ∈ ([] : List Addr) from z) List.not_mem_nil, hok, .of_eq hg⟩
  refine codeAny_mono ((F _ kin hmain).at_ callerA rfl hr [] s H ⟨[.ref a], []⟩ [.ref a] [.ref a] _ _ env (hbind s (.ref a)) (.cons rfl .nil) (hsp H oS atS sq)) fun r s' told => ?_
  match r, told with
  | .error e, z => exact z.elim
  | .ok .next, z => exact z.elim
  | .ok .brk, z => exact z.elim
  | .ok .cont, z => exact z.elim
  | .ok (.ret u), ⟨v, H', os, bare, un, hok', r', q⟩ =>
    have q : v = .bl true := q
    subst q
    obtain rfl : u = Value.bool true := r'
    have stays : ∀ {b : Addr} {ob : Obj} {w : HO}, H b = some (.frz ob w) → ∀ o, s.heap.get? b = some o → s'.heap.get? b = some o := fun {b ob w} h o e => by
      obtain ⟨g1, _⟩ := hok b _ h
      obtain ⟨g2, _⟩ := hok' b _ (un.frzs b _ _ h)
      rw [e] at g1
      cases g1
      exact g2
    refine ⟨rfl, OldK.of_keep fun b o e => ?_, os, bare⟩
    rcases H1_cases own a vs ns oS b with ⟨_, h⟩ | ⟨_, _, h⟩ | ⟨_, h⟩
    · exact un.keep b o e h (fun z => by cases z) (by simp)
    · exact stays h o e
    · exact stays h o e
end
theorem walkG {l : PySem.W.OpenLaw} {n k : Nat} {q : Program} {loose : List Str} {XP : (Str → Option Value) → Heap → Prop} {YP : World → Heap → Prop} {d : DefRec} {x : Str}
    (hn : l.most = some n) (hn2 : n ≤ sizeLine) (hdf : d.params.defaults = []) (hr : Room k callerA) (hq : importsNone q = true)
    (F : ∀ (w : World) (mg : Str → Option Value) (fa : Addr) (h : Heap), YP w h → h.Ns mainGlobals mg → mg d.name = some (.ref fa) →
      ∃ (K : PySem.W.Frag) (fd : FuncData) (sp : Sp), K.In h ∧ K.lookup sysModules = none ∧ (∀ (s : Shared) (u : Value), BindsTo s fd ⟨[u], []⟩ [(x, u)]) ∧
        (∀ (H : Hp) (o : Obj) (a : Addr) (ns : List Int), ns.length ≤ n → H sysModules = some (.frz o (.own 0)) → SqL K H a (ns.map V.int) → sp [.ref a] H (fun v _ => v = .bl true) fun _ _ _ => False) ∧
        ∀ base : Heap, K.In base → base.Ns mainGlobals mg → FnG l.prog w K mg base CX0 k fa fd [x] sp) :
    PySem.W.WalkO q loose XP YP l.row.toRowW d [] (fun f vs => PySem.call f vs) :=
  Att.attach_call hn hdf fun w s₀ s₁ mg mb fa o pm cd doc a vs ns G Y ho hd hcd hmg hobj hints hlen hg => by
    obtain ⟨K, fd, sp, KX, hK, hb, hsp, hF⟩ := F w mg fa _ Y G.T.g hmg
    obtain ⟨mm, hm, _⟩ := (G.T.seer hq).mods
    exact callG KX G.T.g G.T.b G.T.builtins G.T.nolimit hg ⟨mm, hm⟩ hK hobj hints (Nat.le_trans hlen hn2) hr hF hb fun H o hO hS => hsp H o a ns hlen hO hS
end DL
set_option Elab.async false
set_option linter.all false
set_option maxRecDepth 100000
set_option maxHeartbeats 1000000
namespace DL
open PySem PySem.Spec PyProof.Rows L2 Evl
/-! ### a law that may ask repr -/
def S0 (o : Obj) : HO := .frz o (.own 0)
def WS (o : Obj) : Wd Unit where
  M := fun a => a = sysModules
  L := fun _ => False
  I := fun _ _ H => H sysModules = some (S0 o)
  dep := fun _ _ _ _ _ _ k h => (k _ rfl).trans h
  has := fun _ _ _ a h ma => ⟨S0 o, by rw [ma]; exact h, rfl⟩
  sw := fun _ _ _ _ _ _ _ h => h
  pin := fun a u => a = sysModules ∧ u = S0 o
  pinned := fun _ _ _ a u h ⟨h1, h2⟩ => by rw [h1, h2]; exact h
theorem start_lawS {K : PySem.W.Frag} {F : Fc} {H : Hp} {a : Addr} {o : Obj} {ns : List Int} (hO : H sysModules = some (S0 o)) (hS : SqL K H a (ns.map V.int)) (hF : F Unit (WS o) () [.dat (.scr ns)] (fun _ s => s = .dat (.bl true)) fun _ _ _ => False) :
    spF K F [.ref a] H (fun v _ => v = .bl true) fun _ _ _ => False := by
  have ex : Ex (scrOf H) H := fun b o h => by
    unfold scrOf at h
    split at h
    · rename_i e; rw [e]; exact h
    · rename_i e; rw [e]; exact h
    · cases h
  refine ⟨Unit, WS o, (), scrOf H, [.dat (.scr ns)], fun _ s => s = .dat (.bl true), fun _ _ _ => False, ⟨ex, hO, fun b z => ?_, fun b o u h hu => ?_⟩, ?_, rfl, hF, ?_, fun _ _ _ _ _ _ _ _ _ _ _ _ _ z => z.elim⟩
  · rw [show b = sysModules from z]
    unfold scrOf
    rw [hO]
    rfl
  · unfold scrOf at h
    split at h
    · cases h
    · rename_i xs e; cases h; exact (hu xs rfl).elim
    · cases h
  · refine .cons (Rp.scr ?_) .nil
    rcases hS with hS | hS
    · left
      rcases hS with hS | ⟨o, hS⟩
      · exact .inl (by unfold scrOf; rw [hS])
      · exact .inr ⟨o, by unfold scrOf; rw [hS]⟩
    · exact .inr hS
  · intro v s m' G' H' _ r e
    subst e
    cases r
    rfl
/-! ### the text of data -/
def keyPq : Key → PyData
  | .inl i => .int i
  | .inr x => .str x
mutual
inductive Px : D → PyData → Prop
  | non : Px .non .none
  | bl (b : Bool) : Px (.bl b) (.bool b)
  | int (i : Int) : Px (.int i) (.int i)
  | str (x : Str) : Px (.str x) (.str x)
  | lst {ds : List D} {xs : List PyData} : PxL ds xs → Px (.lst ds) (.list xs)
  | tup {ds : List D} {xs : List PyData} : PxL ds xs → Px (.tup ds) (.tuple xs)
  | dic {ds : List (Key × D)} {kvs : List (PyData × PyData)} : kvs.map (·.1) = ds.map (fun p => keyPq p.1) → PxL (ds.map (·.2)) (kvs.map (·.2)) → Px (.dic ds) (.dict kvs)
inductive PxL : List D → List PyData → Prop
  | nil : PxL [] []
  | cons {d : D} {ds : List D} {x : PyData} {xs : List PyData} : Px d x → PxL ds xs → PxL (d :: ds) (x :: xs)
end
def Li (H : Hp) (a : Addr) : Prop := ∀ o, H a ≠ some (S0 o)
section
variable {X : Cx} {pins : List (Addr × Obj)} {σ : L2.St} {H : Hp} {s : Shared}
theorem reads_keysP {h : Heap} {w : World} {P : Program} : ∀ {es : List DictEntry} {kvs : List (Key × Value)}, Pairs (mixKind P w) es kvs → ReadsAll h (es.map (·.key)) (kvs.map fun p => keyPq p.1) [] ∧ es.map (·.val) = kvs.map (·.2)
  | _, _, .nil => ⟨.nil, rfl⟩
  | _, _, .cons (e := e) (kv := kv) hk hv r => by
    obtain ⟨r1, r2⟩ := reads_keysP r
    obtain ⟨k, v⟩ := kv
    refine ⟨?_, by rw [List.map_cons, List.map_cons, r2, hv]⟩
    rw [List.map_cons, List.map_cons]
    have z : Reads h e.key (keyPq k) [] := by
      rcases keyIs_shape (show keyIs k e.key = true from hk) with ⟨i, t, rfl, h2⟩ | ⟨x, t, rfl, h2⟩
      · rw [h2]; exact .int i t
      · rw [h2]; exact .str x t
    exact ReadsAll.cons (as := []) (bs := []) z r1
theorem kv_valsP : ∀ {kvs : List (Key × V)} {vs : List (Key × Value)}, KV kvs vs → vs.map (·.1) = kvs.map (·.1) ∧ Vals (kvs.map (·.2)) (vs.map (·.2))
  | _, _, .nil => ⟨rfl, .nil⟩
  | _, _, .cons h r => by
    obtain ⟨a, b⟩ := kv_valsP r
    exact ⟨by rw [List.map_cons, List.map_cons, a, h.1], .cons h.2 b⟩
mutual
theorem Px.reads (I : Inv X pins σ H s) : ∀ {d : D} {x : PyData} {v : V} {u : Value}, Px d x → Rp X.K H v d → RelV v u → ∃ as, Reads s.heap u x as ∧ ∀ a ∈ as, Li H a
  | _, _, _, _, .non, r, q => by cases r; cases q; exact ⟨_, .none, fun _ h => nomatch h⟩
  | _, _, _, _, .bl b, r, q => by cases r; cases q; exact ⟨_, .bool b, fun _ h => nomatch h⟩
  | _, _, _, _, .int i, r, q => by cases r; obtain ⟨t, rfl⟩ := q; exact ⟨_, .int i t, fun _ h => nomatch h⟩
  | _, _, _, _, .str x, r, q => by cases r; obtain ⟨t, rfl⟩ := q; exact ⟨_, .str x t, fun _ h => nomatch h⟩
  | _, _, _, _, .lst p, r, q => by
    cases r with
    | @lst a xs _ ha rs =>
      cases q
      obtain ⟨its, rv, ⟨o, n, ho, hc, _, hd⟩, _⟩ := I.list (SqL.of ha)
      obtain ⟨as, hr, hl⟩ := PxL.reads I p rs rv
      refine ⟨_, .list ho hc hd hr, fun b hb => ?_⟩
      rcases List.mem_cons.mp hb with rfl | hb
      · intro o z; rw [ha] at z; cases z
      · exact hl b hb
  | _, _, _, _, .tup p, r, q => by
    cases r with
    | @tup a xs _ ha rs =>
      cases q
      obtain ⟨its, rv, ⟨o, ho, hc, n, hd⟩, _⟩ := I.tuple (.inl (.inl ha))
      obtain ⟨as, hr, hl⟩ := PxL.reads I p rs rv
      exact ⟨_, .tuple ho hc hd hr, hl⟩
  | _, _, _, _, .dic (ds := ds) (kvs := out) pk p, r, q => by
    cases r with
    | @dic a kvs _ ha hk rs =>
      cases q
      obtain ⟨_, _, vs, kv, o, es, ep, ho, hx, hd, _, hp, _⟩ := (show ObjOk X.prog X.w H s.heap a (.dK kvs) from ha.ok I.hok)
      obtain ⟨e1, e2⟩ := kv_valsP kv
      obtain ⟨rk, rv⟩ := reads_keysP (h := s.heap) hp
      obtain ⟨as, hr, hl⟩ := PxL.reads I p rs (by rw [← rv] at e2; exact e2)
      have keys : vs.map (fun p => keyPq p.1) = out.map (·.1) := by
        rw [pk]
        have := congrArg (List.map keyPq) (e1.trans hk)
        simpa [List.map_map, Function.comp_def] using this
      rw [keys] at rk
      refine ⟨_, .dict ho hx.1 hd rk hr, fun b hb => ?_⟩
      rcases List.mem_append.mp hb with hb | hb
      · rw [List.mem_singleton] at hb
        subst hb
        intro o z
        rcases ha with ha | ⟨_, ha⟩
        · rw [ha] at z; cases z
        · rw [ha] at z; cases z
      · exact hl b hb
theorem PxL.reads (I : Inv X pins σ H s) : ∀ {ds : List D} {xs : List PyData} {vs : List V} {us : List Value}, PxL ds xs → RpL X.K H vs ds → Vals vs us → ∃ as, ReadsAll s.heap us xs as ∧ ∀ a ∈ as, Li H a
  | _, _, _, _, .nil, r, q => by cases r; cases q; exact ⟨_, .nil, fun _ h => nomatch h⟩
  | _, _, _, _, .cons p ps, r, q => by
    cases r with
    | cons r1 r2 =>
      cases q with
      | cons q1 q2 =>
        obtain ⟨as, a1, a2⟩ := Px.reads I p r1 q1
        obtain ⟨bs, b1, b2⟩ := PxL.reads I ps r2 q2
        exact ⟨_, .cons a1 b1, fun b hb => (List.mem_append.mp hb).elim (a2 b) (b2 b)⟩
end
end
theorem un64 {k : Nat} {A : Around} (h : Room k A) : A.units + 64 < cLine := by have := h.un; omega
/-- repr(x), x data -/
def rRepr (K : PySem.W.Frag) : List V → Hp → VK → Prop := fun xs H Q => ∃ (v : V) (d : D) (x : PyData), xs = [v] ∧ Rp K H v d ∧ Px d x ∧ x.showable = true ∧ x.shown.length ≤ sizeLine ∧ x.depth ≤ 60 ∧ (∃ o, H sysModules = some (S0 o)) ∧ Q (.str x.shown) H
theorem k_repr {X : Cx} {K : PySem.W.Frag} (hK : X.K = K) (hg : X.A.guards = some []) (hu : X.A.units + 64 < cLine) : CallR X (.builtin "repr") (rRepr K) := by
  subst hK
  rintro pins s σ H xs us Q I r ⟨v, d, x, rfl, rp, px, sh, len, dp, ⟨o, ho⟩, q⟩
  obtain ⟨u, rfl, ru⟩ := r.one
  obtain ⟨as, rd, li⟩ := px.reads I rp ru
  have ns : sysModules ∉ as := fun z => li _ z o ho
  cases rd with
  | none => exact PySem.P.repr_of_none ⟨.str "None", H, I.tok _, ⟨_, rfl⟩, by simpa [PyData.shown] using q⟩
  | bool b => exact PySem.P.repr_of_bool ⟨.str (if b then "True" else "False"), H, I.tok _, ⟨_, rfl⟩, by simpa [PyData.shown] using q⟩
  | int i t => exact PySem.P.repr_of_int (by simpa [PyData.showable] using sh) ⟨.str (toString i), H, I.tok _, ⟨_, rfl⟩, by simpa [PyData.shown] using q⟩
  | str y t => exact PySem.P.repr_of_str ⟨.str (reprText y), H, I.tok _, ⟨_, rfl⟩, by simpa [PyData.shown] using q⟩ (by simpa [PyData.shown] using len)
  | list h1 h2 h3 h4 => exact repr_of_reads' (.list h1 h2 h3 h4) sh (fun _ => ns) hg (by omega) (fun _ _ e => e) (fun h' u tk k => ⟨.str _, H, I.kept k, ⟨_, rfl⟩, q⟩) len
  | tuple h1 h2 h3 h4 => exact repr_of_reads' (.tuple h1 h2 h3 h4) sh (fun _ => ns) hg (by omega) (fun _ _ e => e) (fun h' u tk k => ⟨.str _, H, I.kept k, ⟨_, rfl⟩, q⟩) len
  | dict h1 h2 h3 h4 h5 => exact repr_of_reads' (.dict h1 h2 h3 h4 h5) sh (fun _ => ns) hg (by omega) (fun _ _ e => e) (fun h' u tk k => ⟨.str _, H, I.kept k, ⟨_, rfl⟩, q⟩) len
section
variable {ι : Type} {K : PySem.W.Frag} {W : Wd ι} {m : ι} {Φ : ι → S → Prop}
theorem cb_repr {d : D} {x : PyData} {o : Obj} (px : Px d x) (sh : x.showable = true) (len : x.shown.length ≤ sizeLine) (dp : x.depth ≤ 60) (hp : W.pin sysModules (S0 o)) (h : Φ m (.dat (.str x.shown))) : CbS K W m (rRepr K) [.dat d] Φ := fun H0 G H vs ok rr Q q => by
  obtain ⟨v, rfl, r⟩ := relss1 rr
  have r : Rp K G v d := r
  exact ⟨v, d, x, rfl, r.mono ok.ex, px, sh, len, dp, ⟨o, W.pinned _ _ _ _ _ ok.inv hp⟩, q _ (.dat (.str _)) m G H ok.refl (Rp.str _) h⟩
end
end DL
set_option Elab.async false
set_option linter.all false
set_option maxRecDepth 100000
set_option maxHeartbeats 1000000
namespace DL
open PySem L2 Evl PySem.Spec PyProof.Rows
/-! ### methods with arguments; within a try -/
def tMethW (C : Addr) (x : Str) (sp : Sp) (E : L2.St → XK) (ta : TE) (t : TA) : TE := fun σ H Q => ta σ H fun y H1 => ∃ a dx fs, y = .ref a ∧ H1 a = some (.ins C dx fs) ∧ fs.lookup x = none ∧ t σ H1 fun vs H2 => sp (y :: vs) H2 Q (E σ)
section
variable {X : Cx} {K : PySem.W.Frag} {C : Addr} {k j : Nat} {x : Str} {ps : List Str} {F : Fc} {e : Expr} {es : List Expr} {ta : TE} {t : TA} {apos pos : Pos} {o : Expr}
theorem k_meth {CX : CXT} {E : XK} (c : Me X.prog X.w K X.mg X.base CX k C x ps F) (hK : X.K = K) (hr : Room j X.A) (hx : Passes CX X E) (he : PE X o ta) (ha : PA X (e :: es) t) (hk : k ≤ j := by decide)
    (hst : starEach (e :: es) X.env = (false, eval e X.env) :: starEach es X.env := by rfl) (hpl : (backTo pos (starEach es X.env)).any (·.1) = false := by rfl) {pl : Sem Bool}
    (ht : eval (.Call (.Attribute o x apos) (e :: es) [] pos) X.env = (do
      let ov ← eval o X.env
      standAt apos.atName
      let (f, first) ← holding [ov] (getMethod ov x pl)
      callWith pos f first (backTo pos (starEach (e :: es) X.env)) (backToKw pos (keywordEach [] X.env))) := by rfl) :
    PE X (.Call (.Attribute o x apos) (e :: es) [] pos) (tMeth C x (spF K F) [] E ta t) := by
  subst hK
  obtain ⟨f, fd, hm, hF, hb⟩ := c.ex
  exact pe_meth he c.cl hm hF (hr.mono hk) hb .nil hx ha hst hpl ht
theorem k_methS {W : WX} (c : Me X.prog X.w K X.mg X.base (L2.CX X.prog X.w) k C x ps F) (hK : X.K = K) (hr : Room j X.A) (tk : Takes X W) (he : PE X o ta) (ha : PA X (e :: es) t) (hk : k ≤ j := by decide)
    (hst : starEach (e :: es) X.env = (false, eval e X.env) :: starEach es X.env := by rfl) (hpl : (backTo pos (starEach es X.env)).any (·.1) = false := by rfl) {pl : Sem Bool}
    (ht : eval (.Call (.Attribute o x apos) (e :: es) [] pos) X.env = (do
      let ov ← eval o X.env
      standAt apos.atName
      let (f, first) ← holding [ov] (getMethod ov x pl)
      callWith pos f first (backTo pos (starEach (e :: es) X.env)) (backToKw pos (keywordEach [] X.env))) := by rfl) :
    PE X (.Call (.Attribute o x apos) (e :: es) [] pos) (tMethW C x (spF K F) (WE W) ta t) := by
  subst hK
  obtain ⟨f, fd, hm, hF, hb⟩ := c.ex
  refine ⟨fun pins s σ H Q I h => ?_⟩
  have first := he.run pins s σ H _ I h
  refine PySem.W.methodCall_KW (pl := pl) (thn first fun u s1 z => ?_) ht
  obtain ⟨y, H1, I1, ru, a, dx, fs, hy, ea, lk, q⟩ := z
  subst hy
  cases ru
  have args := ha.run pos pins s1 σ H1 _ I1 q
  refine getmeth_ok I1 ea c.cl hm lk (PySem.W.callWith_K (first := [.ref a]) (h₀ := X.base) I.ok.mod.kin hm.kp (thn args fun us s2 z => ?_) hst hpl)
  obtain ⟨vs, H2, I2, r, q2⟩ := z
  exact ⟨I2.kIn, run_fnS (E := WE W) (us := .ref a :: us) (vs := .ref a :: vs) hF (hr.mono hk) hb (passAt tk σ) I2 (.cons rfl r) q2⟩
end
section
variable {ι : Type} {c : Cc ι} {m : ι} {ρ : List S} {ta : TE} {tr : TA} {N B C' : ι → List S → Prop} {R : ι → S → Prop} {C : Addr} {mn : Str}
/-- try: return o.m(..) / except X as e: suite -/
theorem ds_tryRetM {i : Nat} {F : Fc} {cls : Value} {ts : Addr → Value → Option Addr → TS} {Wout : WX} (Ξ' : Xp ι)
    (h : De c m ta ρ fun m' s => ∃ fs, s = .dat (.ins C fs) ∧ fs.lookup mn = none ∧ DA c m' tr ρ fun m2 ss => ss.all argS = true ∧ F ι c.W m2 (.dat (.ins C fs) :: ss) R Ξ')
    (hx : ∀ m D fs, Ξ' m D fs → PySem.W.exmOne c.K (.ref D) cls = some true ∧ ∀ a d, Ds c m (ts a (.ref D) (some d)) (ρ.set i (.xc D a d fs)) (fun m ρ' => noEl i ρ' = true ∧ N m (ρ'.set i .no)) R (fun m ρ' => noEl i ρ' = true ∧ B m (ρ'.set i .no)) (fun m ρ' => noEl i ρ' = true ∧ C' m (ρ'.set i .no))) (hn0 : noEl i ρ = true := by with_unfolding_all rfl) :
    Ds c m (fun D σ H => tRet (tMethW C mn (spF c.K F) (WE (wAs c.K cls i ts Wout D)) ta tr) D σ H) ρ N R B C' := fun D σ G H e k1 k2 k3 k4 => h σ G H e _ fun v s m0 G0 H0 g0 r0 ⟨fs, es, hl, hd⟩ => by
  subst es
  have r0' : Rp c.K G0 v (.ins C fs) := r0
  have e0 := e.grow g0
  cases id r0' with
  | @ins a dx _ fv _ a1 a2 a3 a4 =>
    have lk : fv.lookup mn = none := lookup_none a3 hl
    refine ⟨a, dx, fv, rfl, e0.ok.ex _ _ a1, lk, hd σ G0 H0 e0 _ fun vs ss m1 G1 H1 g1 r1 ⟨ha, hf⟩ => ?_⟩
    have e1 := e0.grow g1
    have x1 := g0.ex.trans g1.ex
    refine ⟨ι, c.W, m1, G1, .dat (.ins C fs) :: ss, R, Ξ', e1.ok, .cons (s := .dat (.ins C fs)) (r0'.mono g1.ex) (relss_arg r1 ha), by simpa [argS] using ha, hf, fun v s m' G' H' g r p => k2 s v m' G' H' p (x1.trans g.ex) (e1.gr.trans g) (r.back e1.gr), fun D' d fv' fs' m' G' H' g nd md hd' hk hr hq => ?_⟩
    obtain ⟨hm, hs⟩ := hx m' D' fs' hq
    refine ⟨true, hm, fun _ a' _ => ?_, fun z => by cases z⟩
    have e2 := e1.grow g
    have e3 : EnvOk c m' G' H' (σ.set i (some (.ref a'))) (ρ.set i (.xc D' a' d fs')) := e2.set (s := .xc D' a' d fs') ⟨rfl, nd, md, fv', hd', hk, hr⟩ hn0 (fun o z => by cases z) (fun _ _ z => by cases z) (fun _ z => by cases z)
    have x2 := x1.trans g.ex
    exact hs a' d _ _ G' H' e3 (fun ρ' σ' m2 G2 H2 ⟨nz, n⟩ x e' => k1 _ _ m2 G2 H2 n (x2.trans x) (e'.unset none nz)) (fun s v m2 G2 H2 r x gg rr => k2 s v m2 G2 H2 r (x2.trans x) gg rr) (fun ρ' σ' m2 G2 H2 ⟨nz, n⟩ x e' => k3 _ _ m2 G2 H2 n (x2.trans x) (e'.unset none nz)) (fun ρ' σ' m2 G2 H2 ⟨nz, n⟩ x e' => k4 _ _ m2 G2 H2 n (x2.trans x) (e'.unset none nz))
end
end DL
set_option Elab.async false
set_option linter.all false
set_option maxRecDepth 100000
set_option maxHeartbeats 1000000
namespace DL
open PySem PySem.Spec PyProof.Rows L2 Evl
open PySem.AutoSeq1 (wpAny_loadPart')
open PySem.MeetsSeq PySem.MeetsSeq2 PySem.MeetsSeq3 PySem.SeqRoads2 PySem.SeqAt
/-! ### != of lists and tuples whose items are compared in this model -/
/-- the pairs, each with what == says -/
inductive Says2 (P : Program) (w : World) (A : Around) (s : Shared) : List (Value × Value) → List Bool → Prop
  | nil : Says2 P w A s [] []
  | cons {x y : Value} {b : Bool} {l : List (Value × Value)} {bs : List Bool} : EqP P w A s x y b → Says2 P w A s l bs → Says2 P w A s ((x, y) :: l) (b :: bs)
section
variable {P : Program} {w : World}
theorem Says2.at_ {A : Around} {s : Shared} : ∀ {l : List (Value × Value)} {bs : List Bool} {i : Nat} {x y : Value}, Says2 P w A s l bs → l[i]? = some (x, y) → ∃ b, bs[i]? = some b ∧ EqP P w A s x y b
  | _, _, 0, _, _, .cons h _, e => by cases e; exact ⟨_, rfl, h⟩
  | _, _, i + 1, _, _, .cons _ t, e => t.at_ (i := i) (by simpa using e)
theorem Says2.len {A : Around} {s : Shared} : ∀ {l : List (Value × Value)} {bs : List Bool}, Says2 P w A s l bs → l.length = bs.length
  | _, _, .nil => rfl
  | _, _, .cons _ t => by simp [t.len]
theorem tup_ne (l b : Addr) (xs ys : Array Value) (n n2 : Nat) (dd dd2 : Option Addr) (sl sl2 : Array (Option Value)) (bs : List Bool) :
    MeetsIn P w (Builtin.«tuple.__ne__» ⟨[.ref l, .ref b], []⟩) (fun A R s => s.heap.get? l = some { cls := .type "tuple", dict := dd, data := .seq xs n, slots := sl } ∧ s.heap.get? b = some { cls := .type "tuple", dict := dd2, data := .seq ys n2, slots := sl2 } ∧
      Says2 P w A.in1 s (xs.toList.zip ys.toList) bs ∧ R (.ok (.ret (.bool (!(bs.all id && xs.size == ys.size))))) s) := .of_wp fun A R s h => by
  obtain ⟨hp, g, d, tk, os⟩ := s
  obtain ⟨hl, hb, he, h⟩ := h
  have f2 := AutoSeq1.sub_tuple_tuple
  wp_walk using wpAny_loadPart' hl, wpAny_loadPart' hb, wpAny_forIn_list _ (fun rest z s' => z.1 = none ∧ s' = ⟨hp, g, d, tk, os⟩ ∧ ∃ cs, Says2 P w A.in1 s' rest cs ∧ R (.ok (.ret (.bool (!(cs.all id && xs.size == ys.size))))) s') _
  case turn =>
    rintro ⟨x, y⟩ rest z s' ⟨_, rfl, cs, hs, q⟩
    cases hs with
    | @cons _ _ c _ cs hx ht =>
      refine wpAny_bind (hx _ _ ?_)
      cases c with
      | true =>
        wp_walk
        exact ⟨rfl, rfl, cs, ht, by simpa using q⟩
      | false =>
        wp_walk
        exact ⟨_, rfl, by simpa using q⟩
  case fin =>
    rintro ⟨z1, z2⟩ s' ⟨hz, rfl, cs, hs, q⟩
    cases hs
    dsimp only at hz
    subst hz
    wp_walk
    exact ⟨_, rfl, by simpa [Builtin.Tuple.tupleCompareSizes, bne] using q⟩
  case h => exact ⟨rfl, rfl, bs, he, h⟩
theorem tup_eq (l b : Addr) (xs ys : Array Value) (n n2 : Nat) (dd dd2 : Option Addr) (sl sl2 : Array (Option Value)) (bs : List Bool) :
    MeetsIn P w (Builtin.«tuple.__eq__» ⟨[.ref l, .ref b], []⟩) (fun A R s => s.heap.get? l = some { cls := .type "tuple", dict := dd, data := .seq xs n, slots := sl } ∧ s.heap.get? b = some { cls := .type "tuple", dict := dd2, data := .seq ys n2, slots := sl2 } ∧
      Says2 P w A.in1 s (xs.toList.zip ys.toList) bs ∧ R (.ok (.ret (.bool (bs.all id && xs.size == ys.size)))) s) := .of_wp fun A R s h => by
  obtain ⟨hp, g, d, tk, os⟩ := s
  obtain ⟨hl, hb, he, h⟩ := h
  have f2 := AutoSeq1.sub_tuple_tuple
  wp_walk using wpAny_loadPart' hl, wpAny_loadPart' hb, wpAny_forIn_list _ (fun rest z s' => z.1 = none ∧ s' = ⟨hp, g, d, tk, os⟩ ∧ ∃ cs, Says2 P w A.in1 s' rest cs ∧ R (.ok (.ret (.bool (cs.all id && xs.size == ys.size)))) s') _
  case turn =>
    rintro ⟨x, y⟩ rest z s' ⟨_, rfl, cs, hs, q⟩
    cases hs with
    | @cons _ _ c _ cs hx ht =>
      refine wpAny_bind (hx _ _ ?_)
      cases c with
      | true =>
        wp_walk
        exact ⟨rfl, rfl, cs, ht, by simpa using q⟩
      | false =>
        wp_walk
        exact ⟨_, rfl, by simpa using q⟩
  case fin =>
    rintro ⟨z1, z2⟩ s' ⟨hz, rfl, cs, hs, q⟩
    cases hs
    dsimp only at hz
    subst hz
    wp_walk
    exact ⟨_, rfl, by simpa [Builtin.Tuple.tupleCompareSizes, bne] using q⟩
  case h => exact ⟨rfl, rfl, bs, he, h⟩
theorem lst_eq_loop (l b : Addr) (xs ys : Array Value) (n n2 : Nat) (dd dd2 : Option Addr) (sl sl2 : Array (Option Value)) (hsz : xs.size = ys.size) : ∀ (cs : List Bool) (i : Nat), i + cs.length = xs.size →
    MeetsIn P w (Builtin.«list.__eq__.loop» ⟨[.ref l, .ref b, rawInt i, rawInt 2], []⟩) (fun A R s => s.heap.get? l = some { cls := .type "list", dict := dd, data := .seq xs n, slots := sl } ∧ s.heap.get? b = some { cls := .type "list", dict := dd2, data := .seq ys n2, slots := sl2 } ∧
      Says2 P w A.in1 s ((xs.toList.zip ys.toList).drop i) cs ∧ R (.ok (.ret (.bool (cs.all id)))) s) := by
  intro cs
  induction cs with
  | nil =>
    intro i hi A R s h
    obtain ⟨hp, g, d, tk, os⟩ := s
    obtain ⟨hl, hb, he, h⟩ := h
    have hi : xs.size = i := by simpa using hi.symm
    wp_walk using wpAny_loadPart' hl, wpAny_loadPart' hb
    have a1 : xs[((i : Nat) : Int).toNat]? = none := by simp; omega
    have a2 : ys[((i : Nat) : Int).toNat]? = none := by simp; omega
    rw [a1, a2]
    wp_walk using wpAny_loadPart' hl, wpAny_loadPart' hb
    show R (.ok (.ret (.bool (xs.size == ys.size)))) _
    rw [hsz]
    simpa using h
  | cons c cs ih =>
    intro i hi A R s h
    obtain ⟨hp, g, d, tk, os⟩ := s
    obtain ⟨hl, hb, he, h⟩ := h
    rw [List.length_cons] at hi
    have lt : i < xs.size := by omega
    have lt2 : i < ys.size := by omega
    have a1 : xs[((i : Nat) : Int).toNat]? = some xs[i] := by simp [lt]
    have a2 : ys[((i : Nat) : Int).toNat]? = some ys[i] := by simp [lt2]
    have hz : (xs.toList.zip ys.toList).drop i = (xs[i], ys[i]) :: (xs.toList.zip ys.toList).drop (i + 1) := by
      rw [List.drop_eq_getElem_cons (by simp; omega)]
      simp
    rw [hz] at he
    cases he with
    | cons hx ht =>
      wp_walk using wpAny_loadPart' hl, wpAny_loadPart' hb
      rw [a1, a2]
      refine wpAny_bind (hx _ _ ?_)
      cases c with
      | true =>
        wp_walk
        rw [show ((i : Int) + 1) = ((i + 1 : Nat) : Int) by push_cast; rfl]
        exact ⟨plainId_quiet plain_eq_loop _, codeAny_builtin entry_eq_loop (by
          rw [Around.under_plainId plain_eq_loop _]
          exact ih (i + 1) (by omega) A R _ ⟨hl, hb, ht, by simpa using h⟩)⟩
      | false =>
        wp_walk using wpAny_loadPart' hl, wpAny_loadPart' hb
        rw [a1, a2]
        wp_walk
        simpa using h
theorem lst_eq (l b : Addr) (xs ys : Array Value) (n n2 : Nat) (dd dd2 : Option Addr) (sl sl2 : Array (Option Value)) (hsz : xs.size = ys.size) (bs : List Bool) :
    MeetsIn P w (Builtin.«list.__eq__» ⟨[.ref l, .ref b], []⟩) (fun A R s => s.heap.get? l = some { cls := .type "list", dict := dd, data := .seq xs n, slots := sl } ∧ s.heap.get? b = some { cls := .type "list", dict := dd2, data := .seq ys n2, slots := sl2 } ∧
      Says2 P w A.in1 s (xs.toList.zip ys.toList) bs ∧ R (.ok (.ret (.bool (bs.all id)))) s) := by
  intro A R s h
  obtain ⟨hp, g, d, tk, os⟩ := s
  obtain ⟨hl, hb, he, h⟩ := h
  have f3 := AutoSeq1.sub_list_list
  have no : ¬ (xs.size != ys.size) = true := by simp [hsz]
  have len := he.len
  wp_walk using wpAny_loadPart' hl, wpAny_loadPart' hb
  exact ⟨plainId_quiet plain_eq_loop _, codeAny_builtin entry_eq_loop (by
    rw [Around.under_plainId plain_eq_loop _]
    exact lst_eq_loop l b xs ys n n2 dd dd2 sl sl2 hsz bs 0 (by rw [← len]; simp; omega) A R _ ⟨hl, hb, by simpa using he, h⟩)⟩
theorem lst_ne_loop (l b : Addr) (xs ys : Array Value) (n n2 : Nat) (dd dd2 : Option Addr) (sl sl2 : Array (Option Value)) (hsz : xs.size = ys.size) : ∀ (cs : List Bool) (i : Nat), i + cs.length = xs.size →
    MeetsIn P w (Builtin.«list.__eq__.loop» ⟨[.ref l, .ref b, rawInt i, rawInt 3], []⟩) (fun A R s => s.heap.get? l = some { cls := .type "list", dict := dd, data := .seq xs n, slots := sl } ∧ s.heap.get? b = some { cls := .type "list", dict := dd2, data := .seq ys n2, slots := sl2 } ∧
      Says2 P w A.in1 s ((xs.toList.zip ys.toList).drop i) cs ∧ R (.ok (.ret (.bool (!cs.all id)))) s) := by
  intro cs
  induction cs with
  | nil =>
    intro i hi A R s h
    obtain ⟨hp, g, d, tk, os⟩ := s
    obtain ⟨hl, hb, he, h⟩ := h
    have hi : xs.size = i := by simpa using hi.symm
    wp_walk using wpAny_loadPart' hl, wpAny_loadPart' hb
    have a1 : xs[((i : Nat) : Int).toNat]? = none := by simp; omega
    have a2 : ys[((i : Nat) : Int).toNat]? = none := by simp; omega
    rw [a1, a2]
    wp_walk using wpAny_loadPart' hl, wpAny_loadPart' hb
    show R (.ok (.ret (.bool (xs.size != ys.size)))) _
    rw [hsz]
    simpa using h
  | cons c cs ih =>
    intro i hi A R s h
    obtain ⟨hp, g, d, tk, os⟩ := s
    obtain ⟨hl, hb, he, h⟩ := h
    rw [List.length_cons] at hi
    have lt : i < xs.size := by omega
    have lt2 : i < ys.size := by omega
    have a1 : xs[((i : Nat) : Int).toNat]? = some xs[i] := by simp [lt]
    have a2 : ys[((i : Nat) : Int).toNat]? = some ys[i] := by simp [lt2]
    have hz : (xs.toList.zip ys.toList).drop i = (xs[i], ys[i]) :: (xs.toList.zip ys.toList).drop (i + 1) := by
      rw [List.drop_eq_getElem_cons (by simp; omega)]
      simp
    rw [hz] at he
    cases he with
    | cons hx ht =>
      wp_walk using wpAny_loadPart' hl, wpAny_loadPart' hb
      rw [a1, a2]
      refine wpAny_bind (hx _ _ ?_)
      cases c with
      | true =>
        wp_walk
        rw [show ((i : Int) + 1) = ((i + 1 : Nat) : Int) by push_cast; rfl]
        exact ⟨plainId_quiet plain_eq_loop _, codeAny_builtin entry_eq_loop (by
          rw [Around.under_plainId plain_eq_loop _]
          exact ih (i + 1) (by omega) A R _ ⟨hl, hb, ht, by simpa using h⟩)⟩
      | false =>
        wp_walk using wpAny_loadPart' hl, wpAny_loadPart' hb
        rw [a1, a2]
        wp_walk
        simpa using h
theorem lst_ne (l b : Addr) (xs ys : Array Value) (n n2 : Nat) (dd dd2 : Option Addr) (sl sl2 : Array (Option Value)) (hsz : xs.size = ys.size) (bs : List Bool) :
    MeetsIn P w (Builtin.«list.__ne__» ⟨[.ref l, .ref b], []⟩) (fun A R s => s.heap.get? l = some { cls := .type "list", dict := dd, data := .seq xs n, slots := sl } ∧ s.heap.get? b = some { cls := .type "list", dict := dd2, data := .seq ys n2, slots := sl2 } ∧
      Says2 P w A.in1 s (xs.toList.zip ys.toList) bs ∧ R (.ok (.ret (.bool (!bs.all id)))) s) := by
  intro A R s h
  obtain ⟨hp, g, d, tk, os⟩ := s
  obtain ⟨hl, hb, he, h⟩ := h
  have f3 := AutoSeq1.sub_list_list
  have no : ¬ (xs.size != ys.size) = true := by simp [hsz]
  have len := he.len
  wp_walk using wpAny_loadPart' hl, wpAny_loadPart' hb
  exact ⟨plainId_quiet plain_eq_loop _, codeAny_builtin entry_eq_loop (by
    rw [Around.under_plainId plain_eq_loop _]
    exact lst_ne_loop l b xs ys n n2 dd dd2 sl sl2 hsz bs 0 (by rw [← len]; simp; omega) A R _ ⟨hl, hb, by simpa using he, h⟩)⟩
end
end DL
set_option Elab.async false
set_option linter.all false
set_option maxRecDepth 100000
set_option maxHeartbeats 1000000
namespace DL
open PySem PySem.Spec PyProof.Rows L2 Evl
section
variable {prog : Program} {w : World} {κ : Type} [DecidableEq κ] {knd : HeapKind prog w κ} {A : Around} {E : Value → Shared → Prop} {s : Shared}
/-- an entry is in the other dict, with an equal value -/
def inOther (xb : List (κ × Addr × Value)) (e : κ → Bool) (x : κ × Addr × Value) : Bool := (xb.any fun y => decide (y.1 = x.1)) && e x.1
theorem range_step {n i x : Nat} {rest : List Nat} (h : x :: rest = List.range' i (n - i)) : i < n ∧ x = i ∧ rest = List.range' (i + 1) (n - (i + 1)) := by
  cases hn : n - i with
  | zero => rw [hn] at h; cases h
  | succ m =>
    rw [hn, List.range'_succ] at h
    injection h with h1 h2
    exact ⟨by omega, h1, by rw [h2, show n - (i + 1) = m by omega]⟩
/-- == of two dicts whose keys lie in the heap, entry by entry -/
theorem pairsH {nm : String} {a b : Addr} {xa xb : List (κ × Addr × Value)} {e : κ → Bool} {Q : Bool → Shared → Prop} (room : knd.room A) (na : (a == sysModules) = false) (nb : (b == sysModules) = false)
    (da : s.heap.DictOfH knd a xa) (db : s.heap.DictOfH knd b xb) (he : ∀ x ∈ xa, ∀ y ∈ xb, y.1 = x.1 → SeqAt.EqP prog w A s x.2.2 y.2.2 (e x.1))
    (h : Q (xa.length == xb.length && xa.all (inOther xb e)) s) : wpAny (model prog w) A (Builtin.Dict.samePairs nm a b) Q E s := by
  obtain ⟨oa, ea, pa, fa, _, ta, la, ka, _⟩ := da
  obtain ⟨ob, eb, pb, fb, _, tb, lb, kb, ob1⟩ := db
  have sa : ea.size = xa.length := size_of_entries la
  have sb : eb.size = xb.length := size_of_entries lb
  unfold Builtin.Dict.samePairs Builtin.Dict.showsAll
  simp only [na, nb, Bool.false_eq_true, if_false]
  refine wpAny_bind (wpAny_pure ?_)
  refine wpAny_bind (wpAny_pure ?_)
  refine wpAny_bind (wpAny_dictEntries fa ta ?_)
  refine wpAny_bind (wpAny_dictEntries fb tb ?_)
  by_cases hl : xa.length = xb.length
  · have hb : (xa.length == xb.length) = true := by simpa using hl
    rw [hb, Bool.true_and] at h
    have hc : ¬ ((ea.size != eb.size) = true) := by rw [sa, sb]; simpa using hl
    simp only [hc, if_false]
    refine wpAny_bind (wpAny_dictEpoch fa ta ?_)
    refine wpAny_bind ?_
    rw [Std.Legacy.Range.forIn_eq_forIn_range']
    simp only [Std.Legacy.Range.size, Nat.sub_zero, Nat.add_sub_cancel, Nat.div_one]
    refine wpAny_forIn_list _ (fun rest q s' => s' = s ∧ q = (none, ()) ∧ ∃ i, rest = List.range' i (ea.size - i) ∧ (xa.take i).all (inOther xb e) = true) _ ?turn ?fin _ _ ⟨rfl, rfl, 0, by simp, by simp⟩
    case fin =>
      rintro q s' ⟨rfl, rfl, i, hr, hi⟩
      have ge : xa.length ≤ i := by
        have := congrArg List.length hr
        simp at this
        omega
      rw [List.take_of_length_le ge] at hi
      rw [hi] at h
      exact wpAny_pure h
    case turn =>
      rintro j rest q s' ⟨rfl, rfl, i, hr, hi⟩
      obtain ⟨lt, rfl, hr2⟩ := range_step hr
      have lt2 : j < xa.length := by omega
      obtain ⟨k, p, v, hx⟩ : ∃ k p v, xa[j] = (k, p, v) := ⟨_, _, _, rfl⟩
      have hat : xa[j]? = some (k, p, v) := by rw [List.getElem?_eq_getElem lt2, hx]
      have hea : ea[j]? = some ⟨knd.hash k, .ref p, v⟩ := by rw [entry_at la, hat]; rfl
      have hm : (k, p, v) ∈ xa := List.mem_of_getElem? hat
      have step : (xa.take (j + 1)).all (inOther xb e) = inOther xb e (k, p, v) := by
        rw [List.take_add_one, hat, List.all_append, hi]
        simp
      have stop : inOther xb e (k, p, v) = false → xa.all (inOther xb e) = false := fun z => by
        rw [List.all_eq_false]
        exact ⟨_, hm, by rw [z]; decide⟩
      refine wpAny_bind (wpAny_dictEntries fa ta ?_)
      rw [hea]
      dsimp only
      refine wpAny_bind (wpAny_holding ?_)
      refine wpAny_bind (wpAny_dictFind_heap room (ka _ hm) fb tb lb kb ob1 (fun no => ?_) fun n y yes => ?_)
      · have z : inOther xb e (k, p, v) = false := by
          have : (xb.any fun y => decide (y.1 = k)) = false := by
            rw [List.any_eq_false]
            rintro ⟨k', y⟩ hy
            obtain ⟨n, hn⟩ := List.getElem?_of_mem hy
            simp only [decide_eq_true_eq]
            intro ek
            subst ek
            exact no n y hn
          unfold inOther
          rw [this, Bool.false_and]
        rw [stop z] at h
        exact wpAny_pure (wpAny_pure (wpAny_pure h))
      · have heb : eb[n]? = some ⟨knd.hash k, .ref y.1, y.2⟩ := by rw [entry_at lb, yes]; rfl
        have ym := List.mem_of_getElem? yes
        have z : inOther xb e (k, p, v) = e k := by
          have : (xb.any fun y => decide (y.1 = k)) = true := List.any_eq_true.mpr ⟨_, ym, by simp⟩
          unfold inOther
          rw [this, Bool.true_and]
        refine wpAny_bind (wpAny_dictEntries fb tb ?_)
        rw [heb]
        dsimp only
        refine wpAny_holding (he _ hm _ ym rfl _ _ ?_)
        cases ek : e k with
        | false =>
          rw [stop (z.trans ek)] at h
          exact wpAny_pure (wpAny_pure h)
        | true =>
          refine wpAny_bind (wpAny_dictEpoch fa ta ?_)
          simp only [bne_self_eq_false, Bool.false_eq_true, if_false]
          exact wpAny_pure ⟨rfl, rfl, j + 1, hr2, by rw [step, z, ek]⟩
  · have hb : (xa.length == xb.length) = false := by simpa using hl
    rw [hb, Bool.false_and] at h
    have hc : (ea.size != eb.size) = true := by rw [sa, sb]; simpa using hl
    simp only [hc, if_true]
    exact wpAny_bind (wpAny_rule (wpAny_pure h))
end
end DL
set_option Elab.async false
set_option linter.all false
set_option maxRecDepth 100000
set_option maxHeartbeats 1000000
namespace DL
open PySem PySem.Spec PyProof.Rows L2 Evl
section
variable {prog : Program} {w : World} {A : Around} {s : Shared}
/-- a dict's own == is the walk over the pairs -/
theorem rc_by_pairs {a b : Addr} {r : Bool} (ta : s.TypeIs (.ref a) "dict") (tb : s.TypeIs (.ref b) "dict") (hu : A.units < cLine)
    (walk : ∀ (A' : Around) (E : Value → Shared → Prop) (R : Bool → Shared → Prop), A' = A.in1 → R r s → wpAny (model prog w) A' (Builtin.Dict.samePairs "dict.__eq__" a b) R E s)
    (E Q : Value → Shared → Prop) (q : Q (.bool r) s) : wpAny (model prog w) A (richCompare .Eq (.ref a) (.ref b)) Q E s := by
  have body : wpAny (model prog w) A.in1 (Builtin.«dict.__eq__» ⟨[.ref a, .ref b], []⟩) (fun f s' => ∃ v, f = .done (.ret v) ∧ v ≠ Value.notImplemented ∧ Q v s') E s := by
    show wpAny _ _ (Builtin.Dict.dictSlotArgs "__eq__" ⟨[.ref a, .ref b], []⟩ >>= _) _ _ s
    refine wpAny_bind ?_
    have st : wpAny (model prog w) A.in1 (Builtin.Dict.dictSlotArgs "__eq__" ⟨[.ref a, .ref b], []⟩) (fun p s' => p = (.ref a, .ref b) ∧ s' = s) E s := by
      unfold Builtin.Dict.dictSlotArgs
      exact wpAny_bind (wpAny_notOrdered_dict ta (wpAny_pure ⟨rfl, rfl⟩))
    refine wpAny_mono st (fun p s' h => ?_) fun _ _ z => z
    obtain ⟨rfl, rfl⟩ := h
    have ib : ∀ {R : Bool → Shared → Prop}, R true s' → wpAny (model prog w) A.in1 (isInstance (.ref b) (.type "dict")) R E s' := fun z => wpAny_isInstance (T := "dict") tb PySem.F.sub_dict_dict z
    refine wpAny_bind (ib ?_)
    simp only [Bool.not_true, Bool.false_eq_true, if_false]
    repeat refine wpAny_bind (wpAny_pure ?_)
    refine wpAny_bind (walk A.in1 E _ rfl ?_)
    exact wpAny_pure ⟨_, rfl, (fun z => nomatch z), by simpa using q⟩
  refine wpAny_richCompare_same_room (op := .Eq) ta tb PySem.F.slot_dict_eq ?_ hu
  refine wpAny_call_entry PySem.F.slot_dict_eq ta PySem.F.entry_dict_eq ?_ (PySem.F.args_dict_eq_2 _ _)
  refine wpAny_mono body (fun f s' h => ?_) fun _ _ z => z
  obtain ⟨v, rfl, n, q⟩ := h
  exact ⟨v, rfl, n, q⟩
theorem rcH_dicts {κ : Type} [DecidableEq κ] {knd : HeapKind prog w κ} {a b : Addr} {xa xb : List (κ × Addr × Value)} {e : κ → Bool} (room : knd.room A.in1) (na : (a == sysModules) = false) (nb : (b == sysModules) = false) (hu : A.units < cLine)
    (da : s.heap.DictOfH knd a xa) (db : s.heap.DictOfH knd b xb) (he : ∀ x ∈ xa, ∀ y ∈ xb, y.1 = x.1 → SeqAt.EqP prog w A.in1 s x.2.2 y.2.2 (e x.1))
    (E Q : Value → Shared → Prop) (q : Q (.bool (xa.length == xb.length && xa.all (inOther xb e))) s) : wpAny (model prog w) A (richCompare .Eq (.ref a) (.ref b)) Q E s :=
  rc_by_pairs da.typeIs db.typeIs hu (fun A' E R hA z => by subst hA; exact pairsH room na nb da db he z) E Q q
end
/-! ### == of data, with dicts -/
inductive Eqd : Nat → D → D → Bool → Prop
  | pl {n : Nat} {d e : D} {x y : PyData} : Pl n d → Pl n e → d.py = some x → e.py = some y → Eqd n d e (PyData.eqv x y)
  | dic {n : Nat} {ds es : List (Key × D)} (f : Key → Bool) : (ds.map (·.1)).Nodup → (∀ k d e, (k, d) ∈ ds → valD es k = some e → Eqd n d e (f k)) → Eqd (n + 1) (.dic ds) (.dic es) (ds.length == es.length && ds.all fun p => (valD es p.1).isSome && f p.1)
  | dit {n : Nat} {ds es : List (List Key × D)} (f : List Key → Bool) : (ds.map (·.1)).Nodup → (∀ k d e, (k, d) ∈ ds → valD es k = some e → Eqd n d e (f k)) → Eqd (n + 1) (.dit ds) (.dit es) (ds.length == es.length && ds.all fun p => (valD es p.1).isSome && f p.1)
  | lst {n : Nat} {ds es : List D} (f : Nat → Bool) : ds.length = es.length → (∀ j d e, ds[j]? = some d → es[j]? = some e → Eqd n d e (f j)) → Eqd (n + 1) (.lst ds) (.lst es) ((List.range ds.length).all f)
  | lstN {n : Nat} {ds es : List D} : ds.length ≠ es.length → Eqd (n + 1) (.lst ds) (.lst es) false
theorem nodup_at {κ : Type} [DecidableEq κ] : ∀ {ds : List (κ × D)} {k : κ} {d : D}, (ds.map (·.1)).Nodup → (k, d) ∈ ds → valD ds k = some d
  | p :: ds, k, d, nd, h => by
    rw [List.map_cons, List.nodup_cons] at nd
    unfold valD
    rw [List.find?_cons]
    rcases List.mem_cons.mp h with rfl | h
    · simp
    · have : ¬ (p.1 = k) := fun z => nd.1 (List.mem_map.mpr ⟨_, h, z.symm⟩)
      simp only [this, decide_false]
      exact nodup_at nd.2 h
theorem rd_one {G : Hp} {a : Addr} {o u : HO} (h1 : Rd G a o) (h2 : Rd G a u) (n1 : ∀ x y, o ≠ .frz x y) (n2 : ∀ x y, u ≠ .frz x y) : o = u := by
  rcases h1 with h1 | ⟨x, h1⟩
  · rcases h2 with h2 | ⟨y, h2⟩
    · rw [h1] at h2; exact Option.some.inj h2
    · rw [h1] at h2; exact absurd (Option.some.inj h2) (n1 y u)
  · rcases h2 with h2 | ⟨y, h2⟩
    · rw [h1] at h2; exact absurd (Option.some.inj h2).symm (n2 x o)
    · rw [h1] at h2; have := Option.some.inj h2; injection this
theorem map_fst_len {α β γ : Type} {l : List (α × β)} {m : List (α × γ)} (h : l.map (·.1) = m.map (·.1)) : l.length = m.length := by simpa using congrArg List.length h
end DL
set_option Elab.async false
set_option linter.all false
set_option maxRecDepth 100000
set_option maxHeartbeats 1000000
namespace DL
open PySem PySem.Spec PyProof.Rows L2 Evl
open PySem.SeqAt
/-! ### == of values that hold lists, tuples, dicts -/
inductive Leaf : V → PyData → Prop
  | non : Leaf .non .none
  | bl (b : Bool) : Leaf (.bl b) (.bool b)
  | int (i : Int) : Leaf (.int i) (.int i)
  | str (x : Str) : Leaf (.str x) (.str x)
mutual
inductive EqV (K : PySem.W.Frag) (H : Hp) : Nat → V → V → Bool → Prop
  | leaf {n : Nat} {v u : V} {x y : PyData} : Leaf v x → Leaf u y → EqV K H n v u (PyData.eqv x y)
  | lst {n : Nat} {a b : Addr} {xs ys : List V} {bs : List Bool} : SqL K H a xs → SqL K H b ys → EqVs K H n xs ys bs → EqV K H (n + 1) (.ref a) (.ref b) (bs.all id)
  | lstN {n : Nat} {a b : Addr} {xs ys : List V} : SqL K H a xs → SqL K H b ys → xs.length ≠ ys.length → EqV K H (n + 1) (.ref a) (.ref b) false
  | tup {n : Nat} {a b : Addr} {xs ys : List V} {bs : List Bool} : SqT K H a xs → SqT K H b ys → EqVs K H n xs ys bs → EqV K H (n + 1) (.ref a) (.ref b) (bs.all id)
  | dK {n : Nat} {a b : Addr} {ka kb : List (Key × V)} (f : Key → Bool) : Rd H a (.dK ka) → Rd H b (.dK kb) → (∀ k v u, (k, v) ∈ ka → (k, u) ∈ kb → EqV K H n v u (f k)) → EqV K H (n + 1) (.ref a) (.ref b) (ka.length == kb.length && ka.all fun p => (kb.any fun q => decide (q.1 = p.1)) && f p.1)
  | dT {n : Nat} {a b : Addr} {ka kb : List (List Key × V)} (f : List Key → Bool) : Rd H a (.dT ka) → Rd H b (.dT kb) → (∀ k v u, (k, v) ∈ ka → (k, u) ∈ kb → EqV K H n v u (f k)) → EqV K H (n + 1) (.ref a) (.ref b) (ka.length == kb.length && ka.all fun p => (kb.any fun q => decide (q.1 = p.1)) && f p.1)
inductive EqVs (K : PySem.W.Frag) (H : Hp) : Nat → List V → List V → List Bool → Prop
  | nil {n : Nat} : EqVs K H n [] [] []
  | cons {n : Nat} {v u : V} {b : Bool} {vs us : List V} {bs : List Bool} : EqV K H n v u b → EqVs K H n vs us bs → EqVs K H n (v :: vs) (u :: us) (b :: bs)
end
theorem EqVs.len {K : PySem.W.Frag} {H : Hp} {n : Nat} : ∀ {xs ys : List V} {bs : List Bool}, EqVs K H n xs ys bs → xs.length = ys.length
  | _, _, _, .nil => rfl
  | _, _, _, .cons _ t => by simp [t.len]
theorem leaf_one {v : V} {x y : PyData} (a : Leaf v x) (b : Leaf v y) : x = y := by cases a <;> cases b <;> rfl
theorem leaf_refl {v : V} {x : PyData} (a : Leaf v x) : PyData.eqv x x = true := by cases a <;> simp [PyData.eqv]
section
variable {X : Cx} {pins : List (Addr × Obj)} {σ : L2.St} {H : Hp} {s : Shared}
mutual
theorem EqV.same (I : Inv X pins σ H s) : ∀ {n : Nat} {v u : V} {b : Bool}, EqV X.K H n v u b → v = u → b = true
  | _, _, _, _, .leaf a b, e => by subst e; rw [leaf_one a b]; exact leaf_refl b
  | _, _, _, _, .lst h1 h2 t, e => by cases e; have := I.list_inj h1 h2; exact EqVs.same I t this
  | _, _, _, _, .lstN h1 h2 t, e => by cases e; exact absurd (congrArg List.length (I.list_inj h1 h2)) t
  | _, _, _, _, .tup h1 h2 t, e => by cases e; have := I.tuple_inj h1 h2; exact EqVs.same I t this
  | _, _, _, _, .dK (ka := ka) f h1 h2 t, e => by
    cases e
    have := rd_one h1 h2 (fun _ _ z => by cases z) (fun _ _ z => by cases z)
    injection this with this
    subst this
    rw [Bool.and_eq_true]
    refine ⟨by simp, List.all_eq_true.mpr fun p hp => ?_⟩
    rw [Bool.and_eq_true]
    exact ⟨List.any_eq_true.mpr ⟨p, hp, by simp⟩, EqV.same I (t p.1 p.2 p.2 hp hp) rfl⟩
  | _, _, _, _, .dT (ka := ka) f h1 h2 t, e => by
    cases e
    have := rd_one h1 h2 (fun _ _ z => by cases z) (fun _ _ z => by cases z)
    injection this with this
    subst this
    rw [Bool.and_eq_true]
    refine ⟨by simp, List.all_eq_true.mpr fun p hp => ?_⟩
    rw [Bool.and_eq_true]
    exact ⟨List.any_eq_true.mpr ⟨p, hp, by simp⟩, EqV.same I (t p.1 p.2 p.2 hp hp) rfl⟩
theorem EqVs.same (I : Inv X pins σ H s) : ∀ {n : Nat} {vs us : List V} {bs : List Bool}, EqVs X.K H n vs us bs → vs = us → bs.all id = true
  | _, _, _, _, .nil, _ => rfl
  | _, _, _, _, .cons h t, e => by
    injection e with e1 e2
    rw [List.all_cons, Bool.and_eq_true]
    exact ⟨EqV.same I h e1, EqVs.same I t e2⟩
end
end
end DL
set_option Elab.async false
set_option linter.all false
set_option maxRecDepth 100000
set_option maxHeartbeats 1000000
namespace DL
open PySem PySem.Spec PyProof.Rows L2 Evl
open PySem.SeqAt
section
variable {P : Program} {w : World} {A : Around} {s : Shared} {l b : Addr} {xs ys : Array Value} {bs : List Bool}
theorem rcE_lst (hl : s.heap.IsList l xs) (hb : s.heap.IsList b ys) (hsz : xs.size = ys.size) (hu : A.units < cLine) (he : Says2 P w A.in1 s (xs.toList.zip ys.toList) bs) (E Q : Value → Shared → Prop) (q : Q (.bool (bs.all id)) s) : wpAny (model P w) A (richCompare .Eq (.ref l) (.ref b)) Q E s := by
  obtain ⟨⟨_, _, _, _⟩, o1, c1, n1, d1⟩ := hl
  obtain ⟨⟨_, _, _, _⟩, o2, c2, n2, d2⟩ := hb
  cases c1; cases d1; cases c2; cases d2
  exact wpAny_richCompare_same_room (op := .Eq) ⟨_, o1, rfl⟩ ⟨_, o2, rfl⟩ F.slot_list_eq (call_meetsIn F.slot_list_eq ⟨_, o1, rfl⟩ F.entry_list_eq (F.args_list_eq_2 _ _) (lst_eq l b xs ys _ _ _ _ _ _ hsz bs) ⟨o1, o2, he, (fun z => nomatch z), q⟩) hu
theorem rcN_lst (hl : s.heap.IsList l xs) (hb : s.heap.IsList b ys) (hsz : xs.size = ys.size) (hu : A.units < cLine) (he : Says2 P w A.in1 s (xs.toList.zip ys.toList) bs) (E Q : Value → Shared → Prop) (q : Q (.bool (!(bs.all id))) s) : wpAny (model P w) A (richCompare .NotEq (.ref l) (.ref b)) Q E s := by
  obtain ⟨⟨_, _, _, _⟩, o1, c1, n1, d1⟩ := hl
  obtain ⟨⟨_, _, _, _⟩, o2, c2, n2, d2⟩ := hb
  cases c1; cases d1; cases c2; cases d2
  exact wpAny_richCompare_same_room (op := .NotEq) ⟨_, o1, rfl⟩ ⟨_, o2, rfl⟩ F.slot_list_ne (call_meetsIn F.slot_list_ne ⟨_, o1, rfl⟩ F.entry_list_ne (F.args_list_ne_2 _ _) (lst_ne l b xs ys _ _ _ _ _ _ hsz bs) ⟨o1, o2, he, (fun z => nomatch z), q⟩) hu
theorem rcE_tup (hl : s.heap.IsTuple l xs) (hb : s.heap.IsTuple b ys) (hu : A.units < cLine) (he : Says2 P w A.in1 s (xs.toList.zip ys.toList) bs) (E Q : Value → Shared → Prop) (q : Q (.bool (bs.all id && xs.size == ys.size)) s) : wpAny (model P w) A (richCompare .Eq (.ref l) (.ref b)) Q E s := by
  obtain ⟨⟨_, _, _, _⟩, o1, c1, n1, d1⟩ := hl
  obtain ⟨⟨_, _, _, _⟩, o2, c2, n2, d2⟩ := hb
  cases c1; cases d1; cases c2; cases d2
  exact wpAny_richCompare_same_room (op := .Eq) ⟨_, o1, rfl⟩ ⟨_, o2, rfl⟩ F.slot_tuple_eq (call_meetsIn F.slot_tuple_eq ⟨_, o1, rfl⟩ F.entry_tuple_eq (F.args_tuple_eq_2 _ _) (tup_eq l b xs ys _ _ _ _ _ _ bs) ⟨o1, o2, he, (fun z => nomatch z), q⟩) hu
theorem rcN_tup (hl : s.heap.IsTuple l xs) (hb : s.heap.IsTuple b ys) (hu : A.units < cLine) (he : Says2 P w A.in1 s (xs.toList.zip ys.toList) bs) (E Q : Value → Shared → Prop) (q : Q (.bool (!(bs.all id && xs.size == ys.size))) s) : wpAny (model P w) A (richCompare .NotEq (.ref l) (.ref b)) Q E s := by
  obtain ⟨⟨_, _, _, _⟩, o1, c1, n1, d1⟩ := hl
  obtain ⟨⟨_, _, _, _⟩, o2, c2, n2, d2⟩ := hb
  cases c1; cases d1; cases c2; cases d2
  exact wpAny_richCompare_same_room (op := .NotEq) ⟨_, o1, rfl⟩ ⟨_, o2, rfl⟩ F.slot_tuple_ne (call_meetsIn F.slot_tuple_ne ⟨_, o1, rfl⟩ F.entry_tuple_ne (F.args_tuple_ne_2 _ _) (tup_ne l b xs ys _ _ _ _ _ _ bs) ⟨o1, o2, he, (fun z => nomatch z), q⟩) hu
/-- the entries of one dict among those of another -/
theorem hits_of {kb : List (Key × V)} {vb : List (Key × Value)} {f : Key → Bool} (rb : KV kb vb) : ∀ {ka : List (Key × V)} {va : List (Key × Value)}, KV ka va → (∀ k v u v' u', (k, v) ∈ ka → (k, u) ∈ kb → RelV v v' → RelV u u' → EqP P w A s v' u' (f k)) →
    PySem.W.KeqHitsP P w A s vb va (ka.all fun p => (kb.any fun q => decide (q.1 = p.1)) && f p.1)
  | [], [], _, _ => .nil
  | [], _ :: _, r, _ => by cases r
  | _ :: _, [], r, _ => by cases r
  | (k, v) :: ka, (k', u) :: va, r, h => by
    have r' : (k = k' ∧ RelV v u) ∧ KV ka va := by cases r with | cons a b => exact ⟨a, b⟩
    obtain ⟨⟨rfl, rv⟩, rt⟩ := r'
    have ih := hits_of rb rt fun k v u v' u' hp => h k v u v' u' (List.mem_cons_of_mem _ hp)
    have ro := rb.val k
    rw [List.all_cons]
    cases e : valV kb k with
    | none =>
      rw [e] at ro
      have no : (kb.any fun q => decide (q.1 = k)) = false := by
        rw [List.any_eq_false]
        intro q hq z
        have z : q.1 = k := by simpa using z
        unfold valV at e
        rw [Option.map_eq_none_iff, List.find?_eq_none] at e
        exact e q hq (by simpa using z)
      dsimp only
      rw [no, Bool.false_and, Bool.false_and]
      exact .miss ro.none_of
    | some x =>
      rw [e] at ro
      obtain ⟨y, hy, ry⟩ := ro.some_of
      have mem := valV_mem e
      have yes : (kb.any fun q => decide (q.1 = k)) = true := List.any_eq_true.mpr ⟨_, mem, by simp⟩
      dsimp only
      rw [yes, Bool.true_and]
      exact .hit hy (h k v x u y List.mem_cons_self mem rv ry) ih
end
section
variable {X : Cx} {pins : List (Addr × Obj)} {σ : L2.St} {H : Hp} {s : Shared}
theorem kt_mem {ka : List (List Key × V)} {xa : List (List Key × Addr × Value)} (r : KT H ka xa) : ∀ {x : List Key × Addr × Value}, x ∈ xa → ∃ v, (x.1, v) ∈ ka ∧ RelV v x.2.2 := by
  induction r with
  | nil => intro x h; cases h
  | @cons p q ps qs h t ih =>
    intro x hx
    rcases List.mem_cons.mp hx with rfl | hx
    · obtain ⟨p1, p2⟩ := p
      have h1 : p1 = x.1 := h.1
      subst h1
      exact ⟨p2, List.mem_cons_self, h.2.2⟩
    · obtain ⟨v, m, rv⟩ := ih hx
      exact ⟨v, List.mem_cons_of_mem _ m, rv⟩
theorem kt_any {ka : List (List Key × V)} {xa : List (List Key × Addr × Value)} (r : KT H ka xa) (k : List Key) : (xa.any fun y => decide (y.1 = k)) = ka.any fun q => decide (q.1 = k) := by
  induction r with
  | nil => rfl
  | @cons p q ps qs h t ih => rw [List.any_cons, List.any_cons, ih, h.1]
theorem kt_all {ka : List (List Key × V)} {xa : List (List Key × Addr × Value)} (r : KT H ka xa) (g : List Key → Bool) : (xa.all fun y => g y.1) = ka.all fun q => g q.1 := by
  induction r with
  | nil => rfl
  | @cons p q ps qs h t ih => rw [List.all_cons, List.all_cons, ih, h.1]
theorem kt_len {ka : List (List Key × V)} {xa : List (List Key × Addr × Value)} (r : KT H ka xa) : ka.length = xa.length := by
  induction r with
  | nil => rfl
  | cons h t ih => simp [ih]
/-- the items, as values of the heap -/
def SaysL (X : Cx) (s : Shared) (A : Around) (xs ys : List V) (bs : List Bool) : Prop := ∀ its its' : List Value, Vals xs its → Vals ys its' → Says2 X.prog X.w A s (its.zip its') bs
theorem go_lst (I : Inv X pins σ H s) {a b : Addr} {xs ys : List V} {bs : List Bool} (h1 : SqL X.K H a xs) (h2 : SqL X.K H b ys) (hl : xs.length = ys.length) {A : Around} (hu : A.units < cLine) (he : SaysL X s A.in1 xs ys bs) (E Q : Value → Shared → Prop) :
    (Q (.bool (bs.all id)) s → wpAny (model X.prog X.w) A (richCompare .Eq (.ref a) (.ref b)) Q E s) ∧ (Q (.bool (!(bs.all id))) s → wpAny (model X.prog X.w) A (richCompare .NotEq (.ref a) (.ref b)) Q E s) := by
  obtain ⟨is, r1, p1, _⟩ := I.list h1
  obtain ⟨js, r2, p2, _⟩ := I.list h2
  have sz : is.toArray.size = js.toArray.size := by have a := r1.length; have b := r2.length; simp; omega
  have e : Says2 X.prog X.w A.in1 s (is.toArray.toList.zip js.toArray.toList) bs := by simpa using he is js r1 r2
  exact ⟨fun q => rcE_lst p1.isList p2.isList sz hu e E Q q, fun q => rcN_lst p1.isList p2.isList sz hu e E Q q⟩
theorem go_lstN (I : Inv X pins σ H s) {a b : Addr} {xs ys : List V} (h1 : SqL X.K H a xs) (h2 : SqL X.K H b ys) (hl : xs.length ≠ ys.length) {A : Around} (hu : A.units < cLine) (E Q : Value → Shared → Prop) :
    (Q (.bool false) s → wpAny (model X.prog X.w) A (richCompare .Eq (.ref a) (.ref b)) Q E s) ∧ (Q (.bool true) s → wpAny (model X.prog X.w) A (richCompare .NotEq (.ref a) (.ref b)) Q E s) := by
  obtain ⟨is, r1, p1, _⟩ := I.list h1
  obtain ⟨js, r2, p2, _⟩ := I.list h2
  have sz : (is.toArray.size != js.toArray.size) = true := by have a := r1.length; have b := r2.length; simp; omega
  exact ⟨fun q => RcAt.lists_lengths p1.isList p2.isList sz hu _ _ E Q q, fun q => RcNeAt.lists_lengths p1.isList p2.isList sz hu _ _ E Q q⟩
theorem go_tup (I : Inv X pins σ H s) {a b : Addr} {xs ys : List V} {bs : List Bool} (h1 : SqT X.K H a xs) (h2 : SqT X.K H b ys) (hl : xs.length = ys.length) {A : Around} (hu : A.units < cLine) (he : SaysL X s A.in1 xs ys bs) (E Q : Value → Shared → Prop) :
    (Q (.bool (bs.all id)) s → wpAny (model X.prog X.w) A (richCompare .Eq (.ref a) (.ref b)) Q E s) ∧ (Q (.bool (!(bs.all id))) s → wpAny (model X.prog X.w) A (richCompare .NotEq (.ref a) (.ref b)) Q E s) := by
  obtain ⟨is, r1, p1, _⟩ := I.tuple h1
  obtain ⟨js, r2, p2, _⟩ := I.tuple h2
  have sz : (is.toArray.size == js.toArray.size) = true := by have a := r1.length; have b := r2.length; simp; omega
  have e : Says2 X.prog X.w A.in1 s (is.toArray.toList.zip js.toArray.toList) bs := by simpa using he is js r1 r2
  exact ⟨fun q => rcE_tup p1 p2 hu e E Q (by rw [sz, Bool.and_true]; exact q), fun q => rcN_tup p1 p2 hu e E Q (by rw [sz, Bool.and_true]; exact q)⟩
theorem go_dK (I : Inv X pins σ H s) {a b : Addr} {ka kb : List (Key × V)} {f : Key → Bool} (h1 : Rd H a (.dK ka)) (h2 : Rd H b (.dK kb)) {A : Around} (hu : A.units < cLine)
    (he : ∀ k v u v' u', (k, v) ∈ ka → (k, u) ∈ kb → RelV v v' → RelV u u' → EqP X.prog X.w A.in1 s v' u' (f k)) (E Q : Value → Shared → Prop) (q : Q (.bool (ka.length == kb.length && ka.all fun p => (kb.any fun q => decide (q.1 = p.1)) && f p.1)) s) : wpAny (model X.prog X.w) A (richCompare .Eq (.ref a) (.ref b)) Q E s := by
  obtain ⟨_, ya, va, ra, da⟩ := dk_rd I.hok h1
  obtain ⟨_, yb, vb, rb, db⟩ := dk_rd I.hok h2
  refine PySem.W.rcP_dicts ya yb da db hu (fun _ => hits_of rb ra he) E Q ?_
  rw [← ra.length, ← rb.length]
  exact q
theorem go_dT (I : Inv X pins σ H s) {a b : Addr} {ka kb : List (List Key × V)} {f : List Key → Bool} (h1 : Rd H a (.dT ka)) (h2 : Rd H b (.dT kb)) {A : Around} (hu : A.units + 1 < cLine)
    (he : ∀ k v u v' u', (k, v) ∈ ka → (k, u) ∈ kb → RelV v v' → RelV u u' → EqP X.prog X.w A.in1 s v' u' (f k)) (E Q : Value → Shared → Prop) (q : Q (.bool (ka.length == kb.length && ka.all fun p => (kb.any fun q => decide (q.1 = p.1)) && f p.1)) s) : wpAny (model X.prog X.w) A (richCompare .Eq (.ref a) (.ref b)) Q E s := by
  obtain ⟨_, ya, xa, ra, da⟩ := dt_rd I.hok h1
  obtain ⟨_, yb, xb, rb, db⟩ := dt_rd I.hok h2
  refine rcH_dicts (tupleKind_room_in1 hu) ya yb (by omega) da db (e := f) (fun x hx y hy e => ?_) E Q ?_
  · obtain ⟨v, m1, r1⟩ := kt_mem ra hx
    obtain ⟨u, m2, r2⟩ := kt_mem rb hy
    rw [e] at m2
    exact he x.1 v u x.2.2 y.2.2 m1 m2 r1 r2
  · have e1 : xa.all (inOther xb f) = ka.all fun p => (kb.any fun q => decide (q.1 = p.1)) && f p.1 := by
      rw [← kt_all ra fun k => (kb.any fun q => decide (q.1 = k)) && f k]
      congr 1
      funext x
      unfold inOther
      rw [kt_any rb]
    rw [e1, ← kt_len ra, ← kt_len rb]
    exact q
mutual
theorem EqV.eqp (I : Inv X pins σ H s) : ∀ {n : Nat} {v u : V} {b : Bool}, EqV X.K H n v u b → ∀ {v' u' : Value}, RelV v v' → RelV u u' → ∀ A : Around, A.units + n + 2 < cLine → EqP X.prog X.w A s v' u' b
  | _, _, _, _, .leaf l1 l2, v', u', r1, r2, A, hu => by
    have rd : ∀ {v : V} {x : PyData} {v' : Value}, Leaf v x → RelV v v' → Reads s.heap v' x [] ∧ x.plain = true ∧ x.depth ≤ 1 := by
      intro v x v' l r
      cases l <;> first | (cases r; exact ⟨by constructor, rfl, by simp [PyData.depth]⟩) | (obtain ⟨t, rfl⟩ := r; exact ⟨by constructor, rfl, by simp [PyData.depth]⟩)
    obtain ⟨a1, a2, a3⟩ := rd l1 r1
    obtain ⟨b1, b2, b3⟩ := rd l2 r2
    exact (eqAt_plain _ _ A s _ _ _ _ a1 b1 a2 b2 (by omega)).eqP
  | _, _, _, _, .lst (a := a) (b := b) h1 h2 t, _, _, r1, r2, A, hu => by
    cases r1; cases r2
    by_cases e : a = b
    · have e2 := EqV.same I (.lst h1 h2 t) (by rw [e])
      rw [e2, e]
      exact (EqAt.same _).eqP
    · exact eqP_refs e fun E Q q => (go_lst I h1 h2 t.len (by omega) (EqVs.says I t A.in1 (by show A.units + 1 + _ + 2 < cLine; omega)) E Q).1 q
  | _, _, _, _, .lstN (a := a) (b := b) h1 h2 t, _, _, r1, r2, A, hu => by
    cases r1; cases r2
    by_cases e : a = b
    · have e2 := EqV.same (n := 1) I (.lstN h1 h2 t) (by rw [e])
      cases e2
    · exact eqP_refs e fun E Q q => (go_lstN I h1 h2 t (by omega) E Q).1 q
  | _, _, _, _, .tup (a := a) (b := b) h1 h2 t, _, _, r1, r2, A, hu => by
    cases r1; cases r2
    by_cases e : a = b
    · have e2 := EqV.same I (.tup h1 h2 t) (by rw [e])
      rw [e2, e]
      exact (EqAt.same _).eqP
    · exact eqP_refs e fun E Q q => (go_tup I h1 h2 t.len (by omega) (EqVs.says I t A.in1 (by show A.units + 1 + _ + 2 < cLine; omega)) E Q).1 q
  | _, _, _, _, .dK (a := a) (b := b) f h1 h2 t, _, _, r1, r2, A, hu => by
    cases r1; cases r2
    by_cases e : a = b
    · have e2 := EqV.same I (.dK f h1 h2 t) (by rw [e])
      rw [e2, e]
      exact (EqAt.same _).eqP
    · exact eqP_refs e fun E Q q => go_dK I h1 h2 (by omega) (fun k v u v' u' m1 m2 x1 x2 => EqV.eqp I (t k v u m1 m2) x1 x2 A.in1 (by show A.units + 1 + _ + 2 < cLine; omega)) E Q q
  | _, _, _, _, .dT (a := a) (b := b) f h1 h2 t, _, _, r1, r2, A, hu => by
    cases r1; cases r2
    by_cases e : a = b
    · have e2 := EqV.same I (.dT f h1 h2 t) (by rw [e])
      rw [e2, e]
      exact (EqAt.same _).eqP
    · exact eqP_refs e fun E Q q => go_dT I h1 h2 (by omega) (fun k v u v' u' m1 m2 x1 x2 => EqV.eqp I (t k v u m1 m2) x1 x2 A.in1 (by show A.units + 1 + _ + 2 < cLine; omega)) E Q q
theorem EqVs.says (I : Inv X pins σ H s) : ∀ {n : Nat} {xs ys : List V} {bs : List Bool}, EqVs X.K H n xs ys bs → ∀ A : Around, A.units + n + 2 < cLine → SaysL X s A xs ys bs
  | _, _, _, _, .nil, A, hu, is, js, r1, r2 => by
    cases r1; cases r2
    exact .nil
  | _, _, _, _, .cons h t, A, hu, is, js, r1, r2 => by
    cases r1 with
    | cons a1 b1 =>
      cases r2 with
      | cons a2 b2 => exact .cons (EqV.eqp I h a1 a2 A hu) (EqVs.says I t A hu _ _ b1 b2)
end
end
end DL
set_option Elab.async false
set_option linter.all false
set_option maxRecDepth 100000
set_option maxHeartbeats 1000000
namespace DL
open PySem PySem.Spec PyProof.Rows L2 Evl
open PySem.SeqAt
section
variable {prog : Program} {w : World} {A : Around} {s : Shared}
/-- a dict's own != is the walk over the pairs, turned -/
theorem rcN_by_pairs {a b : Addr} {r : Bool} (ta : s.TypeIs (.ref a) "dict") (tb : s.TypeIs (.ref b) "dict") (hu : A.units < cLine)
    (walk : ∀ (A' : Around) (E : Value → Shared → Prop) (R : Bool → Shared → Prop), A' = A.in1 → R r s → wpAny (model prog w) A' (Builtin.Dict.samePairs "dict.__ne__" a b) R E s)
    (E Q : Value → Shared → Prop) (q : Q (.bool (!r)) s) : wpAny (model prog w) A (richCompare .NotEq (.ref a) (.ref b)) Q E s := by
  have body : wpAny (model prog w) A.in1 (Builtin.«dict.__ne__» ⟨[.ref a, .ref b], []⟩) (fun f s' => ∃ v, f = .done (.ret v) ∧ v ≠ Value.notImplemented ∧ Q v s') E s := by
    show wpAny _ _ (Builtin.Dict.dictSlotArgs "__ne__" ⟨[.ref a, .ref b], []⟩ >>= _) _ _ s
    refine wpAny_bind ?_
    have st : wpAny (model prog w) A.in1 (Builtin.Dict.dictSlotArgs "__ne__" ⟨[.ref a, .ref b], []⟩) (fun p s' => p = (.ref a, .ref b) ∧ s' = s) E s := by
      unfold Builtin.Dict.dictSlotArgs
      exact wpAny_bind (wpAny_notOrdered_dict ta (wpAny_pure ⟨rfl, rfl⟩))
    refine wpAny_mono st (fun p s' h => ?_) fun _ _ z => z
    obtain ⟨rfl, rfl⟩ := h
    have ib : ∀ {R : Bool → Shared → Prop}, R true s' → wpAny (model prog w) A.in1 (isInstance (.ref b) (.type "dict")) R E s' := fun z => wpAny_isInstance (T := "dict") tb PySem.F.sub_dict_dict z
    refine wpAny_bind (ib ?_)
    simp only [Bool.not_true, Bool.false_eq_true, if_false]
    repeat refine wpAny_bind (wpAny_pure ?_)
    refine wpAny_bind (walk A.in1 E _ rfl ?_)
    exact wpAny_pure ⟨_, rfl, (fun z => nomatch z), by cases r <;> simpa using q⟩
  refine wpAny_richCompare_same_room (op := .NotEq) ta tb PySem.F.slot_dict_ne ?_ hu
  refine wpAny_call_entry PySem.F.slot_dict_ne ta PySem.F.entry_dict_ne ?_ (PySem.F.args_dict_ne_2 _ _)
  refine wpAny_mono body (fun f s' h => ?_) fun _ _ z => z
  obtain ⟨v, rfl, n, q⟩ := h
  exact ⟨v, rfl, n, q⟩
end
section
variable {X : Cx} {pins : List (Addr × Obj)} {σ : L2.St} {H : Hp} {s : Shared}
theorem go_dKN (I : Inv X pins σ H s) {a b : Addr} {ka kb : List (Key × V)} {f : Key → Bool} (h1 : Rd H a (.dK ka)) (h2 : Rd H b (.dK kb)) {A : Around} (hu : A.units < cLine)
    (he : ∀ k v u v' u', (k, v) ∈ ka → (k, u) ∈ kb → RelV v v' → RelV u u' → EqP X.prog X.w A.in1 s v' u' (f k)) (E Q : Value → Shared → Prop) (q : Q (.bool (!(ka.length == kb.length && ka.all fun p => (kb.any fun q => decide (q.1 = p.1)) && f p.1))) s) : wpAny (model X.prog X.w) A (richCompare .NotEq (.ref a) (.ref b)) Q E s := by
  obtain ⟨_, ya, va, ra, da⟩ := dk_rd I.hok h1
  obtain ⟨_, yb, vb, rb, db⟩ := dk_rd I.hok h2
  refine rcN_by_pairs (r := ka.length == kb.length && ka.all fun p => (kb.any fun q => decide (q.1 = p.1)) && f p.1) da.typeIs db.typeIs hu (fun A' E R hA z => ?_) E Q q
  subst hA
  refine PySem.W.samePairsP ya yb da db (fun _ => hits_of rb ra he) ?_
  rw [← ra.length, ← rb.length]
  exact z
theorem go_dTN (I : Inv X pins σ H s) {a b : Addr} {ka kb : List (List Key × V)} {f : List Key → Bool} (h1 : Rd H a (.dT ka)) (h2 : Rd H b (.dT kb)) {A : Around} (hu : A.units + 1 < cLine)
    (he : ∀ k v u v' u', (k, v) ∈ ka → (k, u) ∈ kb → RelV v v' → RelV u u' → EqP X.prog X.w A.in1 s v' u' (f k)) (E Q : Value → Shared → Prop) (q : Q (.bool (!(ka.length == kb.length && ka.all fun p => (kb.any fun q => decide (q.1 = p.1)) && f p.1))) s) : wpAny (model X.prog X.w) A (richCompare .NotEq (.ref a) (.ref b)) Q E s := by
  obtain ⟨_, ya, xa, ra, da⟩ := dt_rd I.hok h1
  obtain ⟨_, yb, xb, rb, db⟩ := dt_rd I.hok h2
  refine rcN_by_pairs (r := ka.length == kb.length && ka.all fun p => (kb.any fun q => decide (q.1 = p.1)) && f p.1) da.typeIs db.typeIs (by omega) (fun A' E R hA z => ?_) E Q q
  subst hA
  refine pairsH (tupleKind_room_in1 hu) ya yb da db (e := f) (fun x hx y hy e => ?_) ?_
  · obtain ⟨v, m1, r1⟩ := kt_mem ra hx
    obtain ⟨u, m2, r2⟩ := kt_mem rb hy
    rw [e] at m2
    exact he x.1 v u x.2.2 y.2.2 m1 m2 r1 r2
  · have e1 : xa.all (inOther xb f) = ka.all fun p => (kb.any fun q => decide (q.1 = p.1)) && f p.1 := by
      rw [← kt_all ra fun k => (kb.any fun q => decide (q.1 = k)) && f k]
      congr 1
      funext x
      unfold inOther
      rw [kt_any rb]
    rw [e1, ← kt_len ra, ← kt_len rb]
    exact z
/-- == and != as the program asks them -/
theorem EqV.rc (I : Inv X pins σ H s) {n : Nat} {v u : V} {b : Bool} (h : EqV X.K H n v u b) {v' u' : Value} (r1 : RelV v v') (r2 : RelV u u') (A : Around) (hu : A.units + n + 2 < cLine) (E Q : Value → Shared → Prop) :
    (Q (.bool b) s → wpAny (model X.prog X.w) A (richCompare .Eq v' u') Q E s) ∧ (Q (.bool (!b)) s → wpAny (model X.prog X.w) A (richCompare .NotEq v' u') Q E s) := by
  cases h with
  | leaf l1 l2 =>
    have rd : ∀ {v : V} {x : PyData} {v' : Value}, Leaf v x → RelV v v' → Reads s.heap v' x [] ∧ x.plain = true ∧ x.depth ≤ 1 := by
      intro v x v' l r
      cases l <;> first | (cases r; exact ⟨by constructor, rfl, by simp [PyData.depth]⟩) | (obtain ⟨t, rfl⟩ := r; exact ⟨by constructor, rfl, by simp [PyData.depth]⟩)
    obtain ⟨a1, a2, a3⟩ := rd l1 r1
    obtain ⟨b1, b2, b3⟩ := rd l2 r2
    exact ⟨fun q => rcAt_plain a1 b1 a2 b2 (by omega) _ _ E Q q, fun q => rcNe_plain a1 b1 a2 b2 (by omega) _ _ E Q q⟩
  | lst h1 h2 t => cases r1; cases r2; exact go_lst I h1 h2 t.len (by omega) (EqVs.says I t A.in1 (by show A.units + 1 + _ + 2 < cLine; omega)) E Q
  | lstN h1 h2 t => cases r1; cases r2; exact go_lstN I h1 h2 t (by omega) E Q
  | tup h1 h2 t => cases r1; cases r2; exact go_tup I h1 h2 t.len (by omega) (EqVs.says I t A.in1 (by show A.units + 1 + _ + 2 < cLine; omega)) E Q
  | dK f h1 h2 t => cases r1; cases r2; exact ⟨fun q => go_dK I h1 h2 (by omega) (fun k v u v' u' m1 m2 x1 x2 => EqV.eqp I (t k v u m1 m2) x1 x2 A.in1 (by show A.units + 1 + _ + 2 < cLine; omega)) E Q q, fun q => go_dKN I h1 h2 (by omega) (fun k v u v' u' m1 m2 x1 x2 => EqV.eqp I (t k v u m1 m2) x1 x2 A.in1 (by show A.units + 1 + _ + 2 < cLine; omega)) E Q q⟩
  | dT f h1 h2 t => cases r1; cases r2; exact ⟨fun q => go_dT I h1 h2 (by omega) (fun k v u v' u' m1 m2 x1 x2 => EqV.eqp I (t k v u m1 m2) x1 x2 A.in1 (by show A.units + 1 + _ + 2 < cLine; omega)) E Q q, fun q => go_dTN I h1 h2 (by omega) (fun k v u v' u' m1 m2 x1 x2 => EqV.eqp I (t k v u m1 m2) x1 x2 A.in1 (by show A.units + 1 + _ + 2 < cLine; omega)) E Q q⟩
def rEqV (K : PySem.W.Frag) : R2 := fun x y H Q => ∃ n b, n ≤ 40 ∧ EqV K H n x y b ∧ Q (.bl b) H
def rNeV (K : PySem.W.Frag) : R2 := fun x y H Q => ∃ n b, n ≤ 40 ∧ EqV K H n x y b ∧ Q (.bl (!b)) H
theorem k_eqV (hu : X.A.units + 64 < cLine) : OpR X (compareOp .Eq) (rEqV X.K) := by
  intro pins s σ H x y v u Q I rx ry ⟨n, b, hn, h, q⟩
  unfold compareOp
  exact (h.rc I rx ry X.A (by omega) X.xe _).1 ⟨.bl b, H, I, rfl, q⟩
theorem k_neV (hu : X.A.units + 64 < cLine) : OpR X (compareOp .NotEq) (rNeV X.K) := by
  intro pins s σ H x y v u Q I rx ry ⟨n, b, hn, h, q⟩
  unfold compareOp
  exact (h.rc I rx ry X.A (by omega) X.xe _).2 ⟨.bl (!b), H, I, rfl, q⟩
end
end DL
set_option Elab.async false
set_option linter.all false
set_option maxRecDepth 100000
set_option maxHeartbeats 1000000
namespace DL
open PySem PySem.Spec PyProof.Rows L2 Evl
/-! ### == of data with dicts, of data -/
inductive LeafD : D → PyData → Prop
  | non : LeafD .non .none
  | bl (b : Bool) : LeafD (.bl b) (.bool b)
  | int (i : Int) : LeafD (.int i) (.int i)
  | str (x : Str) : LeafD (.str x) (.str x)
mutual
inductive EqD : Nat → D → D → Bool → Prop
  | leaf {n : Nat} {d e : D} {x y : PyData} : LeafD d x → LeafD e y → EqD n d e (PyData.eqv x y)
  | lst {n : Nat} {ds es : List D} {bs : List Bool} : EqDs n ds es bs → EqD (n + 1) (.lst ds) (.lst es) (bs.all id)
  | lstN {n : Nat} {ds es : List D} : ds.length ≠ es.length → EqD (n + 1) (.lst ds) (.lst es) false
  | tup {n : Nat} {ds es : List D} {bs : List Bool} : EqDs n ds es bs → EqD (n + 1) (.tup ds) (.tup es) (bs.all id)
  | dic {n : Nat} {ds es : List (Key × D)} (f : Key → Bool) : (∀ k d e, (k, d) ∈ ds → (k, e) ∈ es → EqD n d e (f k)) → EqD (n + 1) (.dic ds) (.dic es) (ds.length == es.length && ds.all fun p => (es.any fun q => decide (q.1 = p.1)) && f p.1)
  | dit {n : Nat} {ds es : List (List Key × D)} (f : List Key → Bool) : (∀ k d e, (k, d) ∈ ds → (k, e) ∈ es → EqD n d e (f k)) → EqD (n + 1) (.dit ds) (.dit es) (ds.length == es.length && ds.all fun p => (es.any fun q => decide (q.1 = p.1)) && f p.1)
inductive EqDs : Nat → List D → List D → List Bool → Prop
  | nil {n : Nat} : EqDs n [] [] []
  | cons {n : Nat} {d e : D} {b : Bool} {ds es : List D} {bs : List Bool} : EqD n d e b → EqDs n ds es bs → EqDs n (d :: ds) (e :: es) (b :: bs)
end
theorem leaf_rp {K : PySem.W.Frag} {G : Hp} {v : V} {d : D} {x : PyData} (l : LeafD d x) (r : Rp K G v d) : Leaf v x := by
  cases l <;> cases r <;> constructor
section
variable {K : PySem.W.Frag} {H : Hp}
/-- the entry that stands for one -/
theorem rp_entry {κ : Type} : ∀ {kvs : List (κ × V)} {ds : List (κ × D)}, kvs.map (·.1) = ds.map (·.1) → RpL K H (kvs.map (·.2)) (ds.map (·.2)) → ∀ {k : κ} {v : V}, (k, v) ∈ kvs → ∃ d, (k, d) ∈ ds ∧ Rp K H v d
  | [], _, _, _, _, _, h => by cases h
  | _ :: _, [], e, _, _, _, _ => by cases e
  | (k1, v1) :: kvs, (k2, d2) :: ds, e, r, k, v, h => by
    have e' : k1 = k2 ∧ kvs.map (·.1) = ds.map (·.1) := by simpa using e
    obtain ⟨rfl, e2⟩ := e'
    have r' : Rp K H v1 d2 ∧ RpL K H (kvs.map (·.2)) (ds.map (·.2)) := by
      have r : RpL K H (v1 :: kvs.map (·.2)) (d2 :: ds.map (·.2)) := r
      cases r with | cons a b => exact ⟨a, b⟩
    rcases List.mem_cons.mp h with h | h
    · cases h
      exact ⟨d2, List.mem_cons_self, r'.1⟩
    · obtain ⟨d, m, q⟩ := rp_entry e2 r'.2 h
      exact ⟨d, List.mem_cons_of_mem _ m, q⟩
theorem keys_any {κ α β : Type} [DecidableEq κ] {xs : List (κ × α)} {ys : List (κ × β)} (e : xs.map (·.1) = ys.map (·.1)) (k : κ) : (xs.any fun q => decide (q.1 = k)) = ys.any fun q => decide (q.1 = k) := by
  have h : ∀ {γ : Type} (l : List (κ × γ)), (l.any fun q => decide (q.1 = k)) = (l.map (·.1)).any fun z => decide (z = k) := fun l => by rw [List.any_map]; rfl
  rw [h, h, e]
theorem keys_all {κ α β : Type} {xs : List (κ × α)} {ys : List (κ × β)} (e : xs.map (·.1) = ys.map (·.1)) (g : κ → Bool) : (xs.all fun q => g q.1) = ys.all fun q => g q.1 := by
  have h : ∀ {γ : Type} (l : List (κ × γ)), (l.all fun q => g q.1) = (l.map (·.1)).all g := fun l => by rw [List.all_map]; rfl
  rw [h, h, e]
theorem keys_len {κ α β : Type} {xs : List (κ × α)} {ys : List (κ × β)} (e : xs.map (·.1) = ys.map (·.1)) : xs.length = ys.length := by simpa using congrArg List.length e
mutual
theorem EqD.toV : ∀ {n : Nat} {d e : D} {b : Bool}, EqD n d e b → ∀ {v u : V}, Rp K H v d → Rp K H u e → EqV K H n v u b
  | _, _, _, _, .leaf l1 l2, _, _, r1, r2 => .leaf (leaf_rp l1 r1) (leaf_rp l2 r2)
  | _, _, _, _, .lst t, _, _, .lst a1 r1, .lst a2 r2 => .lst (SqL.of a1) (SqL.of a2) (EqDs.toV t r1 r2)
  | _, _, _, _, .lstN t, _, _, .lst a1 r1, .lst a2 r2 => .lstN (SqL.of a1) (SqL.of a2) (by rw [r1.length, r2.length]; exact t)
  | _, _, _, _, .tup t, _, _, .tup a1 r1, .tup a2 r2 => .tup (SqT.of a1) (SqT.of a2) (EqDs.toV t r1 r2)
  | _, _, _, _, .dic (ds := ds) (es := es) f t, _, _, .dic (kvs := ka) a1 k1 r1, .dic (kvs := kb) a2 k2 r2 => by
    rw [← keys_len k1, ← keys_len k2, ← keys_all k1 fun k => (es.any fun z => decide (z.1 = k)) && f k]
    have e : (fun q : Key × V => (es.any fun z => decide (z.1 = q.1)) && f q.1) = fun q : Key × V => (kb.any fun z => decide (z.1 = q.1)) && f q.1 := by
      funext q
      rw [keys_any k2]
    rw [e]
    exact .dK f a1 a2 fun k v u m1 m2 => by
      obtain ⟨d, n1, q1⟩ := rp_entry k1 r1 m1
      obtain ⟨e, n2, q2⟩ := rp_entry k2 r2 m2
      exact EqD.toV (t k d e n1 n2) q1 q2
  | _, _, _, _, .dit (ds := ds) (es := es) f t, _, _, .dit (kvs := ka) a1 k1 r1, .dit (kvs := kb) a2 k2 r2 => by
    rw [← keys_len k1, ← keys_len k2, ← keys_all k1 fun k => (es.any fun z => decide (z.1 = k)) && f k]
    have e : (fun q : List Key × V => (es.any fun z => decide (z.1 = q.1)) && f q.1) = fun q : List Key × V => (kb.any fun z => decide (z.1 = q.1)) && f q.1 := by
      funext q
      rw [keys_any k2]
    rw [e]
    exact .dT f a1 a2 fun k v u m1 m2 => by
      obtain ⟨d, n1, q1⟩ := rp_entry k1 r1 m1
      obtain ⟨e, n2, q2⟩ := rp_entry k2 r2 m2
      exact EqD.toV (t k d e n1 n2) q1 q2
theorem EqDs.toV : ∀ {n : Nat} {ds es : List D} {bs : List Bool}, EqDs n ds es bs → ∀ {vs us : List V}, RpL K H vs ds → RpL K H us es → EqVs K H n vs us bs
  | _, _, _, _, .nil, _, _, .nil, .nil => .nil
  | _, _, _, _, .cons h t, _, _, .cons a1 r1, .cons a2 r2 => .cons (EqD.toV h a1 a2) (EqDs.toV t r1 r2)
end
end
/-! ### data that equal themselves -/
inductive Wf : Nat → D → Prop
  | leaf {n : Nat} {d : D} {x : PyData} : LeafD d x → Wf n d
  | lst {n : Nat} {ds : List D} : (∀ d ∈ ds, Wf n d) → Wf (n + 1) (.lst ds)
  | tup {n : Nat} {ds : List D} : (∀ d ∈ ds, Wf n d) → Wf (n + 1) (.tup ds)
  | dic {n : Nat} {ds : List (Key × D)} : (ds.map (·.1)).Nodup → (∀ p ∈ ds, Wf n p.2) → Wf (n + 1) (.dic ds)
  | dit {n : Nat} {ds : List (List Key × D)} : (ds.map (·.1)).Nodup → (∀ p ∈ ds, Wf n p.2) → Wf (n + 1) (.dit ds)
theorem eqds_self {n : Nat} : ∀ {ds : List D}, (∀ d ∈ ds, EqD n d d true) → EqDs n ds ds (ds.map fun _ => true)
  | [], _ => .nil
  | d :: ds, h => .cons (h d (by simp)) (eqds_self fun e he => h e (by simp [he]))
theorem nodup_one {κ : Type} : ∀ {ds : List (κ × D)}, (ds.map (·.1)).Nodup → ∀ {k : κ} {d e : D}, (k, d) ∈ ds → (k, e) ∈ ds → d = e
  | p :: ds, nd, k, d, e, h1, h2 => by
    rw [List.map_cons, List.nodup_cons] at nd
    have out : ∀ {x : D}, (k, x) ∈ ds → k ∈ ds.map (·.1) := fun {x} m => List.mem_map.mpr ⟨(k, x), m, rfl⟩
    rcases List.mem_cons.mp h1 with g1 | g1
    · subst g1
      rcases List.mem_cons.mp h2 with g2 | g2
      · cases g2; rfl
      · exact absurd (out g2) nd.1
    · rcases List.mem_cons.mp h2 with g2 | g2
      · subst g2
        exact absurd (out g1) nd.1
      · exact nodup_one nd.2 g1 g2
theorem Wf.self : ∀ {n : Nat} {d : D}, Wf n d → EqD n d d true := by
  intro n d h
  induction h with
  | @leaf n d x l =>
    have := EqD.leaf (n := n) l l
    have e : PyData.eqv x x = true := by cases l <;> simp [PyData.eqv]
    rw [e] at this
    exact this
  | @lst n ds _ ih =>
    have := EqD.lst (eqds_self ih)
    rw [show (ds.map fun _ => true).all id = true by simp] at this
    exact this
  | @tup n ds _ ih =>
    have := EqD.tup (eqds_self ih)
    rw [show (ds.map fun _ => true).all id = true by simp] at this
    exact this
  | @dic n ds nd _ ih =>
    have := EqD.dic (n := n) (ds := ds) (es := ds) (fun _ => true) fun k d e h1 h2 => by
      have := nodup_one nd h1 h2
      subst this
      exact ih (k, d) h1
    have e : (ds.length == ds.length && ds.all fun p => (ds.any fun q => decide (q.1 = p.1)) && true) = true := by
      rw [Bool.and_eq_true]
      refine ⟨by simp, List.all_eq_true.mpr fun p hp => ?_⟩
      rw [Bool.and_true]
      exact List.any_eq_true.mpr ⟨p, hp, by simp⟩
    rw [e] at this
    exact this
  | @dit n ds nd _ ih =>
    have := EqD.dit (n := n) (ds := ds) (es := ds) (fun _ => true) fun k d e h1 h2 => by
      have := nodup_one nd h1 h2
      subst this
      exact ih (k, d) h1
    have e : (ds.length == ds.length && ds.all fun p => (ds.any fun q => decide (q.1 = p.1)) && true) = true := by
      rw [Bool.and_eq_true]
      refine ⟨by simp, List.all_eq_true.mpr fun p hp => ?_⟩
      rw [Bool.and_true]
      exact List.any_eq_true.mpr ⟨p, hp, by simp⟩
    rw [e] at this
    exact this
section
variable {ι : Type} {m : ι} {K : PySem.W.Frag} {W : Wd ι} {Φ : ι → S → Prop}
theorem ops_eqV {s1 s2 : S} {n : Nat} {d e : D} {b : Bool} (h1 : s1.view = some d) (h2 : s2.view = some e) (hn : n ≤ 40) (he : EqD n d e b) (h : Φ m (.dat (.bl b))) : OpS K W m (rEqV K) s1 s2 Φ := fun H0 G H v1 v2 ok r1 r2 Q q =>
  ⟨n, b, hn, he.toV (r1.rd ok h1) (r2.rd ok h2), q _ (.dat (.bl b)) m G H ok.refl (Rp.bl b) h⟩
theorem ops_neV {s1 s2 : S} {n : Nat} {d e : D} {b : Bool} (h1 : s1.view = some d) (h2 : s2.view = some e) (hn : n ≤ 40) (he : EqD n d e b) (h : Φ m (.dat (.bl (!b)))) : OpS K W m (rNeV K) s1 s2 Φ := fun H0 G H v1 v2 ok r1 r2 Q q =>
  ⟨n, b, hn, he.toV (r1.rd ok h1) (r2.rd ok h2), q _ (.dat (.bl (!b))) m G H ok.refl (Rp.bl _) h⟩
end
end DL
set_option Elab.async false
set_option linter.all false
set_option maxRecDepth 100000
set_option maxHeartbeats 1000000
namespace DL
open PySem L2 Evl PySem.Spec PyProof.Rows
/-! ### several clauses, each with a name or with none -/
/-- an exception that has come down to the try of this frame -/
structure Down (X : Cx) (pins : List (Addr × Obj)) (σ : L2.St) (H : Hp) (a : Addr) (cls : Value) (d : Option Addr) (B : Heap) (s0 s : Shared) : Prop where
  ok : X.Ok
  hs : X.stack = X.env :: X.outer
  hf : X.env.frame = some X.env.locals
  was : Inv X pins σ H s0
  nb : ∀ b o, s0.heap.get? b = some o → b ∉ frs X.stack → B.get? b = some o
  up : s0.heap.UpToSlots s.heap
  fl : HandSPX.FlyingZ B (X.env :: X.outer) a (Zc cls d) s.heap
  na : H a = none
  os : s.os = s0.os
  ag : AllBare s.gens
/-- what a clause names, the slot of its name if it has one, its suite -/
abbrev Hdl := Value × Option Nat × (Addr → Value → Option Addr → TS)
def ends (i : Nat) (D : Ends) : Ends := { nx := fun σ H => D.nx (σ.set i none) H, rt := D.rt, bk := fun σ H => D.bk (σ.set i none) H, ct := fun σ H => D.ct (σ.set i none) H }
def wCl (K : PySem.W.Frag) (D : Ends) (Wout : WX) : List Hdl → WX
  | [] => Wout
  | (c, some i, ts) :: l => wAs K c i ts (wCl K D Wout l) D
  | (c, none, ts) :: l => fun cls d σ H => ∃ b, PySem.W.exmOne K cls c = some b ∧ (b = true → ∀ a, H a = none → ts a cls d D σ H) ∧ (b = false → wCl K D Wout l cls d σ H)
inductive Cls_ (X : Cx) : List ExceptHandler → List Hdl → Prop
  | nil : Cls_ X [] []
  | as_ {x n : Str} {c : Value} {i : Nat} {ts : Addr → Value → Option Addr → TS} {b : Stmt} {bs : List Stmt} {p1 p2 : Pos} {hds : List ExceptHandler} {l : List Hdl} (hN : X.N.Nodup) (hi : X.N[i]? = some n) (hl : X.env.kindOf n = some .local) (hc : Names X x c)
      (su : ∀ (a : Addr) (oe : Obj) (cls : Value) (d : Option Addr) (pn : List (Addr × Obj)), Zc cls d oe → (∃ vs, oe.data = .fields vs) → PSs (X.suite a ((a, oe) :: pn)) (b :: bs) (ts a cls d)) (r : Cls_ X hds l) :
      Cls_ X (.ExceptHandler (some (.Name x p1)) (some n) (b :: bs) p2 :: hds) ((c, some i, ts) :: l)
  | bare {x : Str} {c : Value} {ts : Addr → Value → Option Addr → TS} {b : Stmt} {bs : List Stmt} {p1 p2 : Pos} {hds : List ExceptHandler} {l : List Hdl} (hc : Names X x c)
      (su : ∀ (a : Addr) (oe : Obj) (cls : Value) (d : Option Addr) (pn : List (Addr × Obj)), Zc cls d oe → (∃ vs, oe.data = .fields vs) → PSs (X.suite a ((a, oe) :: pn)) (b :: bs) (ts a cls d)) (r : Cls_ X hds l) :
      Cls_ X (.ExceptHandler (some (.Name x p1)) none (b :: bs) p2 :: hds) ((c, none, ts) :: l)
section
variable {X : Cx} {pins : List (Addr × Obj)} {σ : L2.St} {H : Hp} {a : Addr} {cls : Value} {d : Option Addr} {B : Heap} {s0 s : Shared} {D : Ends} {Wout : WX}
theorem Down.inv (w : Down X pins σ H a cls d B s0 s) : Inv X pins σ H s := w.was.landed w.nb w.fl.1 w.up w.os w.ag
theorem Down.move (w : Down X pins σ H a cls d B s0 s) {h : Heap} (fl : HandSPX.FlyingZ B (X.env :: X.outer) a (Zc cls d) h) (up : s.heap.UpToSlots h) : Down X pins σ H a cls d B s0 { s with heap := h } :=
  { ok := w.ok, hs := w.hs, hf := w.hf, was := w.was, nb := w.nb, up := w.up.trans up, fl := fl, na := w.na, os := w.os, ag := w.ag }
/-- seen from a clause -/
theorem Down.view (w : Down X pins σ H a cls d B s0 s) : ∃ oe, s.heap.get? a = some oe ∧ Zc cls d oe ∧ (∃ vs, oe.data = .fields vs) ∧ Inv (X.suite a ((a, oe) :: (X.pn ++ pins))) [] σ H s := by
  obtain ⟨oe, vs, ha, hz, hd⟩ := w.fl.there
  have away : ∀ b, b ∈ frs (X.env :: X.outer) → a ≠ b := by
    rintro b hb rfl
    obtain ⟨_, o, e, no⟩ := w.fl.2.2.1.mem hb
    rw [ha] at e
    exact no _ (by rw [← Option.some.inj e]; exact hd)
  refine ⟨oe, ha, hz, ⟨vs, hd⟩, w.inv.suite ha hd w.na (away _ ?_) fun m => ?_⟩
  · exact List.mem_filterMap.mpr ⟨X.env, .head _, w.hf⟩
  · obtain ⟨e, he, q⟩ := List.mem_filterMap.mp m
    exact away a (List.mem_filterMap.mpr ⟨e, .tail _ he, q⟩) rfl
/-- no clause is left -/
theorem Down.out (w : Down X pins σ H a cls d B s0 s) (tk : Takes X Wout) (q : Wout cls d σ H) {Q : Flow → Shared → Prop} : wpAny (model X.prog X.w) X.A (handleBy (.ref a) X.env []) Q X.xe s := by
  have fly : wpAny (model X.prog X.w) X.A (setFlight (.ref a) X.env.frame) (fun _ s1 => wpAny (model X.prog X.w) X.A (throw (.ref a) : Sem Flow) Q X.xe s1) X.xe s := by
    rw [w.hf]
    exact HandSPX.setFlight_upZ w.fl fun h hh up => wpAny_throw (tk _ _ ⟨a, B, s0, pins, σ, H, cls, d, rfl, w.was, w.nb, w.up.trans up, .inr (.inr (by rw [w.hs]; exact hh)), w.na, w.os, w.ag, q⟩)
  obtain ⟨_, _, _, oe, vs, T, _, _, ha, _, hd, h1, _⟩ := id w.fl
  refine wpAny_handleBy_nil ?_
  unfold PySem.passOn
  refine wpAny_bind (wpAny_field ha hd h1 ?_)
  rw [if_neg (by simp)]
  first
    | exact wpAny_bind fly
    | exact wpAny_bind (wpAny_pure (wpAny_bind fly))
/-- the clauses in turn -/
theorem Down.turn {hds : List ExceptHandler} {l : List Hdl} (tk : Takes X Wout) (hh : Cls_ X hds l) : Down X pins σ H a cls d B s0 s → wCl X.K D Wout l cls d σ H → wpAny (model X.prog X.w) X.A (handleBy (.ref a) X.env hds) (SP X pins D) X.xe s := by
  have asked : ∀ {x : Str} {c : Value} {p1 : Pos} {b : Bool} {Q : Value → Shared → Prop} {R : Bool → Shared → Prop} {E E' : Value → Shared → Prop}, Names X x c → PySem.W.exmOne X.K cls c = some b → Down X pins σ H a cls d B s0 s → R b s →
      wpAny (model X.prog X.w) (X.A.mark (some (.ref a))) (eval (.Name x p1) X.env) (fun v s1 => wpAny (model X.prog X.w) (X.A.mark (some (.ref a))) (excMatches (.ref a) v) R E s1) E' s := by
    intro x c p1 b Q R E E' nm eb w q
    obtain ⟨oe, ha, hz, _, S⟩ := w.view
    have ty : PySem.W.Looks (model X.prog X.w) s.heap (typeOf (.ref a)) cls := fun A Q E s k q => wpAny_typeOf_ref (k _ _ ha) (by rw [hz.1]; exact q)
    have last := (PySem.W.exm_one (M := model X.prog X.w) w.inv.kIn ty eb).here (A := X.A.mark (some (.ref a))) (Q := R) (E := E) q
    obtain ⟨g, db, m | ⟨m, v, nn⟩⟩ := nm
    · exact ld_glob (X := X.suite a ((a, oe) :: (X.pn ++ pins))) S g m last db
    · exact ld_blt (X := X.suite a ((a, oe) :: (X.pn ++ pins))) S g m v last nn db
  induction hh with
  | nil => exact fun w q => w.out tk q
  | @as_ x n c i ts b bs p1 p2 hds l hN hi hl hc su r ih =>
    rintro w ⟨t, et, yes, no⟩
    refine wpAny_handleBy_cons (codeAny_handlers_test (asked (Q := fun _ _ => True) hc et w ?_)) (by intro z; cases z)
    cases t with
    | false => exact ih w (no rfl)
    | true =>
      refine codeAny_handlers_suite_as (HandSPX.lands_againZ w.fl fun h fl up => ?_)
      have w2 := w.move fl up
      obtain ⟨oe, ha, hz, hd, S⟩ := w2.view
      refine store_ok (X := X.suite a ((a, oe) :: (X.pn ++ pins))) (v := .ref a) S hN hi (.inl hl) rfl (fun s2 S2 => ?_) (.inr hl)
      refine wpAny_mono ((su a oe cls d (X.pn ++ pins) hz hd).run [] s2 _ H _ S2 (yes rfl a w.na)) (fun f s3 q => ?_) (fun _ _ z => False.elim z)
      cases f with
      | ret u =>
        obtain ⟨v, σ', H', S3, rv, q⟩ := q
        exact gone_ok (S3.unsuite w.ok) hN hi hl fun s4 J => ⟨v, _, H', J, rv, q⟩
      | next =>
        obtain ⟨σ', H', S3, q⟩ := q
        exact gone_ok (S3.unsuite w.ok) hN hi hl fun s4 J => ⟨_, H', J, q⟩
      | brk =>
        obtain ⟨σ', H', S3, q⟩ := q
        exact gone_ok (S3.unsuite w.ok) hN hi hl fun s4 J => ⟨_, H', J, q⟩
      | cont =>
        obtain ⟨σ', H', S3, q⟩ := q
        exact gone_ok (S3.unsuite w.ok) hN hi hl fun s4 J => ⟨_, H', J, q⟩
  | @bare x c ts b bs p1 p2 hds l hc su r ih =>
    rintro w ⟨t, et, yes, no⟩
    refine wpAny_handleBy_cons (codeAny_handlers_test (asked (Q := fun _ _ => True) hc et w ?_)) (by intro z; cases z)
    cases t with
    | false => exact ih w (no rfl)
    | true =>
      refine codeAny_handlers_suite (HandSPX.lands_againZ w.fl fun h fl up => ?_)
      have w2 := w.move fl up
      obtain ⟨oe, ha, hz, hd, S⟩ := w2.view
      refine wpAny_mono ((su a oe cls d (X.pn ++ pins) hz hd).run [] _ _ H _ S (yes rfl a w.na)) (fun f s3 q => ?_) (fun _ _ z => False.elim z)
      cases f with
      | ret u =>
        obtain ⟨v, σ', H', S3, rv, q⟩ := q
        exact ⟨v, _, H', S3.unsuite w.ok, rv, q⟩
      | next =>
        obtain ⟨σ', H', S3, q⟩ := q
        exact ⟨_, H', S3.unsuite w.ok, q⟩
      | brk =>
        obtain ⟨σ', H', S3, q⟩ := q
        exact ⟨_, H', S3.unsuite w.ok, q⟩
      | cont =>
        obtain ⟨σ', H', S3, q⟩ := q
        exact ⟨_, H', S3.unsuite w.ok, q⟩
end
section
variable {X : Cx} {body : List Stmt} {h₀ : ExceptHandler} {hds : List ExceptHandler} {l : List Hdl} {pos : Pos} {tb : WX → TS} {Wout : WX}
/-- try: body / except X as e: .. / except Y: .. -/
theorem ps_tryC (hs : X.stack = X.env :: X.outer) (hf : X.env.frame = some X.env.locals) (tk : Takes X Wout)
    (hb : ∀ (W : WX) (pn : List (Addr × Obj)) (xe : Value → Shared → Prop), Takes (X.tr pn xe) W → PassesOwn (model X.prog X.w) X.A X.env xe → PSs (X.tr pn xe) body (tb W))
    (hh : Cls_ X (h₀ :: hds) l) : PS X (.Try body (h₀ :: hds) [] [] pos) (fun D σ H => tb (wCl X.K D Wout l) D σ H) := by
  constructor
  intro pins s σ H D I h
  let xe : Value → Shared → Prop := fun e s1 => wpAny (model X.prog X.w) X.A (noteFrame e X.env) (fun _ s2 => wpAny (model X.prog X.w) X.A (setFlight e none) (fun _ s3 => wpAny (model X.prog X.w) X.A (handleBy e X.env (h₀ :: hds)) (SP X pins D) X.xe s3) X.xe s2) X.xe s1
  have took : Takes (X.tr (X.pn ++ pins) xe) (wCl X.K D Wout l) := by
    rintro u s1 ⟨a, B, s0, pn, σ1, H1, cls, d, rfl, J, nb, up, sky, na, os, ag, q⟩
    have sky1 : Sky B (X.env :: X.outer) a (Zc cls d) X.env.locals s1.heap := by rw [← hs]; exact sky
    exact Sky.land Zc.steady (by rw [I.ok.frames, hs]) hf sky1 fun h fl up1 => Down.turn (s := { s1 with heap := h }) tk hh ⟨I.ok, hs, hf, J.ofTry I.ok, nb, up.trans up1, fl, na, os, ag⟩ q
  refine wpAny_Try_except (wpAny_mono ((hb _ (X.pn ++ pins) xe took PassesOwn.looking).run [] s σ H D (I.toTry _) h) (fun f s1 q => ?_) fun e s1 z => z)
  cases f with
  | ret u =>
    obtain ⟨v, σ1, H1, J, r, q⟩ := q
    exact ⟨v, σ1, H1, J.ofTry I.ok, r, q⟩
  | next =>
    obtain ⟨σ1, H1, J, q⟩ := q
    exact wpAny_execs_nil ⟨σ1, H1, J.ofTry I.ok, q⟩
  | brk =>
    obtain ⟨σ1, H1, J, q⟩ := q
    exact ⟨σ1, H1, J.ofTry I.ok, q⟩
  | cont =>
    obtain ⟨σ1, H1, J, q⟩ := q
    exact ⟨σ1, H1, J.ofTry I.ok, q⟩
end
end DL
set_option Elab.async false
set_option linter.all false
set_option maxRecDepth 100000
set_option maxHeartbeats 1000000
namespace DL
open PySem L2 Evl PySem.Spec PyProof.Rows
/-! ### a new instance made within a try -/
def tMakeW (C : Addr) (sp : Sp) (E : L2.St → XK) (t : TA) : TE := fun σ H Q => t σ H fun vs H1 => ∀ x dx, H1 x = none → H1 dx = none → dx ≠ x →
  sp (.ref x :: vs) (upd (upd H1 dx (.own x)) x (.ins C dx [])) (fun v H2 => v = .non ∧ Q (.ref x) H2) (E σ)
section
variable {X : Cx} {K : PySem.W.Frag} {C : Addr} {k j : Nat} {x : Str} {ps : List Str} {F : Fc} {e : Expr} {es : List Expr} {t : TA} {p pos : Pos}
theorem k_makeS {W : WX} (c : Mi X.prog X.w K X.mg X.base (L2.CX X.prog X.w) k C x ps F) (hK : X.K = K) (hr : Room j X.A) (tk : Takes X W) (ha : PA X (e :: es) t) (hk : k + 1 ≤ j := by decide) (hg : Gl X x := by rfl) (hdb : (x == ("__debug__" : Str)) = false := by decide)
    (he : starEach (e :: es) X.env = (false, eval e X.env) :: starEach es X.env := by rfl) (hpl : (backTo pos (starEach es X.env)).any (·.1) = false := by rfl) :
    PE X (.Call (.Name x p) (e :: es) [] pos) (tMakeW C (spF K F) (WE W) t) := by
  subst hK
  obtain ⟨g, fd, M, hF, hm, hb⟩ := c.ex
  refine ⟨fun pins s σ H Q I h => wpAny_Call_Name_kw (ld_glob I hg hm (PySem.W.callWith_K (h₀ := X.base) I.ok.mod.kin M.kp (thn (ha.run pos pins s σ H _ I h) fun us s1 z => ?_) he hpl) hdb)⟩
  obtain ⟨vs, H1, I1, r, q⟩ := z
  refine ⟨I1.kIn, ?_⟩
  have sp := q (s1.heap.objs.size + 1) s1.heap.objs.size (I1.hok.fresh (Nat.le_succ _)) (I1.hok.fresh (Nat.le_refl _)) (Nat.ne_of_lt (Nat.lt_succ_self _))
  have I2 := Inv.made (C := C) I1
  have all : Vals (V.ref (s1.heap.objs.size + 1) :: vs) (Value.ref (s1.heap.objs.size + 1) :: us) := .cons rfl r
  have many : (Value.ref (s1.heap.objs.size + 1) :: us).length = ps.length := by rw [← all.length]; exact hF.len _ _ _ _ sp
  have bd := hb _ (Value.ref (s1.heap.objs.size + 1) :: us) I2.kIn (by rw [List.append_nil]; exact many)
  rw [List.append_nil] at bd
  refine wpAny_call (make_map (f := g) I1.kIn M.makes M.init (beq_iff_eq.mp M.fn) (codeAny_mono (hF.run _ X.stack _ _ ⟨Value.ref (s1.heap.objs.size + 1) :: us, []⟩ (Value.ref (s1.heap.objs.size + 1) :: us) _ _ (WE W σ) ((hr.mono hk).make C us []) (I2.env0.make C us []) bd all sp) fun o s2 z => ?_))
  match o, z with
  | .error u, z => exact passAt tk σ pins _ _ u s2 I2 z
  | .ok (.ret u), z =>
    obtain ⟨v, H3, I3, rv, ev, q3⟩ := I2.after z
    subst ev
    exact ⟨rv, V.ref (s1.heap.objs.size + 1), H3, I3, rfl, q3⟩
end
section
variable {ι : Type} {c : Cc ι} {m : ι} {ρ : List S} {te ta : TE} {Φ : ι → S → Prop} {C : Addr}
theorem make_core {F : Fc} {E : XK} {Ξ : Xp ι} {σ : L2.St} {G1 H1 H : Hp} {m1 : ι} {vs : List V} {ss : List S} {Q : VK} {x dx : Addr} (e : EnvOk c m1 G1 H1 σ ρ) (hE : ExcQ c.K c.W G1 H1 Ξ E) (r1 : RelSs c.K c.W H G1 H1 vs ss) (ha : ss.all argS = true)
    (hF : ∀ a dx, ¬ c.W.M a → F (ι × List (Str × D)) (insW c.K c.W a dx C) (m1, []) (.at_ a :: ss) (fun mm s => s = .dat .non ∧ Φ mm.1 (.dat (.ins C mm.2))) fun mm => Ξ mm.1)
    (q : ∀ v s m' G' H', Grow c.W G1 H1 m' G' H' → RelS c.K c.W H G' H' v s → Φ m' s → Q v H') (hx : H1 x = none) (hdx : H1 dx = none) (ne : dx ≠ x) :
    spF c.K F (.ref x :: vs) (upd (upd H1 dx (.own x)) x (.ins C dx [])) (fun v H2 => v = .non ∧ Q (.ref x) H2) E := by
  have ok := e.ok
  have hx1 : upd H1 dx (.own x) x = none := by rw [upd_ne (Ne.symm ne)]; exact hx
  have gn : Grow c.W G1 H1 m1 G1 (upd (upd H1 dx (.own x)) x (.ins C dx [])) := (Grow.new ok hdx).trans (Grow.new ((Grow.new ok hdx).ok ok) hx1)
  have gx : G1 x = none := fresh_back ok.ex hx
  have gdx : G1 dx = none := fresh_back ok.ex hdx
  have mx : ¬ c.W.M x := fun z => c.W.ne ok.inv z hx
  have mdx : ¬ c.W.M dx := fun z => c.W.ne ok.inv z hdx
  have ok' : Ok (insW c.K c.W x dx C) (m1, []) G1 (upd (upd H1 dx (.own x)) x (.ins C dx [])) := ⟨gn.sub, ⟨gn.inv, by rw [upd_ne ne]; exact upd_same, [], upd_same, rfl, .nil⟩, fun b hb => by
    rcases hb with hb | rfl | rfl
    · exact ok.off b hb
    · exact gx
    · exact gdx, ok.lk⟩
  have back : ∀ {m' : ι × List (Str × D)} {G' H' : Hp}, Grow (insW c.K c.W x dx C) G1 (upd (upd H1 dx (.own x)) x (.ins C dx [])) m' G' H' → Grow c.W G1 H1 m'.1 G' H' := fun {m' G' H'} g =>
    ⟨g.ex, g.sub, fun b o hb t hg => by
      have nb : b ≠ x := fun z => by rw [z, hx] at hb; cases hb
      have nd : b ≠ dx := fun z => by rw [z, hdx] at hb; cases hb
      exact g.fresh b o (by rw [upd_ne nb, upd_ne nd]; exact hb) t hg, fun b o hm hb => by
      have nb : b ≠ x := fun z => by rw [z, hx] at hb; cases hb
      have nd : b ≠ dx := fun z => by rw [z, hdx] at hb; cases hb
      exact g.keep b o (fun z => by
        rcases z with z | z | z
        · exact hm z
        · exact nb z
        · exact nd z) (by rw [upd_ne nb, upd_ne nd]; exact hb), g.inv.1, g.lk⟩
  have args : ∀ {vs : List V} {ss : List S}, RelSs c.K c.W H G1 H1 vs ss → ss.all argS = true → RelSs c.K (insW c.K c.W x dx C) (upd (upd H1 dx (.own x)) x (.ins C dx [])) G1 (upd (upd H1 dx (.own x)) x (.ins C dx [])) vs ss := fun {vs ss} rr => by
    induction rr with
    | nil => intro _; exact .nil
    | @cons v vs s ss r _ ih =>
      intro hs
      rw [List.all_cons] at hs
      obtain ⟨q1, q2⟩ := Bool.and_eq_true_iff.mp hs
      refine .cons ?_ (ih q2)
      cases s with
      | dat d => exact r
      | at_ p => exact r
      | vw o =>
        obtain ⟨p, rfl, ob⟩ := r
        refine ⟨p, rfl, ob.monoA (Ex.refl _) fun b hb => ?_⟩
        obtain ⟨f, u, hu, _⟩ := ob.ads hb
        have nb : b ≠ x := fun z => by rw [z, hx] at hu; cases hu
        have nd : b ≠ dx := fun z => by rw [z, hdx] at hu; cases hu
        exact ⟨by rw [upd_ne nb, upd_ne nd], f.1, fun z => by
          rcases z with z | z | z
          · exact f.2 z
          · exact nb z
          · exact nd z⟩
      | no => cases q1
      | own _ => cases q1
      | xc _ _ _ _ => cases q1
      | el _ _ => cases q1
      | lk _ => cases q1
  refine ⟨_, _, _, G1, .at_ x :: ss, _, _, ok', .cons rfl (args r1 ha), by simp [argS, ha], hF x dx mx, fun v s m' G' H' g r ⟨hs, hΦ⟩ => ?_, fun C2 d fv fs m' G' H' g nd md hd hk hr hx2 => hE C2 d fv fs m'.1 G' H' (back g) nd (fun z => md (.inl z)) hd hk hr hx2⟩
  subst hs
  cases r
  refine ⟨rfl, ?_⟩
  obtain ⟨_, i1, fv, i2, i3, i4⟩ := g.inv
  have o1 : G' x = none := (g.ok ok').off x (.inr (.inl rfl))
  have o2 : G' dx = none := (g.ok ok').off dx (.inr (.inr rfl))
  have b1 := back g
  have b2 := b1.frz hx o1 i2 (fun _ _ z => by cases z)
  have n2 : upd G' x (.ins C dx fv) dx = none := by rw [upd_ne ne]; exact o2
  have b3 := b2.frz hdx n2 i1 (fun _ _ z => by cases z)
  have e3 : Ex G' (upd (upd G' x (.ins C dx fv)) dx (.own x)) := (Ex.new o1).trans (Ex.new n2)
  refine q (.ref x) (.dat (.ins C m'.2)) m'.1 _ H' b3 (Rp.ins (dx := dx) (fv := fv) (by rw [upd_ne (Ne.symm ne)]; exact upd_same) upd_same i3 (i4.mono e3)) hΦ
end
end DL
set_option Elab.async false
set_option linter.all false
set_option maxRecDepth 100000
set_option maxHeartbeats 1000000
namespace DL
open PySem L2 Evl PySem.Spec PyProof.Rows
/-! ### try with several clauses, of data -/
section
variable {ι : Type} {c : Cc ι} {m : ι} {ρ : List S} {ta te : TE} {tr : TA} {tt : TT} {N B C' : ι → List S → Prop} {R : ι → S → Prop} {C : Addr} {mn : Str} {l : List Hdl} {Wout : WX} {cls : Value} {ts : Addr → Value → Option Addr → TS} {i : Nat} {fs : List (Str × D)}
/-- what the clauses make of an exception of class C with fields fs -/
def Hx (c : Cc ι) (ρ : List S) (N : ι → List S → Prop) (R : ι → S → Prop) (B C' : ι → List S → Prop) (W : Ends → WX) (m : ι) (C : Addr) (fs : List (Str × D)) : Prop :=
  ∀ (D : Ends) (σ : L2.St) (G H : Hp) (d : Addr), EnvOk c m G H σ ρ → (∀ a, RelS c.K c.W c.H0 G H (.ref a) (.xc C a d fs)) →
    (∀ ρ' σ' m' G' H', N m' ρ' → Ex G G' → EnvOk c m' G' H' σ' ρ' → D.nx σ' H') →
    (∀ s v m' G' H', R m' s → Ex G G' → Grow c.W c.G0 c.H0 m' G' H' → RelS c.K c.W c.H0 G' H' v s → D.rt v H') →
    (∀ ρ' σ' m' G' H', B m' ρ' → Ex G G' → EnvOk c m' G' H' σ' ρ' → D.bk σ' H') →
    (∀ ρ' σ' m' G' H', C' m' ρ' → Ex G G' → EnvOk c m' G' H' σ' ρ' → D.ct σ' H') → W D (.ref C) (some d) σ H
theorem hx_as (he : PySem.W.exmOne c.K (.ref C) cls = some true) (h : ∀ a d, Ds c m (ts a (.ref C) (some d)) (ρ.set i (.xc C a d fs)) (fun m ρ' => noEl i ρ' = true ∧ N m (ρ'.set i .no)) R (fun m ρ' => noEl i ρ' = true ∧ B m (ρ'.set i .no)) (fun m ρ' => noEl i ρ' = true ∧ C' m (ρ'.set i .no))) (hn : noEl i ρ = true := by with_unfolding_all rfl) :
    Hx c ρ N R B C' (fun D => wCl c.K D Wout ((cls, some i, ts) :: l)) m C fs := fun D σ G H d e x k1 k2 k3 k4 =>
  ⟨true, he, fun _ a _ => h a d _ _ G H (e.set (s := .xc C a d fs) (x a) hn (fun o z => by cases z) (fun _ _ z => by cases z) (fun _ z => by cases z)) (fun ρ' σ' m2 G2 H2 ⟨nz, n⟩ y e' => k1 _ _ m2 G2 H2 n y (e'.unset none nz)) k2 (fun ρ' σ' m2 G2 H2 ⟨nz, n⟩ y e' => k3 _ _ m2 G2 H2 n y (e'.unset none nz)) (fun ρ' σ' m2 G2 H2 ⟨nz, n⟩ y e' => k4 _ _ m2 G2 H2 n y (e'.unset none nz)), fun z => by cases z⟩
theorem hx_as_no (he : PySem.W.exmOne c.K (.ref C) cls = some false) (h : Hx c ρ N R B C' (fun D => wCl c.K D Wout l) m C fs) : Hx c ρ N R B C' (fun D => wCl c.K D Wout ((cls, some i, ts) :: l)) m C fs := fun D σ G H d e x k1 k2 k3 k4 =>
  ⟨false, he, fun z => (by cases z), fun _ => h D σ G H d e x k1 k2 k3 k4⟩
theorem hx_bare (he : PySem.W.exmOne c.K (.ref C) cls = some true) (h : ∀ a d, Ds c m (ts a (.ref C) (some d)) ρ N R B C') : Hx c ρ N R B C' (fun D => wCl c.K D Wout ((cls, none, ts) :: l)) m C fs := fun D σ G H d e x k1 k2 k3 k4 =>
  ⟨true, he, fun _ a _ => h a d D σ G H e k1 k2 k3 k4, fun z => by cases z⟩
theorem hx_bare_no (he : PySem.W.exmOne c.K (.ref C) cls = some false) (h : Hx c ρ N R B C' (fun D => wCl c.K D Wout l) m C fs) : Hx c ρ N R B C' (fun D => wCl c.K D Wout ((cls, none, ts) :: l)) m C fs := fun D σ G H d e x k1 k2 k3 k4 =>
  ⟨false, he, fun z => (by cases z), fun _ => h D σ G H d e x k1 k2 k3 k4⟩
theorem xc_rel {G H : Hp} {fv : List (Str × V)} {d : Addr} (nd : G d = none) (md : ¬ c.W.M d) (hd : H d = some (.xd fv)) (hk : fv.map (·.1) = fs.map (·.1)) (hr : RpL c.K G (fv.map (·.2)) (fs.map (·.2))) : ∀ a, RelS c.K c.W c.H0 G H (.ref a) (.xc C a d fs) := by
  intro a
  exact ⟨rfl, nd, md, fv, hd, hk, hr⟩
/-- try: return f(..) -/
theorem ds_tryRetW {F : Fc} {W : Ends → WX} (Ξ' : Xp ι) (h : DA c m tr ρ fun m ss => ss.all argS = true ∧ F ι c.W m ss R Ξ') (hx : ∀ m C fs, Ξ' m C fs → Hx c ρ N R B C' W m C fs) :
    Ds c m (fun D σ H => tRet (tCallS (spF c.K F) (WE (W D)) tr) D σ H) ρ N R B C' := fun D σ G H e k1 k2 k3 k4 => h σ G H e _ fun vs ss m1 G1 H1 g1 r1 ⟨ha, hf⟩ => by
  have e1 := e.grow g1
  refine ⟨ι, c.W, m1, G1, ss, R, Ξ', e1.ok, relss_arg r1 ha, ha, hf, fun v s m' G' H' g r p => k2 s v m' G' H' p (g1.ex.trans g.ex) (e1.gr.trans g) (r.back e1.gr), fun C d fv fs m' G' H' g nd md hd hk hr hq => ?_⟩
  have x := g1.ex.trans g.ex
  exact hx m' C fs hq D σ G' H' d (e1.grow g) (xc_rel nd md hd hk hr) (fun ρ' σ' m2 G2 H2 n y e' => k1 _ _ m2 G2 H2 n (x.trans y) e') (fun s v m2 G2 H2 r y => k2 s v m2 G2 H2 r (x.trans y)) (fun ρ' σ' m2 G2 H2 n y e' => k3 _ _ m2 G2 H2 n (x.trans y) e') (fun ρ' σ' m2 G2 H2 n y e' => k4 _ _ m2 G2 H2 n (x.trans y) e')
/-- try: return o.m(..) -/
theorem ds_tryRetMW {F : Fc} {W : Ends → WX} {C : Addr} (Ξ' : Xp ι)
    (h : De c m ta ρ fun m' s => ∃ fs, s = .dat (.ins C fs) ∧ fs.lookup mn = none ∧ DA c m' tr ρ fun m2 ss => ss.all argS = true ∧ F ι c.W m2 (.dat (.ins C fs) :: ss) R Ξ') (hx : ∀ m C fs, Ξ' m C fs → Hx c ρ N R B C' W m C fs) :
    Ds c m (fun D σ H => tRet (tMethW C mn (spF c.K F) (WE (W D)) ta tr) D σ H) ρ N R B C' := fun D σ G H e k1 k2 k3 k4 => h σ G H e _ fun v s m0 G0 H0 g0 r0 ⟨fs, es, hl, hd⟩ => by
  subst es
  have r0' : Rp c.K G0 v (.ins C fs) := r0
  have e0 := e.grow g0
  cases id r0' with
  | @ins a dx _ fv _ a1 a2 a3 a4 =>
    refine ⟨a, dx, fv, rfl, e0.ok.ex _ _ a1, lookup_none a3 hl, hd σ G0 H0 e0 _ fun vs ss m1 G1 H1 g1 r1 ⟨ha, hf⟩ => ?_⟩
    have e1 := e0.grow g1
    have x1 := g0.ex.trans g1.ex
    refine ⟨ι, c.W, m1, G1, .dat (.ins C fs) :: ss, R, Ξ', e1.ok, .cons (s := .dat (.ins C fs)) (r0'.mono g1.ex) (relss_arg r1 ha), by simpa [argS] using ha, hf, fun v s m' G' H' g r p => k2 s v m' G' H' p (x1.trans g.ex) (e1.gr.trans g) (r.back e1.gr), fun D' d fv' fs' m' G' H' g nd md hd' hk hr hq => ?_⟩
    have x := x1.trans g.ex
    exact hx m' D' fs' hq D σ G' H' d (e1.grow g) (xc_rel nd md hd' hk hr) (fun ρ' σ' m2 G2 H2 n y e' => k1 _ _ m2 G2 H2 n (x.trans y) e') (fun s v m2 G2 H2 r y => k2 s v m2 G2 H2 r (x.trans y)) (fun ρ' σ' m2 G2 H2 n y e' => k3 _ _ m2 G2 H2 n (x.trans y) e') (fun ρ' σ' m2 G2 H2 n y e' => k4 _ _ m2 G2 H2 n (x.trans y) e')
/-- try: f(..), the result dropped -/
theorem ds_tryDropW {F : Fc} {W : Ends → WX} (Ξ' : Xp ι) (h : DA c m tr ρ fun m ss => ss.all argS = true ∧ F ι c.W m ss (fun m _ => N m ρ) Ξ') (hx : ∀ m C fs, Ξ' m C fs → Hx c ρ N R B C' W m C fs) :
    Ds c m (fun D σ H => tDrop (tCallS (spF c.K F) (WE (W D)) tr) D σ H) ρ N R B C' := fun D σ G H e k1 k2 k3 k4 => h σ G H e _ fun vs ss m1 G1 H1 g1 r1 ⟨ha, hf⟩ => by
  have e1 := e.grow g1
  refine ⟨ι, c.W, m1, G1, ss, _, Ξ', e1.ok, relss_arg r1 ha, ha, hf, fun v s m' G' H' g r p => k1 ρ σ m' G' H' p (g1.ex.trans g.ex) (e1.grow g), fun C d fv fs m' G' H' g nd md hd hk hr hq => ?_⟩
  have x := g1.ex.trans g.ex
  exact hx m' C fs hq D σ G' H' d (e1.grow g) (xc_rel nd md hd hk hr) (fun ρ' σ' m2 G2 H2 n y e' => k1 _ _ m2 G2 H2 n (x.trans y) e') (fun s v m2 G2 H2 r y => k2 s v m2 G2 H2 r (x.trans y)) (fun ρ' σ' m2 G2 H2 n y e' => k3 _ _ m2 G2 H2 n (x.trans y) e') (fun ρ' σ' m2 G2 H2 n y e' => k4 _ _ m2 G2 H2 n (x.trans y) e')
/-- try: C(..), the instance dropped -/
theorem ds_tryMakeW {F : Fc} {W : Ends → WX} {C : Addr} (Ξ' : Xp ι)
    (h : DA c m tr ρ fun m2 ss => ss.all argS = true ∧ ∀ a dx, ¬ c.W.M a → F (ι × List (Str × D)) (insW c.K c.W a dx C) (m2, []) (.at_ a :: ss) (fun mm s => s = .dat .non ∧ N mm.1 ρ) fun mm => Ξ' mm.1)
    (hx : ∀ m C fs, Ξ' m C fs → Hx c ρ N R B C' W m C fs) :
    Ds c m (fun D σ H => tDrop (tMakeW C (spF c.K F) (WE (W D)) tr) D σ H) ρ N R B C' := fun D σ G H e k1 k2 k3 k4 => h σ G H e _ fun vs ss m1 G1 H1 g1 r1 ⟨ha, hF⟩ x dx hx1 hdx ne => by
  have e1 := e.grow g1
  refine make_core (Φ := fun m' _ => N m' ρ) (Ξ := Ξ') (Q := fun _ H' => D.nx σ H') e1 (fun C2 d fv fs m' G' H' g nd md hd hk hr hq => ?_) r1 ha hF (fun v s m' G' H' g r p => k1 ρ σ m' G' H' p (g1.ex.trans g.ex) (e1.grow g)) hx1 hdx ne
  have x := g1.ex.trans g.ex
  exact hx m' C2 fs hq D σ G' H' d (e1.grow g) (xc_rel nd md hd hk hr) (fun ρ' σ' m2 G2 H2 n y e' => k1 _ _ m2 G2 H2 n (x.trans y) e') (fun s v m2 G2 H2 r y => k2 s v m2 G2 H2 r (x.trans y)) (fun ρ' σ' m2 G2 H2 n y e' => k3 _ _ m2 G2 H2 n (x.trans y) e') (fun ρ' σ' m2 G2 H2 n y e' => k4 _ _ m2 G2 H2 n (x.trans y) e')
/-- if within a try -/
theorem ds_tryIfS {A U : Ends → TS} (h : DT c m tt ρ fun m b => (b = true → Ds c m (fun D σ H => A D D σ H) ρ N R B C') ∧ (b = false → Ds c m (fun D σ H => U D D σ H) ρ N R B C')) :
    Ds c m (fun D σ H => tIfS tt (A D) (U D) D σ H) ρ N R B C' := fun D σ G H e k1 k2 k3 k4 => h σ G H e _ fun b m' G' H' g ⟨h1, h2⟩ => by
  cases b with
  | true => rw [if_pos rfl]; exact h1 rfl D σ G' H' (e.grow g) (fun a b m c' d n y z => k1 a b m c' d n (g.ex.trans y) z) (fun s v m' G' H' r y gg rr => k2 s v m' G' H' r (g.ex.trans y) gg rr) (fun a b m c' d n y z => k3 a b m c' d n (g.ex.trans y) z) (fun a b m c' d n y z => k4 a b m c' d n (g.ex.trans y) z)
  | false => rw [if_neg Bool.false_ne_true]; exact h2 rfl D σ G' H' (e.grow g) (fun a b m c' d n y z => k1 a b m c' d n (g.ex.trans y) z) (fun s v m' G' H' r y gg rr => k2 s v m' G' H' r (g.ex.trans y) gg rr) (fun a b m c' d n y z => k3 a b m c' d n (g.ex.trans y) z) (fun a b m c' d n y z => k4 a b m c' d n (g.ex.trans y) z)
end
end DL
set_option Elab.async false
set_option linter.all false
set_option maxRecDepth 100000
set_option maxHeartbeats 1000000
namespace DL
open PySem PySem.Spec PyProof.Rows L2 Evl
section
variable {X : Cx} {K : PySem.W.Frag}
theorem k_eqVK (hK : X.K = K) (hu : X.A.units + 64 < cLine) : OpR X (compareOp .Eq) (rEqV K) := by subst hK; exact k_eqV hu
theorem k_neVK (hK : X.K = K) (hu : X.A.units + 64 < cLine) : OpR X (compareOp .NotEq) (rNeV K) := by subst hK; exact k_neV hu
/-! ### a method whose last argument is left to its default None -/
variable {C : Addr} {k j : Nat} {x : Str} {ps : List Str} {F : Fc} {e : Expr} {es : List Expr} {ta : TE} {t : TA} {apos pos : Pos} {o : Expr}
/-- a method, called with or without its last argument -/
structure MeN (P : Program) (w : World) (K : PySem.W.Frag) (mg : Str → Option Value) (base : Heap) (CX : CXT) (k : Nat) (C : Addr) (m : Str) (ps : List Str) (F : Fc) : Prop where
  cl : Cls K C
  ex : ∃ (f : Addr) (fd : FuncData), L2.Meth K C m f ∧ FnOk P w K mg base CX k f fd ps (spF K F) ∧ Binds K fd ps [] ∧ Binds K fd ps [Value.none]
theorem MeN.me {P : Program} {w : World} {mg : Str → Option Value} {base : Heap} {CX : CXT} (c : MeN P w K mg base CX k C x ps F) : Me P w K mg base CX k C x ps F := by
  obtain ⟨f, fd, h1, h2, h3, _⟩ := c.ex
  exact ⟨c.cl, f, fd, h1, h2, h3⟩
theorem k_methD {CX : CXT} {E : XK} (c : MeN X.prog X.w K X.mg X.base CX k C x ps F) (hK : X.K = K) (hr : Room j X.A) (hx : Passes CX X E) (he : PE X o ta) (ha : PA X (e :: es) t) (hk : k ≤ j := by decide)
    (hst : starEach (e :: es) X.env = (false, eval e X.env) :: starEach es X.env := by rfl) (hpl : (backTo pos (starEach es X.env)).any (·.1) = false := by rfl) {pl : Sem Bool}
    (ht : eval (.Call (.Attribute o x apos) (e :: es) [] pos) X.env = (do
      let ov ← eval o X.env
      standAt apos.atName
      let (f, first) ← holding [ov] (getMethod ov x pl)
      callWith pos f first (backTo pos (starEach (e :: es) X.env)) (backToKw pos (keywordEach [] X.env))) := by rfl) :
    PE X (.Call (.Attribute o x apos) (e :: es) [] pos) (tMeth C x (spF K F) [V.non] E ta t) := by
  subst hK
  obtain ⟨f, fd, hm, hF, _, hb⟩ := c.ex
  exact pe_meth he c.cl hm hF (hr.mono hk) hb (.cons rfl .nil) hx ha hst hpl ht
end
section
variable {ι : Type} {c : Cc ι} {m : ι} {ρ : List S} {ta : TE} {Φ : ι → S → Prop} {C : Addr}
theorem relss_snoc {W : Wd ι} {K : PySem.W.Frag} {H0 G H : Hp} {v : V} {s : S} (r1 : RelS K W H0 G H v s) : ∀ {vs : List V} {ss : List S}, RelSs K W H0 G H vs ss → RelSs K W H0 G H (vs ++ [v]) (ss ++ [s])
  | _, _, .nil => .cons r1 .nil
  | _, _, .cons r rs => .cons r (relss_snoc r1 rs)
/-- e.m(..), the last argument left out -/
theorem de_methD {F : Fc} {tr : TA} {mn : Str} {E : XK} {Ξ : Xp ι} (hE : ∀ σ G H m, EnvOk c m G H σ ρ → ExcQ c.K c.W G H Ξ E)
    (h : De c m ta ρ fun m' s => ∃ fs, s.frz = .dat (.ins C fs) ∧ fs.lookup mn = none ∧ DA c m' tr ρ fun m2 ss => ss.all argS = true ∧ F ι c.W m2 (.dat (.ins C fs) :: (ss ++ [.dat .non])) Φ Ξ) : De c m (tMeth C mn (spF c.K F) [V.non] E ta tr) ρ Φ := fun σ G H e Q q =>
  h σ G H e _ fun v s m1 G1 H1 g r ⟨fs, hs, hl, hA⟩ => by
    obtain ⟨G2, g2, r2, x2⟩ := r.freezeX g
    rw [hs] at r2
    have r2 : Rp c.K G2 v (.ins C fs) := r2
    have r3 := r2
    cases r2 with
    | @ins a dx _ fv _ e1 e2 k rs =>
      refine ⟨a, dx, fv, rfl, g2.sub _ _ e1, lookup_none k hl, hA σ G2 H1 (e.grow g2) _ fun vs ss m3 G3 H3 g3 r4 ⟨ha, hF⟩ => ?_⟩
      have g23 := g2.trans g3
      exact ⟨ι, c.W, m3, G3, _, Φ, Ξ, (e.grow g23).ok, .cons (s := .dat (.ins C fs)) (r3.mono g3.ex) (relss_snoc (s := .dat .non) Rp.non (relss_arg r4 ha)), by simp [argS, ha], hF, fun v s m' G' H' g r p => q v s m' G' H' (g23.trans g) (r.back g23) p, hE σ _ _ _ (e.grow g23)⟩
end
end DL
set_option Elab.async false
set_option linter.all false
set_option maxRecDepth 100000
set_option maxHeartbeats 1000000
namespace DL
open PySem L2 Evl
section
variable {ι : Type} {c : Cc ι} {m : ι} {ρ : List S} {tt : TT} {N B C' : ι → List S → Prop} {R : ι → S → Prop}
/-- within a try: if t: return ..; and what follows -/
theorem ds_tryIf2 {A : Ends → TE} {U : Ends → TS} (h : DT c m tt ρ fun m b => (b = true → Ds c m (fun D σ H => tRet (A D) D σ H) ρ N R B C') ∧ (b = false → Ds c m (fun D σ H => U D D σ H) ρ N R B C')) :
    Ds c m (fun D σ H => tSeq (tIfS tt (tRet (A D)) tNext) (U D) D σ H) ρ N R B C' := fun D σ G H e k1 k2 k3 k4 => h σ G H e _ fun b m' G' H' g ⟨h1, h2⟩ => by
  cases b with
  | true => rw [if_pos rfl]; exact h1 rfl D σ G' H' (e.grow g) (fun a b m c' d n y z => k1 a b m c' d n (g.ex.trans y) z) (fun s v m' G' H' r y gg rr => k2 s v m' G' H' r (g.ex.trans y) gg rr) (fun a b m c' d n y z => k3 a b m c' d n (g.ex.trans y) z) (fun a b m c' d n y z => k4 a b m c' d n (g.ex.trans y) z)
  | false => rw [if_neg Bool.false_ne_true]; exact h2 rfl D σ G' H' (e.grow g) (fun a b m c' d n y z => k1 a b m c' d n (g.ex.trans y) z) (fun s v m' G' H' r y gg rr => k2 s v m' G' H' r (g.ex.trans y) gg rr) (fun a b m c' d n y z => k3 a b m c' d n (g.ex.trans y) z) (fun a b m c' d n y z => k4 a b m c' d n (g.ex.trans y) z)
end
end DL
set_option Elab.async false
set_option linter.all false
set_option maxRecDepth 100000
set_option maxHeartbeats 1000000
namespace Pf
open PySem PySem.Spec PyProof.Rows L2 DL
local macro_rules | `(tactic| walk_at "len") => `(tactic| with_unfolding_all first | exact Nat.le_of_ble_eq_true rfl | (simp; done) | (simp; omega))
local macro_rules | `(tactic| walk_at "side") => `(tactic| with_unfolding_all first | exact Or.inr ⟨by omega, by omega⟩ | exact Or.inl ⟨by omega, by omega⟩ | exact ⟨by omega, by omega⟩ | exact ⟨by omega, by omega, by omega⟩ | (show (0 : Int) < _; omega) | decide)
local macro_rules | `(tactic| walk_at "d1") => `(tactic| with_reducible first
  | (refine ds_seq ?_; try dsimp only [List.set_cons_zero, List.set_cons_succ, List.cons_append, List.nil_append, O.frz])
  | refine ds_asg ?_
  | refine ds_ret ?_
  | refine ds_retN ?_
  | refine ds_next ?_
  | refine ds_dropC ?_
  | refine ds_drop0 ?_
  | refine ds_dropB ?_
  | refine ds_if ?_
  | refine dt_test ?_
  | refine dt_B ?_
  | refine dt_not ?_
  | refine dt_and ?_
  | refine dt_or ?_
  | refine dt_yes ?_
  | refine de_int ?_
  | refine de_bl ?_
  | refine de_str ?_
  | refine de_non ?_
  | refine de_varD (by with_unfolding_all rfl) ?_
  | refine de_varO (by with_unfolding_all rfl) ?_
  | refine de_varA (by with_unfolding_all rfl) ?_
  | refine de_varV (by with_unfolding_all rfl) ?_
  | refine de_isi ?_
  | refine de_dget ?_
  | refine de_dget2 ?_
  | refine de_dnotin ?_
  | refine de_din ?_
  | refine de_dnew ?_
  | refine de_dnewT ?_
  | refine de_cb ?_
  | refine de_call0G ?_
  | refine de_callG ?_
  | refine de_andB ?_
  | refine de_orB ?_
  | refine de_notV ?_
  | refine de_ifE ?_
  | refine de_chain ?_
  | refine de_op ?_
  | refine de_neg ?_
  | refine de_tupG ?_
  | refine de_lstG ?_
  | refine de_slL ?_
  | refine de_slT ?_
  | refine do_none ?_
  | refine do_some ?_
  | refine daf_cons ?_
  | refine daf_nil ?_
  | refine daf_star ?_
  | refine da_cons ?_
  | refine da_nil ?_
  | refine lk_dat ?_
  | refine lk_nil ?_
  | refine ak_dat ?_
  | refine ak_nil ?_
  | refine ak_at ?_
  | refine ak_lst ?_
  | refine lk_lst ?_
  | refine ak_dK ?_
  | refine ak_dT ?_
  | refine ak_vw ?_
  | refine lk_dT ?_
  | refine lk_dK ?_
  | refine da_star ?_
  | refine de_lstRg1 ?_
  | refine de_lstRg2 ?_
  | refine de_revL ?_
  | refine de_count ?_
  | refine de_index ?_
  | refine di_enum ?_
  | refine dt_tru ?_
  | refine de_fld ?_
  | refine de_prop ?_
  | refine di_rng1 ?_
  | refine di_rng2 ?_
  | refine di_list ?_
  | refine di_tup ?_
  | refine di_seq ?_
  | refine di_zip ?_
  | refine ops_int ?_
  | (refine ops_cat (by with_unfolding_all rfl) (by with_unfolding_all rfl) ?side ?_; (case side => walk_at "len"))
  | (refine ops_catA ?side ?_; (case side => walk_at "len"))
  | refine ops_eqI ?_
  | refine ops_neI ?_
  | refine ops_bool ?_
  | (refine ops_intC ?side ?_; (case side => walk_at "side"))
  | refine cb_lenL (by with_unfolding_all rfl) ?_
  | refine cb_lenT (by with_unfolding_all rfl) ?_
  | refine cb_lenK (by with_unfolding_all rfl) ?_
  | refine cb_max2 ?_
  | refine cb_min2 ?_
  | refine cb_int ?_
  | refine ⟨fun _ => ?_, fun z => Bool.noConfusion z⟩
  | refine ⟨fun z => Bool.noConfusion z, fun _ => ?_⟩
  | refine ⟨rfl, ?_⟩
  | refine ⟨_, rfl, ?_⟩
  | refine ⟨_, Or.inl (by with_unfolding_all rfl), ?_⟩
  | (with_unfolding_all refine ⟨_, true, rfl, rfl, (fun _ z => by cases z), rfl, ?_⟩)
  | (with_unfolding_all refine ⟨_, false, rfl, rfl, (fun _ z => by cases z), rfl, ?_⟩))
local macro_rules | `(tactic| walk_at "d") => `(tactic| repeat walk_at "d1")
local macro_rules | `(tactic| walk_at "wk") => `(tactic| repeat first | exact Wk.nil | refine Wk.keep ?_ | refine Wk.drop ?_)
section
variable {P : Program} {w : World} {K : PySem.W.Frag} {mg : Str → Option Value} {base : Heap} {f : Addr} {fd : FuncData} {a_Plan a_BadRounds a_BadTeam a_WrongTimes : Addr}
/-- the first team that plays too often or too seldom -/
def badT (gs : List (Nat × Nat)) (ts : List (List Nat)) (t : List Nat) : Bool := decide (gN gs t ≠ ts.count t)
def firstW (n : Nat) (gs : List (Nat × Nat)) (ts : List (List Nat)) : Option (List Nat) := (ET n gs).find? (badT gs ts)
theorem find_take {α : Type} {p : α → Bool} {l : List α} {j : Nat} {t : α} (h : (l.take j).find? p = none) (ht : l[j]? = some t) (hp : p t = true) : l.find? p = some t := by
  rw [← List.take_append_drop j l, List.find?_append, h]
  have hj := (List.getElem?_eq_some_iff.mp ht)
  obtain ⟨h1, h2⟩ := hj
  rw [List.drop_eq_getElem_cons h1, h2]
  simp [hp]
theorem find_next {α : Type} {p : α → Bool} {l : List α} {j : Nat} {t : α} (h : (l.take j).find? p = none) (ht : l[j]? = some t) (hp : p t = false) : (l.take (j + 1)).find? p = none := by
  rw [List.take_add_one, ht, List.find?_append, h]
  simp [hp]

def C_check_times12 (X : Addr) : Fc := fun _ W m ss Φ Ξ => ∃ (n : Nat) (gs : List (Nat × Nat)) (rs : List (List (List Nat))), ss = [.dat (.int n), .dat (.dic (gD gs)), .dat (.lst (rs.map rwD))] ∧ n ≤ 10 ∧ GGm n gs ∧ rs.flatten.length ≤ 10000 ∧ (∀ t, firstW n gs rs.flatten = some t → Ξ m X [("count", .int (rs.flatten.count t : Nat)), ("team", tD t)]) ∧ (firstW n gs rs.flatten = none → Φ m (.dat .non))

abbrev s_check_times : Stmt := (top 39)
abbrev N_check_times : List Str := ["people", "games", "rounds", "counts", "row", "team"]
theorem sc_check_times : FnScope N_check_times ["people", "games", "rounds"] (defScope s_check_times) := ⟨rfl, rfl, rfl, by decide +kernel, rfl, by decide +kernel, by decide +kernel⟩
theorem ok_check_times (F : FnP K "check_times" s_check_times f fd) (b : BI mg) (x_WrongTimes : Xc P w K mg base "WrongTimes" a_WrongTimes ["team", "count"]) (c_every_team : Cl P w K mg base CX0 3 "every_team" ["people", "games"] C_every_team) : FnOk P w K mg base (L2.CX P w) 4 f fd ["people", "games", "rounds"] (spF K (C_check_times12 a_WrongTimes)) := by
  have hlen := spF_len (K := K) (C := (C_check_times12 a_WrongTimes)) (m := 3) fun κ W m ss Φ Ξ ⟨n, gs, rs, e, _⟩ => by first | exact e | (rw [e]; rfl)
  refine F.ok sc_check_times hlen ?_
  intro cdv A outer s H vs Q E hr h
  refine ⟨_, (pss_cons (ps_set (i := 3) sc_check_times.nd rfl (by first | exact Or.inl rfl | exact Or.inr rfl) pe_dnewT)
      (pss_cons (ps_for (passes_of rfl) rfl (k_piS (K := K) rfl (pv 2)) (pg_name (i := 4) sc_check_times.nd rfl (by first | exact Or.inl rfl | exact Or.inr rfl))
      (pss_one (ps_for (passes_of rfl) rfl (k_piS (K := K) rfl (pv 4)) (pg_name (i := 5) sc_check_times.nd rfl (by first | exact Or.inl rfl | exact Or.inr rfl))
      (pss_one (ps_dput (hu_of hr) (pv 3) (pv 5) (pe_op op_add (pe_dget2 (hu_of hr) (pv 3) (pv 5) pe_int ⟨rfl, rfl, rfl, rfl⟩) pe_int) rfl)))))
      (pss_one (ps_for (passes_of rfl) rfl (k_piL (K := K) rfl (k_cl0 c_every_team rfl hr (pa_cons (pv 0) (pa_cons (pv 1) pa_nil)))) (pg_name (i := 5) sc_check_times.nd rfl (by first | exact Or.inl rfl | exact Or.inr rfl))
      (pss_one (ps_if (pt_cmpR (k_neD (K := K) rfl hr.units) (pe_dget2 (hu_of hr) (pv 3) (pv 5) pe_int ⟨rfl, rfl, rfl, rfl⟩) (pe_dget (hu_of hr) (pv 1) (pe_callB (k_len (K := K) rfl) rfl b.len boot_len (pa_cons (pv 5) pa_nil)) (fun _ _ => rfl)) (nomark _)) (pss_one (raiseX x_WrongTimes hr (takes_of rfl rfl rfl rfl) (pa_cons (pv 5) (pa_cons (pe_dget2 (hu_of hr) (pv 3) (pv 5) pe_int ⟨rfl, rfl, rfl, rfl⟩) pa_nil)))) pss_nil)))))), ?_⟩
  refine DL.run_fnP  [.no, .no, .no] (Nm := N_check_times) (n := 3) (k := 3) rfl (hlen _ _ _ _ h) rfl h fun κ W m ss Φ Ξ G hc => ?_
  try dsimp only [cxOf, Cx.nox, Cx.wish, Cx.blk]
  obtain ⟨n, gs, rs, rfl, hn, hg, hl, hX, hΦ⟩ := hc
  walk_at "d"
  refine ds_forW (vs := [4]) ?_
  walk_at "d"
  refine ⟨fun i m' ρ => m' = m ∧ ∃ ds, Tal ds (rs.take i).flatten ∧ ρ = [.dat (.int n), .dat (.dic (gD gs)), .dat (.lst (rs.map rwD)), .own (.dT ds), .no, .no], ⟨_, Wk.refl _, rfl, rfl, [], Tal.nil, rfl⟩, ?_, ?_⟩
  · rintro i d m' ρ hd ⟨rfl, ds, hT, rfl⟩
    rw [List.getElem?_map] at hd
    cases hr : rs[i]? with
    | none => rw [hr] at hd; cases hd
    | some r =>
      rw [hr] at hd
      cases hd
      refine ⟨_, dg_name (by simp), ?_⟩
      refine ds_forW (vs := [5]) ?_
      walk_at "d"
      have hlen : (rs.take i).flatten.length + r.length ≤ 10000 := by
        have e : (rs.take (i + 1)).flatten.length = (rs.take i).flatten.length + r.length := by rw [List.take_add_one, hr]; simp
        have e2 : (rs.take (i + 1)).flatten.length ≤ rs.flatten.length := by
          conv => rhs; rw [← List.take_append_drop (i + 1) rs]
          rw [List.flatten_append, List.length_append]; omega
        omega
      refine ⟨fun j m'' ρ => m'' = m' ∧ ∃ ds, Tal ds ((rs.take i).flatten ++ r.take j) ∧ ρ = [.dat (.int n), .dat (.dic (gD gs)), .dat (.lst (rs.map rwD)), .own (.dT ds), .no, .no], ⟨_, ?_, rfl, rfl, ds, by simpa using hT, rfl⟩, ?_, ?_⟩
      · walk_at "wk"
      · rintro j d m'' ρ hd ⟨rfl, ds, hT, rfl⟩
        rw [List.getElem?_map] at hd
        cases ht : r[j]? with
        | none => rw [ht] at hd; cases hd
        | some t =>
          rw [ht] at hd
          cases hd
          refine ⟨_, dg_name (by simp), ?_⟩
          refine ds_dput (by with_unfolding_all rfl) (by have := hT.1; show ds.length < 1000000; rw [List.length_append, List.length_take] at this; omega) ?_
          walk_at "d"
          refine ⟨_, _, _, rfl, rfl, keyN_D t ▸ Look.t (ds := ds) (keyN t), ?_⟩
          rw [hT.get t]
          walk_at "d"
          refine ⟨_, _, _, rfl, rfl, keyN_D t ▸ PutS.t (keyN t) _, ?_⟩
          have hT2 : Tal (putD ds (keyN t) (.int ((((rs.take i).flatten ++ r.take j).count t : Nat) + 1))) ((rs.take i).flatten ++ r.take (j + 1)) := by
            rw [List.take_add_one, ht, ← List.append_assoc]
            exact hT.put t
          refine ⟨_, ?_, rfl, rfl, _, hT2, rfl⟩
          walk_at "wk"
      · rintro m'' ρ ⟨rfl, ds, hT, rfl⟩
        refine ⟨_, Wk.refl _, rfl, rfl, ds, ?_, rfl⟩
        rw [List.take_add_one, hr]
        rw [List.length_map, List.take_length] at hT
        simpa using hT
  · rintro m' ρ ⟨rfl, ds, hT, rfl⟩
    rw [List.length_map, List.take_length] at hT
    refine ds_forW (vs := [5]) ?_
    walk_at "d"
    refine ⟨n, gs, rfl, hn, hg, ?_⟩
    walk_at "d"
    refine ⟨fun j m'' ρ => m'' = m' ∧ ((ET n gs).take j).find? (badT gs rs.flatten) = none ∧ ρ = [.dat (.int n), .dat (.dic (gD gs)), .dat (.lst (rs.map rwD)), .own (.dT ds), .no, .no], ⟨_, Wk.refl _, rfl, rfl, rfl, rfl⟩, ?_, ?_⟩
    · rintro j d m'' ρ hd ⟨rfl, hf, rfl⟩
      rw [List.getElem?_map] at hd
      cases ht : (ET n gs)[j]? with
      | none => rw [ht] at hd; cases hd
      | some t =>
        rw [ht] at hd
        cases hd
        obtain ⟨v, hg2⟩ := Option.isSome_iff_exists.mp (ET_team hg (List.mem_of_getElem? ht)).2
        have gn : gN gs t = v := by unfold gN; rw [hg2]; rfl
        refine ⟨_, dg_name (by simp), ?_⟩
        walk_at "d"
        refine ⟨_, _, _, rfl, rfl, keyN_D t ▸ Look.t (ds := ds) (keyN t), ?_⟩
        rw [hT.get t]
        walk_at "d"
        rw [dN_len]
        refine ⟨_, _, _, rfl, rfl, look_g hg.nd (gv_some hg2), ?_⟩
        walk_at "d"
        by_cases hc : rs.flatten.count t = v
        · rw [show (!decide (((List.count t rs.flatten : Nat) : Int) = (v : Nat))) = false by rw [hc]; simp]
          walk_at "d"
          exact ⟨_, by walk_at "wk", rfl, rfl, find_next hf ht (by unfold badT; rw [gn]; simp; omega), rfl⟩
        · rw [show (!decide (((List.count t rs.flatten : Nat) : Int) = (v : Nat))) = true by simp; omega]
          walk_at "d"
          refine ds_raise ?_
          walk_at "d"
          refine ⟨_, _, _, rfl, rfl, keyN_D t ▸ Look.t (ds := ds) (keyN t), ?_⟩
          rw [hT.get t]
          walk_at "d"
          refine ⟨[tD t, .int (rs.flatten.count t : Nat)], rfl, rfl, by show 2 ≤ 1000; decide, hX t (find_take hf ht (by unfold badT; rw [gn]; simp; omega))⟩
    · rintro m'' ρ ⟨rfl, hf, rfl⟩
      rw [List.length_map, List.take_length] at hf
      exact hΦ hf


end
end Pf
set_option Elab.async false
set_option linter.all false
set_option maxRecDepth 100000
set_option maxHeartbeats 1000000
namespace Pf
open PySem PySem.Spec PyProof.Rows L2 DL
local macro_rules | `(tactic| walk_at "len") => `(tactic| with_unfolding_all first | exact Nat.le_of_ble_eq_true rfl | (simp; done) | (simp; omega))
local macro_rules | `(tactic| walk_at "side") => `(tactic| with_unfolding_all first | exact Or.inr ⟨by omega, by omega⟩ | exact Or.inl ⟨by omega, by omega⟩ | exact ⟨by omega, by omega⟩ | exact ⟨by omega, by omega, by omega⟩ | (show (0 : Int) < _; omega) | decide)
local macro_rules | `(tactic| walk_at "d1") => `(tactic| with_reducible first
  | (refine ds_seq ?_; try dsimp only [List.set_cons_zero, List.set_cons_succ, List.cons_append, List.nil_append, O.frz])
  | refine ds_asg ?_
  | refine ds_ret ?_
  | refine ds_retN ?_
  | refine ds_next ?_
  | refine ds_dropC ?_
  | refine ds_drop0 ?_
  | refine ds_dropB ?_
  | refine ds_if ?_
  | refine dt_test ?_
  | refine dt_B ?_
  | refine dt_not ?_
  | refine dt_and ?_
  | refine dt_or ?_
  | refine dt_yes ?_
  | refine de_int ?_
  | refine de_bl ?_
  | refine de_str ?_
  | refine de_non ?_
  | refine de_varD (by with_unfolding_all rfl) ?_
  | refine de_varO (by with_unfolding_all rfl) ?_
  | refine de_varA (by with_unfolding_all rfl) ?_
  | refine de_varV (by with_unfolding_all rfl) ?_
  | refine de_isi ?_
  | refine de_dget ?_
  | refine de_dget2 ?_
  | refine de_dnotin ?_
  | refine de_din ?_
  | refine de_dnew ?_
  | refine de_dnewT ?_
  | refine de_cb ?_
  | refine de_call0G ?_
  | refine de_callG ?_
  | refine de_andB ?_
  | refine de_orB ?_
  | refine de_notV ?_
  | refine de_ifE ?_
  | refine de_chain ?_
  | refine de_op ?_
  | refine de_neg ?_
  | refine de_tupG ?_
  | refine de_lstG ?_
  | refine de_slL ?_
  | refine de_slT ?_
  | refine do_none ?_
  | refine do_some ?_
  | refine daf_cons ?_
  | refine daf_nil ?_
  | refine daf_star ?_
  | refine da_cons ?_
  | refine da_nil ?_
  | refine lk_dat ?_
  | refine lk_nil ?_
  | refine ak_dat ?_
  | refine ak_nil ?_
  | refine ak_at ?_
  | refine ak_lst ?_
  | refine lk_lst ?_
  | refine ak_dK ?_
  | refine ak_dT ?_
  | refine ak_vw ?_
  | refine lk_dT ?_
  | refine lk_dK ?_
  | refine da_star ?_
  | refine de_lstRg1 ?_
  | refine de_lstRg2 ?_
  | refine de_revL ?_
  | refine de_count ?_
  | refine de_index ?_
  | refine di_enum ?_
  | refine dt_tru ?_
  | refine de_fld ?_
  | refine de_prop ?_
  | refine di_rng1 ?_
  | refine di_rng2 ?_
  | refine di_list ?_
  | refine di_tup ?_
  | refine di_seq ?_
  | refine di_zip ?_
  | refine ops_int ?_
  | (refine ops_cat (by with_unfolding_all rfl) (by with_unfolding_all rfl) ?side ?_; (case side => walk_at "len"))
  | (refine ops_catA ?side ?_; (case side => walk_at "len"))
  | refine ops_eqI ?_
  | refine ops_neI ?_
  | refine ops_bool ?_
  | (refine ops_intC ?side ?_; (case side => walk_at "side"))
  | refine cb_lenL (by with_unfolding_all rfl) ?_
  | refine cb_lenT (by with_unfolding_all rfl) ?_
  | refine cb_lenK (by with_unfolding_all rfl) ?_
  | refine cb_max2 ?_
  | refine cb_min2 ?_
  | refine cb_int ?_
  | refine ⟨fun _ => ?_, fun z => Bool.noConfusion z⟩
  | refine ⟨fun z => Bool.noConfusion z, fun _ => ?_⟩
  | refine ⟨rfl, ?_⟩
  | refine ⟨_, rfl, ?_⟩
  | refine ⟨_, Or.inl (by with_unfolding_all rfl), ?_⟩
  | (with_unfolding_all refine ⟨_, true, rfl, rfl, (fun _ z => by cases z), rfl, ?_⟩)
  | (with_unfolding_all refine ⟨_, false, rfl, rfl, (fun _ z => by cases z), rfl, ?_⟩))
local macro_rules | `(tactic| walk_at "d") => `(tactic| repeat walk_at "d1")
local macro_rules | `(tactic| walk_at "wk") => `(tactic| repeat first | exact Wk.nil | refine Wk.keep ?_ | refine Wk.drop ?_)
section
variable {P : Program} {w : World} {K : PySem.W.Frag} {mg : Str → Option Value} {base : Heap} {f : Addr} {fd : FuncData} {a_Plan a_BadRounds a_BadTeam a_WrongTimes : Addr}
def isLstD : D → Bool
  | .lst _ => true | _ => false
def itemsL : D → List D
  | .lst xs => xs | _ => []
/-- rounds that are lists of lists -/
def rowsL (d : D) : Option (List (List D)) := match d with
  | .lst rs => if 1 ≤ rs.length ∧ rs.length ≤ 130 ∧ rs.all isLstD = true then some (rs.map itemsL) else none
  | _ => none
structure RdOk (d : D) : Prop where
  a : ask d
  nt : ∀ xs, d ≠ .tup xs
  ns : ∀ ns, d ≠ .scr ns
  row : ∀ rs, d = .lst rs → rs.length ≤ 1000 ∧ (rs.flatMap itemsL).length ≤ 10000 ∧ ∀ r ∈ rs, ask r ∧ (∀ xs, r ≠ .tup xs) ∧ (∀ ns, r ≠ .scr ns) ∧ ∀ x ∈ itemsL r, askT x
def badG (n : Nat) (gs : List (Nat × Nat)) (v : D) : Bool := !isGT n gs v
def firstB (n : Nat) (gs : List (Nat × Nat)) (rows : List (List D)) : Option D := rows.flatten.find? (badG n gs)
theorem isL_lst {d : D} (h : isL d = true) (nt : ∀ xs, d ≠ .tup xs) (ns : ∀ ns, d ≠ .scr ns) : ∃ xs, d = .lst xs := by
  cases d with
  | lst xs => exact ⟨xs, rfl⟩
  | tup xs => exact absurd rfl (nt xs)
  | scr xs => exact absurd rfl (ns xs)
  | _ => cases h
theorem isL_eq {d : D} (nt : ∀ xs, d ≠ .tup xs) (ns : ∀ ns, d ≠ .scr ns) : isL d = isLstD d := by
  cases d with
  | tup xs => exact absurd rfl (nt xs)
  | scr xs => exact absurd rfl (ns xs)
  | _ => rfl
theorem isGT_iff {n : Nat} {gs : List (Nat × Nat)} {d : D} (h : isGT n gs d = true) : ∃ t, d = tD t ∧ Team n t ∧ (gv gs t.length).isSome = true := by
  unfold isGT at h
  rw [Bool.and_eq_true] at h
  obtain ⟨t, rfl, ht⟩ := itm_iff.mp h.1
  refine ⟨t, rfl, ht, ?_⟩
  have h2 := h.2
  simpa [tD, dN_len] using h2
/-- rows of teams -/
theorem teams_of_rows {n : Nat} {gs : List (Nat × Nat)} : ∀ {ds : List D}, ds.find? (badG n gs) = none → ∃ ts : List (List Nat), ds = ts.map tD ∧ ∀ t ∈ ts, Team n t ∧ (gv gs t.length).isSome = true
  | [], _ => ⟨[], rfl, by simp⟩
  | d :: ds, h => by
    rw [List.find?_cons] at h
    cases hb : badG n gs d with
    | true => rw [hb] at h; cases h
    | false =>
      rw [hb] at h
      obtain ⟨ts, rfl, h2⟩ := teams_of_rows h
      have : isGT n gs d = true := by unfold badG at hb; simpa using hb
      obtain ⟨t, rfl, h3⟩ := isGT_iff this
      exact ⟨t :: ts, rfl, fun x hx => (List.mem_cons.mp hx).elim (fun e => by rw [e]; exact h3) (h2 x)⟩
theorem rows_teams {n : Nat} {gs : List (Nat × Nat)} : ∀ {rs : List D}, (∀ r ∈ rs, isLstD r = true) → (rs.map itemsL).flatten.find? (badG n gs) = none → ∃ ts : List (List (List Nat)), rs = ts.map rwD ∧ ∀ r ∈ ts, ∀ t ∈ r, Team n t ∧ (gv gs t.length).isSome = true
  | [], _, _ => ⟨[], rfl, by simp⟩
  | r :: rs, hl, h => by
    rw [List.map_cons, List.flatten_cons, List.find?_append] at h
    have h1 : (itemsL r).find? (badG n gs) = none := by
      cases z : (itemsL r).find? (badG n gs) with
      | none => rfl
      | some x => rw [z] at h; cases h
    rw [h1] at h
    obtain ⟨ts, rfl, h2⟩ := rows_teams (fun x hx => hl x (List.mem_cons_of_mem _ hx)) (by simpa using h)
    obtain ⟨t, e, h3⟩ := teams_of_rows h1
    have er : r = rwD t := by
      have := hl r List.mem_cons_self
      cases r with
      | lst xs => show D.lst xs = D.lst (t.map tD); rw [show xs = t.map tD from e]
      | _ => cases this
    exact ⟨t :: ts, by rw [er]; rfl, fun x hx => (List.mem_cons.mp hx).elim (fun z => by rw [z]; exact h3) (h2 x)⟩
theorem flat_len_rw : ∀ rt : List (List (List Nat)), ((rt.map rwD).flatMap itemsL).length = rt.flatten.length
  | [] => rfl
  | r :: rt => by
    rw [List.map_cons, List.flatMap_cons, List.length_append, flat_len_rw rt, List.flatten_cons, List.length_append]
    show (r.map tD).length + _ = _
    rw [List.length_map]

def C_Plan___init12 (K : PySem.W.Frag) (C XR XB XW : Addr) : Fc := fun _ W m ss Φ Ξ => ∃ (a : Addr) (L : Ins K W a C) (n : Nat) (gs : List (Nat × Nat)) (d : D), ss = [.at_ a, .dat (.int n), .dat (.dic (gD gs)), .dat d] ∧ L.get m = [] ∧ 1 ≤ n ∧ n ≤ 10 ∧ GGm n gs ∧ tot n gs ≤ 130 ∧ RdOk d ∧ (∀ a, ¬ W.L a) ∧
  (rowsL d = none → Ξ m XR [("value", d)]) ∧ (∀ rows v, rowsL d = some rows → firstB n gs rows = some v → Ξ m XB [("value", v)]) ∧
  (∀ (rs : List (List (List Nat))) t, d = .lst (rs.map rwD) → (rowsL d).isSome = true → (∀ r ∈ rs, ∀ t ∈ r, Team n t ∧ (gv gs t.length).isSome = true) → firstW n gs rs.flatten = some t → Ξ m XW [("count", .int (rs.flatten.count t : Nat)), ("team", tD t)]) ∧
  (∀ rs : List (List (List Nat)), d = .lst (rs.map rwD) → GoodP n gs rs → Φ (L.put m (planF n (srG gs) (rs.map orR))) (.dat .non))

abbrev s_Plan___init : Stmt := (inClass (top 41) 0)
abbrev N_Plan___init : List Str := ["self", "people", "games", "rounds", "row", "team", "size"]
theorem sc_Plan___init : FnScope N_Plan___init ["self", "people", "games", "rounds"] (defScope s_Plan___init) := ⟨rfl, rfl, rfl, by decide +kernel, rfl, by decide +kernel, by decide +kernel⟩
theorem ok_Plan___init (F : FunD K "__init__" "Plan.__init__" (defArgs s_Plan___init) (defBody s_Plan___init) (defScope s_Plan___init) [] [] f fd) (b : BI mg) (i_Plan : Ci K a_Plan ["own_people", "own_games", "rows"]) (k_MOST_ROUNDS : ∃ u, mg "MOST_ROUNDS" = some u ∧ RelV (.int 130) u) (x_BadRounds : Xc P w K mg base "BadRounds" a_BadRounds ["value"]) (x_BadTeam : Xc P w K mg base "BadTeam" a_BadTeam ["value"]) (c_check_people : Cl P w K mg base (L2.CX P w) 4 "check_people" ["people", "games"] C_check_people) (c_is_list : Cl P w K mg base CX0 1 "is_list" ["value"] C_is_list) (c_is_game_team : Cl P w K mg base CX0 3 "is_game_team" ["people", "games", "value"] C_is_game_team) (c_check_times : Cl P w K mg base (L2.CX P w) 4 "check_times" ["people", "games", "rounds"] (C_check_times12 a_WrongTimes)) (c_ordered : Cl P w K mg base CX0 1 "ordered" ["teams"] C_ordered) : FnOk P w K mg base (L2.CX P w) 5 f fd ["self", "people", "games", "rounds"] (spF K (C_Plan___init12 K a_Plan a_BadRounds a_BadTeam a_WrongTimes)) := by
  have hlen := spF_len (K := K) (C := (C_Plan___init12 K a_Plan a_BadRounds a_BadTeam a_WrongTimes)) (m := 4) fun κ W m ss Φ Ξ ⟨a, L, n, gs, d, e, _⟩ => by first | exact e | (rw [e]; rfl)
  refine F.ok sc_Plan___init hlen ?_
  intro cdv A outer s H vs Q E hr h
  refine ⟨_, (pss_cons (ps_expr (k_cl c_check_people rfl hr (passes_call (takes_of rfl rfl rfl rfl) (fun _ _ _ _ h => h)) (pa_cons (pv 1) (pa_cons (pv 2) pa_nil))))
      (pss_cons (ps_if (PW.pt (pw_or (pt_not (pt_val (k_cl0 c_is_list rfl hr (pa_cons (pv 3) pa_nil)))) (pw_or1 (pt_not (pt_chain op_le op_le pe_int (pe_callB (k_len (K := K) rfl) rfl b.len boot_len (pa_cons (pv 3) pa_nil)) (C8.pe_gc rfl k_MOST_ROUNDS)))))) (pss_one (raiseX x_BadRounds hr (takes_of rfl rfl rfl rfl) (pa_cons (pv 3) pa_nil))) pss_nil)
      (pss_cons (ps_if (pt_not (pt_val (pe_callB (k_all (K := K) rfl rfl) rfl b.all boot_all (pa_cons (pe_lc (own := [("row", 4)]) rfl sc_Plan___init.nd (k_piS (K := K) rfl (pv 3)) (blkOk_by (own := [("row", 4)]) (N := N_Plan___init) (sc := (defScope s_Plan___init)) (by decide +kernel)) (fun _ _ _ _ _ => (pg_name (i := 4) sc_Plan___init.nd rfl (by first | exact Or.inl rfl | exact Or.inr rfl))) (fun _ _ _ _ _ => pts_nil) (fun _ _ _ _ _ => (k_cl0 c_is_list rfl hr (pa_cons (pv 4) pa_nil)))) pa_nil)))) (pss_one (raiseX x_BadRounds hr (takes_of rfl rfl rfl rfl) (pa_cons (pv 3) pa_nil))) pss_nil)
      (pss_cons (ps_for (passes_of rfl) rfl (k_piS (K := K) rfl (pv 3)) (pg_name (i := 4) sc_Plan___init.nd rfl (by first | exact Or.inl rfl | exact Or.inr rfl))
      (pss_one (ps_for (passes_of rfl) rfl (k_piS (K := K) rfl (pv 4)) (pg_name (i := 5) sc_Plan___init.nd rfl (by first | exact Or.inl rfl | exact Or.inr rfl))
      (pss_one (ps_if (pt_not (pt_val (k_cl0 c_is_game_team rfl hr (pa_cons (pv 1) (pa_cons (pv 2) (pa_cons (pv 5) pa_nil)))))) (pss_one (raiseX x_BadTeam hr (takes_of rfl rfl rfl rfl) (pa_cons (pv 5) pa_nil))) pss_nil)))))
      (pss_cons (ps_expr (k_cl c_check_times rfl hr (passes_call (takes_of rfl rfl rfl rfl) (fun _ _ _ _ h => h)) (pa_cons (pv 1) (pa_cons (pv 2) (pa_cons (pv 3) pa_nil)))))
      (pss_cons (k_sfld (K := K) rfl (pv 0) (pv 1))
      (pss_cons (k_sfld (K := K) rfl (pv 0) (pe_dc (own := [("size", 6)]) rfl sc_Plan___init.nd (k_piL (K := K) rfl (pe_callB (call_sortedDI rfl) rfl b.sorted boot_sorted (pa_cons (pv 2) pa_nil))) (blkOk_by (own := [("size", 6)]) (N := N_Plan___init) (sc := (defScope s_Plan___init)) (by decide +kernel)) (fun _ _ _ _ _ => (pg_name (i := 6) sc_Plan___init.nd rfl (by first | exact Or.inl rfl | exact Or.inr rfl))) (fun _ _ _ _ _ => pts_nil) (fun _ _ _ _ _ => (pv 6)) (fun _ _ _ _ _ => (pe_dget (hu_of hr) (pv 2) (pv 6) (fun _ _ => rfl)))))
      (pss_one (k_sfld (K := K) rfl (pv 0) (pe_lc (own := [("row", 4)]) rfl sc_Plan___init.nd (k_piS (K := K) rfl (pv 3)) (blkOk_by (own := [("row", 4)]) (N := N_Plan___init) (sc := (defScope s_Plan___init)) (by decide +kernel)) (fun _ _ _ _ _ => (pg_name (i := 4) sc_Plan___init.nd rfl (by first | exact Or.inl rfl | exact Or.inr rfl))) (fun _ _ _ _ _ => pts_nil) (fun _ _ _ _ _ => (k_cl0 c_ordered rfl hr (pa_cons (pv 4) pa_nil))))))))))))), ?_⟩
  refine DL.run_fnP  [.no, .no, .no] (Nm := N_Plan___init) (n := 4) (k := 3) rfl (hlen _ _ _ _ h) rfl h fun κ W m ss Φ Ξ G hc => ?_
  try dsimp only [cxOf, Cx.nox, Cx.wish, Cx.blk]
  obtain ⟨a, L, n, gs, d, rfl, h0, n1, n10, gg, tt, hd, hL, hR, hB, hW, hΦ⟩ := hc
  walk_at "d"
  refine ⟨n, gs, rfl, n1, n10, gg, tt, hL, ?_⟩
  walk_at "d"
  refine ⟨d, _, rfl, hd.a, rfl, ?_⟩
  by_cases hl : isL d = true
  · obtain ⟨rs, rfl⟩ := isL_lst hl hd.nt hd.ns
    obtain ⟨q1, q2, q3⟩ := hd.row rs rfl
    have ra : (rs.all fun r => isL r) = rs.all isLstD := by
      rw [Bool.eq_iff_iff, List.all_eq_true, List.all_eq_true]
      exact ⟨fun h r hr => by rw [← isL_eq (q3 r hr).2.1 (q3 r hr).2.2.1]; exact h r hr, fun h r hr => by rw [isL_eq (q3 r hr).2.1 (q3 r hr).2.2.1]; exact h r hr⟩
    rw [hl]
    walk_at "d"
    by_cases k1 : 1 ≤ rs.length
    · rw [show decide ((1 : Int) ≤ (rs.length : Nat)) = true by simp; omega]
      walk_at "d"
      by_cases k2 : rs.length ≤ 130
      · rw [show decide (((rs.length : Nat) : Int) ≤ 130) = true by simp; omega]
        walk_at "d"
        refine de_lcMap (f := fun r => .bl (isL r)) ?_
        walk_at "d"
        refine ⟨by omega, fun r hr => ⟨_, dg_name (by simp), ?_⟩, ?_⟩
        · walk_at "d"
          exact ⟨r, _, rfl, (q3 r hr).1, rfl, rfl, rfl⟩
        walk_at "d"
        refine cb_allM ?_
        rw [ra]
        by_cases k3 : rs.all isLstD = true
        · rw [k3]
          have hrows : rowsL (.lst rs) = some (rs.map itemsL) := if_pos ⟨k1, k2, k3⟩
          walk_at "d"
          refine ds_forW (vs := [4]) ?_
          walk_at "d"
          refine ⟨fun i m' ρ => m' = m ∧ ((rs.take i).map itemsL).flatten.find? (badG n gs) = none ∧ ρ = [.at_ a, .dat (.int n), .dat (.dic (gD gs)), .dat (.lst rs), .no, .no, .no], ⟨_, Wk.refl _, rfl, rfl, rfl, rfl⟩, ?_, ?_⟩
          · rintro i r m' ρ hr ⟨rfl, hf, rfl⟩
            have hrm := List.mem_of_getElem? hr
            obtain ⟨xs, rfl⟩ : ∃ xs, r = .lst xs := by
              have := List.all_eq_true.mp k3 r hrm
              cases r with
              | lst xs => exact ⟨xs, rfl⟩
              | _ => cases this
            have q4 := (q3 _ hrm).2.2.2
            refine ⟨_, dg_name (by simp), ?_⟩
            refine ds_forW (vs := [5]) ?_
            walk_at "d"
            refine ⟨fun j m'' ρ => m'' = m' ∧ (((rs.take i).map itemsL).flatten ++ xs.take j).find? (badG n gs) = none ∧ ρ = [.at_ a, .dat (.int n), .dat (.dic (gD gs)), .dat (.lst rs), .no, .no, .no], ⟨_, by walk_at "wk", rfl, rfl, by simpa using hf, rfl⟩, ?_, ?_⟩
            · rintro j v m'' ρ hv ⟨rfl, hg, rfl⟩
              refine ⟨_, dg_name (by simp), ?_⟩
              walk_at "d"
              refine ⟨n, gs, v, _, rfl, n10, q4 v (List.mem_of_getElem? hv), rfl, ?_⟩
              by_cases k4 : isGT n gs v = true
              · rw [k4]
                walk_at "d"
                refine ⟨_, by walk_at "wk", rfl, rfl, ?_, rfl⟩
                rw [List.take_add_one, hv, ← List.append_assoc, List.find?_append, hg]
                simp [badG, k4]
              · have k4 : isGT n gs v = false := by simpa using k4
                rw [k4]
                walk_at "d"
                refine ds_raise ?_
                walk_at "d"
                refine ⟨[v], rfl, rfl, by show 1 ≤ 1000; decide, hB _ v hrows ?_⟩
                unfold firstB
                have e1 : (rs.map itemsL).flatten = (((rs.take i).map itemsL).flatten ++ xs.take j) ++ (v :: (xs.drop (j + 1) ++ ((rs.drop (i + 1)).map itemsL).flatten)) := by
                  obtain ⟨hi, er⟩ := List.getElem?_eq_some_iff.mp hr
                  obtain ⟨hj, ev⟩ := List.getElem?_eq_some_iff.mp hv
                  conv => lhs; rw [← List.take_append_drop i rs, List.drop_eq_getElem_cons hi, er]
                  have e2 : xs = xs.take j ++ v :: xs.drop (j + 1) := by
                    conv => lhs; rw [← List.take_append_drop j xs, List.drop_eq_getElem_cons hj, ev]
                  rw [List.map_append, List.flatten_append, List.map_cons, List.flatten_cons]
                  show _ ++ (xs ++ _) = _
                  conv => lhs; rw [e2]
                  simp
                rw [e1, List.find?_append, hg]
                simp [badG, k4]
            · rintro m'' ρ ⟨rfl, hg, rfl⟩
              refine ⟨_, Wk.refl _, rfl, rfl, ?_, rfl⟩
              rw [List.take_length] at hg
              rw [List.take_add_one, hr]
              simpa [itemsL] using hg
          · rintro m' ρ ⟨rfl, hf, rfl⟩
            rw [List.take_length] at hf
            obtain ⟨rt, rfl, hT⟩ := rows_teams (fun r hr => List.all_eq_true.mp k3 r hr) hf
            have it : ((rt.map rwD).flatMap itemsL).length = rt.flatten.length := by
              exact flat_len_rw rt
            have fl : ∀ r ∈ rt, r.length ≤ 10000 := fun r hr2 => by
              have : r.length ≤ rt.flatten.length := by
                obtain ⟨a, b, rfl⟩ := List.append_of_mem hr2
                simp
                omega
              omega
            walk_at "d"
            refine ⟨n, gs, rt, rfl, n10, gg, by omega, fun t ht => hW rt t rfl (by rw [hrows]; rfl) hT ht, fun hnone => ?_⟩
            have hg : GoodP n gs rt := ⟨n1, n10, gg, tt, by simpa using k1, by simpa using k2, by omega, hT, fun t ht => by
              obtain ⟨v, hv⟩ := Option.isSome_iff_exists.mp (ET_team gg ht).2
              have := List.find?_eq_none.mp hnone t ht
              have gn : gN gs t = v := by unfold gN; rw [hv]; rfl
              unfold badT at this
              rw [gn] at this
              rw [hv]
              simp at this
              rw [this]⟩
            have r1 := hg.r1
            have r2 := hg.r2
            walk_at "d"
            refine ds_fld L rfl i_Plan.cl (i_Plan.no _ (by simp)) ?_
            walk_at "d"
            rw [h0]
            refine ⟨by decide, ?_⟩
            refine ds_seq ?_
            refine ds_fld L rfl i_Plan.cl (i_Plan.no _ (by simp)) ?_
            refine de_dc ?_
            walk_at "d"
            have l2 := hg.gg.l2
            refine cb_sortedK (ks := (gs.map (·.1)).map fun n : Nat => (n : Int)) rfl (by rw [gD_keys]; simp [List.map_map]) (by simp; omega) ?_
            walk_at "d"
            rw [srtN_int]
            refine ⟨by rw [dN_len, srtN_len, List.length_map]; omega, fun i m2 acc => m2 = L.put m' (putD' "own_people" (.int n) []) ∧ acc = gD (((srtN (gs.map (·.1))).take i).map fun k => (k, (gv gs k).getD 0)), ⟨rfl, rfl⟩, ?_, ?_⟩
            · rintro i d m2 acc hd ⟨rfl, rfl⟩
              rw [dN_get] at hd
              cases hk : (srtN (gs.map (·.1)))[i]? with
              | none => rw [hk] at hd; cases hd
              | some k =>
                rw [hk] at hd
                cases hd
                obtain ⟨⟨t, v⟩, htv, et⟩ := List.mem_map.mp (srtN_mem.mp (List.mem_of_getElem? hk))
                have et : t = k := et
                subst et
                have gk := gv_mem hg.gg.nd htv
                refine ⟨_, dg_name (by simp), ?_⟩
                walk_at "d"
                refine ⟨Sum.inl (t : Int), rfl, ?_⟩
                walk_at "d"
                refine ⟨_, _, _, rfl, rfl, look_g hg.gg.nd htv, ?_⟩
                refine ⟨_, rfl, rfl, ?_⟩
                have nd := srtN_nodup hg.gg.nd
                have hi : i < (srtN (gs.map (·.1))).length := (List.getElem?_eq_some_iff.mp hk).1
                have nin : t ∉ (((srtN (gs.map (·.1))).take i).map fun k => (k, (gv gs k).getD 0)).map (·.1) := by
                  rw [List.map_map]
                  intro z
                  obtain ⟨k, hk2, e⟩ := List.mem_map.mp z
                  have e : k = t := e
                  subst e
                  rw [← List.take_append_drop i (srtN (gs.map (·.1))), List.nodup_append] at nd
                  refine nd.2.2 k hk2 k ?_ rfl
                  rw [List.mem_iff_getElem?]
                  exact ⟨0, by rw [List.getElem?_drop]; exact hk⟩
                rw [putD_new nin, List.take_add_one, hk]
                simp [gk]
            · rintro m2 acc ⟨rfl, rfl⟩
              rw [dN_len, List.take_length, L.gp]
              refine ⟨_, rfl, by show 1 < 1000; decide, ?_⟩
              rw [L.pp]
              refine ds_fld L rfl i_Plan.cl (i_Plan.no _ (by simp)) ?_
              refine de_lcMap (f := fun d => .lst (ordD (decR d))) ?_
              walk_at "d"
              refine ⟨by rw [List.length_map]; omega, fun d hd => ⟨_, dg_name (by simp), ?_⟩, ?_⟩
              · obtain ⟨r, hr2, rfl⟩ := List.mem_map.mp hd
                walk_at "d"
                refine ⟨r, _, rfl, .inl rfl, fl r hr2, ?_⟩
                rw [decR_eq]
                exact ⟨rfl, rfl⟩
              · rw [L.gp]
                have e : ((rt.map rwD).map fun d => D.lst (ordD (decR d))) = (rt.map orR).map rwD := by
                  rw [List.map_map, List.map_map]
                  apply List.map_congr_left
                  intro r _
                  show D.lst (ordD (decR (rwD r))) = rwD (orR r)
                  rw [decR_eq, orR_D]
                  rfl
                rw [e]
                refine ⟨_, rfl, ?_, ?_⟩
                · exact Nat.lt_of_le_of_lt (pl_len n _) (by decide)
                · rw [L.pp]
                  have hm : Φ (L.put m' (putD' "rows" (.lst ((rt.map orR).map rwD)) (putD' "own_games" (.dic (gD (srG gs))) (putD' "own_people" (.int n) [])))) (.dat .non) := by
                    rw [pl_make n (srG gs) (rt.map orR)]; exact hΦ rt rfl hg
                  exact hm
        · have k3 : rs.all isLstD = false := by simpa using k3
          rw [k3]
          walk_at "d"
          refine ds_raise ?_
          walk_at "d"
          refine ⟨[.lst rs], rfl, rfl, by show 1 ≤ 1000; decide, hR (if_neg fun z => by rw [z.2.2] at k3; cases k3)⟩
      · rw [show decide (((rs.length : Nat) : Int) ≤ 130) = false by simp; omega]
        walk_at "d"
        refine ds_raise ?_
        walk_at "d"
        refine ⟨[.lst rs], rfl, rfl, by show 1 ≤ 1000; decide, hR (if_neg fun z => k2 z.2.1)⟩
    · rw [show decide ((1 : Int) ≤ (rs.length : Nat)) = false by simp; omega]
      walk_at "d"
      refine ds_raise ?_
      walk_at "d"
      refine ⟨[.lst rs], rfl, rfl, by show 1 ≤ 1000; decide, hR (if_neg fun z => k1 z.1)⟩
  · have hl : isL d = false := by simpa using hl
    rw [hl]
    walk_at "d"
    refine ds_raise ?_
    walk_at "d"
    refine ⟨[d], rfl, rfl, by show 1 ≤ 1000; decide, hR ?_⟩
    cases d <;> first | rfl | cases hl


end
end Pf
set_option Elab.async false
set_option linter.all false
set_option maxRecDepth 100000
set_option maxHeartbeats 1000000
namespace DL
open PySem PySem.Spec PyProof.Rows L2 Evl
/-! ### two derivations of one expression, of one statement -/
section
variable {X : Cx} {e : Expr} {s : Stmt} {t1 t2 : TE} {u1 u2 : TS}
theorem pe_or2 (h1 : PE X e t1) (h2 : PE X e t2) : PE X e (fun σ H Q => t1 σ H Q ∨ t2 σ H Q) := ⟨fun pins st σ H Q I h => h.elim (h1.run pins st σ H Q I) (h2.run pins st σ H Q I)⟩
theorem ps_or2 (h1 : PS X s u1) (h2 : PS X s u2) : PS X s (fun D σ H => u1 D σ H ∨ u2 D σ H) := ⟨fun pins st σ H D I h => h.elim (h1.run pins st σ H D I) (h2.run pins st σ H D I)⟩
end
section
variable {ι : Type} {c : Cc ι} {m : ι} {ρ : List S} {te1 te2 : TE} {Φ : ι → S → Prop}
theorem de_or2 (h : ∀ σ G H, EnvOk c m G H σ ρ → (∀ Q : VK, (∀ v s m' G' H', Grow c.W G H m' G' H' → RelS c.K c.W H G' H' v s → Φ m' s → Q v H') → te1 σ H Q) ∨ (∀ Q : VK, (∀ v s m' G' H', Grow c.W G H m' G' H' → RelS c.K c.W H G' H' v s → Φ m' s → Q v H') → te2 σ H Q)) : De c m (fun σ H Q => te1 σ H Q ∨ te2 σ H Q) ρ Φ :=
  fun σ G H e Q q => (h σ G H e).elim (fun z => .inl (z Q q)) fun z => .inr (z Q q)
end
end DL
set_option Elab.async false
set_option linter.all false
set_option maxRecDepth 100000
set_option maxHeartbeats 1000000
namespace DL
open PySem L2 Evl
section
variable {ι : Type} {c : Cc ι} {m : ι} {G H : Hp} {σ : L2.St} {ρ : List S}
/-- a dict that is read is locked, or it may be locked -/
theorem dict_state {dd : D} {v : V} (e : EnvOk c m G H σ ρ) (r : Rp c.K G v dd) (hd : (∃ ds, dd = .dic ds) ∨ ∃ ds, dd = .dit ds) :
    (∃ d u, v = .ref d ∧ Lkb c G H d u ∧ G d = some u ∧ RpU c.K G u dd ∧ Mut (some u)) ∨ ∃ d od u, v = .ref d ∧ G d = some (.frz od u) ∧ H d = some (.frz od u) ∧ RpU c.K G u dd := by
  have mk : ∀ {d u}, isDct u = true → Rd G d u → (Lkb c G H d u ∧ G d = some u) ∨ ∃ od, G d = some (.frz od u) ∧ H d = some (.frz od u) := fun {d u} hu hr => by
    rcases hr with h | ⟨o, h⟩
    · exact .inl ⟨⟨hu, (fun z => by rw [e.ok.off d z] at h; cases h), e.ok.ex _ _ h, .inl h⟩, h⟩
    · exact .inr ⟨o, h, e.ok.ex _ _ h⟩
  rcases hd with ⟨ds, rfl⟩ | ⟨ds, rfl⟩
  · cases r with
    | dic h k rv =>
      rcases mk (u := .dK _) rfl h with ⟨a, b⟩ | ⟨od, a, b⟩
      · exact .inl ⟨_, _, rfl, a, b, ⟨_, rfl, k, rv⟩, trivial⟩
      · exact .inr ⟨_, od, _, rfl, a, b, ⟨_, rfl, k, rv⟩⟩
  · cases r with
    | dit h k rv =>
      rcases mk (u := .dT _) rfl h with ⟨a, b⟩ | ⟨od, a, b⟩
      · exact .inl ⟨_, _, rfl, a, b, ⟨_, rfl, k, rv⟩, trivial⟩
      · exact .inr ⟨_, od, _, rfl, a, b, ⟨_, rfl, k, rv⟩⟩
variable {Φ : ι → S → Prop} {td te : TE} {tt : TT} {wi : TI} {g : TG} {vs : List Nat}
/-- [e for .. in d ..], whether d is locked or not -/
theorem de_lcD {dd : D} {ds : List D} (hp : DP c m td ρ dd) (hd : (∃ ds, dd = .dic ds) ∨ ∃ ds, dd = .dit ds) (hwk : Walks wi td dd ds) (hl : ds.length < 1000000) (J : Nat → ι → List D → Prop) (j0 : J 0 m [])
    (jt : ∀ c' : Cc ι, (c' = c ∨ ∃ d F, c' = lockC c d F) → ∀ i x m acc, ds[i]? = some x → J i m acc → ∃ ρ', DG c' m g vs x (wipeS ρ vs) ρ' ∧ DT c' m tt ρ' fun m b => (b = true → De c' m te ρ' fun m s => ∃ d', s.frz = .dat d' ∧ J (i + 1) m (acc ++ [d'])) ∧ (b = false → J (i + 1) m acc))
    (jd : ∀ m acc, J ds.length m acc → Φ m (.own (.lst acc))) (hw : noEls vs ρ = true := by with_unfolding_all rfl) : De c m (fun σ H Q => tLockE (tLc wi g tt te vs) σ H Q ∨ tLc wi g tt te vs σ H Q) ρ Φ := fun σ G H e Q q => by
  obtain ⟨v, kp, rv⟩ := hp σ G H e
  rcases dict_state e rv hd with ⟨d, u, rfl, k, hg, ru, mu⟩ | ⟨d, od, u, rfl, hg, hh, ru⟩
  · left
    refine ⟨d, u, k.hd, mu, fun od => ?_⟩
    have e1 := e.lockD (od := od) k hg
    have hh : upd H d (.frz od u) = lkH H d (.frz od u) := (lkH_some (by rw [k.hd]; exact fun z => by cases z)).symm
    rw [hh]
    have gd : lkH G d (.frz od u) d = some (.frz od u) := by rw [lkH_some (by rw [hg]; exact fun z => by cases z), upd_same]
    refine hwk (W := lockW c.W d) (G := lkH G d (.frz od u)) (fun m G' H' x ok => ok.ex _ _ (x _ _ gd)) (e1.ok.ex _ _ gd) (ru.up (up_lk k.hu (.inl hg))) (fun Q q => kp _ (fun b o hb ho => ?_) Q q) _ fun I it => fun Dd hD =>
      lc_run (c := lockC c d (.frz od u)) (Φ := Φ) (Q := fun v H' => H' d = some (.frz od u) ∧ Q v (upd H' d u)) e1 e1.refl it (fun v s m' G' H' g' r p => ?_) hw hl J j0 (jt _ (.inr ⟨_, _, rfl⟩)) jd Dd hD
    · have z : b ≠ d := fun z => by rw [z, hg] at hb; cases hb; rw [k.hu] at ho; cases ho
      rw [lkH_ne z]; exact e.ok.ex _ _ hb
    · obtain ⟨f1, f2⟩ := frzG k hg g'
      have ug := unlock_grow k.hu k.md (.inl hg) (.inl k.hd) (fun _ => k.hd) g' f1 (.inl f2)
      exact ⟨f1, q v s m' _ _ ug (r.unlock k.hu f1 (.inl f2)) p⟩
  · right
    exact hwk (W := c.W) (G := G) (fun m G' H' x ok => ok.ex _ _ (x _ _ hg)) hh ru (fun Q q => kp _ (fun b o hb ho => e.ok.ex _ _ hb) Q q) _ fun I it => fun Dd hD =>
      lc_run (c := c) (Φ := Φ) (Q := Q) e e.refl it q hw hl J j0 (jt c (.inl rfl)) jd Dd hD
/-- [f x for x in d], whether d is locked or not -/
theorem de_lcDM {dd : D} {ds : List D} (f : D → D) (hp : DP c m td ρ dd) (hd : (∃ ds, dd = .dic ds) ∨ ∃ ds, dd = .dit ds) (hwk : Walks wi td dd ds) (hl : ds.length < 1000000)
    (h : ∀ c' : Cc ι, (c' = c ∨ ∃ d F, c' = lockC c d F) → ∀ x, x ∈ ds → ∃ ρ', DG c' m g vs x (wipeS ρ vs) ρ' ∧ De c' m te ρ' fun m' s => m' = m ∧ s.frz = .dat (f x))
    (hΦ : Φ m (.own (.lst (ds.map f)))) (hw : noEls vs ρ = true := by with_unfolding_all rfl) : De c m (fun σ H Q => tLockE (tLc wi g tYes te vs) σ H Q ∨ tLc wi g tYes te vs σ H Q) ρ Φ :=
  de_lcD hp hd hwk hl (fun i m2 acc => m2 = m ∧ acc = (ds.take i).map f) (by simp)
    (fun c' hc i x m2 acc hx ⟨em, ha⟩ => by
      subst em
      obtain ⟨ρ', h3, h4⟩ := h c' hc x (List.mem_of_getElem? hx)
      refine ⟨ρ', h3, dt_yes ⟨fun _ => h4.imp fun m3 s ⟨em, hs⟩ => ⟨f x, hs, em, ?_⟩, fun z => by cases z⟩⟩
      rw [ha, List.take_add_one, hx]
      simp)
    (fun m2 acc ⟨em, ha⟩ => by
      subst em
      rw [ha, List.take_length]
      exact hΦ) hw
end
end DL
set_option Elab.async false
set_option linter.all false
set_option maxRecDepth 100000
set_option maxHeartbeats 1000000
namespace DL
open PySem L2 Evl
/-! ### a call whose first argument is a new source -/
def datS : S → Bool
  | .dat _ => true | _ => false
section
variable {ι : Type} {c : Cc ι} {m : ι} {ρ : List S} {Φ : ι → S → Prop} {tr : TA} {E : XK} {F : Fc}
theorem dats_rel {κ κ' : Type} {K : PySem.W.Frag} {W : Wd κ} {W' : Wd κ'} {H0 H1 G H : Hp} : ∀ {vs : List V} {ss : List S}, RelSs K W H0 G H vs ss → ss.all datS = true → RelSs K W' H1 G H vs ss ∧ ss.all argS = true
  | _, _, .nil, _ => ⟨.nil, rfl⟩
  | _, _, .cons (s := s) r rs, h => by
    rw [List.all_cons, Bool.and_eq_true] at h
    obtain ⟨i1, i2⟩ := dats_rel (W' := W') (H1 := H1) rs h.2
    cases s <;> first | exact ⟨.cons (s := .dat _) r i1, by simpa [argS] using i2⟩ | cases h.1
theorem de_callSrc (ms : Nat) (h : DA c m tr ρ fun m1 ss => ∃ a b n rest, ss = .own (.lst [.int a, .int b, .int n]) :: rest ∧ (0 ≤ n ∧ n + (ms : Int) ≤ 1048576) ∧ rest.all datS = true ∧ ∀ p, (np : ¬ c.W.M p) → F (ι × Nat) (srcW c.W p) (m1, ms) (.at_ p :: rest) (fun mm s => Φ mm.1 s) fun _ _ _ => False) :
    De c m (tCall (spF c.K F) [] E tr) ρ Φ := fun σ G H e Q q => h σ G H e _ fun vs ss m1 G1 H1 g1 r1 ⟨a, b, n, rest, es, hn, hd, hf⟩ => by
  subst es
  rw [List.append_nil]
  cases r1 with
  | cons rp rr =>
    obtain ⟨p, rfl, f, xs, hp, rx⟩ := rp
    have ex : xs = [.int a, .int b, .int n] := by
      cases rx with
      | cons r1 rx =>
        cases rx with
        | cons r2 rx =>
          cases rx with
          | cons r3 rx => cases rx; cases r1; cases r2; cases r3; rfl
    subst ex
    have ok1 := (e.grow g1).ok
    have ok' : Ok (srcW c.W p) (m1, ms) G1 H1 := ⟨ok1.ex, ⟨ok1.inv, a, b, n, hp, hn.1, hn.2⟩, fun x hx => by
      rcases hx with hx | rfl
      · exact ok1.off x hx
      · exact f.2.1, ok1.lk⟩
    obtain ⟨a1, a2⟩ := dats_rel (W' := srcW c.W p) (H1 := H1) rr hd
    refine ⟨ι × Nat, srcW c.W p, (m1, ms), G1, _, _, _, ok', .cons (s := .at_ p) rfl a1, by rw [List.all_cons, a2]; rfl, hf p f.2.2, fun v s m' G' H' g r ph => ?_, fun _ _ _ _ _ _ _ _ _ _ _ _ _ z => z.elim⟩
    have back : Grow c.W G H m'.1 G' H' := ⟨g1.ex.trans g.ex, g.sub, fun x o hx t hg => by
      have h1 := g1.fresh x o hx t hg
      by_cases mx : c.W.M x
      · obtain ⟨u, hu, t2⟩ := c.W.has _ _ _ _ ok1.inv mx
        exact g.fresh x u hu t2 h1
      · exact g.fresh x o (g1.keep x o mx hx) t h1, fun x o hm hx => g.keep x o (fun z => by
      rcases z with z | rfl
      · exact hm z
      · rw [f.1] at hx; cases hx) (g1.keep x o hm hx), g.inv.1, fun x o u q n => (g.lk x o u q n).elim .inl fun z => g1.lk x o u z n⟩
    refine q v s m'.1 G' H' back (relS_srcBack (H := H1) (fun x hx => ?_) r) ph
    cases z : H x with
    | none => rfl
    | some o => exact absurd hx (g1.there (by rw [z]; exact fun y => by cases y))
end
end DL
set_option Elab.async false
set_option linter.all false
set_option maxRecDepth 100000
set_option maxHeartbeats 1000000
namespace Pf
open PySem PySem.Spec PyProof.Rows L2 DL
local macro_rules | `(tactic| walk_at "len") => `(tactic| with_unfolding_all first | exact Nat.le_of_ble_eq_true rfl | (simp; done) | (simp; omega))
local macro_rules | `(tactic| walk_at "side") => `(tactic| with_unfolding_all first | exact Or.inr ⟨by omega, by omega⟩ | exact Or.inl ⟨by omega, by omega⟩ | exact ⟨by omega, by omega⟩ | exact ⟨by omega, by omega, by omega⟩ | (show (0 : Int) < _; omega) | decide)
local macro_rules | `(tactic| walk_at "d1") => `(tactic| with_reducible first
  | (refine ds_seq ?_; try dsimp only [List.set_cons_zero, List.set_cons_succ, List.cons_append, List.nil_append, O.frz])
  | refine ds_asg ?_
  | refine ds_ret ?_
  | refine ds_retN ?_
  | refine ds_next ?_
  | refine ds_dropC ?_
  | refine ds_drop0 ?_
  | refine ds_dropB ?_
  | refine ds_if ?_
  | refine dt_test ?_
  | refine dt_B ?_
  | refine dt_not ?_
  | refine dt_and ?_
  | refine dt_or ?_
  | refine dt_yes ?_
  | refine de_int ?_
  | refine de_bl ?_
  | refine de_str ?_
  | refine de_non ?_
  | refine de_varD (by with_unfolding_all rfl) ?_
  | refine de_varO (by with_unfolding_all rfl) ?_
  | refine de_varA (by with_unfolding_all rfl) ?_
  | refine de_varV (by with_unfolding_all rfl) ?_
  | refine de_isi ?_
  | refine de_dget ?_
  | refine de_dget2 ?_
  | refine de_dnotin ?_
  | refine de_din ?_
  | refine de_dnew ?_
  | refine de_dnewT ?_
  | refine de_cb ?_
  | refine de_call0G ?_
  | refine de_callG ?_
  | refine de_andB ?_
  | refine de_orB ?_
  | refine de_notV ?_
  | refine de_ifE ?_
  | refine de_chain ?_
  | refine de_op ?_
  | refine de_neg ?_
  | refine de_tupG ?_
  | refine de_lstG ?_
  | refine de_slL ?_
  | refine de_slT ?_
  | refine do_none ?_
  | refine do_some ?_
  | refine daf_cons ?_
  | refine daf_nil ?_
  | refine daf_star ?_
  | refine da_cons ?_
  | refine da_nil ?_
  | refine lk_dat ?_
  | refine lk_nil ?_
  | refine ak_dat ?_
  | refine ak_nil ?_
  | refine ak_at ?_
  | refine ak_lst ?_
  | refine lk_lst ?_
  | refine ak_dK ?_
  | refine ak_dT ?_
  | refine ak_vw ?_
  | refine lk_dT ?_
  | refine lk_dK ?_
  | refine da_star ?_
  | refine de_lstRg1 ?_
  | refine de_lstRg2 ?_
  | refine de_revL ?_
  | refine de_count ?_
  | refine de_index ?_
  | refine di_enum ?_
  | refine dt_tru ?_
  | refine de_fld ?_
  | refine de_prop ?_
  | refine di_rng1 ?_
  | refine di_rng2 ?_
  | refine di_list ?_
  | refine di_tup ?_
  | refine di_seq ?_
  | refine di_zip ?_
  | refine ops_int ?_
  | (refine ops_cat (by with_unfolding_all rfl) (by with_unfolding_all rfl) ?side ?_; (case side => walk_at "len"))
  | (refine ops_catA ?side ?_; (case side => walk_at "len"))
  | refine ops_eqI ?_
  | refine ops_neI ?_
  | refine ops_bool ?_
  | (refine ops_intC ?side ?_; (case side => walk_at "side"))
  | refine cb_lenL (by with_unfolding_all rfl) ?_
  | refine cb_lenT (by with_unfolding_all rfl) ?_
  | refine cb_lenK (by with_unfolding_all rfl) ?_
  | refine cb_max2 ?_
  | refine cb_min2 ?_
  | refine cb_int ?_
  | refine ⟨fun _ => ?_, fun z => Bool.noConfusion z⟩
  | refine ⟨fun z => Bool.noConfusion z, fun _ => ?_⟩
  | refine ⟨rfl, ?_⟩
  | refine ⟨_, rfl, ?_⟩
  | refine ⟨_, Or.inl (by with_unfolding_all rfl), ?_⟩
  | (with_unfolding_all refine ⟨_, true, rfl, rfl, (fun _ z => by cases z), rfl, ?_⟩)
  | (with_unfolding_all refine ⟨_, false, rfl, rfl, (fun _ z => by cases z), rfl, ?_⟩))
local macro_rules | `(tactic| walk_at "d") => `(tactic| repeat walk_at "d1")
local macro_rules | `(tactic| walk_at "wk") => `(tactic| repeat first | exact Wk.nil | refine Wk.keep ?_ | refine Wk.drop ?_)
section
variable {P : Program} {w : World} {K : PySem.W.Frag} {mg : Str → Option Value} {base : Heap} {f : Addr} {fd : FuncData} {a_Plan a_BadRounds a_BadTeam a_WrongTimes : Addr}
def decF (rows : List (List D)) : List (List Nat) := rows.flatten.map decT
/-- what is told of rounds -/
def wantP (n : Nat) (gs : List (Nat × Nat)) (d : D) : D := match rowsL d with
  | none => .tup [.str "rounds", d]
  | some rows => match firstB n gs rows with
    | some v => .tup [.str "team", v]
    | none => match firstW n gs (decF rows) with
      | some t => .tup [.str "times", tD t, .int ((decF rows).count t : Nat)]
      | none => .non
theorem rw_flat : ∀ rs : List (List (List Nat)), ((rs.map rwD).map itemsL).flatten = rs.flatten.map tD
  | [] => rfl
  | r :: rs => by
    rw [List.map_cons, List.map_cons, List.flatten_cons, rw_flat rs, List.flatten_cons, List.map_append]
    rfl
theorem rowsL_rw {rs : List (List (List Nat))} (h : (rowsL (.lst (rs.map rwD))).isSome = true) : rowsL (.lst (rs.map rwD)) = some ((rs.map rwD).map itemsL) := by
  unfold rowsL at h ⊢
  dsimp only at h ⊢
  split at h
  · rename_i z; rw [if_pos z]
  · cases h
theorem decF_rw (rs : List (List (List Nat))) : decF ((rs.map rwD).map itemsL) = rs.flatten := by
  unfold decF
  rw [rw_flat, List.map_map]
  conv => rhs; rw [← List.map_id rs.flatten]
  apply List.map_congr_left
  intro t _
  exact decT_eq t
theorem firstB_rw {n : Nat} {gs : List (Nat × Nat)} {rs : List (List (List Nat))} (h : ∀ r ∈ rs, ∀ t ∈ r, Team n t ∧ (gv gs t.length).isSome = true) : firstB n gs ((rs.map rwD).map itemsL) = none := by
  unfold firstB
  rw [rw_flat, List.find?_eq_none]
  intro x hx
  obtain ⟨t, ht, rfl⟩ := List.mem_map.mp hx
  obtain ⟨r, hr, htr⟩ := List.mem_flatten.mp ht
  obtain ⟨h1, h2⟩ := h r hr t htr
  simp [badG, isGT_team h1 h2]

def C_law_told (C XR XB XW : Addr) : Fc := fun _ W m ss Φ Ξ => ∃ (n : Nat) (gs : List (Nat × Nat)) (d : D), ss = [.dat (.int n), .dat (.dic (gD gs)), .dat d] ∧ 1 ≤ n ∧ n ≤ 10 ∧ GGm n gs ∧ tot n gs ≤ 130 ∧ RdOk d ∧ (∀ a, ¬ W.L a) ∧ Φ m (.dat (wantP n gs d))

abbrev s_law_told : Stmt := (top 51)
abbrev N_law_told : List Str := ["_law_people_here", "_law_games", "_law_rounds", "e"]
theorem sc_law_told : FnScope N_law_told ["_law_people_here", "_law_games", "_law_rounds"] (defScope s_law_told) := ⟨rfl, rfl, rfl, by decide +kernel, rfl, by decide +kernel, by decide +kernel⟩
theorem ok_law_told (F : FnP K "_law_told" s_law_told f fd) (b : BI mg) (x_BadRounds : Xc P w K mg base "BadRounds" a_BadRounds ["value"]) (x_BadTeam : Xc P w K mg base "BadTeam" a_BadTeam ["value"]) (x_WrongTimes : Xc P w K mg base "WrongTimes" a_WrongTimes ["team", "count"]) (nx_BadTeam_BadRounds : PySem.W.exmOne K (.ref a_BadTeam) (.ref a_BadRounds) = some false) (nx_WrongTimes_BadRounds : PySem.W.exmOne K (.ref a_WrongTimes) (.ref a_BadRounds) = some false) (nx_WrongTimes_BadTeam : PySem.W.exmOne K (.ref a_WrongTimes) (.ref a_BadTeam) = some false) (c_Plan___init : Mi P w K mg base (L2.CX P w) 5 a_Plan "Plan" ["self", "people", "games", "rounds"] (C_Plan___init12 K a_Plan a_BadRounds a_BadTeam a_WrongTimes)) : FnOk P w K mg base CX0 7 f fd ["_law_people_here", "_law_games", "_law_rounds"] (spF K (C_law_told a_Plan a_BadRounds a_BadTeam a_WrongTimes)) := by
  have hlen := spF_len (K := K) (C := (C_law_told a_Plan a_BadRounds a_BadTeam a_WrongTimes)) (m := 3) fun κ W m ss Φ Ξ ⟨n, gs, d, e, _⟩ => by first | exact e | (rw [e]; rfl)
  refine F.ok sc_law_told hlen ?_
  intro cdv A outer s H vs Q E hr h
  refine ⟨_, PSs.nox (pss_cons (ps_tryC rfl rfl takes0
      (fun W pn xe tk po => (pss_one (ps_expr (k_makeS c_Plan___init rfl hr tk (pa_cons (pv 0) (pa_cons (pv 1) (pa_cons (pv 2) pa_nil)))))))
      (.as_ (i := 3) sc_law_told.nd rfl rfl ⟨rfl, by decide, Or.inl x_BadRounds.gC⟩ (fun a oe cls d pn hz hf => (pss_one (ps_ret (pe_tup (pa_cons pe_str (pa_cons (pe_xf x_BadRounds.xf (x_BadRounds.noat _ (by simp)) hz hf (pv 3)) pa_nil)))))) (.as_ (i := 3) sc_law_told.nd rfl rfl ⟨rfl, by decide, Or.inl x_BadTeam.gC⟩ (fun a oe cls d pn hz hf => (pss_one (ps_ret (pe_tup (pa_cons pe_str (pa_cons (pe_xf x_BadTeam.xf (x_BadTeam.noat _ (by simp)) hz hf (pv 3)) pa_nil)))))) (.as_ (i := 3) sc_law_told.nd rfl rfl ⟨rfl, by decide, Or.inl x_WrongTimes.gC⟩ (fun a oe cls d pn hz hf => (pss_one (ps_ret (pe_tup (pa_cons pe_str (pa_cons (pe_xf x_WrongTimes.xf (x_WrongTimes.noat _ (by simp)) hz hf (pv 3)) (pa_cons (pe_xf x_WrongTimes.xf (x_WrongTimes.noat _ (by simp)) hz hf (pv 3)) pa_nil))))))) .nil))))
      (pss_one (ps_ret pe_non))), ?_⟩
  refine DL.run_fnP  [.no] (Nm := N_law_told) (n := 3) (k := 1) rfl (hlen _ _ _ _ h) rfl h fun κ W m ss Φ Ξ G hc => ?_
  try dsimp only [cxOf, Cx.nox, Cx.wish, Cx.blk]
  obtain ⟨n, gs, d, rfl, n1, n10, gg, tt, hd, hL, hΦ⟩ := hc
  refine ds_seq ?_
  refine ds_tryMakeW (fun m' C' fs => m' = m ∧ ((C' = a_BadRounds ∧ fs = [(("value" : Str), d)] ∧ wantP n gs d = .tup [.str "rounds", d]) ∨ (∃ v, C' = a_BadTeam ∧ fs = [(("value" : Str), v)] ∧ wantP n gs d = .tup [.str "team", v]) ∨ ∃ (t : List Nat) (k : Nat), C' = a_WrongTimes ∧ fs = [(("count" : Str), D.int (k : Nat)), (("team" : Str), tD t)] ∧ wantP n gs d = .tup [.str "times", tD t, .int (k : Nat)])) ?_ ?_
  · walk_at "d"
    refine fun a dx na => ⟨a, insL na, n, gs, d, rfl, rfl, n1, n10, gg, tt, hd, hL, fun h => ?_, fun rows v h1 h2 => ?_, fun rs t e h1 hT h2 => ?_, fun rs e hg => ?_⟩
    · exact ⟨rfl, .inl ⟨rfl, rfl, by unfold wantP; rw [h]⟩⟩
    · exact ⟨rfl, .inr (.inl ⟨v, rfl, rfl, by unfold wantP; rw [h1]; dsimp only; rw [h2]⟩)⟩
    · subst e
      have e1 := rowsL_rw h1
      exact ⟨rfl, .inr (.inr ⟨t, _, rfl, rfl, by unfold wantP; rw [e1]; dsimp only; rw [firstB_rw hT]; dsimp only; rw [decF_rw, h2]⟩)⟩
    · subst e
      refine ⟨rfl, ?_⟩
      walk_at "d"
      have e1 : rowsL (.lst (rs.map rwD)) = some ((rs.map rwD).map itemsL) := if_pos ⟨by rw [List.length_map]; exact hg.r1, by rw [List.length_map]; exact hg.r2, by
        rw [List.all_eq_true]
        intro x hx
        obtain ⟨r, _, rfl⟩ := List.mem_map.mp hx
        rfl⟩
      have e2 : wantP n gs (.lst (rs.map rwD)) = .non := by
        unfold wantP
        rw [e1]
        dsimp only
        rw [firstB_rw hg.tm]
        dsimp only
        rw [decF_rw]
        have : firstW n gs rs.flatten = none := by
          unfold firstW
          rw [List.find?_eq_none]
          intro t ht
          have := hg.cnt t ht
          unfold badT gN
          rw [this]
          simp
        rw [this]
      rw [e2] at hΦ
      exact hΦ
  · rintro m' C' fs ⟨rfl, ⟨rfl, rfl, hw⟩ | ⟨v, rfl, rfl, hw⟩ | ⟨t, k, rfl, rfl, hw⟩⟩
    · refine hx_as x_BadRounds.te fun a dd => ?_
      walk_at "d"
      refine de_xf rfl (by with_unfolding_all rfl) ?_
      walk_at "d"
      rw [hw] at hΦ
      exact hΦ
    · refine hx_as_no nx_BadTeam_BadRounds (hx_as x_BadTeam.te fun a dd => ?_)
      walk_at "d"
      refine de_xf rfl (by with_unfolding_all rfl) ?_
      walk_at "d"
      rw [hw] at hΦ
      exact hΦ
    · refine hx_as_no nx_WrongTimes_BadRounds (hx_as_no nx_WrongTimes_BadTeam (hx_as x_WrongTimes.te fun a dd => ?_))
      walk_at "d"
      refine de_xf rfl (by with_unfolding_all rfl) ?_
      walk_at "d"
      refine de_xf rfl (by with_unfolding_all rfl) ?_
      walk_at "d"
      rw [hw] at hΦ
      exact hΦ


end
end Pf
set_option Elab.async false
set_option linter.all false
set_option maxRecDepth 100000
set_option maxHeartbeats 1000000
namespace Pf
open PySem PySem.Spec PyProof.Rows L2 DL
/-! ### what is equal to a team -/
def numO : D → Option Int
  | .int i => some i
  | .bl b => some (if b then 1 else 0)
  | _ => none
def likeL : List Nat → List D → Bool
  | [], [] => true
  | n :: t, d :: ds => decide (numO d = some (n : Int)) && likeL t ds
  | _, _ => false
def like (t : List Nat) : D → Bool
  | .tup ds => likeL t ds
  | _ => false
theorem beq_num (a b : Int) : (a == b) = decide (some b = some a) := by
  by_cases e : a = b
  · rw [e, beq_self_eq_true, decide_eq_true rfl]
  · rw [beq_eq_false_iff_ne.mpr e, decide_eq_false (fun z => e (Option.some.inj z).symm)]
theorem num_eqv {n : Nat} {d : D} {x : PyData} (h : d.py = some x) : PyData.eqv (.int (n : Int)) x = decide (numO d = some (n : Int)) := by
  cases d with
  | non => unfold D.py at h; cases h; rfl
  | bl b =>
    unfold D.py at h; cases h
    rw [PyData.eqv]
    exact beq_num _ _
  | int i =>
    unfold D.py at h; cases h
    rw [PyData.eqv]
    exact beq_num _ _
  | str y => unfold D.py at h; cases h; rfl
  | lst ds =>
    unfold D.py at h
    cases z : D.pys ds with
    | none => rw [z] at h; cases h
    | some xs => rw [z] at h; cases h; rfl
  | tup ds =>
    unfold D.py at h
    cases z : D.pys ds with
    | none => rw [z] at h; cases h
    | some xs => rw [z] at h; cases h; rfl
  | scr ns => unfold D.py at h; cases h; rfl
  | dic ds => unfold D.py at h; cases h
  | dit ds => unfold D.py at h; cases h
  | ins C fs => unfold D.py at h; cases h
theorem likeL_eqv : ∀ {t : List Nat} {ds : List D} {xs : List PyData}, D.pys ds = some xs → PyData.eqvAll ((t.map fun n : Nat => (n : Int)).map PyData.int) xs = likeL t ds
  | [], [], _, h => by unfold D.pys at h; cases h; rw [List.map_nil, List.map_nil, PyData.eqvAll]; rfl
  | [], d :: ds, _, h => by
    unfold D.pys at h
    cases z : d.py with
    | none => rw [z] at h; cases h
    | some x =>
      cases z2 : D.pys ds with
      | none => rw [z, z2] at h; cases h
      | some xs => rw [z, z2] at h; cases h; rw [List.map_nil, List.map_nil, PyData.eqvAll]; rfl
  | n :: t, [], _, h => by unfold D.pys at h; cases h; rw [List.map_cons, List.map_cons, PyData.eqvAll]; rfl
  | n :: t, d :: ds, _, h => by
    unfold D.pys at h
    cases z : d.py with
    | none => rw [z] at h; cases h
    | some x =>
      cases z2 : D.pys ds with
      | none => rw [z, z2] at h; cases h
      | some xs =>
        rw [z, z2] at h
        cases h
        rw [List.map_cons, List.map_cons, PyData.eqvAll, num_eqv z, likeL_eqv z2]
        rfl
theorem like_eqv {t : List Nat} {d : D} {x : PyData} (h : d.py = some x) : PyData.eqv (.tuple ((t.map fun n : Nat => (n : Int)).map PyData.int)) x = like t d := by
  cases d with
  | non => unfold D.py at h; cases h; rfl
  | bl b => unfold D.py at h; cases h; rfl
  | int i => unfold D.py at h; cases h; rfl
  | str y => unfold D.py at h; cases h; rfl
  | lst ds =>
    unfold D.py at h
    cases z : D.pys ds with
    | none => rw [z] at h; cases h
    | some xs => rw [z] at h; cases h; rfl
  | tup ds =>
    unfold D.py at h
    cases z : D.pys ds with
    | none => rw [z] at h; cases h
    | some xs => rw [z] at h; cases h; rw [PyData.eqv]; exact likeL_eqv z
  | scr ns => unfold D.py at h; cases h; rfl
  | dic ds => unfold D.py at h; cases h
  | dit ds => unfold D.py at h; cases h
  | ins C fs => unfold D.py at h; cases h
theorem any_like {L : List (List Nat)} {d : D} {x : PyData} {xs : List PyData} (h : d.py = some x) (h2 : D.pys (L.map tD) = some xs) : (xs.any fun z => PyData.eqv z x) = L.any fun t => like t d := by
  rw [tDs_py] at h2
  cases h2
  rw [List.any_map]
  congr 1
  funext t
  exact like_eqv h
/-! ### a team with no truth value in it -/
theorem ET_of {n : Nat} {gs : List (Nat × Nat)} {t : List Nat} (h : Team n t) (hg : (gv gs t.length).isSome = true) : t ∈ ET n gs := by
  obtain ⟨v, hv⟩ := Option.isSome_iff_exists.mp hg
  exact List.mem_flatMap.mpr ⟨t.length, srtN_mem.mpr (List.mem_map.mpr ⟨_, gv_some hv, rfl⟩), SB_mem.mpr ⟨rfl, h.inc, fun x hx => ⟨Nat.zero_le _, h.lt x hx⟩⟩⟩
def isBl : D → Bool
  | .bl _ => true | _ => false
def itemsT : D → List D
  | .tup xs => xs | _ => []
theorem likeL_nat : ∀ {t : List Nat} {ds : List D}, likeL t ds = true → (∀ d ∈ ds, isBl d = false) → ds = dN t
  | [], [], _, _ => rfl
  | [], _ :: _, h, _ => by cases h
  | _ :: _, [], h, _ => by cases h
  | n :: t, d :: ds, h, hb => by
    unfold likeL at h
    rw [Bool.and_eq_true, decide_eq_true_iff] at h
    have e := likeL_nat h.2 fun x hx => hb x (List.mem_cons_of_mem _ hx)
    have hd := hb d List.mem_cons_self
    have : d = .int (n : Int) := by
      cases d with
      | int i => have := h.1; unfold numO at this; cases this; rfl
      | bl b => cases hd
      | _ => have := h.1; unfold numO at this; cases this
    rw [this, e]
    rfl
theorem likeL_len : ∀ {t : List Nat} {ds : List D}, likeL t ds = true → ds.length = t.length
  | [], [], _ => rfl
  | [], _ :: _, h => by cases h
  | _ :: _, [], h => by cases h
  | n :: t, d :: ds, h => by
    unfold likeL at h
    rw [Bool.and_eq_true] at h
    rw [List.length_cons, List.length_cons, likeL_len h.2]
theorem likeL_self : ∀ t : List Nat, likeL t (dN t) = true
  | [] => rfl
  | n :: t => by
    show (decide (numO (.int (n : Int)) = some (n : Int)) && likeL t (dN t)) = true
    rw [likeL_self t]
    simp [numO]
def badL (L : List (List Nat)) (d : D) : Bool := !(L.any fun t => like t d) || (itemsT d).any isBl
theorem badL_eq {n : Nat} {gs : List (Nat × Nat)} (hg : GGm n gs) (d : D) : badL (ET n gs) d = badG n gs d := by
  cases hi : isGT n gs d with
  | true =>
    obtain ⟨t, rfl, h1, h2⟩ := isGT_iff hi
    unfold badG badL
    rw [hi]
    have m : t ∈ ET n gs := ET_of h1 h2
    have a1 : ((ET n gs).any fun u => like u (tD t)) = true := List.any_eq_true.mpr ⟨t, m, likeL_self t⟩
    have a2 : (itemsT (tD t)).any isBl = false := by
      rw [List.any_eq_false]
      intro x hx
      obtain ⟨k, _, rfl⟩ := dN_mem (show x ∈ dN t from hx)
      simp [isBl]
    rw [a1, a2]
    rfl
  | false =>
    unfold badG
    rw [hi]
    cases hb : badL (ET n gs) d with
    | true => rfl
    | false =>
      exfalso
      unfold badL at hb
      rw [Bool.or_eq_false_iff] at hb
      obtain ⟨b1, b2⟩ := hb
      have b1 : ((ET n gs).any fun t => like t d) = true := by simpa using b1
      obtain ⟨t, ht, hl⟩ := List.any_eq_true.mp b1
      cases d with
      | tup ds =>
        have e := likeL_nat (show likeL t ds = true from hl) fun x hx => by
          have := List.any_eq_false.mp b2 x hx
          simpa using this
        subst e
        obtain ⟨h1, h2⟩ := ET_team hg ht
        rw [show D.tup (dN t) = tD t from rfl, isGT_team h1 h2] at hi
        cases hi
      | _ => cases hl
theorem eqv_tD (u t : List Nat) : PyData.eqv (.tuple ((u.map fun n : Nat => (n : Int)).map PyData.int)) (.tuple ((t.map fun n : Nat => (n : Int)).map PyData.int)) = decide (u = t) := by
  unfold PyData.eqv
  rw [eqv_ints]
  by_cases e : u = t
  · subst e; simp
  · have : ¬ (u.map fun n : Nat => (n : Int)) = (t.map fun n : Nat => (n : Int)) := fun z => e (cast_inj.mp z)
    simp [e, this]
theorem plain_ints : ∀ l : List Int, PyData.plainAll (l.map PyData.int) = true
  | [] => by simp [PyData.plainAll]
  | a :: l => by rw [List.map_cons, PyData.plainAll, plain_ints l, PyData.plain]; rfl
theorem plain_tD (t : List Nat) : (PyData.tuple ((t.map fun n : Nat => (n : Int)).map PyData.int)).plain = true := by
  rw [PyData.plain]; exact plain_ints _
theorem plain_teams : ∀ r : List (List Nat), PyData.plainAll (r.map fun k => PyData.tuple ((k.map fun n : Nat => (n : Int)).map PyData.int)) = true
  | [] => by simp [PyData.plainAll]
  | t :: r => by rw [List.map_cons, PyData.plainAll, plain_tD, plain_teams r]; rfl
theorem depth_tD (t : List Nat) : (PyData.tuple ((t.map fun n : Nat => (n : Int)).map PyData.int)).depth ≤ 60 := by
  have := depth_ints t
  rw [PyData.depth, List.map_map]
  have e : (PyData.int ∘ fun n : Nat => (n : Int)) = fun n : Nat => PyData.int n := rfl
  rw [e]
  omega
theorem cnt_teams (r : List (List Nat)) (t : List Nat) : (r.map fun k => PyData.tuple ((k.map fun n : Nat => (n : Int)).map PyData.int)).countP (fun z => PyData.eqv z (.tuple ((t.map fun n : Nat => (n : Int)).map PyData.int))) = r.count t := by
  rw [List.countP_map, List.count]
  apply List.countP_congr
  intro k _
  show PyData.eqv _ _ = true ↔ _
  rw [eqv_tD]
  simp
end Pf
set_option Elab.async false
set_option linter.all false
set_option maxRecDepth 100000
set_option maxHeartbeats 1000000
namespace DL
open PySem L2 Evl PySem.Spec PyProof.Rows
section
variable {ι : Type} {c : Cc ι} {m : ι} {ρ : List S} {te ta : TE} {Φ : ι → S → Prop}
/-- xs.count(d) of data -/
theorem de_countD (h : De c m te ρ fun m s => ∃ (ds : List D) (es : List PyData), s.lst? = some ds ∧ D.pys ds = some es ∧ PyData.plainAll es = true ∧ De c m ta ρ fun m s2 => ∃ (d : D) (x : PyData), s2.view = some d ∧ d.py = some x ∧ x.plain = true ∧ x.depth ≤ 60 ∧ Φ m (.dat (.int (es.countP fun z => PyData.eqv z x : Nat)))) : De c m (tBM c.K "list" (rCntD c.K) te (tCons ta tNil)) ρ Φ := fun σ G H e Q q => h σ G H e _ fun v s m1 G1 H1 g1 r1 ⟨ds, es, hs, hp, hpl, h2⟩ => by
  refine ⟨tyL (e.grow g1).ok r1 hs, h2 σ G1 H1 (e.grow g1) _ fun v2 s2 m2 G2 H2 g2 r2 ⟨d, x, e2, hx, hxp, hxd, p⟩ => ?_⟩
  have e3 := (e.grow g1).grow g2
  obtain ⟨a, xs, rfl, h3, h4⟩ := (r1.grow g2).lstV e3.ok hs
  exact ⟨a, v2, xs, x, es, rfl, rfl, h3, h4.dp e3.ok.ex hp, r2.dp e3.ok e2 hx, hpl, hxp, hxd, q _ (.dat (.int _)) m2 G2 H2 (g1.trans g2) (Rp.int _) p⟩
/-- tuple(range(n)) -/
theorem de_tupRg1 (h : De c m ta ρ fun m s => ∃ n : Int, s = .dat (.int n) ∧ RgOk 0 n ∧ Φ m (.dat (.tup (rngD 0 n.toNat)))) : De c m (tTupRg (tRg1 ta)) ρ Φ := fun σ G H e Q q => h σ G H e _ fun v s m1 G1 H1 g1 r1 ⟨n, es, ok, p⟩ => by
  subst es
  cases r1
  refine ⟨n, rfl, ok, fun a ha => ?_⟩
  have r := rp_rg (K := c.K) (G := G1) 0 n
  rw [Int.sub_zero] at r
  exact new_tup (H0 := H) (e.grow g1).ok r p (fun v s m' G' H' g r p => q v s m' G' H' (g1.trans g) (r.back g1) p) a ha
end
end DL
set_option Elab.async false
set_option linter.all false
set_option maxRecDepth 100000
set_option maxHeartbeats 1000000
namespace Pf
open PySem PySem.Spec PyProof.Rows L2 DL
local macro_rules | `(tactic| walk_at "len") => `(tactic| with_unfolding_all first | exact Nat.le_of_ble_eq_true rfl | (simp; done) | (simp; omega))
local macro_rules | `(tactic| walk_at "side") => `(tactic| with_unfolding_all first | exact Or.inr ⟨by omega, by omega⟩ | exact Or.inl ⟨by omega, by omega⟩ | exact ⟨by omega, by omega⟩ | exact ⟨by omega, by omega, by omega⟩ | (show (0 : Int) < _; omega) | decide)
local macro_rules | `(tactic| walk_at "d1") => `(tactic| with_reducible first
  | (refine ds_seq ?_; try dsimp only [List.set_cons_zero, List.set_cons_succ, List.cons_append, List.nil_append, O.frz])
  | refine ds_asg ?_
  | refine ds_ret ?_
  | refine ds_retN ?_
  | refine ds_next ?_
  | refine ds_dropC ?_
  | refine ds_drop0 ?_
  | refine ds_dropB ?_
  | refine ds_if ?_
  | refine dt_test ?_
  | refine dt_B ?_
  | refine dt_not ?_
  | refine dt_and ?_
  | refine dt_or ?_
  | refine dt_yes ?_
  | refine de_int ?_
  | refine de_bl ?_
  | refine de_str ?_
  | refine de_non ?_
  | refine de_varD (by with_unfolding_all rfl) ?_
  | refine de_varO (by with_unfolding_all rfl) ?_
  | refine de_varA (by with_unfolding_all rfl) ?_
  | refine de_varV (by with_unfolding_all rfl) ?_
  | refine de_isi ?_
  | refine de_dget ?_
  | refine de_dget2 ?_
  | refine de_dnotin ?_
  | refine de_din ?_
  | refine de_dnew ?_
  | refine de_dnewT ?_
  | refine de_cb ?_
  | refine de_call0G ?_
  | refine de_callG ?_
  | refine de_andB ?_
  | refine de_orB ?_
  | refine de_notV ?_
  | refine de_ifE ?_
  | refine de_chain ?_
  | refine de_op ?_
  | refine de_neg ?_
  | refine de_tupG ?_
  | refine de_lstG ?_
  | refine de_slL ?_
  | refine de_slT ?_
  | refine do_none ?_
  | refine do_some ?_
  | refine daf_cons ?_
  | refine daf_nil ?_
  | refine daf_star ?_
  | refine da_cons ?_
  | refine da_nil ?_
  | refine lk_dat ?_
  | refine lk_nil ?_
  | refine ak_dat ?_
  | refine ak_nil ?_
  | refine ak_at ?_
  | refine ak_lst ?_
  | refine lk_lst ?_
  | refine ak_dK ?_
  | refine ak_dT ?_
  | refine ak_vw ?_
  | refine lk_dT ?_
  | refine lk_dK ?_
  | refine da_star ?_
  | refine de_lstRg1 ?_
  | refine de_lstRg2 ?_
  | refine de_revL ?_
  | refine de_count ?_
  | refine de_index ?_
  | refine di_enum ?_
  | refine dt_tru ?_
  | refine de_fld ?_
  | refine de_prop ?_
  | refine di_rng1 ?_
  | refine di_rng2 ?_
  | refine di_list ?_
  | refine di_tup ?_
  | refine di_seq ?_
  | refine di_zip ?_
  | refine ops_int ?_
  | (refine ops_cat (by with_unfolding_all rfl) (by with_unfolding_all rfl) ?side ?_; (case side => walk_at "len"))
  | (refine ops_catA ?side ?_; (case side => walk_at "len"))
  | refine ops_eqI ?_
  | refine ops_neI ?_
  | refine ops_bool ?_
  | (refine ops_intC ?side ?_; (case side => walk_at "side"))
  | refine cb_lenL (by with_unfolding_all rfl) ?_
  | refine cb_lenT (by with_unfolding_all rfl) ?_
  | refine cb_lenK (by with_unfolding_all rfl) ?_
  | refine cb_max2 ?_
  | refine cb_min2 ?_
  | refine cb_int ?_
  | refine ⟨fun _ => ?_, fun z => Bool.noConfusion z⟩
  | refine ⟨fun z => Bool.noConfusion z, fun _ => ?_⟩
  | refine ⟨rfl, ?_⟩
  | refine ⟨_, rfl, ?_⟩
  | refine ⟨_, Or.inl (by with_unfolding_all rfl), ?_⟩
  | (with_unfolding_all refine ⟨_, true, rfl, rfl, (fun _ z => by cases z), rfl, ?_⟩)
  | (with_unfolding_all refine ⟨_, false, rfl, rfl, (fun _ z => by cases z), rfl, ?_⟩))
local macro_rules | `(tactic| walk_at "d") => `(tactic| repeat walk_at "d1")
local macro_rules | `(tactic| walk_at "wk") => `(tactic| repeat first | exact Wk.nil | refine Wk.keep ?_ | refine Wk.drop ?_)
section
variable {P : Program} {w : World} {K : PySem.W.Frag} {mg : Str → Option Value} {base : Heap} {f : Addr} {fd : FuncData} {a_Plan a_BadRounds a_BadTeam a_WrongTimes : Addr}
def PlOk (d : D) : Prop := ∀ rs, d = .lst rs → ∀ r ∈ rs, ∀ x ∈ itemsL r, Pl 8 x

def C_law_wanted : Fc := fun _ W m ss Φ Ξ => ∃ (n : Nat) (gs : List (Nat × Nat)) (d : D), ss = [.dat (.int n), .dat (.dic (gD gs)), .dat d] ∧ n ≤ 10 ∧ GGm n gs ∧ RdOk d ∧ PlOk d ∧ Φ m (.dat (wantP n gs d))

abbrev s_law_wanted : Stmt := (top 52)
abbrev N_law_wanted : List Str := ["_law_people_here", "_law_games", "_law_rounds", "_law_teams_here", "_law_row", "_law_team", "_law_value", "_law_many", "_law_item"]
theorem sc_law_wanted : FnScope N_law_wanted ["_law_people_here", "_law_games", "_law_rounds"] (defScope s_law_wanted) := ⟨rfl, rfl, rfl, by decide +kernel, rfl, by decide +kernel, by decide +kernel⟩
theorem ok_law_wanted (F : FnP K "_law_wanted" s_law_wanted f fd) (b : BI mg) (c_law_teams : Cl P w K mg base CX0 2 "_law_teams" ["_law_people_here", "_law_games"] C_law_teams) : FnOk P w K mg base CX0 3 f fd ["_law_people_here", "_law_games", "_law_rounds"] (spF K C_law_wanted) := by
  have hlen := spF_len (K := K) (C := C_law_wanted) (m := 3) fun κ W m ss Φ Ξ ⟨n, gs, d, e, _⟩ => by first | exact e | (rw [e]; rfl)
  refine F.ok sc_law_wanted hlen ?_
  intro cdv A outer s H vs Q E hr h
  refine ⟨_, PSs.nox (pss_cons (ps_set (i := 3) sc_law_wanted.nd rfl (by first | exact Or.inl rfl | exact Or.inr rfl) (k_cl0 c_law_teams rfl hr (pa_cons (pv 0) (pa_cons (pv 1) pa_nil))))
      (pss_cons (ps_if (PW.pt (pw_or (pt_not (pt_val (pe_callB (k_isi (K := K) rfl) rfl b.isinstance boot_isinstance (pa_cons (pv 2) (pa_cons (pe_bltn (v := .ty "list") rfl b.list_ boot_list rfl) pa_nil))))) (pw_or1 (pt_not (pt_chain op_le op_le pe_int (pe_callB (k_len (K := K) rfl) rfl b.len boot_len (pa_cons (pv 2) pa_nil)) pe_int))))) (pss_one (ps_ret (pe_tup (pa_cons pe_str (pa_cons (pv 2) pa_nil))))) pss_nil)
      (pss_cons (ps_if (pt_not (pt_val (pe_callB (k_all (K := K) rfl rfl) rfl b.all boot_all (pa_cons (pe_lc (own := [("_law_row", 4)]) rfl sc_law_wanted.nd (k_piL (K := K) rfl (pv 2)) (blkOk_by (own := [("_law_row", 4)]) (N := N_law_wanted) (sc := (defScope s_law_wanted)) (by decide +kernel)) (fun _ _ _ _ _ => (pg_name (i := 4) sc_law_wanted.nd rfl (by first | exact Or.inl rfl | exact Or.inr rfl))) (fun _ _ _ _ _ => pts_nil) (fun _ _ _ _ _ => (pe_callB (k_isi (K := K) rfl) rfl b.isinstance boot_isinstance (pa_cons (pv 4) (pa_cons (pe_bltn (v := .ty "list") rfl b.list_ boot_list rfl) pa_nil))))) pa_nil)))) (pss_one (ps_ret (pe_tup (pa_cons pe_str (pa_cons (pv 2) pa_nil))))) pss_nil)
      (pss_cons (ps_for PassesOwn.never rfl (k_piL (K := K) rfl (pv 2)) (pg_name (i := 4) sc_law_wanted.nd rfl (by first | exact Or.inl rfl | exact Or.inr rfl))
      (pss_one (ps_for PassesOwn.never rfl (k_piL (K := K) rfl (pv 4)) (pg_name (i := 6) sc_law_wanted.nd rfl (by first | exact Or.inl rfl | exact Or.inr rfl))
      (pss_one (ps_if (PW.pt (pw_or (pt_cmpR (k_notInD (K := K) rfl (hu65 hr)) (pv 6) (pv 3) rfl) (pw_or1 (pt_val (pe_callB (k_any (K := K) rfl rfl) rfl b.any boot_any (pa_cons (pe_lc (own := [("_law_item", 8)]) rfl sc_law_wanted.nd (k_piT (K := K) rfl (pv 6)) (blkOk_by (own := [("_law_item", 8)]) (N := N_law_wanted) (sc := (defScope s_law_wanted)) (by decide +kernel)) (fun _ _ _ _ _ => (pg_name (i := 8) sc_law_wanted.nd rfl (by first | exact Or.inl rfl | exact Or.inr rfl))) (fun _ _ _ _ _ => pts_nil) (fun _ _ _ _ _ => (pe_callB (k_isi (K := K) rfl) rfl b.isinstance boot_isinstance (pa_cons (pv 8) (pa_cons (pe_bltn (v := .ty "bool") rfl b.bool_ boot_bool rfl) pa_nil))))) pa_nil)))))) (pss_one (ps_ret (pe_tup (pa_cons pe_str (pa_cons (pv 6) pa_nil))))) pss_nil)))))
      (pss_cons (ps_for PassesOwn.never rfl (k_piL (K := K) rfl (pv 3)) (pg_name (i := 5) sc_law_wanted.nd rfl (by first | exact Or.inl rfl | exact Or.inr rfl))
      (pss_cons (ps_set (i := 7) sc_law_wanted.nd rfl (by first | exact Or.inl rfl | exact Or.inr rfl) (pe_callB (k_sum (K := K) rfl rfl) rfl b.sum boot_sum (pa_cons (pe_lc (own := [("_law_row", 4)]) rfl sc_law_wanted.nd (k_piL (K := K) rfl (pv 2)) (blkOk_by (own := [("_law_row", 4)]) (N := N_law_wanted) (sc := (defScope s_law_wanted)) (by decide +kernel)) (fun _ _ _ _ _ => (pg_name (i := 4) sc_law_wanted.nd rfl (by first | exact Or.inl rfl | exact Or.inr rfl))) (fun _ _ _ _ _ => pts_nil) (fun _ _ _ _ _ => (k_countD (K := K) rfl hr.units (pv 4) (pa_cons (pv 5) pa_nil)))) pa_nil)))
      (pss_one (ps_if (pt_cmpR (k_neD (K := K) rfl hr.units) (pv 7) (pe_dget (hu_of hr) (pv 1) (pe_callB (k_len (K := K) rfl) rfl b.len boot_len (pa_cons (pv 5) pa_nil)) (fun _ _ => rfl)) (nomark _)) (pss_one (ps_ret (pe_tup (pa_cons pe_str (pa_cons (pv 5) (pa_cons (pv 7) pa_nil)))))) pss_nil))))
      (pss_one (ps_ret pe_non))))))), ?_⟩
  refine DL.run_fnP  [.no, .no, .no, .no, .no, .no] (Nm := N_law_wanted) (n := 3) (k := 6) rfl (hlen _ _ _ _ h) rfl h fun κ W m ss Φ Ξ G hc => ?_
  try dsimp only [cxOf, Cx.nox, Cx.wish, Cx.blk]
  obtain ⟨n, gs, d, rfl, n10, gg, hd, hp, hΦ⟩ := hc
  have etl := ET_len n10 gg
  walk_at "d"
  refine ⟨n, gs, rfl, n10, gg, ?_⟩
  refine ⟨rfl, ds_frz (i := 3) rfl ?_⟩
  dsimp only [O.frz, O1.frz, List.set_cons_zero, List.set_cons_succ]
  cases d with
  | tup xs => exact absurd rfl (hd.nt xs)
  | scr ns => exact absurd rfl (hd.ns ns)
  | dit ds => exact absurd rfl (hd.a.2 ds)
  | ins C fs => exact absurd hd.a.1 Bool.false_ne_true
  | lst rs =>
    obtain ⟨q1, q2, q3⟩ := hd.row rs rfl
    walk_at "d"
    by_cases k1 : 1 ≤ rs.length
    · rw [show decide ((1 : Int) ≤ (rs.length : Nat)) = true by simp; omega]
      walk_at "d"
      by_cases k2 : rs.length ≤ 130
      · rw [show decide (((rs.length : Nat) : Int) ≤ 130) = true by simp; omega]
        walk_at "d"
        refine de_lcMap (f := fun r => .bl (isLstD r)) ?_
        walk_at "d"
        refine ⟨by omega, fun r hr => ⟨_, dg_name (by simp), ?_⟩, ?_⟩
        · obtain ⟨a1, a2, a3, _⟩ := q3 r hr
          cases r with
          | tup xs => exact absurd rfl (a2 xs)
          | scr ns => exact absurd rfl (a3 ns)
          | dit ds => exact absurd rfl (a1.2 ds)
          | ins C fs => exact absurd a1.1 Bool.false_ne_true
          | _ => walk_at "d"; exact rfl
        walk_at "d"
        refine cb_allM ?_
        by_cases k3 : rs.all isLstD = true
        · rw [k3]
          have hrows : rowsL (.lst rs) = some (rs.map itemsL) := if_pos ⟨k1, k2, k3⟩
          walk_at "d"
          refine ds_forW (vs := [4]) ?_
          walk_at "d"
          refine ⟨fun i m' ρ => m' = m ∧ ((rs.take i).map itemsL).flatten.find? (badG n gs) = none ∧ ρ = [.dat (.int n), .dat (.dic (gD gs)), .dat (.lst rs), .dat (.lst ((ET n gs).map tD)), .no, .no, .no, .no, .no], ⟨_, Wk.refl _, rfl, rfl, rfl, rfl⟩, ?_, ?_⟩
          · rintro i r m' ρ hr ⟨rfl, hf, rfl⟩
            have hrm := List.mem_of_getElem? hr
            obtain ⟨xs, rfl⟩ : ∃ xs, r = .lst xs := by
              have := List.all_eq_true.mp k3 r hrm
              cases r with
              | lst xs => exact ⟨xs, rfl⟩
              | _ => cases this
            have q4 := (q3 _ hrm).2.2.2
            have p4 := hp rs rfl _ hrm
            refine ⟨_, dg_name (by simp), ?_⟩
            refine ds_forW (vs := [6]) ?_
            walk_at "d"
            refine ⟨fun j m'' ρ => m'' = m' ∧ (((rs.take i).map itemsL).flatten ++ xs.take j).find? (badG n gs) = none ∧ ρ = [.dat (.int n), .dat (.dic (gD gs)), .dat (.lst rs), .dat (.lst ((ET n gs).map tD)), .no, .no, .no, .no, .no], ⟨_, by walk_at "wk", rfl, rfl, by simpa using hf, rfl⟩, ?_, ?_⟩
            · rintro j v m'' ρ hv ⟨rfl, hg, rfl⟩
              have hvm := List.mem_of_getElem? hv
              have hbad : badG n gs v = true → wantP n gs (.lst rs) = .tup [.str "team", v] := fun hb => by
                have e0 : firstB n gs (rs.map itemsL) = some v := by
                  unfold firstB
                  have e1 : (rs.map itemsL).flatten = (((rs.take i).map itemsL).flatten ++ xs.take j) ++ (v :: (xs.drop (j + 1) ++ ((rs.drop (i + 1)).map itemsL).flatten)) := by
                    obtain ⟨hi, er⟩ := List.getElem?_eq_some_iff.mp hr
                    obtain ⟨hj, ev⟩ := List.getElem?_eq_some_iff.mp hv
                    conv => lhs; rw [← List.take_append_drop i rs, List.drop_eq_getElem_cons hi, er]
                    have e2 : xs = xs.take j ++ v :: xs.drop (j + 1) := by
                      conv => lhs; rw [← List.take_append_drop j xs, List.drop_eq_getElem_cons hj, ev]
                    rw [List.map_append, List.flatten_append, List.map_cons, List.flatten_cons]
                    show _ ++ (xs ++ _) = _
                    conv => lhs; rw [e2]
                    simp
                  rw [e1, List.find?_append, hg]
                  simp [hb]
                unfold wantP
                rw [hrows]
                dsimp only
                rw [e0]
              have hgood : badG n gs v = false → (((rs.take i).map itemsL).flatten ++ xs.take (j + 1)).find? (badG n gs) = none := fun hb => by
                rw [List.take_add_one, hv, ← List.append_assoc, List.find?_append, hg]
                simp [hb]
              have hbl := badL_eq gg v
              unfold badL at hbl
              refine ⟨_, dg_name (by simp), ?_⟩
              walk_at "d"
              refine ops_notInP (d := v) (ds := (ET n gs).map tD) ((p4 v hvm).up (by decide)) (fun e he => by obtain ⟨t, _, rfl⟩ := List.mem_map.mp he; exact tD_pl t) rfl rfl ((ET n gs).any fun t => like t v) (fun x xs h1 h2 => any_like h1 h2) ?_
              cases hlk : ((ET n gs).any fun t => like t v) with
              | false =>
                rw [hlk] at hbl
                walk_at "d"
                rw [hbad hbl.symm] at hΦ
                exact hΦ
              | true =>
                rw [hlk] at hbl
                obtain ⟨t, htm, hl⟩ := List.any_eq_true.mp hlk
                obtain ⟨vs, rfl⟩ : ∃ vs, v = .tup vs := by
                  cases v with
                  | tup vs => exact ⟨vs, rfl⟩
                  | _ => cases hl
                have av := (q4 _ hvm).2 vs rfl
                walk_at "d"
                refine de_lcMap (f := fun x => .bl (isBl x)) ?_
                walk_at "d"
                refine ⟨?_, fun x hx => ⟨_, dg_name (by simp), ?_⟩, ?_⟩
                · rw [likeL_len (show likeL t vs = true from hl)]
                  have := (ET_team gg htm).1.l4
                  omega
                · have ax := av x hx
                  cases x with
                  | dit ds => exact absurd rfl (ax.2 ds)
                  | ins C fs => exact absurd ax.1 Bool.false_ne_true
                  | _ => walk_at "d"; exact rfl
                walk_at "d"
                refine cb_anyM ?_
                cases hab : vs.any isBl with
                | true =>
                  rw [show (itemsT (D.tup vs)).any isBl = true from hab] at hbl
                  walk_at "d"
                  rw [hbad hbl.symm] at hΦ
                  exact hΦ
                | false =>
                  rw [show (itemsT (D.tup vs)).any isBl = false from hab] at hbl
                  walk_at "d"
                  exact ⟨_, by walk_at "wk", rfl, rfl, hgood hbl.symm, rfl⟩
            · rintro m'' ρ ⟨rfl, hg, rfl⟩
              refine ⟨_, Wk.refl _, rfl, rfl, ?_, rfl⟩
              rw [List.take_length] at hg
              rw [List.take_add_one, hr]
              simpa [itemsL] using hg
          · rintro m' ρ ⟨rfl, hf, rfl⟩
            rw [List.take_length] at hf
            obtain ⟨rt, rfl, hT⟩ := rows_teams (fun r hr => List.all_eq_true.mp k3 r hr) hf
            have hw : ∀ o : Option (List Nat), firstW n gs rt.flatten = o → wantP n gs (.lst (rt.map rwD)) = (match o with | some t => .tup [.str "times", tD t, .int (rt.flatten.count t : Nat)] | none => .non) := fun o ho => by
              unfold wantP
              rw [hrows]
              dsimp only
              rw [firstB_rw hT]
              dsimp only
              rw [decF_rw, ho]
              all_goals (cases o <;> rfl)
            rw [flat_len_rw] at q2
            refine ds_seq ?_
            refine ds_forW (vs := [5]) ?_
            walk_at "d"
            refine ⟨fun j m'' ρ => m'' = m' ∧ ((ET n gs).take j).find? (badT gs rt.flatten) = none ∧ ρ = [.dat (.int n), .dat (.dic (gD gs)), .dat (.lst (rt.map rwD)), .dat (.lst ((ET n gs).map tD)), .no, .no, .no, .no, .no], ⟨_, Wk.refl _, rfl, rfl, rfl, rfl⟩, ?_, ?_⟩
            · rintro j d m'' ρ hd2 ⟨rfl, hf2, rfl⟩
              rw [List.getElem?_map] at hd2
              cases ht : (ET n gs)[j]? with
              | none => rw [ht] at hd2; cases hd2
              | some t =>
                rw [ht] at hd2
                cases hd2
                obtain ⟨v, hg2⟩ := Option.isSome_iff_exists.mp (ET_team gg (List.mem_of_getElem? ht)).2
                have gn : gN gs t = v := by unfold gN; rw [hg2]; rfl
                refine ⟨_, dg_name (by simp), ?_⟩
                walk_at "d"
                refine de_lcMap (f := fun r => .int ((decR r).count t : Nat)) ?_
                walk_at "d"
                refine ⟨by rw [List.length_map] at q1 ⊢; omega, fun r hr => ⟨_, dg_name (by simp), ?_⟩, ?_⟩
                · obtain ⟨q, hq, rfl⟩ := List.mem_map.mp hr
                  refine de_countD ?_
                  walk_at "d"
                  refine ⟨q.map tD, _, rfl, tDs_py q, plain_teams q, ?_⟩
                  walk_at "d"
                  refine ⟨tD t, _, rfl, tD_py t, plain_tD t, depth_tD t, ?_⟩
                  rw [cnt_teams]
                  exact ⟨rfl, by rw [decR_eq]; rfl⟩
                have es : ((rt.map rwD).map fun r => D.int ((decR r).count t : Nat)) = dN (rt.map fun q => q.count t) := by
                  unfold dN
                  rw [List.map_map, List.map_map]
                  apply List.map_congr_left
                  intro q _
                  show D.int ((decR (rwD q)).count t : Nat) = D.int (q.count t : Nat)
                  rw [decR_eq]
                have ec : (rt.map fun q => q.count t).sum = rt.flatten.count t := by rw [List.count_flatten]
                walk_at "d"
                rw [es]
                refine cb_sumN (.inl rfl) ?_
                rw [ec]
                walk_at "d"
                rw [dN_len]
                refine ⟨_, _, _, rfl, rfl, look_g gg.nd (gv_some hg2), ?_⟩
                walk_at "d"
                by_cases hc : rt.flatten.count t = v
                · rw [show (!decide (((List.count t rt.flatten : Nat) : Int) = (v : Nat))) = false by rw [hc]; simp]
                  walk_at "d"
                  exact ⟨_, by walk_at "wk", rfl, rfl, find_next hf2 ht (by unfold badT; rw [gn]; simp; omega), rfl⟩
                · rw [show (!decide (((List.count t rt.flatten : Nat) : Int) = (v : Nat))) = true by simp; omega]
                  walk_at "d"
                  rw [hw _ (find_take hf2 ht (by unfold badT; rw [gn]; simp; omega))] at hΦ
                  exact hΦ
            · rintro m'' ρ ⟨rfl, hf2, rfl⟩
              rw [List.length_map, List.take_length] at hf2
              walk_at "d"
              rw [hw none hf2] at hΦ
              exact hΦ
        · have k3 : rs.all isLstD = false := by simpa using k3
          rw [k3]
          walk_at "d"
          have e : wantP n gs (.lst rs) = .tup [.str "rounds", .lst rs] := by
            unfold wantP
            rw [show rowsL (.lst rs) = none from if_neg fun z => by rw [z.2.2] at k3; cases k3]
          rw [e] at hΦ
          exact hΦ
      · rw [show decide (((rs.length : Nat) : Int) ≤ 130) = false by simp; omega]
        walk_at "d"
        have e : wantP n gs (.lst rs) = .tup [.str "rounds", .lst rs] := by
          unfold wantP
          rw [show rowsL (.lst rs) = none from if_neg fun z => k2 z.2.1]
        rw [e] at hΦ
        exact hΦ
    · rw [show decide ((1 : Int) ≤ (rs.length : Nat)) = false by simp; omega]
      walk_at "d"
      have e : wantP n gs (.lst rs) = .tup [.str "rounds", .lst rs] := by
        unfold wantP
        rw [show rowsL (.lst rs) = none from if_neg fun z => k1 z.1]
      rw [e] at hΦ
      exact hΦ
  | _ => walk_at "d"; exact hΦ


end
end Pf
set_option Elab.async false
set_option linter.all false
set_option maxRecDepth 100000
set_option maxHeartbeats 1000000
namespace Pf
open PySem PySem.Spec PyProof.Rows L2 DL
/-! ### what can be shown as a text -/
def ShP (B W : Nat) (v : D) : Prop := ∃ x, Px v x ∧ x.showable = true ∧ x.leavesShort 13 = true ∧ x.weight ≤ W ∧ x.depth ≤ B
theorem ShP.up {B W B' W' : Nat} {v : D} (h : ShP B W v) (hB : B ≤ B') (hW : W ≤ W') : ShP B' W' v := by
  obtain ⟨x, a, b, c, d, e⟩ := h
  exact ⟨x, a, b, c, by omega, by omega⟩
theorem sh_non {B W : Nat} : ShP B W .non := ⟨.none, .non, rfl, rfl, Nat.zero_le _, Nat.zero_le _⟩
theorem sh_bl {B W : Nat} (b : Bool) : ShP B W (.bl b) := ⟨.bool b, .bl b, rfl, rfl, Nat.zero_le _, Nat.zero_le _⟩
theorem sh_int {B W : Nat} {i : Int} (h : i.natAbs < 1000) (hW : 10 ≤ W) : ShP B W (.int i) := by
  refine ⟨.int i, .int i, ?_, ?_, ?_, Nat.zero_le _⟩
  · unfold PyData.showable
    have : i.natAbs.log2 ≤ 10 := by
      by_cases z : i.natAbs = 0
      · rw [z]; decide
      · have := (Nat.log2_lt (k := 10) z).mpr (by omega)
        omega
    simp
    omega
  · unfold PyData.leavesShort
    exact decide_eq_true (PyData.shown_int_le (by omega))
  · unfold PyData.weight
    split
    · exact Nat.zero_le _
    · rename_i z
      have z : i.natAbs ≠ 0 := fun e => z (by simp; omega)
      have := (Nat.log2_lt (k := 10) z).mpr (by omega)
      omega
theorem sh_str {B W : Nat} {y : Str} (h : (y.cps.toList.all fun c => decide (c < 16 ^ 8)) = true) (hW : y.cps.size ≤ W) : ShP B W (.str y) := ⟨.str y, .str y, rfl, by unfold PyData.leavesShort; exact h, by unfold PyData.weight; exact hW, Nat.zero_le _⟩
theorem shL {B W : Nat} : ∀ {ds : List D}, (∀ v ∈ ds, ShP B W v) → ∃ xs, PxL ds xs ∧ PyData.showableAll xs = true ∧ PyData.leavesShortAll 13 xs = true ∧ PyData.weightAll xs ≤ (W + 1) * ds.length ∧ PyData.depthAll xs ≤ B
  | [], _ => ⟨[], .nil, rfl, rfl, Nat.zero_le _, Nat.zero_le _⟩
  | d :: ds, h => by
    obtain ⟨x, a, b, c, e, f⟩ := h d List.mem_cons_self
    obtain ⟨xs, a2, b2, c2, e2, f2⟩ := shL fun v hv => h v (List.mem_cons_of_mem _ hv)
    refine ⟨x :: xs, .cons a a2, ?_, ?_, ?_, ?_⟩
    · rw [PyData.showableAll, b, b2]; rfl
    · rw [PyData.leavesShortAll, c, c2]; rfl
    · rw [PyData.weightAll, List.length_cons, Nat.mul_add]
      omega
    · rw [PyData.depthAll]; exact Nat.max_le.mpr ⟨f, f2⟩
theorem sh_lst {B W n : Nat} {ds : List D} (h : ∀ v ∈ ds, ShP B W v) (hn : ds.length ≤ n) : ShP (B + 1) ((W + 1) * n) (.lst ds) := by
  obtain ⟨xs, a, b, c, e, f⟩ := shL h
  refine ⟨.list xs, .lst a, by unfold PyData.showable; exact b, by unfold PyData.leavesShort; exact c, ?_, by rw [PyData.depth]; omega⟩
  unfold PyData.weight
  exact Nat.le_trans e (Nat.mul_le_mul_left _ hn)
theorem sh_tup {B W n : Nat} {ds : List D} (h : ∀ v ∈ ds, ShP B W v) (hn : ds.length ≤ n) : ShP (B + 1) ((W + 1) * n) (.tup ds) := by
  obtain ⟨xs, a, b, c, e, f⟩ := shL h
  refine ⟨.tuple xs, .tup a, by unfold PyData.showable; exact b, by unfold PyData.leavesShort; exact c, ?_, by rw [PyData.depth]; omega⟩
  unfold PyData.weight
  exact Nat.le_trans e (Nat.mul_le_mul_left _ hn)
/-- what may stand in a row -/
def ItOk (v : D) : Prop := askT v ∧ Pl 8 v ∧ ShP 4 300 v
theorem it_ints {l : List D} (h : ∀ d ∈ l, (∃ i : Int, d = .int i ∧ i.natAbs < 1000) ∨ d = .non ∨ ∃ b, d = .bl b) (hl : l.length ≤ 20) : ItOk (.tup l) := by
  refine ⟨⟨⟨rfl, fun _ z => by cases z⟩, fun xs e x hx => ?_⟩, (Pl.tup (n := 0) fun d hd => ?_).up (by decide), (sh_tup (B := 0) (W := 10) (fun d hd => ?_) hl).up (by decide) (by decide)⟩
  · cases e
    rcases h x hx with ⟨i, rfl, _⟩ | rfl | ⟨b, rfl⟩ <;> exact ⟨rfl, fun _ z => by cases z⟩
  · rcases h d hd with ⟨i, rfl, _⟩ | rfl | ⟨b, rfl⟩
    · exact .int _
    · exact .non
    · exact .bl _
  · rcases h d hd with ⟨i, rfl, hi⟩ | rfl | ⟨b, rfl⟩
    · exact sh_int hi (by decide)
    · exact sh_non
    · exact sh_bl _
theorem it_team {n : Nat} {t : List Nat} (h : Team n t) (hn : n ≤ 10) : ItOk (tD t) := it_ints (fun d hd => by
  obtain ⟨k, hk, rfl⟩ := dN_mem hd
  have := h.lt k hk
  exact .inl ⟨_, rfl, by omega⟩) (by rw [dN_len]; have := h.l4; omega)
/-- what may stand as a row -/
def RowD (r : D) : Prop := (∃ xs, r = .lst xs ∧ ∀ v ∈ xs, ItOk v) ∨ (ask r ∧ isL r = false ∧ ShP 4 300 r ∧ Wf 8 r)
theorem RowD.facts {r : D} (h : RowD r) : ask r ∧ (∀ xs, r ≠ .tup xs) ∧ (∀ ns, r ≠ .scr ns) ∧ ∀ x ∈ itemsL r, ItOk x := by
  rcases h with ⟨xs, rfl, h⟩ | ⟨h1, h2, _⟩
  · exact ⟨⟨rfl, fun _ z => by cases z⟩, fun _ z => (by cases z), fun _ z => (by cases z), h⟩
  · refine ⟨h1, fun xs z => (by subst z; cases h2), fun ns z => (by subst z; cases h2), fun x hx => ?_⟩
    cases r with
    | lst xs => cases h2
    | _ => cases hx
theorem shRows : ∀ {rs : List D}, (∀ r ∈ rs, RowD r) → ∃ xs, PxL rs xs ∧ PyData.showableAll xs = true ∧ PyData.leavesShortAll 13 xs = true ∧ PyData.weightAll xs ≤ 301 * (rs.flatMap itemsL).length + 301 * rs.length ∧ PyData.depthAll xs ≤ 5
  | [], _ => ⟨[], .nil, rfl, rfl, Nat.zero_le _, Nat.zero_le _⟩
  | r :: rs, h => by
    obtain ⟨xs, a2, b2, c2, e2, f2⟩ := shRows fun v hv => h v (List.mem_cons_of_mem _ hv)
    have one : ∃ x, Px r x ∧ x.showable = true ∧ x.leavesShort 13 = true ∧ x.weight ≤ 301 * (itemsL r).length + 300 ∧ x.depth ≤ 5 := by
      rcases h r List.mem_cons_self with ⟨ys, rfl, hy⟩ | ⟨_, _, h, _⟩
      · obtain ⟨x, a, b, c, e, f⟩ := sh_lst (n := ys.length) (fun v hv => (hy v hv).2.2) (Nat.le_refl _)
        exact ⟨x, a, b, c, by show x.weight ≤ 301 * ys.length + 300; omega, f⟩
      · obtain ⟨x, a, b, c, e, f⟩ := h
        exact ⟨x, a, b, c, by omega, by omega⟩
    obtain ⟨x, a, b, c, e, f⟩ := one
    refine ⟨x :: xs, .cons a a2, ?_, ?_, ?_, ?_⟩
    · rw [PyData.showableAll, b, b2]; rfl
    · rw [PyData.leavesShortAll, c, c2]; rfl
    · rw [PyData.weightAll, List.flatMap_cons, List.length_append, List.length_cons]
      omega
    · rw [PyData.depthAll]; exact Nat.max_le.mpr ⟨f, f2⟩
/-- what comes out of a spoiling -/
def SpOut (N : Nat) (d : D) : Prop := (∃ rs : List D, d = .lst rs ∧ rs.length ≤ 131 ∧ (rs.flatMap itemsL).length ≤ N ∧ ∀ r ∈ rs, RowD r) ∨ (ask d ∧ isL d = false ∧ ShP 4 300 d ∧ Wf 8 d)
/-- rows that go into it -/
structure RowsIn (N : Nat) (rs : List (List D)) : Prop where
  l1 : 1 ≤ rs.length
  l2 : rs.length ≤ 131
  it : ∀ xs ∈ rs, ∀ v ∈ xs, ItOk v
  tot : rs.flatten.length ≤ N
theorem flat_lst : ∀ rs : List (List D), ((rs.map D.lst).flatMap itemsL) = rs.flatten
  | [] => rfl
  | r :: rs => by rw [List.map_cons, List.flatMap_cons, flat_lst rs, List.flatten_cons]; rfl
theorem RowsIn.out {N : Nat} {rs : List (List D)} (h : RowsIn N rs) : SpOut N (.lst (rs.map .lst)) := .inl ⟨_, rfl, by rw [List.length_map]; exact h.l2, by rw [flat_lst]; exact h.tot, fun r hr => by
  obtain ⟨xs, hx, rfl⟩ := List.mem_map.mp hr
  exact .inl ⟨xs, rfl, h.it xs hx⟩⟩
theorem SpOut.rd {N : Nat} {d : D} (h : SpOut N d) (hN : N ≤ 1000) : RdOk d := by
  rcases h with ⟨rs, rfl, h1, h2, h3⟩ | ⟨h1, h2, _⟩
  · refine ⟨⟨rfl, fun _ z => by cases z⟩, fun _ z => (by cases z), fun _ z => (by cases z), fun rs' e => ?_⟩
    cases e
    exact ⟨by omega, by omega, fun r hr => let ⟨a, b, c, d⟩ := (h3 r hr).facts; ⟨a, b, c, fun x hx => (d x hx).1⟩⟩
  · exact ⟨h1, fun xs z => (by subst z; cases h2), fun ns z => (by subst z; cases h2), fun rs z => (by subst z; cases h2)⟩
theorem SpOut.pl {N : Nat} {d : D} (h : SpOut N d) : PlOk d := by
  rcases h with ⟨rs, rfl, h1, h2, h3⟩ | ⟨h1, h2, _⟩
  · intro rs' e r hr x hx
    cases e
    exact ((h3 r hr).facts.2.2.2 x hx).2.1
  · intro rs z
    subst z
    cases h2
theorem SpOut.sh {N : Nat} {d : D} (h : SpOut N d) (hN : N ≤ 1000) : ShP 6 (2 ^ 20) d := by
  rcases h with ⟨rs, rfl, h1, h2, h3⟩ | ⟨_, _, h, _⟩
  · obtain ⟨xs, a, b, c, e, f⟩ := shRows h3
    refine ⟨.list xs, .lst a, by unfold PyData.showable; exact b, by unfold PyData.leavesShort; exact c, ?_, by rw [PyData.depth]; omega⟩
    unfold PyData.weight
    have : (2 : Nat) ^ 20 = 1048576 := by decide
    omega
  · exact h.up (by decide) (by decide)
def isRows : D → Bool
  | .lst rs => !rs.isEmpty && rs.all isLstD
  | _ => false
theorem SpOut.rows {N : Nat} {d : D} (h : SpOut N d) (hr : isRows d = true) : ∃ rs : List (List D), d = .lst (rs.map .lst) ∧ RowsIn N rs := by
  rcases h with ⟨rs, rfl, h1, h2, h3⟩ | ⟨h1, h2, _⟩
  · unfold isRows at hr
    rw [Bool.and_eq_true, List.all_eq_true] at hr
    have e : rs = (rs.map itemsL).map D.lst := by
      rw [List.map_map]
      conv => lhs; rw [← List.map_id rs]
      apply List.map_congr_left
      intro r hr2
      have := hr.2 r hr2
      cases r with
      | lst xs => rfl
      | _ => cases this
    refine ⟨rs.map itemsL, by rw [← e], ?_, by rw [List.length_map]; exact h1, fun xs hx v hv => ?_, by rw [← List.flatMap_def]; exact h2⟩
    · rw [List.length_map]
      cases rs with
      | nil => have := hr.1; simp at this
      | cons a b => simp
    · obtain ⟨r, hr3, rfl⟩ := List.mem_map.mp hx
      exact (h3 r hr3).facts.2.2.2 v hv
  · cases d with
    | lst rs => cases h2
    | _ => cases hr
theorem ch_pos : ∀ {n t : Nat}, t ≤ n → 1 ≤ KM.ch n t
  | _, 0, _ => by rw [KM.ch_zero]; exact Nat.le_refl _
  | 0, t + 1, h => by omega
  | n + 1, t + 1, h => by
    rw [KM.ch_ss]
    have := ch_pos (n := n) (t := t) (by omega)
    omega
theorem ET_pos {n : Nat} {gs : List (Nat × Nat)} (hn : n ≤ 10) (hg : GGm n gs) : 1 ≤ (ET n gs).length := by
  have h1 := AT_len hn hg
  have h2 : 1 ≤ tot n gs := by
    have := hg.l1
    match gs, this, hg.ok with
    | (t, v) :: r, _, ok =>
      obtain ⟨o1, o2, o3, o4, o5⟩ := ok t v List.mem_cons_self
      unfold tot
      rw [List.map_cons, List.sum_cons]
      have h3 : 1 ≤ KM.ch n t := ch_pos o3
      have : 1 * 1 ≤ v * KM.ch n t := Nat.mul_le_mul o4 h3
      show 1 ≤ v * KM.ch n t + _
      omega
  cases hE : ET n gs with
  | nil =>
    unfold AT at h1
    rw [hE] at h1
    simp at h1
    omega
  | cons _ _ => simp
/-! ### rows as an own list of own lists -/
def nst (rs : List (List D)) : List DL.It := rs.map fun xs => DL.It.o (.lst xs)
theorem nst_len (rs : List (List D)) : (nst rs).length = rs.length := List.length_map ..
theorem at_nst {rs : List (List D)} {x : Nat} {xs : List D} (h : rs[x]? = some xs) : (nst rs)[x]? = some (.o (.lst xs)) := by unfold nst; rw [List.getElem?_map, h]; rfl
theorem set_nst (rs : List (List D)) (x : Nat) (xs : List D) : (nst rs).set x (.o (.lst xs)) = nst (rs.set x xs) := by unfold nst; rw [List.map_set]
theorem nst_frz (rs : List (List D)) : (nst rs).map DL.It.frz = rs.map D.lst := by unfold nst; rw [List.map_map]; rfl
theorem ixn {n x : Nat} (h : x < n) : ixN n (x : Int) = some x := by
  unfold ixN
  rw [if_pos (by omega), if_pos (by omega)]
  simp
theorem flat_setL : ∀ {rs : List (List D)} {x : Nat} {xs ys : List D}, rs[x]? = some xs → (rs.set x ys).flatten.length + xs.length = rs.flatten.length + ys.length
  | [], _, _, _, h => by simp at h
  | r :: rs, 0, xs, ys, h => by
    simp at h
    subst h
    simp
    omega
  | r :: rs, x + 1, xs, ys, h => by
    have := flat_setL (rs := rs) (x := x) (xs := xs) (ys := ys) (by simpa using h)
    rw [List.set_cons_succ, List.flatten_cons, List.flatten_cons, List.length_append, List.length_append]
    omega
theorem RowsIn.set {N : Nat} {rs : List (List D)} (h : RowsIn N rs) {x : Nat} {xs ys : List D} (hx : rs[x]? = some xs) (hy : ∀ v ∈ ys, ItOk v) (hl : ys.length ≤ xs.length + 1) : RowsIn (N + 1) (rs.set x ys) := by
  refine ⟨by rw [List.length_set]; exact h.l1, by rw [List.length_set]; exact h.l2, fun zs hz => ?_, ?_⟩
  · rcases List.mem_or_eq_of_mem_set hz with h1 | rfl
    · exact h.it zs h1
    · exact hy
  · have := flat_setL (ys := ys) hx
    have := h.tot
    omega
theorem RowsIn.up {N : Nat} {rs : List (List D)} (h : RowsIn N rs) : RowsIn (N + 1) rs := ⟨h.l1, h.l2, h.it, Nat.le_succ_of_le h.tot⟩
end Pf
set_option Elab.async false
set_option linter.all false
set_option maxRecDepth 100000
set_option maxHeartbeats 1000000
namespace Pf
open PySem PySem.Spec PyProof.Rows L2 DL
theorem sh_dic1 {B W : Nat} {k : Int} {v : D} (hk : ShP B W (.int k)) (h : ShP B W v) : ShP (B + 1) (2 * W + 2) (.dic [(.inl k, v)]) := by
  obtain ⟨x, a, b, c, d, e⟩ := h
  obtain ⟨y, a2, b2, c2, d2, e2⟩ := hk
  cases a2
  refine ⟨.dict [(.int k, x)], .dic rfl (.cons a .nil), ?_, ?_, ?_, ?_⟩
  · unfold PyData.showable
    simp [PyData.showableKv, b, b2]
  · unfold PyData.leavesShort
    simp [PyData.leavesShortKv, c, c2]
  · unfold PyData.weight
    simp [PyData.weightKv]
    omega
  · unfold PyData.depth
    simp [PyData.depthKv]
    omega
theorem it_plain {v : D} (h : ask v) (hn : ∀ xs, v ≠ .tup xs) (p : Pl 8 v) (s : ShP 4 300 v) : ItOk v := ⟨⟨h, fun xs e => absurd e (hn xs)⟩, p, s⟩
theorem it_zero : ItOk (.int 0) := it_plain ⟨rfl, fun _ z => by cases z⟩ (fun _ z => by cases z) (.int _) (sh_int (by decide) (by decide))
theorem it_non : ItOk .non := it_plain ⟨rfl, fun _ z => by cases z⟩ (fun _ z => by cases z) .non sh_non
theorem it_text : ItOk (.str (Str.ofString "0")) := it_plain ⟨rfl, fun _ z => by cases z⟩ (fun _ z => by cases z) (.str (by decide +kernel)) (sh_str (by decide +kernel) (by decide +kernel))
theorem it_list : ItOk (.lst [.int 0]) := it_plain ⟨rfl, fun _ z => by cases z⟩ (fun _ z => by cases z) (Pl.up (by decide) (Pl.lst (n := 0) fun d hd => by rw [List.mem_singleton] at hd; subst hd; exact .int _)) (ShP.up (sh_lst (B := 0) (W := 10) (n := 1) (fun d hd => by rw [List.mem_singleton] at hd; subst hd; exact sh_int (by decide) (by decide)) (by decide)) (by decide) (by decide))
theorem it_tt : ItOk (.tup [.tup [.int 0]]) := by
  have h1 : ∀ d ∈ [D.int 0], ShP 0 10 d := fun d hd => by rw [List.mem_singleton] at hd; subst hd; exact sh_int (by decide) (by decide)
  have h2 : ShP 1 11 (.tup [.int 0]) := sh_tup (n := 1) h1 (by decide)
  refine ⟨⟨⟨rfl, fun _ z => by cases z⟩, fun xs e x hx => ?_⟩, Pl.up (by decide) (Pl.tup (n := 1) fun d hd => ?_), ShP.up (sh_tup (B := 1) (W := 11) (n := 1) (fun d hd => ?_) (by decide)) (by decide) (by decide)⟩
  · cases e
    rw [List.mem_singleton] at hx
    subst hx
    exact ⟨rfl, fun _ z => by cases z⟩
  · rw [List.mem_singleton] at hd
    subst hd
    exact Pl.tup fun d hd => by rw [List.mem_singleton] at hd; subst hd; exact .int _
  · rw [List.mem_singleton] at hd
    subst hd
    exact h2
/-- a short tuple of small numbers, None, True -/
def smallD : D → Bool
  | .int i => decide (i.natAbs < 1000)
  | .non => true
  | .bl _ => true
  | _ => false
theorem it_small {l : List D} (h : l.all smallD = true) (hl : l.length ≤ 20) : ItOk (.tup l) := it_ints (fun d hd => by
  have := List.all_eq_true.mp h d hd
  cases d with
  | int i => exact .inl ⟨i, rfl, of_decide_eq_true this⟩
  | non => exact .inr (.inl rfl)
  | bl b => exact .inr (.inr ⟨b, rfl⟩)
  | _ => cases this) hl
def oddA (n : Nat) : List D := [.tup [.int n], .tup [.int 0, .int 0], .tup [.int 1, .int 0], .lst [.int 0], .tup [], .non, .int 0, .tup [.bl true], .str (Str.ofString "0"), .tup [.tup [.int 0]], .tup [.int (-1), .int 0], .tup [.int 0, .non]]
def oddB : List D := [.tup [.int 0, .int 2, .int 1], .tup [.int 0, .int 1, .int 1], .tup [.int 0, .int 1, .int 3, .int 2]]
theorem oddA_ok {n : Nat} (hn : n ≤ 10) : ∀ v ∈ oddA n, ItOk v := fun v hv => by
  unfold oddA at hv
  simp only [List.mem_cons, List.not_mem_nil, or_false] at hv
  obtain rfl | rfl | rfl | rfl | rfl | rfl | rfl | rfl | rfl | rfl | rfl | rfl := hv
  · exact it_small (by show (decide ((n : Int).natAbs < 1000) && true) = true; rw [Bool.and_true]; exact decide_eq_true (by omega)) (by show 1 ≤ 20; decide)
  · exact it_small (by decide) (by decide)
  · exact it_small (by decide) (by decide)
  · exact it_list
  · exact it_small (by decide) (by decide)
  · exact it_non
  · exact it_zero
  · exact it_small (by decide) (by decide)
  · exact it_text
  · exact it_tt
  · exact it_small (by decide) (by decide)
  · exact it_small (by decide) (by decide)
theorem oddB_ok : ∀ v ∈ oddB, ItOk v := fun v hv => by
  unfold oddB at hv
  simp only [List.mem_cons, List.not_mem_nil, or_false] at hv
  obtain rfl | rfl | rfl := hv
  · exact it_small (by decide) (by decide)
  · exact it_small (by decide) (by decide)
  · exact it_small (by decide) (by decide)
theorem it_rng {k : Nat} (h : k ≤ 10) : ItOk (.tup (rngD 0 k)) := it_ints (fun d hd => by
  unfold rngD at hd
  obtain ⟨i, hi, rfl⟩ := List.mem_map.mp hd
  have := List.mem_range.mp hi
  exact .inl ⟨_, rfl, by omega⟩) (by rw [rng_len]; omega)
def oddR : List D := [.non, .int 0, .str (Str.ofString "x"), .dic [(.inl 0, .int 1)]]
theorem oddR_ok : ∀ r ∈ oddR, RowD r := fun r hr => by
  unfold oddR at hr
  simp only [List.mem_cons, List.not_mem_nil, or_false] at hr
  obtain rfl | rfl | rfl | rfl := hr
  · exact .inr ⟨⟨rfl, fun _ z => by cases z⟩, rfl, sh_non, .leaf .non⟩
  · exact .inr ⟨⟨rfl, fun _ z => by cases z⟩, rfl, sh_int (by decide) (by decide), .leaf (.int _)⟩
  · exact .inr ⟨⟨rfl, fun _ z => by cases z⟩, rfl, sh_str (by decide +kernel) (by decide +kernel), .leaf (.str _)⟩
  · exact .inr ⟨⟨rfl, fun _ z => by cases z⟩, rfl, (sh_dic1 (B := 0) (W := 10) (sh_int (by decide) (by decide)) (sh_int (by decide) (by decide))).up (by decide) (by decide), .dic (n := 7) (by decide) fun p hp => by rw [List.mem_singleton] at hp; subst hp; exact .leaf (.int _)⟩
def oddW : List D := [.lst [], .non, .int 3, .dic [(.inl 0, .lst [])], .lst (List.replicate 131 (.lst [])), .str (Str.ofString "rounds")]
theorem oddW_ok (N : Nat) : ∀ d ∈ oddW, SpOut N d := fun d hd => by
  unfold oddW at hd
  simp only [List.mem_cons, List.not_mem_nil, or_false] at hd
  obtain rfl | rfl | rfl | rfl | rfl | rfl := hd
  · exact .inl ⟨[], rfl, by decide, Nat.zero_le _, fun r hr => by cases hr⟩
  · exact .inr ⟨⟨rfl, fun _ z => by cases z⟩, rfl, sh_non, .leaf .non⟩
  · exact .inr ⟨⟨rfl, fun _ z => by cases z⟩, rfl, sh_int (by decide) (by decide), .leaf (.int _)⟩
  · exact .inr ⟨⟨rfl, fun _ z => by cases z⟩, rfl, (sh_dic1 (B := 1) (W := 10) (sh_int (by decide) (by decide)) ((sh_lst (B := 0) (W := 0) (n := 0) (fun d hd => by cases hd) (by decide)).up (by decide) (by decide))).up (by decide) (by decide), .dic (n := 7) (by decide) fun p hp => by rw [List.mem_singleton] at hp; subst hp; exact .lst (n := 6) fun d hd => by cases hd⟩
  · refine .inl ⟨_, rfl, by rw [List.length_replicate]; decide, ?_, fun r hr => ?_⟩
    · have : (List.replicate 131 (D.lst [])).flatMap itemsL = [] := by decide +kernel
      rw [this]
      exact Nat.zero_le _
    · rw [List.eq_of_mem_replicate hr]
      exact .inl ⟨[], rfl, fun v hv => by cases hv⟩
  · exact .inr ⟨⟨rfl, fun _ z => by cases z⟩, rfl, sh_str (by decide +kernel) (by decide +kernel), .leaf (.str _)⟩
theorem set_out {N : Nat} {rs : List (List D)} (h : RowsIn N rs) {x : Nat} {r : D} (hr : RowD r) (hl : isL r = false) : SpOut N (.lst ((rs.map D.lst).set x r)) := by
  refine .inl ⟨_, rfl, by rw [List.length_set, List.length_map]; exact h.l2, ?_, fun s hs => ?_⟩
  · have key : ∀ (qs : List D) (x : Nat), ((qs.set x r).flatMap itemsL).length ≤ (qs.flatMap itemsL).length := by
      have hi : itemsL r = [] := by cases r <;> first | rfl | cases hl
      intro qs
      induction qs with
      | nil => intro x; simp
      | cons q qs ih =>
        intro x
        cases x with
        | zero => rw [List.set_cons_zero, List.flatMap_cons, List.flatMap_cons, hi]; simp
        | succ x =>
          have := ih x
          rw [List.set_cons_succ, List.flatMap_cons, List.flatMap_cons, List.length_append, List.length_append]
          omega
    have := key (rs.map D.lst) x
    rw [flat_lst] at this
    exact Nat.le_trans this h.tot
  · rcases List.mem_or_eq_of_mem_set hs with h1 | rfl
    · obtain ⟨xs, hx, rfl⟩ := List.mem_map.mp h1
      exact .inl ⟨xs, rfl, h.it xs hx⟩
    · exact hr
theorem oddR_nl : ∀ r ∈ oddR, isL r = false := by decide +kernel
theorem get_nat {α : Type} {l : List α} {k : Nat} (h : k < l.length) : atI l (k : Int) = some l[k] := by
  unfold atI
  rw [ixn h]
  exact List.getElem?_eq_getElem h
end Pf
set_option Elab.async false
set_option linter.all false
set_option maxRecDepth 100000
set_option maxHeartbeats 1000000
namespace DL
open PySem L2 Evl PySem.Spec PyProof.Rows
section
variable {ι : Type} {c : Cc ι} {m : ι} {ρ : List S} {te ti tk : TE} {t : TS} {N B C : ι → List S → Prop} {R : ι → S → Prop} {Φ : ι → S → Prop}
/-! ### items of an own list of lists, by another name -/
theorem EnvOk.elL {G H : Hp} {σ : L2.St} {k i j : Nat} {its : List It} {ds : List D} (e : EnvOk c m G H σ ρ) (hk : ρ[k]? = some (.el i j)) (hi : ρ[i]? = some (.own (.nest its))) (hj : its[j]? = some (.o (.lst ds))) : ∃ q xs, σ[k]? = some (some (.ref q)) ∧ H q = some (.lst xs) ∧ RpL c.K G xs ds := by
  obtain ⟨q, a, xs, hx, rx⟩ := e.elAt hk hi hj
  exact ⟨q, xs, a, hx, rx⟩
/-- x.pop(e), x an item -/
theorem ds_popE {k i j : Nat} {its : List It} {ds : List D} (hk : ρ[k]? = some (.el i j)) (hi : ρ[i]? = some (.own (.nest its))) (hj : its[j]? = some (.o (.lst ds))) (hl : ds.length < 1000000)
    (h : De c m te ρ fun m s => ∃ (n : Nat) (d : D), s = .dat (.int (n : Int)) ∧ ds[n]? = some d ∧ N m (ρ.set i (.own (.nest (its.set j (.o (.lst (ds.eraseIdx n)))))))) :
    Ds c m (tDrop (tBM c.K "list" rPopAt (tVar k) (tCons te tNil))) ρ N R B C := fun D σ G H e k1 _ _ _ => by
  obtain ⟨q, xs, a, hx, rx⟩ := e.elL hk hi hj
  refine ⟨_, a, .inl ⟨rfl, xs, SqL.of hx⟩, h σ G H e _ fun v s m' G' H' g r ⟨n, d, es, hd, hn⟩ => ?_⟩
  subst es
  cases r
  have e2 := e.grow g
  obtain ⟨q2, ys, a2, hy, ry⟩ := e2.elL hk hi hj
  rw [a] at a2
  cases a2
  obtain ⟨y, hy3, ry3⟩ := ry.getD hd
  have nl : n < ys.length := (List.getElem?_eq_some_iff.mp hy3).1
  have hly : ys.length = ds.length := ry.length
  have er : RpL c.K G' (ys.eraseIdx n) (ds.eraseIdx n) := by
    rw [List.eraseIdx_eq_take_drop_succ, List.eraseIdx_eq_take_drop_succ]
    exact (ry.take n).append (ry.drop (n + 1))
  exact ⟨q, ys, (n : Int), n, y, rfl, rfl, hy, by omega, by omega, (ixN_seq (n := ys.length) (j := n) (by unfold ixN; rw [if_pos (by omega), if_pos (by omega)]; simp)).1, hy3, k1 _ σ _ G' _ hn g.ex (e2.mutE hk hi hj a ⟨_, upd_same, er⟩)⟩
/-- x[e] = v, x an item -/
theorem ds_setE {k i j : Nat} {its : List It} {ds : List D} (hk : ρ[k]? = some (.el i j)) (hi : ρ[i]? = some (.own (.nest its))) (hj : its[j]? = some (.o (.lst ds)))
    (h : De c m te ρ fun m s => De c m tk ρ fun m s2 => ∃ d n l, s.frz = .dat d ∧ s2 = .dat (.int n) ∧ ixN ds.length n = some l ∧ N m (ρ.set i (.own (.nest (its.set j (.o (.lst (ds.set l d)))))))) :
    Ds c m (tAsg te (gSub (tVar k) tk rSetL)) ρ N R B C := fun D σ G H e k1 _ _ _ => by
  refine h σ G H e _ fun v s m1 G1 H1 g1 r1 h1 => ?_
  have e1 := e.grow g1
  obtain ⟨q, xs, a, _, _⟩ := e1.elL hk hi hj
  refine ⟨_, a, h1 σ G1 H1 e1 _ fun v2 s2 m2 G2 H2 g2 r2 ⟨d, n, l, es, es2, hl, hN⟩ => ?_⟩
  subst es2
  cases r2
  obtain ⟨G3, g3, r3⟩ := (r1.grow g2).freeze (g1.trans g2)
  rw [es] at r3
  have e3 := e.grow g3
  obtain ⟨q2, ys, a2, hy, ry⟩ := e3.elL hk hi hj
  rw [a] at a2
  cases a2
  exact ⟨q, ys, n, l, rfl, rfl, hy, by rw [ry.length]; exact hl, k1 _ σ m2 G3 _ hN g3.ex (e3.mutE hk hi hj a ⟨_, upd_same, ry.set r3 l⟩)⟩
/-- list.insert -/
def rIns : V → List V → Hp → VK → Prop := fun x vs H Q => ∃ (l : Addr) (xs : List V) (i : Int) (y : V), x = .ref l ∧ vs = [.int i, y] ∧ H l = some (.lst xs) ∧ xs.length < sizeLine ∧ 0 ≤ i ∧ i < 2 ^ 63 ∧ Q .non (upd H l (.lst (xs.take i.toNat ++ [y] ++ xs.drop i.toNat)))
theorem mt_ins {X : Cx} : MtR X "list.insert" rIns := mt_insert
/-- x.insert(e, v), x an item -/
theorem ds_insE {k i j : Nat} {its : List It} {ds : List D} (hk : ρ[k]? = some (.el i j)) (hi : ρ[i]? = some (.own (.nest its))) (hj : its[j]? = some (.o (.lst ds))) (hl : ds.length < 1000000)
    (h : De c m ti ρ fun m s => De c m te ρ fun m s2 => ∃ (n : Nat) (d : D), s = .dat (.int (n : Int)) ∧ s2.frz = .dat d ∧ n < 1000000 ∧ N m (ρ.set i (.own (.nest (its.set j (.o (.lst (ds.take n ++ [d] ++ ds.drop n)))))))) :
    Ds c m (tDrop (tBM c.K "list" rIns (tVar k) (tCons ti (tCons te tNil)))) ρ N R B C := fun D σ G H e k1 _ _ _ => by
  obtain ⟨q, xs, a, hx, rx⟩ := e.elL hk hi hj
  refine ⟨_, a, .inl ⟨rfl, xs, SqL.of hx⟩, h σ G H e _ fun v s m1 G1 H1 g1 r1 h1 => ?_⟩
  have e1 := e.grow g1
  refine h1 σ G1 H1 e1 _ fun v2 s2 m2 G2 H2 g2 r2 ⟨n, d, es, es2, nl, hN⟩ => ?_
  subst es
  cases r1
  obtain ⟨G3, g3, r3⟩ := r2.freeze g2
  rw [es2] at r3
  have e3 := e1.grow g3
  obtain ⟨q2, ys, a2, hy, ry⟩ := e3.elL hk hi hj
  rw [a] at a2
  cases a2
  have r3 : Rp c.K G3 v2 d := r3
  refine ⟨q, ys, (n : Int), v2, rfl, rfl, hy, szl (by rw [ry.length]; exact hl), by omega, by omega, k1 _ σ m2 G3 _ hN (g1.ex.trans g3.ex) (e3.mutE hk hi hj a ⟨_, upd_same, ?_⟩)⟩
  rw [Int.toNat_natCast]
  exact ((ry.take n).append (.one r3)).append (ry.drop n)
/-- the items of an own list of lists become data, the list stays one's own -/
theorem ds_frzK {i : Nat} {its : List It} (hi : ρ[i]? = some (.own (.nest its))) (h : Ds c m t (ρ.set i (.own (.lst (its.map It.frz)))) N R B C) (hn : noEl i ρ = true := by with_unfolding_all rfl) : Ds c m t ρ N R B C := fun D σ G H e k1 k2 k3 k4 => by
  obtain ⟨p, hp, ob⟩ := e.own hi
  have ob0 : OwnAt c.K (Fr c.W c.H0 G) G H p (.nest its) := ob
  obtain ⟨f, vs, hv, r, nd⟩ := id ob0
  obtain ⟨n1, n2⟩ := List.nodup_cons.mp nd
  obtain ⟨G2, g2, r2, x, nq0⟩ := frz_its e.gr r n2
  have nq : ∀ q, ¬ Ads H p (.nest its) q → G2 q = G q := fun q hq => nq0 q fun z => hq (.inr ⟨vs, hv, z⟩)
  have gp : G2 p = none := by rw [nq0 p n1]; exact f.2.1
  have sub : ∀ a, Ads H p (.one (.lst (its.map It.frz))) a → Ads H p (.nest its) a := fun a ha => .inl ha
  have e2 : EnvOk c m G2 H σ (ρ.set i (.own (.lst (its.map It.frz)))) := by
    refine ⟨e.ok0, g2, e.exc, by rw [List.length_set]; exact e.len, fun j s hs => ?_, fun j k o1 o2 p1 p2 hjk hj hk pj pk a ha hb => ?_, fun k a j hk => ?_, fun k o1 p1 hk hp1 => ?_⟩
    · rcases set_get hs with ⟨rfl, rfl, _⟩ | ⟨hj, hs⟩
      · exact .inr ⟨_, hp, p, rfl, ⟨f.1, gp, f.2.2⟩, vs, hv, r2⟩
      · rcases e.at_ j s hs with z | ⟨w, aw, rw'⟩
        · exact .inl z
        · refine .inr ⟨w, aw, ?_⟩
          cases s with
          | no => trivial
          | el a b => trivial
          | dat d => exact Rp.mono x rw'
          | at_ q => exact rw'
          | own o' =>
            obtain ⟨q, rfl, zo⟩ := rw'
            refine ⟨q, rfl, zo.monoA x fun a ha => ⟨rfl, ?_⟩⟩
            have na : ¬ Ads H p (.nest its) a := fun z => e.sep i j _ o' p q hj hi hs hp aw a z ha
            obtain ⟨f, _⟩ := zo.ads ha
            exact ⟨f.1, by rw [nq a na]; exact f.2.1, f.2.2⟩
          | vw o' =>
            obtain ⟨q, rfl, zo⟩ := rw'
            refine ⟨q, rfl, zo.monoA x fun a ha => ⟨rfl, ?_⟩⟩
            have na : ¬ Ads H p (.nest its) a := fun z => e.vws j o' q hs aw a ha (ob0.ads z).1.1
            obtain ⟨f, _⟩ := zo.ads ha
            exact ⟨by rw [nq a na]; exact f.1, f.2⟩
          | lk o' => obtain ⟨q, xq, uq, e1, e2, zo⟩ := rw'; exact ⟨q, xq, uq, e1, e2, zo.up (Up.ex x)⟩
          | xc C a d fs =>
            obtain ⟨e1, e2, e3, fv, e4, e5, e6⟩ := rw'
            have na : ¬ Ads H p (.nest its) d := fun z => by obtain ⟨_, u, hu, hk⟩ := ob0.ads z; rw [e4] at hu; cases hu; cases hk
            exact ⟨e1, by rw [nq d na]; exact e2, e3, fv, e4, e5, e6.mono x⟩
    · rcases set_get hj with ⟨rfl, z, _⟩ | ⟨h1, hj⟩
      · cases z
        rcases set_get hk with ⟨rfl, _, _⟩ | ⟨h2, hk⟩
        · exact hjk rfl
        · rw [hp] at pj
          cases pj
          exact e.sep _ _ _ _ _ _ hjk hi hk hp pk a (sub a ha) hb
      · rcases set_get hk with ⟨rfl, z, _⟩ | ⟨h2, hk⟩
        · cases z
          rw [hp] at pk
          cases pk
          exact e.sep _ _ _ _ _ _ hjk hj hi pj hp a ha (sub a hb)
        · exact e.sep j k o1 o2 p1 p2 hjk hj hk pj pk a ha hb
    · rcases set_get hk with ⟨_, z, _⟩ | ⟨h1, hk⟩
      · cases z
      · obtain ⟨its', p', vs, q, o', e1, e2⟩ := e.els k a j hk
        exact ⟨its', p', vs, q, o', by rw [List.getElem?_set_ne (Ne.symm (noEl_ok hn hk))]; exact e1, e2⟩
    · rcases set_get hk with ⟨_, z, _⟩ | ⟨h1, hk⟩
      · cases z
      · exact e.vws k o1 p1 hk hp1
  exact h D σ G2 H e2 (fun a b m c' d n y z => k1 a b m c' d n (x.trans y) z) (fun s v m' G' H' r y gg rr => k2 s v m' G' H' r (x.trans y) gg rr) (fun a b m c' d n y z => k3 a b m c' d n (x.trans y) z) (fun a b m c' d n y z => k4 a b m c' d n (x.trans y) z)
end
end DL
set_option Elab.async false
set_option linter.all false
set_option maxRecDepth 100000
set_option maxHeartbeats 1000000
namespace Pf
open PySem PySem.Spec PyProof.Rows L2 DL
local macro_rules | `(tactic| walk_at "len") => `(tactic| with_unfolding_all first | exact Nat.le_of_ble_eq_true rfl | (simp; done) | (simp; omega))
local macro_rules | `(tactic| walk_at "side") => `(tactic| with_unfolding_all first | exact Or.inr ⟨by omega, by omega⟩ | exact Or.inl ⟨by omega, by omega⟩ | exact ⟨by omega, by omega⟩ | exact ⟨by omega, by omega, by omega⟩ | (show (0 : Int) < _; omega) | decide)
local macro_rules | `(tactic| walk_at "d1") => `(tactic| with_reducible first
  | (refine ds_seq ?_; try dsimp only [List.set_cons_zero, List.set_cons_succ, List.cons_append, List.nil_append, O.frz])
  | refine ds_asg ?_
  | refine ds_ret ?_
  | refine ds_retN ?_
  | refine ds_next ?_
  | refine ds_dropC ?_
  | refine ds_drop0 ?_
  | refine ds_dropB ?_
  | refine ds_if ?_
  | refine dt_test ?_
  | refine dt_B ?_
  | refine dt_not ?_
  | refine dt_and ?_
  | refine dt_or ?_
  | refine dt_yes ?_
  | refine de_int ?_
  | refine de_bl ?_
  | refine de_str ?_
  | refine de_non ?_
  | refine de_varD (by with_unfolding_all rfl) ?_
  | refine de_varO (by with_unfolding_all rfl) ?_
  | refine de_varA (by with_unfolding_all rfl) ?_
  | refine de_varV (by with_unfolding_all rfl) ?_
  | refine de_isi ?_
  | refine de_dget ?_
  | refine de_dget2 ?_
  | refine de_dnotin ?_
  | refine de_din ?_
  | refine de_dnew ?_
  | refine de_dnewT ?_
  | refine de_cb ?_
  | refine de_call0G ?_
  | refine de_callG ?_
  | refine de_andB ?_
  | refine de_orB ?_
  | refine de_notV ?_
  | refine de_ifE ?_
  | refine de_chain ?_
  | refine de_op ?_
  | refine de_neg ?_
  | refine de_tupG ?_
  | refine de_lstG ?_
  | refine de_slL ?_
  | refine de_slT ?_
  | refine do_none ?_
  | refine do_some ?_
  | refine daf_cons ?_
  | refine daf_nil ?_
  | refine daf_star ?_
  | refine da_cons ?_
  | refine da_nil ?_
  | refine lk_dat ?_
  | refine lk_nil ?_
  | refine ak_dat ?_
  | refine ak_nil ?_
  | refine ak_at ?_
  | refine ak_lst ?_
  | refine lk_lst ?_
  | refine ak_dK ?_
  | refine ak_dT ?_
  | refine ak_vw ?_
  | refine lk_dT ?_
  | refine lk_dK ?_
  | refine da_star ?_
  | refine de_lstRg1 ?_
  | refine de_lstRg2 ?_
  | refine de_revL ?_
  | refine de_count ?_
  | refine de_index ?_
  | refine di_enum ?_
  | refine dt_tru ?_
  | refine de_fld ?_
  | refine de_prop ?_
  | refine di_rng1 ?_
  | refine di_rng2 ?_
  | refine di_list ?_
  | refine di_tup ?_
  | refine di_seq ?_
  | refine di_zip ?_
  | refine ops_int ?_
  | (refine ops_cat (by with_unfolding_all rfl) (by with_unfolding_all rfl) ?side ?_; (case side => walk_at "len"))
  | (refine ops_catA ?side ?_; (case side => walk_at "len"))
  | refine ops_eqI ?_
  | refine ops_neI ?_
  | refine ops_bool ?_
  | (refine ops_intC ?side ?_; (case side => walk_at "side"))
  | refine cb_lenL (by with_unfolding_all rfl) ?_
  | refine cb_lenT (by with_unfolding_all rfl) ?_
  | refine cb_lenK (by with_unfolding_all rfl) ?_
  | refine cb_max2 ?_
  | refine cb_min2 ?_
  | refine cb_int ?_
  | refine ⟨fun _ => ?_, fun z => Bool.noConfusion z⟩
  | refine ⟨fun z => Bool.noConfusion z, fun _ => ?_⟩
  | refine ⟨rfl, ?_⟩
  | refine ⟨_, rfl, ?_⟩
  | refine ⟨_, Or.inl (by with_unfolding_all rfl), ?_⟩
  | (with_unfolding_all refine ⟨_, true, rfl, rfl, (fun _ z => by cases z), rfl, ?_⟩)
  | (with_unfolding_all refine ⟨_, false, rfl, rfl, (fun _ z => by cases z), rfl, ?_⟩))
local macro_rules | `(tactic| walk_at "d") => `(tactic| repeat walk_at "d1")
local macro_rules | `(tactic| walk_at "wk") => `(tactic| repeat first | exact Wk.nil | refine Wk.keep ?_ | refine Wk.drop ?_)
section
variable {P : Program} {w : World} {K : PySem.W.Frag} {mg : Str → Option Value} {base : Heap} {f : Addr} {fd : FuncData} {a_Plan a_BadRounds a_BadTeam a_WrongTimes : Addr}

def C_law_is_rows : Fc := fun _ W m ss Φ Ξ => ∃ d, ss = [.dat d] ∧ RdOk d ∧ Φ m (.dat (.bl (isRows d)))

abbrev s_law_is_rows : Stmt := (top 54)
abbrev N_law_is_rows : List Str := ["_law_value", "_law_row"]
theorem sc_law_is_rows : FnScope N_law_is_rows ["_law_value"] (defScope s_law_is_rows) := ⟨rfl, rfl, rfl, by decide +kernel, rfl, by decide +kernel, by decide +kernel⟩
theorem ok_law_is_rows (F : FnP K "_law_is_rows" s_law_is_rows f fd) (b : BI mg) : FnOk P w K mg base CX0 1 f fd ["_law_value"] (spF K C_law_is_rows) := by
  have hlen := spF_len (K := K) (C := C_law_is_rows) (m := 1) fun κ W m ss Φ Ξ ⟨d, e, _⟩ => by first | exact e | (rw [e]; rfl)
  refine F.ok sc_law_is_rows hlen ?_
  intro cdv A outer s H vs Q E hr h
  refine ⟨_, PSs.nox (pss_cons (ps_if (PW.pt (pw_or (pt_not (pt_val (pe_callB (k_isi (K := K) rfl) rfl b.isinstance boot_isinstance (pa_cons (pv 0) (pa_cons (pe_bltn (v := .ty "list") rfl b.list_ boot_list rfl) pa_nil))))) (pw_or1 (pt_cmpR (k_eqVK (K := K) rfl hr.units) (pv 0) (pe_lst pa_nil) (nomark _))))) (pss_one (ps_ret pe_bl)) pss_nil)
      (pss_one (ps_ret (pe_callB (k_all (K := K) rfl rfl) rfl b.all boot_all (pa_cons (pe_lc (own := [("_law_row", 1)]) rfl sc_law_is_rows.nd (k_piL (K := K) rfl (pv 0)) (blkOk_by (own := [("_law_row", 1)]) (N := N_law_is_rows) (sc := (defScope s_law_is_rows)) (by decide +kernel)) (fun _ _ _ _ _ => (pg_name (i := 1) sc_law_is_rows.nd rfl (by first | exact Or.inl rfl | exact Or.inr rfl))) (fun _ _ _ _ _ => pts_nil) (fun _ _ _ _ _ => (pe_callB (k_isi (K := K) rfl) rfl b.isinstance boot_isinstance (pa_cons (pv 1) (pa_cons (pe_bltn (v := .ty "list") rfl b.list_ boot_list rfl) pa_nil))))) pa_nil))))), ?_⟩
  refine DL.run_fnP  [.no] (Nm := N_law_is_rows) (n := 1) (k := 1) rfl (hlen _ _ _ _ h) rfl h fun κ W m ss Φ Ξ G hc => ?_
  try dsimp only [cxOf, Cx.nox, Cx.wish, Cx.blk]
  obtain ⟨d, rfl, hd, hΦ⟩ := hc
  cases d with
  | tup xs => exact absurd rfl (hd.nt xs)
  | scr ns => exact absurd rfl (hd.ns ns)
  | dit ds => exact absurd rfl (hd.a.2 ds)
  | ins C fs => exact absurd hd.a.1 Bool.false_ne_true
  | lst rs =>
    obtain ⟨q1, q2, q3⟩ := hd.row rs rfl
    walk_at "d"
    have eq : EqD 2 (.lst rs) (.lst []) rs.isEmpty := by
      cases rs with
      | nil => exact EqD.lst .nil
      | cons a b => exact EqD.lstN (by simp)
    refine ops_eqV (n := 2) (b := rs.isEmpty) rfl rfl (by decide) eq ?_
    cases hE : rs.isEmpty with
    | true =>
      walk_at "d"
      have : isRows (.lst rs) = false := by show (!rs.isEmpty && rs.all isLstD) = _; rw [hE]; rfl
      rw [this] at hΦ
      exact hΦ
    | false =>
      walk_at "d"
      refine de_lcMap (f := fun r => .bl (isLstD r)) ?_
      walk_at "d"
      refine ⟨by omega, fun r hr => ⟨_, dg_name (by simp), ?_⟩, ?_⟩
      · obtain ⟨a1, a2, a3, _⟩ := q3 r hr
        cases r with
        | tup xs => exact absurd rfl (a2 xs)
        | scr ns => exact absurd rfl (a3 ns)
        | dit ds => exact absurd rfl (a1.2 ds)
        | ins C fs => exact absurd a1.1 Bool.false_ne_true
        | _ => walk_at "d"; exact rfl
      walk_at "d"
      refine cb_allM ?_
      have : isRows (.lst rs) = rs.all isLstD := by show (!rs.isEmpty && rs.all isLstD) = _; rw [hE]; rfl
      rw [this] at hΦ
      exact ⟨rfl, hΦ⟩
  | _ => walk_at "d"; exact hΦ


def C_law_spoiled : Fc := fun _ W m ss Φ Ξ => ∃ (p : Addr) (L : Src W p) (n : Nat) (gs : List (Nat × Nat)) (N : Nat) (rs : List (List D)), ss = [.at_ p, .dat (.int n), .dat (.dic (gD gs)), .dat (.lst (rs.map .lst))] ∧ 1 ≤ n ∧ n ≤ 10 ∧ GGm n gs ∧ N ≤ 900 ∧ RowsIn N rs ∧ 6 ≤ L.left m ∧ ∀ d m', SpOut (N + 1) d → L.left m ≤ L.left m' + 6 → Φ m' (.dat d)

abbrev s_law_spoiled : Stmt := (top 53)
abbrev N_law_spoiled : List Str := ["_law_source_here", "_law_people_here", "_law_games", "_law_rounds", "_law_rows", "_law_row", "_law_teams_here", "_law_way", "_law_odd", "_law_few"]
theorem sc_law_spoiled : FnScope N_law_spoiled ["_law_source_here", "_law_people_here", "_law_games", "_law_rounds"] (defScope s_law_spoiled) := ⟨rfl, rfl, rfl, by decide +kernel, rfl, by decide +kernel, by decide +kernel⟩
theorem ok_law_spoiled (F : FnP K "_law_spoiled" s_law_spoiled f fd) (b : BI mg) (c_law_draw : Cl P w K mg base CX0 1 "_law_draw" ["_law_source_here", "_law_limit"] C_law_draw) (c_law_teams : Cl P w K mg base CX0 2 "_law_teams" ["_law_people_here", "_law_games"] C_law_teams) : FnOk P w K mg base CX0 3 f fd ["_law_source_here", "_law_people_here", "_law_games", "_law_rounds"] (spF K C_law_spoiled) := by
  have hlen := spF_len (K := K) (C := C_law_spoiled) (m := 4) fun κ W m ss Φ Ξ ⟨p, L, n, gs, N, rs, e, _⟩ => by first | exact e | (rw [e]; rfl)
  refine F.ok sc_law_spoiled hlen ?_
  intro cdv A outer s H vs Q E hr h
  refine ⟨_, PSs.nox (pss_cons (ps_setLc (i := 4) (own := [("_law_row", 5)]) rfl sc_law_spoiled.nd rfl rfl (sw_true rfl rfl rfl (by decide +kernel)) (k_piL (K := K) rfl (pv 3)) (blkOk_by (own := [("_law_row", 5)]) (N := N_law_spoiled) (sc := (defScope s_law_spoiled)) (by decide +kernel)) (fun _ _ _ _ _ => (pg_name (i := 5) sc_law_spoiled.nd rfl (by first | exact Or.inl rfl | exact Or.inr rfl))) (fun _ _ _ _ _ => pts_nil) (fun _ _ _ _ _ => (pe_callTy (k_listOf (K := K) rfl) rfl b.list_ boot_list (pa_cons (pv 5) pa_nil))))
      (pss_cons (ps_set (i := 5) sc_law_spoiled.nd rfl (by first | exact Or.inl rfl | exact Or.inr rfl) (pe_ix (k_ixL (K := K) rfl) (pv 4) (k_cl0 c_law_draw rfl hr (pa_cons (pv 0) (pa_cons (pe_callB (k_len (K := K) rfl) rfl b.len boot_len (pa_cons (pv 4) pa_nil)) pa_nil))) (fun _ _ => rfl)))
      (pss_cons (ps_set (i := 6) sc_law_spoiled.nd rfl (by first | exact Or.inl rfl | exact Or.inr rfl) (k_cl0 c_law_teams rfl hr (pa_cons (pv 1) (pa_cons (pv 2) pa_nil))))
      (pss_cons (ps_set (i := 7) sc_law_spoiled.nd rfl (by first | exact Or.inl rfl | exact Or.inr rfl) (k_cl0 c_law_draw rfl hr (pa_cons (pv 0) (pa_cons pe_int pa_nil))))
      (pss_cons (ps_if (PW.pt (pw_and (pt_cmpR (k_eqD (K := K) rfl hr.units) (pv 7) pe_int (nomark _)) (pw_and1 (k_truth (K := K) rfl (pv 5) (by intro _; rfl))))) (pss_one (ps_expr (pe_bm PySem.F.plainAttrs_list PySem.F.slot_list_pop PySem.F.type_list_pop mt_popAt (pv 5) (pa_cons (k_cl0 c_law_draw rfl hr (pa_cons (pv 0) (pa_cons (pe_callB (k_len (K := K) rfl) rfl b.len boot_len (pa_cons (pv 5) pa_nil)) pa_nil))) pa_nil)))) pss_nil)
      (pss_cons (ps_if (pt_cmpR (k_eqD (K := K) rfl hr.units) (pv 7) pe_int (nomark _)) (pss_one (ps_expr (k_app (K := K) rfl (pv 5) (pa_cons (pe_ix (k_ixL (K := K) rfl) (pv 6) (k_cl0 c_law_draw rfl hr (pa_cons (pv 0) (pa_cons (pe_callB (k_len (K := K) rfl) rfl b.len boot_len (pa_cons (pv 6) pa_nil)) pa_nil))) (fun _ _ => rfl)) pa_nil)))) pss_nil)
      (pss_cons (ps_if (PW.pt (pw_and (pt_cmpR (k_eqD (K := K) rfl hr.units) (pv 7) pe_int (nomark _)) (pw_and1 (k_truth (K := K) rfl (pv 5) (by intro _; rfl))))) (pss_one (ps_asg (pe_ix (k_ixL (K := K) rfl) (pv 6) (k_cl0 c_law_draw rfl hr (pa_cons (pv 0) (pa_cons (pe_callB (k_len (K := K) rfl) rfl b.len boot_len (pa_cons (pv 6) pa_nil)) pa_nil))) (fun _ _ => rfl)) (pg_sub (pv 5) (k_cl0 c_law_draw rfl hr (pa_cons (pv 0) (pa_cons (pe_callB (k_len (K := K) rfl) rfl b.len boot_len (pa_cons (pv 5) pa_nil)) pa_nil))) set_list))) pss_nil)
      (pss_cons (ps_if (pt_cmpR (k_eqD (K := K) rfl hr.units) (pv 7) pe_int (nomark _)) (pss_cons (ps_set (i := 8) sc_law_spoiled.nd rfl (by first | exact Or.inl rfl | exact Or.inr rfl) (pe_lst (pa_cons (pe_tup (pa_cons (pv 1) pa_nil)) (pa_cons (pe_tup (pa_cons pe_int (pa_cons pe_int pa_nil))) (pa_cons (pe_tup (pa_cons pe_int (pa_cons pe_int pa_nil))) (pa_cons (pe_lst (pa_cons pe_int pa_nil)) (pa_cons (pe_tup pa_nil) (pa_cons pe_non (pa_cons pe_int (pa_cons (pe_tup (pa_cons pe_bl pa_nil)) (pa_cons pe_str (pa_cons (pe_tup (pa_cons (pe_tup (pa_cons pe_int pa_nil)) pa_nil)) (pa_cons (pe_tup (pa_cons (pe_un un_neg pe_int) (pa_cons pe_int pa_nil))) (pa_cons (pe_tup (pa_cons pe_int (pa_cons pe_non pa_nil))) pa_nil))))))))))))))
      (pss_cons (ps_set (i := 8) sc_law_spoiled.nd rfl (by first | exact Or.inl rfl | exact Or.inr rfl) (pe_op op_cat (pv 8) (pe_lc (own := [("_law_few", 9)]) rfl sc_law_spoiled.nd (pi_range2 rfl b.range (pa_cons pe_int (pa_cons (pe_op op_add (pe_callB (call_min2 rfl) rfl b.min boot_min (pa_cons pe_int (pa_cons (pv 1) pa_nil))) pe_int) pa_nil))) (blkOk_by (own := [("_law_few", 9)]) (N := N_law_spoiled) (sc := (defScope s_law_spoiled)) (by decide +kernel)) (fun _ _ _ _ _ => (pg_name (i := 9) sc_law_spoiled.nd rfl (by first | exact Or.inl rfl | exact Or.inr rfl))) (fun _ _ _ _ _ => pts_one (pt_cmp (pc_dnotin (hu_of hr) (pv 9) (pv 2)))) (fun _ _ _ _ _ => (pe_tupRg rfl rfl b.tuple_ (prg_1 rfl b.range (pv 9)))))))
      (pss_cons (ps_set (i := 8) sc_law_spoiled.nd rfl (by first | exact Or.inl rfl | exact Or.inr rfl) (pe_op op_cat (pv 8) (pe_lst (pa_cons (pe_tup (pa_cons pe_int (pa_cons pe_int (pa_cons pe_int pa_nil)))) (pa_cons (pe_tup (pa_cons pe_int (pa_cons pe_int (pa_cons pe_int pa_nil)))) (pa_cons (pe_tup (pa_cons pe_int (pa_cons pe_int (pa_cons pe_int (pa_cons pe_int pa_nil))))) pa_nil))))))
      (pss_one (ps_expr (pe_bm PySem.F.plainAttrs_list PySem.F.slot_list_insert PySem.F.type_list_insert mt_ins (pv 5) (pa_cons (k_cl0 c_law_draw rfl hr (pa_cons (pv 0) (pa_cons (pe_op op_add (pe_callB (k_len (K := K) rfl) rfl b.len boot_len (pa_cons (pv 5) pa_nil)) pe_int) pa_nil))) (pa_cons (pe_ix (k_ixL (K := K) rfl) (pv 8) (k_cl0 c_law_draw rfl hr (pa_cons (pv 0) (pa_cons (pe_callB (k_len (K := K) rfl) rfl b.len boot_len (pa_cons (pv 8) pa_nil)) pa_nil))) (fun _ _ => rfl)) pa_nil)))))))) pss_nil)
      (pss_cons (ps_if (pt_cmpR (k_eqD (K := K) rfl hr.units) (pv 7) pe_int (nomark _)) (pss_cons (ps_set (i := 8) sc_law_spoiled.nd rfl (by first | exact Or.inl rfl | exact Or.inr rfl) (pe_lst (pa_cons pe_non (pa_cons pe_int (pa_cons pe_str (pa_cons (pe_disp (pps_cons pe_int pe_int pps_nil) rfl rfl (fun z => by cases z) (by decide)) pa_nil))))))
      (pss_one (ps_asg (pe_ix (k_ixL (K := K) rfl) (pv 8) (k_cl0 c_law_draw rfl hr (pa_cons (pv 0) (pa_cons (pe_callB (k_len (K := K) rfl) rfl b.len boot_len (pa_cons (pv 8) pa_nil)) pa_nil))) (fun _ _ => rfl)) (pg_sub (pv 4) (k_cl0 c_law_draw rfl hr (pa_cons (pv 0) (pa_cons (pe_callB (k_len (K := K) rfl) rfl b.len boot_len (pa_cons (pv 4) pa_nil)) pa_nil))) set_list)))) pss_nil)
      (pss_cons (ps_if (pt_cmpR (k_eqD (K := K) rfl hr.units) (pv 7) pe_int (nomark _)) (pss_one (ps_ret (pe_ix (k_ixL (K := K) rfl) (pe_lst (pa_cons (pe_lst pa_nil) (pa_cons pe_non (pa_cons pe_int (pa_cons (pe_disp (pps_cons pe_int (pe_lst pa_nil) pps_nil) rfl rfl (fun z => by cases z) (by decide)) (pa_cons (pe_op op_rep (pe_lst (pa_cons (pe_lst pa_nil) pa_nil)) pe_int) (pa_cons pe_str pa_nil))))))) (k_cl0 c_law_draw rfl hr (pa_cons (pv 0) (pa_cons pe_int pa_nil))) (fun _ _ => rfl)))) pss_nil)
      (pss_one (ps_ret (pv 4))))))))))))), ?_⟩
  refine DL.run_fnP  [.no, .no, .no, .no, .no, .no] (Nm := N_law_spoiled) (n := 4) (k := 6) rfl (hlen _ _ _ _ h) rfl h fun κ W m ss Φ Ξ G hc => ?_
  try dsimp only [cxOf, Cx.nox, Cx.wish, Cx.blk]
  obtain ⟨p, L, n, gs, N, rs, rfl, n1, n10, gg, hN, hr, hl, hΦ⟩ := hc
  have etp := ET_pos n10 gg
  have etl := ET_len n10 gg
  obtain ⟨l1, l2, hit, htot⟩ := id hr
  have e0 : ((rs.map D.lst).map fun d => DL.It.o (.lst (itemsL d))) = nst rs := by rw [List.map_map]; rfl
  walk_at "d"
  refine de_lcNM (f := fun d => .lst (itemsL d)) ?_
  walk_at "d"
  refine ⟨by rw [List.length_map]; omega, fun d hd => ⟨_, dg_name (by simp), ?_⟩, ?_⟩
  · obtain ⟨xs, hx, rfl⟩ := List.mem_map.mp hd
    walk_at "d"
    refine cb_list (.inl rfl) ?_
    exact ⟨rfl, rfl⟩
  rw [e0]
  refine ⟨rfl, ?_⟩
  dsimp only [List.set_cons_zero, List.set_cons_succ]
  refine ds_seq ?_
  refine ds_asgEl (k := 5) (i := 4) rfl (by decide) ?_
  walk_at "d"
  refine cb_lenN ?_
  walk_at "d"
  rw [nst_len]
  refine ⟨p, L, rs.length, rfl, by omega, by omega, by omega, fun x hx => ?_⟩
  have k1 := L.less m (by omega)
  generalize L.dec m = ma at *
  have hxr : rs[x]? = some rs[x] := List.getElem?_eq_getElem hx
  have hxi := hit _ (List.mem_of_getElem? hxr)
  have hxl : rs[x].length ≤ 900 := by
    have := flat_setL (ys := []) hxr
    rw [List.length_nil] at this
    omega
  generalize rs[x] = xs at hxr hxi hxl
  refine ⟨(x : Int), x, .lst xs, rfl, ixn hx, at_nst hxr, ?_⟩
  dsimp only [List.set_cons_zero, List.set_cons_succ]
  walk_at "d"
  refine ⟨n, gs, rfl, n10, gg, ?_⟩
  refine ⟨rfl, ds_frz (i := 6) rfl ?_⟩
  dsimp only [O.frz, O1.frz, List.set_cons_zero, List.set_cons_succ]
  walk_at "d"
  refine ⟨p, L, 8, rfl, by decide, by decide, by omega, fun way hw => ?_⟩
  have k2 := L.less ma (by omega)
  generalize L.dec ma = mb at *
  have done : ∀ (mm : _) (rs2 : List (List D)) , RowsIn (N + 1) rs2 → L.left m ≤ L.left mm + 6 → Φ mm (.dat (.lst (rs2.map .lst))) := fun mm rs2 h1 h2 => hΦ _ mm h1.out h2
  have fz : ∀ rs2 : List (List D), (O.nest (nst rs2)).frz = D.lst (rs2.map .lst) := fun rs2 => congrArg D.lst (nst_frz rs2)
  have itT : ∀ v ∈ (ET n gs).map tD, ItOk v := fun v hv => by
    obtain ⟨t, ht, rfl⟩ := List.mem_map.mp hv
    exact it_team (ET_team gg ht).1 n10
  obtain rfl | rfl | rfl | rfl | rfl | rfl | rfl | rfl : way = 0 ∨ way = 1 ∨ way = 2 ∨ way = 3 ∨ way = 4 ∨ way = 5 ∨ way = 6 ∨ way = 7 := by omega
  · refine ⟨rfl, ?_⟩
    walk_at "d"
    refine de_varE rfl rfl (at_nst hxr) ?_
    refine ⟨_, rfl, ?_⟩
    cases xs with
    | nil =>
      refine ⟨fun z => Bool.noConfusion z, fun _ => ?_⟩
      refine ds_forget (ρ' := [.at_ p, .dat (.int n), .dat (.dic (gD gs)), .dat (.lst (rs.map .lst)), .own (.nest (nst rs)), .no, .dat (.lst ((ET n gs).map tD)), .dat (.int ((0 : Nat) : Int)), .no, .no]) ?_ ?_
      · walk_at "wk"
      refine ds_frz (i := 4) rfl ?_
      rw [fz]
      dsimp only [List.set_cons_zero, List.set_cons_succ]
      walk_at "d"
      exact done _ _ (hr.up) (by omega)
    | cons v0 xs0 =>
      walk_at "d"
      refine ds_popE (k := 5) (i := 4) rfl rfl (at_nst hxr) (by omega) ?_
      walk_at "d"
      refine de_varE rfl rfl (at_nst hxr) ?_
      walk_at "d"
      refine ⟨p, L, (v0 :: xs0).length, rfl, Nat.succ_pos _, by omega, by omega, fun j3 hj3 => ?_⟩
      have k3 := L.less mb (by omega)
      refine ⟨j3, (v0 :: xs0)[j3], rfl, List.getElem?_eq_getElem hj3, ?_⟩
      dsimp only [List.set_cons_zero, List.set_cons_succ]
      rw [set_nst]
      refine ds_forget (ρ' := [.at_ p, .dat (.int n), .dat (.dic (gD gs)), .dat (.lst (rs.map .lst)), .own (.nest (nst (rs.set x ((v0 :: xs0).eraseIdx j3)))), .no, .dat (.lst ((ET n gs).map tD)), .dat (.int ((0 : Nat) : Int)), .no, .no]) ?_ ?_
      · walk_at "wk"
      refine ds_frz (i := 4) rfl ?_
      rw [fz]
      dsimp only [List.set_cons_zero, List.set_cons_succ]
      walk_at "d"
      exact done _ _ (hr.set hxr (fun v hv => hxi v (List.mem_of_mem_eraseIdx hv)) (Nat.le_succ_of_le (List.length_eraseIdx_le ..))) (by omega)
  · refine ⟨rfl, ?_⟩
    walk_at "d"
    refine ds_appE (k := 5) (i := 4) rfl rfl (at_nst hxr) (by omega) ?_
    walk_at "d"
    refine ⟨p, L, (ET n gs).length, by rw [List.length_map], by omega, by omega, by omega, fun j3 hj3 => ?_⟩
    have k3 := L.less mb (by omega)
    refine ops_ixL rfl (get_nat (by rw [List.length_map]; exact hj3)) ?_
    refine ⟨_, rfl, ?_⟩
    dsimp only [List.set_cons_zero, List.set_cons_succ]
    rw [set_nst]
    refine ds_forget (ρ' := [.at_ p, .dat (.int n), .dat (.dic (gD gs)), .dat (.lst (rs.map .lst)), .own (.nest (nst (rs.set x (xs ++ [((ET n gs).map tD)[j3]'(by rw [List.length_map]; exact hj3)])))), .no, .dat (.lst ((ET n gs).map tD)), .dat (.int ((1 : Nat) : Int)), .no, .no]) ?_ ?_
    · walk_at "wk"
    refine ds_frz (i := 4) rfl ?_
    rw [fz]
    dsimp only [List.set_cons_zero, List.set_cons_succ]
    walk_at "d"
    exact done _ _ (hr.set hxr (fun v hv => by
      rcases List.mem_append.mp hv with h | h
      · exact hxi v h
      · rw [List.mem_singleton] at h; subst h; exact itT _ (List.getElem_mem _)) (by rw [List.length_append]; exact Nat.le_refl _)) (by omega)
  · refine ⟨rfl, ?_⟩
    walk_at "d"
    refine de_varE rfl rfl (at_nst hxr) ?_
    refine ⟨_, rfl, ?_⟩
    cases xs with
    | nil =>
      refine ⟨fun z => Bool.noConfusion z, fun _ => ?_⟩
      refine ds_forget (ρ' := [.at_ p, .dat (.int n), .dat (.dic (gD gs)), .dat (.lst (rs.map .lst)), .own (.nest (nst rs)), .no, .dat (.lst ((ET n gs).map tD)), .dat (.int ((2 : Nat) : Int)), .no, .no]) ?_ ?_
      · walk_at "wk"
      refine ds_frz (i := 4) rfl ?_
      rw [fz]
      dsimp only [List.set_cons_zero, List.set_cons_succ]
      walk_at "d"
      exact done _ _ (hr.up) (by omega)
    | cons v0 xs0 =>
      walk_at "d"
      refine ds_setE (k := 5) (i := 4) rfl rfl (at_nst hxr) ?_
      walk_at "d"
      refine ⟨p, L, (ET n gs).length, by rw [List.length_map], by omega, by omega, by omega, fun j3 hj3 => ?_⟩
      have k3 := L.less mb (by omega)
      refine ops_ixL rfl (get_nat (by rw [List.length_map]; exact hj3)) ?_
      walk_at "d"
      refine de_varE rfl rfl (at_nst hxr) ?_
      walk_at "d"
      refine ⟨p, L, (v0 :: xs0).length, rfl, Nat.succ_pos _, by omega, by omega, fun j4 hj4 => ?_⟩
      have k4 := L.less (L.dec mb) (by omega)
      refine ⟨_, _, j4, rfl, rfl, ixn hj4, ?_⟩
      dsimp only [List.set_cons_zero, List.set_cons_succ]
      rw [set_nst]
      refine ds_forget (ρ' := [.at_ p, .dat (.int n), .dat (.dic (gD gs)), .dat (.lst (rs.map .lst)), .own (.nest (nst (rs.set x ((v0 :: xs0).set j4 (((ET n gs).map tD)[j3]'(by rw [List.length_map]; exact hj3)))))), .no, .dat (.lst ((ET n gs).map tD)), .dat (.int ((2 : Nat) : Int)), .no, .no]) ?_ ?_
      · walk_at "wk"
      refine ds_frz (i := 4) rfl ?_
      rw [fz]
      dsimp only [List.set_cons_zero, List.set_cons_succ]
      walk_at "d"
      exact done _ _ (hr.set hxr (fun v hv => by
        rcases List.mem_or_eq_of_mem_set hv with h | h
        · exact hxi v h
        · subst h; exact itT _ (List.getElem_mem _)) (by rw [List.length_set]; exact Nat.le_succ _)) (by omega)
  · refine ⟨rfl, ?_⟩
    walk_at "d"
    refine de_lc (by with_unfolding_all rfl) ?_
    walk_at "d"
    refine ⟨1, _, rfl, ⟨by decide, by decide, by omega, by omega⟩, by rw [rng_len]; omega, fun i m' acc => m' = mb ∧ acc.length ≤ i ∧ ∀ v ∈ acc, ItOk v, ⟨rfl, Nat.le_refl _, fun v hv => by cases hv⟩, ?_, ?_⟩
    · rintro i d mc acc hd ⟨rfl, a1, a2⟩
      obtain ⟨hi, rfl⟩ := rng_at hd
      refine ⟨_, dg_name (by simp), ?_⟩
      walk_at "d"
      refine ⟨_, .int (1 + (i : Int)), _, rfl, rfl, Look.k (.inl (1 + (i : Int))), _, rfl, fun _ => ?_, fun _ => ⟨rfl, by omega, a2⟩⟩
      refine de_tupRg1 ?_
      dsimp only [wipeS, List.map_cons, List.map_nil, List.foldl_cons, List.foldl_nil, List.set_cons_zero, List.set_cons_succ]
      walk_at "d"
      refine ⟨⟨by omega, by omega⟩, ?_⟩
      refine ⟨_, rfl, rfl, by rw [List.length_append, List.length_singleton]; omega, fun v hv => ?_⟩
      rcases List.mem_append.mp hv with h | h
      · exact a2 v h
      · rw [List.mem_singleton] at h
        subst h
        exact it_rng (by omega)
    · rintro mc acc ⟨rfl, a1, a2⟩
      rw [rng_len] at a1
      walk_at "d"
      have allI : ∀ v ∈ oddA n ++ acc ++ oddB, ItOk v := fun v hv => by
        rcases List.mem_append.mp hv with h | h
        · rcases List.mem_append.mp h with h | h
          · exact oddA_ok n10 v h
          · exact a2 v h
        · exact oddB_ok v h
      have oE : (D.tup [D.int ↑n] :: D.tup [D.int 0, D.int 0] :: D.tup [D.int 1, D.int 0] :: D.lst [D.int 0] :: D.tup [] :: D.non :: D.int 0 :: D.tup [D.bl true] :: D.str (Str.ofString "0") :: D.tup [D.tup [D.int 0]] :: D.tup [D.int (-1), D.int 0] :: D.tup [D.int 0, D.non] :: acc ++ [D.tup [D.int 0, D.int 2, D.int 1], D.tup [D.int 0, D.int 1, D.int 1], D.tup [D.int 0, D.int 1, D.int 3, D.int 2]]) = oddA n ++ acc ++ oddB := rfl
      rw [oE]
      have oL : 0 < (oddA n ++ acc ++ oddB).length := by rw [List.length_append, List.length_append]; show 0 < 12 + _ + _; omega
      have oL2 : (oddA n ++ acc ++ oddB).length < 1000 := by rw [List.length_append, List.length_append]; show 12 + _ + 3 < _; omega
      generalize oddA n ++ acc ++ oddB = od at *
      dsimp only [List.set_cons_zero, List.set_cons_succ]
      refine ds_insE (k := 5) (i := 4) rfl rfl (at_nst hxr) (by omega) ?_
      walk_at "d"
      refine de_varE rfl rfl (at_nst hxr) ?_
      walk_at "d"
      refine ⟨p, L, xs.length + 1, rfl, by omega, by omega, by omega, fun j3 hj3 => ?_⟩
      have k3 := L.less mc (by omega)
      walk_at "d"
      refine ⟨p, L, od.length, rfl, oL, by omega, by omega, fun j4 hj4 => ?_⟩
      have k4 := L.less (L.dec mc) (by omega)
      refine ops_ixL rfl (get_nat hj4) ?_
      have qm : ItOk (od[j4]'hj4) := allI _ (List.getElem_mem _)
      generalize od[j4]'hj4 = q at *
      refine ⟨j3, q, rfl, rfl, by omega, ?_⟩
      dsimp only [List.set_cons_zero, List.set_cons_succ]
      rw [set_nst]
      refine ds_forget (ρ' := [.at_ p, .dat (.int n), .dat (.dic (gD gs)), .dat (.lst (rs.map .lst)), .own (.nest (nst (rs.set x (xs.take j3 ++ [q] ++ xs.drop j3)))), .no, .dat (.lst ((ET n gs).map tD)), .dat (.int ((3 : Nat) : Int)), .no, .no]) ?_ ?_
      · walk_at "wk"
      refine ds_frz (i := 4) rfl ?_
      rw [fz]
      dsimp only [List.set_cons_zero, List.set_cons_succ]
      walk_at "d"
      exact done _ _ (hr.set hxr (fun v hv => by
        rcases List.mem_append.mp hv with h | h
        · rcases List.mem_append.mp h with h | h
          · exact hxi v (List.mem_of_mem_take h)
          · rw [List.mem_singleton] at h; subst h; exact qm
        · exact hxi v (List.mem_of_mem_drop h)) (by rw [List.length_append, List.length_append, List.length_take, List.length_drop, List.length_singleton]; omega)) (by omega)
  · refine ⟨rfl, ?_⟩
    dsimp only [List.set_cons_zero, List.set_cons_succ]
    refine ds_forget (ρ' := [.at_ p, .dat (.int n), .dat (.dic (gD gs)), .dat (.lst (rs.map .lst)), .own (.nest (nst rs)), .no, .dat (.lst ((ET n gs).map tD)), .dat (.int ((4 : Nat) : Int)), .no, .no]) ?_ ?_
    · walk_at "wk"
    refine ds_frzK (i := 4) rfl ?_
    rw [nst_frz]
    dsimp only [List.set_cons_zero, List.set_cons_succ]
    walk_at "d"
    refine de_disp1 ?_
    walk_at "d"
    refine ⟨.inl 0, .int 1, rfl, rfl, ?_⟩
    walk_at "d"
    refine ds_setL (i := 4) rfl ?_
    walk_at "d"
    refine ⟨p, L, 4, rfl, by decide, by decide, by omega, fun j3 hj3 => ?_⟩
    have k3 := L.less mb (by omega)
    refine ops_ixL (ds := oddR) rfl (get_nat (l := oddR) hj3) ?_
    have qm : oddR[j3]'hj3 ∈ oddR := List.getElem_mem _
    generalize oddR[j3]'hj3 = q at *
    walk_at "d"
    refine ⟨p, L, (rs.map D.lst).length, rfl, by rw [List.length_map]; omega, by rw [List.length_map]; omega, by omega, fun j4 hj4 => ?_⟩
    have k4 := L.less (L.dec mb) (by omega)
    refine ⟨_, _, j4, rfl, rfl, ixn hj4, ?_⟩
    refine ds_frz (i := 4) rfl ?_
    dsimp only [List.set_cons_zero, List.set_cons_succ, O.frz, O1.frz]
    walk_at "d"
    refine hΦ _ _ (set_out hr.up (oddR_ok q qm) (oddR_nl q qm)) (by omega)
  · refine ⟨rfl, ?_⟩
    walk_at "d"
    refine de_disp1 ?_
    walk_at "d"
    refine ⟨.inl 0, .lst [], rfl, rfl, ?_⟩
    walk_at "d"
    refine ops_rep rfl ⟨by decide, by decide⟩ (by decide) ?_
    walk_at "d"
    refine ⟨p, L, 6, rfl, by decide, by decide, by omega, fun j3 hj3 => ?_⟩
    have k3 := L.less mb (by omega)
    refine ops_ixL (ds := oddW) rfl (get_nat (l := oddW) hj3) ?_
    refine ⟨rfl, hΦ _ _ (oddW_ok _ _ (List.getElem_mem _)) (by omega)⟩
  · refine ⟨rfl, ?_⟩
    dsimp only [List.set_cons_zero, List.set_cons_succ]
    refine ds_forget (ρ' := [.at_ p, .dat (.int n), .dat (.dic (gD gs)), .dat (.lst (rs.map .lst)), .own (.nest (nst rs)), .no, .dat (.lst ((ET n gs).map tD)), .dat (.int ((6 : Nat) : Int)), .no, .no]) ?_ ?_
    · walk_at "wk"
    refine ds_frz (i := 4) rfl ?_
    rw [fz]
    dsimp only [List.set_cons_zero, List.set_cons_succ]
    walk_at "d"
    exact done _ _ (hr.up) (by omega)
  · refine ⟨rfl, ?_⟩
    dsimp only [List.set_cons_zero, List.set_cons_succ]
    refine ds_forget (ρ' := [.at_ p, .dat (.int n), .dat (.dic (gD gs)), .dat (.lst (rs.map .lst)), .own (.nest (nst rs)), .no, .dat (.lst ((ET n gs).map tD)), .dat (.int ((7 : Nat) : Int)), .no, .no]) ?_ ?_
    · walk_at "wk"
    refine ds_frz (i := 4) rfl ?_
    rw [fz]
    dsimp only [List.set_cons_zero, List.set_cons_succ]
    walk_at "d"
    exact done _ _ (hr.up) (by omega)


end
end Pf
set_option Elab.async false
set_option linter.all false
set_option maxRecDepth 100000
set_option maxHeartbeats 1000000
namespace Pf
open PySem PySem.Spec PyProof.Rows L2 DL
theorem ET_of2 {n : Nat} {gs : List (Nat × Nat)} {t : List Nat} (h : Team n t) (hg : (gv gs t.length).isSome = true) : t ∈ ET n gs := by
  obtain ⟨v, hv⟩ := Option.isSome_iff_exists.mp hg
  exact List.mem_flatMap.mpr ⟨t.length, srtN_mem.mpr (List.mem_map.mpr ⟨_, gv_some hv, rfl⟩), SB_mem.mpr ⟨rfl, h.inc, fun x hx => ⟨Nat.zero_le _, h.lt x hx⟩⟩⟩
theorem good_perm2 {n : Nat} {gs : List (Nat × Nat)} {rs : List (List (List Nat))} (h : GoodP n gs rs) : rs.flatten.Perm (AT n gs) := by
  refine List.perm_iff_count.mpr fun t => ?_
  unfold AT
  rw [cnt_rep _ (ET_nodup h.gg)]
  split
  · rename_i ht
    unfold gN
    rw [h.cnt t ht]
    rfl
  · rename_i ht
    refine List.count_eq_zero_of_not_mem fun hm => ?_
    obtain ⟨r, hr, htr⟩ := List.mem_flatten.mp hm
    obtain ⟨a, b⟩ := h.tm r hr t htr
    exact ht (ET_of2 a b)
theorem good_in {n : Nat} {gs : List (Nat × Nat)} {rs : List (List (List Nat))} (h : GoodP n gs rs) : RowsIn 130 (rs.map fun r => r.map tD) := by
  refine ⟨by rw [List.length_map]; exact h.r1, by rw [List.length_map]; have := h.r2; omega, fun xs hx v hv => ?_, ?_⟩
  · obtain ⟨r, hr, rfl⟩ := List.mem_map.mp hx
    obtain ⟨t, ht, rfl⟩ := List.mem_map.mp hv
    exact it_team (h.tm r hr t ht).1 h.n10
  · have e : (rs.map fun r => r.map tD).flatten = rs.flatten.map tD := by
      rw [List.map_flatten]
    rw [e, List.length_map, (good_perm2 h).length_eq, AT_len h.n10 h.gg]
    exact h.tt
theorem rows_eq (rs : List (List (List Nat))) : rs.map rwD = (rs.map fun r => r.map tD).map D.lst := by
  rw [List.map_map]
  rfl
mutual
theorem pl_wf : ∀ {n : Nat} {d : D}, Pl n d → ∀ {x : PyData}, Px d x → Wf n d
  | _, _, .non, _, _ => .leaf .non
  | _, _, .bl b, _, _ => .leaf (.bl b)
  | _, _, .int i, _, _ => .leaf (.int i)
  | _, _, .str _, _, _ => .leaf (.str _)
  | _, _, .lst h, _, .lst p => .lst (pl_wfs h p)
  | _, _, .tup h, _, .tup p => .tup (pl_wfs h p)
theorem pl_wfs {n : Nat} : ∀ {ds : List D}, (∀ d ∈ ds, Pl n d) → ∀ {xs : List PyData}, PxL ds xs → ∀ d ∈ ds, Wf n d
  | [], _, _, _, d, hd => by cases hd
  | e :: ds, h, _, .cons p ps, d, hd => by
    rcases List.mem_cons.mp hd with rfl | hd
    · exact pl_wf (h _ List.mem_cons_self) p
    · exact pl_wfs (fun z hz => h z (List.mem_cons_of_mem _ hz)) ps d hd
end
theorem _root_.DL.Wf.up1 : ∀ {n : Nat} {d : D}, Wf n d → Wf (n + 1) d := by
  intro n d h
  induction h with
  | leaf l => exact .leaf l
  | lst _ ih => exact .lst ih
  | tup _ ih => exact .tup ih
  | dic nd _ ih => exact .dic nd ih
  | dit nd _ ih => exact .dit nd ih
theorem ItOk.wf {v : D} (h : ItOk v) : Wf 8 v := by
  obtain ⟨_, p, x, px, _⟩ := h
  exact pl_wf p px
theorem RowD.wf {r : D} (h : RowD r) : Wf 9 r := by
  rcases h with ⟨xs, rfl, h⟩ | ⟨_, _, _, h⟩
  · exact .lst fun v hv => (h v hv).wf
  · exact h.up1
theorem SpOut.mono {N M : Nat} {d : D} (h : SpOut N d) (hn : N ≤ M) : SpOut M d := by
  rcases h with ⟨rs, rfl, a, b, c⟩ | h
  · exact .inl ⟨rs, rfl, a, Nat.le_trans b hn, c⟩
  · exact .inr h
theorem SpOut.wf {N : Nat} {d : D} (h : SpOut N d) : Wf 10 d := by
  rcases h with ⟨rs, rfl, _, _, h⟩ | ⟨_, _, _, h⟩
  · exact .lst fun r hr => (h r hr).wf
  · exact h.up1.up1
theorem tup2_wf {n : Nat} {s : Str} {d : D} (h : Wf n d) : Wf (n + 1) (.tup [.str s, d]) := .tup fun v hv => by
  rcases List.mem_cons.mp hv with rfl | hv
  · exact .leaf (.str _)
  · rw [List.mem_singleton] at hv
    subst hv
    exact h
theorem team_wf (t : List Nat) : Wf 1 (tD t) := .tup fun v hv => by
  obtain ⟨k, _, rfl⟩ := dN_mem hv
  exact .leaf (.int _)
theorem wantP_wf {n N : Nat} {gs : List (Nat × Nat)} {d : D} (h : SpOut N d) : Wf 11 (wantP n gs d) := by
  unfold wantP
  cases hR : rowsL d with
  | none => exact tup2_wf h.wf
  | some rows =>
    dsimp only
    cases hB : firstB n gs rows with
    | some v =>
      refine tup2_wf ?_
      have hv := List.mem_of_find?_eq_some hB
      obtain ⟨xs, hx, hv⟩ := List.mem_flatten.mp hv
      have : ItOk v := by
        cases d with
        | lst rs =>
          unfold rowsL at hR
          dsimp only at hR
          split at hR
          · cases hR
            obtain ⟨r, hr, rfl⟩ := List.mem_map.mp hx
            rcases h with ⟨rs', e, _, _, h⟩ | ⟨_, z, _⟩
            · cases e
              exact (h r hr).facts.2.2.2 v hv
            · cases z
          · cases hR
        | _ => cases hR
      exact this.wf.up1.up1
    | none =>
      dsimp only
      cases firstW n gs (decF rows) with
      | none => exact .leaf .non
      | some t =>
        refine .tup fun v hv => ?_
        simp only [List.mem_cons, List.not_mem_nil, or_false] at hv
        obtain rfl | rfl | rfl := hv
        · exact .leaf (.str _)
        · exact (team_wf t).up1.up1.up1.up1.up1.up1.up1.up1.up1
        · exact .leaf (.int _)
theorem shown_ok {d : D} (h : ShP 6 (2 ^ 20) d) : ∃ x, Px d x ∧ x.showable = true ∧ x.shown.length ≤ sizeLine ∧ x.depth ≤ 60 := by
  obtain ⟨x, a, b, c, e, f⟩ := h
  exact ⟨x, a, b, PyData.shown_fits (by decide) (by decide) c e, by omega⟩
theorem cut_len14 (ds : List D) : (DL.cutD ds none (some 14)).length ≤ 14 := by
  unfold DL.cutD
  rw [List.length_take]
  have : HT.sIx ds.length ds.length (some 14) = min 14 ds.length := HT.sIx_nat ds.length ds.length 14
  rw [this]
  omega
end Pf
set_option Elab.async false
set_option linter.all false
set_option maxRecDepth 100000
set_option maxHeartbeats 1000000
namespace Pf
open PySem PySem.Spec PyProof.Rows L2 DL
local macro_rules | `(tactic| walk_at "len") => `(tactic| with_unfolding_all first | exact Nat.le_of_ble_eq_true rfl | (simp; done) | (simp; omega))
local macro_rules | `(tactic| walk_at "side") => `(tactic| with_unfolding_all first | exact Or.inr ⟨by omega, by omega⟩ | exact Or.inl ⟨by omega, by omega⟩ | exact ⟨by omega, by omega⟩ | exact ⟨by omega, by omega, by omega⟩ | (show (0 : Int) < _; omega) | decide)
local macro_rules | `(tactic| walk_at "d1") => `(tactic| with_reducible first
  | (refine ds_seq ?_; try dsimp only [List.set_cons_zero, List.set_cons_succ, List.cons_append, List.nil_append, O.frz])
  | refine ds_asg ?_
  | refine ds_ret ?_
  | refine ds_retN ?_
  | refine ds_next ?_
  | refine ds_dropC ?_
  | refine ds_drop0 ?_
  | refine ds_dropB ?_
  | refine ds_if ?_
  | refine dt_test ?_
  | refine dt_B ?_
  | refine dt_not ?_
  | refine dt_and ?_
  | refine dt_or ?_
  | refine dt_yes ?_
  | refine de_int ?_
  | refine de_bl ?_
  | refine de_str ?_
  | refine de_non ?_
  | refine de_varD (by with_unfolding_all rfl) ?_
  | refine de_varO (by with_unfolding_all rfl) ?_
  | refine de_varA (by with_unfolding_all rfl) ?_
  | refine de_varV (by with_unfolding_all rfl) ?_
  | refine de_isi ?_
  | refine de_dget ?_
  | refine de_dget2 ?_
  | refine de_dnotin ?_
  | refine de_din ?_
  | refine de_dnew ?_
  | refine de_dnewT ?_
  | refine de_cb ?_
  | refine de_call0G ?_
  | refine de_callG ?_
  | refine de_andB ?_
  | refine de_orB ?_
  | refine de_notV ?_
  | refine de_ifE ?_
  | refine de_chain ?_
  | refine de_op ?_
  | refine de_neg ?_
  | refine de_tupG ?_
  | refine de_lstG ?_
  | refine de_slL ?_
  | refine de_slT ?_
  | refine do_none ?_
  | refine do_some ?_
  | refine daf_cons ?_
  | refine daf_nil ?_
  | refine daf_star ?_
  | refine da_cons ?_
  | refine da_nil ?_
  | refine lk_dat ?_
  | refine lk_nil ?_
  | refine ak_dat ?_
  | refine ak_nil ?_
  | refine ak_at ?_
  | refine ak_lst ?_
  | refine lk_lst ?_
  | refine ak_dK ?_
  | refine ak_dT ?_
  | refine ak_vw ?_
  | refine lk_dT ?_
  | refine lk_dK ?_
  | refine da_star ?_
  | refine de_lstRg1 ?_
  | refine de_lstRg2 ?_
  | refine de_revL ?_
  | refine de_count ?_
  | refine de_index ?_
  | refine di_enum ?_
  | refine dt_tru ?_
  | refine de_fld ?_
  | refine de_prop ?_
  | refine di_rng1 ?_
  | refine di_rng2 ?_
  | refine di_list ?_
  | refine di_tup ?_
  | refine di_seq ?_
  | refine di_zip ?_
  | refine ops_int ?_
  | (refine ops_cat (by with_unfolding_all rfl) (by with_unfolding_all rfl) ?side ?_; (case side => walk_at "len"))
  | (refine ops_catA ?side ?_; (case side => walk_at "len"))
  | refine ops_eqI ?_
  | refine ops_neI ?_
  | refine ops_bool ?_
  | (refine ops_intC ?side ?_; (case side => walk_at "side"))
  | refine cb_lenL (by with_unfolding_all rfl) ?_
  | refine cb_lenT (by with_unfolding_all rfl) ?_
  | refine cb_lenK (by with_unfolding_all rfl) ?_
  | refine cb_max2 ?_
  | refine cb_min2 ?_
  | refine cb_int ?_
  | refine ⟨fun _ => ?_, fun z => Bool.noConfusion z⟩
  | refine ⟨fun z => Bool.noConfusion z, fun _ => ?_⟩
  | refine ⟨rfl, ?_⟩
  | refine ⟨_, rfl, ?_⟩
  | refine ⟨_, Or.inl (by with_unfolding_all rfl), ?_⟩
  | (with_unfolding_all refine ⟨_, true, rfl, rfl, (fun _ z => by cases z), rfl, ?_⟩)
  | (with_unfolding_all refine ⟨_, false, rfl, rfl, (fun _ z => by cases z), rfl, ?_⟩))
local macro_rules | `(tactic| walk_at "d") => `(tactic| repeat walk_at "d1")
local macro_rules | `(tactic| walk_at "wk") => `(tactic| repeat first | exact Wk.nil | refine Wk.keep ?_ | refine Wk.drop ?_)
section
variable {P : Program} {w : World} {K : PySem.W.Frag} {mg : Str → Option Value} {base : Heap} {f : Addr} {fd : FuncData} {a_Plan a_BadRounds a_BadTeam a_WrongTimes : Addr}

def C_law : Fc := fun _ W m ss Φ Ξ => ∃ ns, ss = [.dat (.scr ns)] ∧ (∀ a, ¬ W.L a) ∧ (∃ o, W.pin sysModules (S0 o)) ∧ ∀ m', Φ m' (.dat (.bl true))

abbrev s_law : Stmt := (top 55)
abbrev N_law : List Str := ["_law_script", "_law_cell_here", "_law_source_here", "_law_rounds", "_law_k", "_law_people_here", "_law_games", "_law_wrong", "_law_shown", "_law_due"]
theorem sc_law : FnScope N_law ["_law_script"] (defScope s_law) := ⟨rfl, rfl, rfl, by decide +kernel, rfl, by decide +kernel, by decide +kernel⟩
theorem ok_law (F : FnP K "law" s_law f fd) (b : BI mg) (c_law_source : Cl P w K mg base CX0 1 "_law_source" ["_law_cell_here"] C_law_source) (c_law_people : Cl P w K mg base CX0 2 "_law_people" ["_law_source_here"] C_law_people) (c_law_plan : Cl P w K mg base CX0 3 "_law_plan" ["_law_source_here", "_law_people_here", "_law_games", "_law_many"] C_law_plan) (c_law_draw : Cl P w K mg base CX0 1 "_law_draw" ["_law_source_here", "_law_limit"] C_law_draw) (c_law_spoiled : Cl P w K mg base CX0 3 "_law_spoiled" ["_law_source_here", "_law_people_here", "_law_games", "_law_rounds"] C_law_spoiled) (c_law_is_rows : Cl P w K mg base CX0 1 "_law_is_rows" ["_law_value"] C_law_is_rows) (c_law_wanted : Cl P w K mg base CX0 3 "_law_wanted" ["_law_people_here", "_law_games", "_law_rounds"] C_law_wanted) (c_law_told : Cl P w K mg base CX0 7 "_law_told" ["_law_people_here", "_law_games", "_law_rounds"] (C_law_told a_Plan a_BadRounds a_BadTeam a_WrongTimes)) : FnG P w K mg base CX0 8 f fd ["_law_script"] (spF K C_law) := by
  have hlen := spF_len (K := K) (C := C_law) (m := 1) fun κ W m ss Φ Ξ ⟨ns, e, _⟩ => by first | exact e | (rw [e]; rfl)
  refine okG F sc_law hlen ?_
  intro cdv A outer s H vs Q E hgd hr h
  refine ⟨_, PSs.nox (pss_cons (ps_for PassesOwn.never rfl (k_piL (K := K) rfl (pe_op op_cat (pe_slice (k_slL (K := K) rfl) (pv 0) po_none (po_some pe_int)) (pe_lst (pa_cons pe_int (pa_cons pe_int pa_nil))))) (pg_name (i := 1) sc_law.nd rfl (by first | exact Or.inl rfl | exact Or.inr rfl))
      (pss_cons (ps_set (i := 2) sc_law.nd rfl (by first | exact Or.inl rfl | exact Or.inr rfl) (k_cl0 c_law_source rfl hr (pa_cons (pv 1) pa_nil)))
      (pss_cons (ps_asg (k_cl0 c_law_people rfl hr (pa_cons (pv 2) pa_nil)) (k_gTup (K := K) (n := 2) rfl rfl (pgs_cons (pg_name (i := 5) sc_law.nd rfl (by first | exact Or.inl rfl | exact Or.inr rfl)) (pgs_cons (pg_name (i := 6) sc_law.nd rfl (by first | exact Or.inl rfl | exact Or.inr rfl)) pgs_nil))))
      (pss_cons (ps_set (i := 3) sc_law.nd rfl (by first | exact Or.inl rfl | exact Or.inr rfl) (k_cl0 c_law_plan rfl hr (pa_cons (pv 2) (pa_cons (pv 5) (pa_cons (pv 6) (pa_cons (pe_op op_add pe_int (k_cl0 c_law_draw rfl hr (pa_cons (pv 2) (pa_cons pe_int pa_nil)))) pa_nil))))))
      (pss_one (ps_for PassesOwn.never rfl (pi_range1 rfl b.range (pa_cons pe_int pa_nil)) (pg_name (i := 4) sc_law.nd rfl (by first | exact Or.inl rfl | exact Or.inr rfl))
      (pss_cons (ps_set (i := 7) sc_law.nd rfl (by first | exact Or.inl rfl | exact Or.inr rfl) (k_cl0 c_law_spoiled rfl hr (pa_cons (pv 2) (pa_cons (pv 5) (pa_cons (pv 6) (pa_cons (pv 3) pa_nil))))))
      (pss_cons (ps_if (PW.pt (pw_and (pt_cmpR op_gt (pv 4) pe_int (nomark _)) (pw_and1 (pt_val (k_cl0 c_law_is_rows rfl hr (pa_cons (pv 7) pa_nil)))))) (pss_one (ps_set (i := 7) sc_law.nd rfl (by first | exact Or.inl rfl | exact Or.inr rfl) (k_cl0 c_law_spoiled rfl hr (pa_cons (pv 2) (pa_cons (pv 5) (pa_cons (pv 6) (pa_cons (pv 7) pa_nil))))))) pss_nil)
      (pss_cons (ps_set (i := 8) sc_law.nd rfl (by first | exact Or.inl rfl | exact Or.inr rfl) (pe_callB (k_repr (K := K) rfl hgd (un64 hr)) rfl b.repr boot_repr (pa_cons (pv 7) pa_nil)))
      (pss_cons (ps_set (i := 9) sc_law.nd rfl (by first | exact Or.inl rfl | exact Or.inr rfl) (k_cl0 c_law_wanted rfl hr (pa_cons (pv 5) (pa_cons (pv 6) (pa_cons (pv 7) pa_nil)))))
      (pss_one (ps_if (PW.pt (pw_or (pt_cmpR (k_neVK (K := K) rfl hr.units) (k_cl0 c_law_told rfl hr (pa_cons (pv 5) (pa_cons (pv 6) (pa_cons (pv 7) pa_nil)))) (pv 9) (nomark _)) (pw_or1 (pt_cmpR (k_neVK (K := K) rfl hr.units) (pe_callB (k_repr (K := K) rfl hgd (un64 hr)) rfl b.repr boot_repr (pa_cons (pv 7) pa_nil)) (pv 8) (nomark _))))) (pss_one (ps_ret pe_bl)) pss_nil))))))))))))
      (pss_one (ps_ret pe_bl))), ?_⟩
  refine DL.run_fnP  [.no, .no, .no, .no, .no, .no, .no, .no, .no] (Nm := N_law) (n := 1) (k := 9) rfl (hlen _ _ _ _ h) rfl h fun κ W m ss Φ Ξ G hc => ?_
  try dsimp only [cxOf, Cx.nox, Cx.wish, Cx.blk]
  obtain ⟨ns, rfl, hL, ⟨o, hp⟩, hΦ⟩ := hc
  walk_at "d"
  refine ds_forW (vs := [1]) ?_
  walk_at "d"
  refine ops_cat rfl rfl (by have := cut_len14 (ns.map D.int); show _ + 2 ≤ _; omega) ?_
  refine ⟨_, rfl, fun i m' ρ => ρ = [.dat (.scr ns), .no, .no, .no, .no, .no, .no, .no, .no, .no], ⟨_, Wk.refl _, rfl, rfl⟩, ?_, ?_⟩
  · rintro i d m1 ρ hd rfl
    obtain ⟨y, rfl⟩ : ∃ y, d = .int y := by
      rcases List.mem_append.mp (List.mem_of_getElem? hd) with h | h
      · have h2 : d ∈ ns.map D.int := List.mem_of_mem_drop (List.mem_of_mem_take h)
        obtain ⟨y, _, rfl⟩ := List.mem_map.mp h2
        exact ⟨y, rfl⟩
      · simp only [List.mem_cons, List.not_mem_nil, or_false] at h
        rcases h with rfl | rfl <;> exact ⟨_, rfl⟩
    refine ⟨_, dg_name (by simp), ?_⟩
    walk_at "d"
    refine ⟨y, rfl, ?_⟩
    refine ⟨rfl, ?_⟩
    refine ds_src (i := 2) 300 rfl ⟨by decide, by decide⟩ rfl fun p G0 H0 np => ?_
    dsimp only [List.set_cons_zero, List.set_cons_succ]
    refine ds_seq ?_
    refine ds_asgU (vs := [5, 6]) ?_
    walk_at "d"
    refine ⟨p, srcL np, rfl, by show 6 ≤ 300; decide, hL, fun n gs m2 n1 n10 gg tt hl => ⟨_, _, rfl, dg_tup2 (by simp) (by simp), ?_⟩⟩
    have hl : 300 ≤ m2.2 + 6 := hl
    walk_at "d"
    refine ⟨p, srcL np, 5, rfl, by decide, by decide, by show 0 < m2.2; omega, fun k hk => ?_⟩
    walk_at "d"
    refine ⟨p, srcL np, n, k + 1, gs, by rw [show (1 + (k : Int)) = ((k + 1 : Nat) : Int) by omega], n1, n10, gg, tt, by omega, by omega, by show 130 ≤ m2.2 - 1; omega, fun rs m3 hgd hrl hl3 => ?_⟩
    have hl3 : m2.2 - 1 ≤ m3.2 + 130 := hl3
    refine ⟨rfl, ?_⟩
    refine ds_frz (i := 3) rfl ?_
    dsimp only [O.frz, O1.frz, List.set_cons_zero, List.set_cons_succ]
    rw [rows_eq]
    have rin := good_in hgd
    generalize (rs.map fun r => r.map tD) = R at *
    refine ds_forW (vs := [4]) ?_
    walk_at "d"
    refine ⟨by decide, by decide, fun i m' ρ => ρ = [.dat (.scr ns), .no, .at_ p, .dat (.lst (R.map .lst)), .no, .dat (.int (n : Nat)), .dat (.dic (gD gs)), .no, .no, .no] ∧ m3.2 ≤ m'.2 + 12 * i, ⟨_, by walk_at "wk", rfl, rfl, by omega⟩, ?_, ?_⟩
    · rintro i d m4 ρ hd ⟨rfl, q2⟩
      obtain ⟨hi, rfl⟩ := rng_at hd
      refine ⟨_, dg_name (by simp), ?_⟩
      walk_at "d"
      refine ⟨p, srcL np, n, gs, 130, R, rfl, n1, n10, gg, by decide, rin, by show 6 ≤ m4.2; omega, fun d1 m5 sp1 hl5 => ?_⟩
      have hl5 : m4.2 ≤ m5.2 + 6 := hl5
      refine ⟨rfl, ?_⟩
      dsimp only [List.set_cons_zero, List.set_cons_succ]
      refine ds_cut (fun (mm : κ × Nat) ρ' => ∃ d2, SpOut 132 d2 ∧ m5.2 ≤ mm.2 + 6 ∧ ρ' = [.dat (.scr ns), .no, .at_ p, .dat (.lst (R.map .lst)), .dat (.int (0 + (i : Int))), .dat (.int (n : Nat)), .dat (.dic (gD gs)), .dat d2, .no, .no]) ?_ ?_
      · have up1 : SpOut 132 d1 := sp1.mono (by decide)
        walk_at "d"
        refine ⟨fun h2 => ?_, fun h2 => ?_⟩
        · walk_at "d"
          refine ⟨d1, rfl, sp1.rd (by decide), ?_⟩
          cases hI : isRows d1 with
          | false =>
            walk_at "d"
            exact ⟨_, Wk.refl _, rfl, d1, up1, by omega, rfl⟩
          | true =>
            obtain ⟨R2, rfl, r2⟩ := sp1.rows hI
            walk_at "d"
            refine ⟨p, srcL np, n, gs, 131, R2, rfl, n1, n10, gg, by decide, r2, by show 6 ≤ m5.2; omega, fun d3 m6 sp3 hl6 => ?_⟩
            exact ⟨rfl, _, Wk.refl _, rfl, d3, sp3, hl6, rfl⟩
        · walk_at "d"
          exact ⟨_, Wk.refl _, rfl, d1, up1, by omega, rfl⟩
      · rintro m6 ρ ⟨d2, sp2, hl6, rfl⟩
        obtain ⟨x, px, sh, sl, sd⟩ := shown_ok (sp2.sh (by decide))
        have wf := (wantP_wf (n := n) (gs := gs) sp2).self
        walk_at "d"
        refine cb_repr px sh sl sd hp ?_
        walk_at "d"
        refine ⟨n, gs, d2, rfl, n10, gg, sp2.rd (by decide), sp2.pl, ?_⟩
        walk_at "d"
        refine ⟨n, gs, d2, rfl, n1, n10, gg, tt, sp2.rd (by decide), hL, ?_⟩
        walk_at "d"
        refine ops_neV rfl rfl (by decide) wf ?_
        walk_at "d"
        refine cb_repr px sh sl sd hp ?_
        walk_at "d"
        have es : EqD 1 (.str x.shown) (.str x.shown) true := (Wf.leaf (.str _)).self
        refine ops_neV rfl rfl (by decide) es ?_
        walk_at "d"
        exact ⟨_, by walk_at "wk", rfl, rfl, by omega⟩
    · rintro m4 ρ ⟨rfl, q2⟩
      exact ⟨rfl, rfl, _, by walk_at "wk", rfl, rfl⟩
  · rintro m2 ρ rfl
    walk_at "d"
    exact hΦ _


end
end Pf
set_option Elab.async false
set_option linter.all false
set_option maxRecDepth 100000
set_option maxHeartbeats 0
namespace Pf
open PySem PySem.Spec PyProof.Rows L2 DL
section
variable {P : Program} {w : World} {K : PySem.W.Frag} {mg : Str → Option Value} {base : Heap} {f : Addr} {fd : FuncData}
abbrev si_BadGames : Stmt := (inClass (top 4) 0)
theorem sci_BadGames : FnScope ["self", "value"] ["self", "value"] (defScope si_BadGames) := ⟨rfl, rfl, rfl, by decide +kernel, rfl, by decide +kernel, by decide +kernel⟩
theorem ini_BadGames {C : Addr} (F : FunD K "__init__" "BadGames.__init__" (defArgs si_BadGames) (defBody si_BadGames) (defScope si_BadGames) [] [] f fd) (T : OexC K C) (n0 : PySem.W.findIn K (.ref C) "value" = some none) : FnOk P w K mg base CX0 1 f fd ["self", "value"] (spX C ["value"]) := by
  refine F.ok sci_BadGames (fun vs H Q E h => by obtain ⟨a, ws, rfl, hl, _⟩ := h; simp [hl]) ?_
  intro cdv A outer s H vs Q E hr h
  exact ⟨_, PSs.nox (pss_one (ps_ost (pv 0) (pv 1))), init1 T n0 h⟩
abbrev si_BadPeople : Stmt := (inClass (top 3) 0)
theorem sci_BadPeople : FnScope ["self", "value"] ["self", "value"] (defScope si_BadPeople) := ⟨rfl, rfl, rfl, by decide +kernel, rfl, by decide +kernel, by decide +kernel⟩
theorem ini_BadPeople {C : Addr} (F : FunD K "__init__" "BadPeople.__init__" (defArgs si_BadPeople) (defBody si_BadPeople) (defScope si_BadPeople) [] [] f fd) (T : OexC K C) (n0 : PySem.W.findIn K (.ref C) "value" = some none) : FnOk P w K mg base CX0 1 f fd ["self", "value"] (spX C ["value"]) := by
  refine F.ok sci_BadPeople (fun vs H Q E h => by obtain ⟨a, ws, rfl, hl, _⟩ := h; simp [hl]) ?_
  intro cdv A outer s H vs Q E hr h
  exact ⟨_, PSs.nox (pss_one (ps_ost (pv 0) (pv 1))), init1 T n0 h⟩
abbrev si_BadRounds : Stmt := (inClass (top 7) 0)
theorem sci_BadRounds : FnScope ["self", "value"] ["self", "value"] (defScope si_BadRounds) := ⟨rfl, rfl, rfl, by decide +kernel, rfl, by decide +kernel, by decide +kernel⟩
theorem ini_BadRounds {C : Addr} (F : FunD K "__init__" "BadRounds.__init__" (defArgs si_BadRounds) (defBody si_BadRounds) (defScope si_BadRounds) [] [] f fd) (T : OexC K C) (n0 : PySem.W.findIn K (.ref C) "value" = some none) : FnOk P w K mg base CX0 1 f fd ["self", "value"] (spX C ["value"]) := by
  refine F.ok sci_BadRounds (fun vs H Q E h => by obtain ⟨a, ws, rfl, hl, _⟩ := h; simp [hl]) ?_
  intro cdv A outer s H vs Q E hr h
  exact ⟨_, PSs.nox (pss_one (ps_ost (pv 0) (pv 1))), init1 T n0 h⟩
abbrev si_BadTeam : Stmt := (inClass (top 6) 0)
theorem sci_BadTeam : FnScope ["self", "value"] ["self", "value"] (defScope si_BadTeam) := ⟨rfl, rfl, rfl, by decide +kernel, rfl, by decide +kernel, by decide +kernel⟩
theorem ini_BadTeam {C : Addr} (F : FunD K "__init__" "BadTeam.__init__" (defArgs si_BadTeam) (defBody si_BadTeam) (defScope si_BadTeam) [] [] f fd) (T : OexC K C) (n0 : PySem.W.findIn K (.ref C) "value" = some none) : FnOk P w K mg base CX0 1 f fd ["self", "value"] (spX C ["value"]) := by
  refine F.ok sci_BadTeam (fun vs H Q E h => by obtain ⟨a, ws, rfl, hl, _⟩ := h; simp [hl]) ?_
  intro cdv A outer s H vs Q E hr h
  exact ⟨_, PSs.nox (pss_one (ps_ost (pv 0) (pv 1))), init1 T n0 h⟩
abbrev si_TooMany : Stmt := (inClass (top 5) 0)
theorem sci_TooMany : FnScope ["self", "count"] ["self", "count"] (defScope si_TooMany) := ⟨rfl, rfl, rfl, by decide +kernel, rfl, by decide +kernel, by decide +kernel⟩
theorem ini_TooMany {C : Addr} (F : FunD K "__init__" "TooMany.__init__" (defArgs si_TooMany) (defBody si_TooMany) (defScope si_TooMany) [] [] f fd) (T : OexC K C) (n0 : PySem.W.findIn K (.ref C) "count" = some none) : FnOk P w K mg base CX0 1 f fd ["self", "count"] (spX C ["count"]) := by
  refine F.ok sci_TooMany (fun vs H Q E h => by obtain ⟨a, ws, rfl, hl, _⟩ := h; simp [hl]) ?_
  intro cdv A outer s H vs Q E hr h
  exact ⟨_, PSs.nox (pss_one (ps_ost (pv 0) (pv 1))), init1 T n0 h⟩
abbrev si_WrongTimes : Stmt := (inClass (top 9) 0)
theorem sci_WrongTimes : FnScope ["self", "team", "count"] ["self", "team", "count"] (defScope si_WrongTimes) := ⟨rfl, rfl, rfl, by decide +kernel, rfl, by decide +kernel, by decide +kernel⟩
theorem ini_WrongTimes {C : Addr} (F : FunD K "__init__" "WrongTimes.__init__" (defArgs si_WrongTimes) (defBody si_WrongTimes) (defScope si_WrongTimes) [] [] f fd) (T : OexC K C) (n0 : PySem.W.findIn K (.ref C) "team" = some none) (n1 : PySem.W.findIn K (.ref C) "count" = some none) : FnOk P w K mg base CX0 1 f fd ["self", "team", "count"] (spX C ["team", "count"]) := by
  refine F.ok sci_WrongTimes (fun vs H Q E h => by obtain ⟨a, ws, rfl, hl, _⟩ := h; simp [hl]) ?_
  intro cdv A outer s H vs Q E hr h
  exact ⟨_, PSs.nox (pss_cons (ps_ost (pv 0) (pv 1)) (pss_one (ps_ost (pv 0) (pv 2)))), init2 T n0 n1 h⟩
end
theorem facts {P : Program} {w : World} {K : PySem.W.Frag} {h : Heap} {mg : Str → Option Value} {f : Addr} (X : K.In h) (G : h.Ns mainGlobals mg) (hfa : mg ("law" : Str) = some (.ref f)) (c : SaysP fa fn pr ex K) :
    ∃ fd : FuncData, (∀ (s : Shared) (v : Value), BindsTo s fd ⟨[v], []⟩ [("_law_script", v)]) ∧ K.lookup sysModules = none ∧ ∀ base : Heap, K.In base → base.Ns mainGlobals mg → FnG P w K mg base CX0 8 f fd ["_law_script"] (spF K C_law) := by
  obtain ⟨fd_law_source, F_law_source⟩ := c.d.def_ 0 (d := d_law_source) rfl
  obtain ⟨fd_law_draw, F_law_draw⟩ := c.d.def_ 1 (d := d_law_draw) rfl
  obtain ⟨fd_law_choose, F_law_choose⟩ := c.d.def_ 2 (d := d_law_choose) rfl
  obtain ⟨fd_law_people, F_law_people⟩ := c.d.def_ 3 (d := d_law_people) rfl
  obtain ⟨fd_law_subsets, F_law_subsets⟩ := c.d.def_ 4 (d := d_law_subsets) rfl
  obtain ⟨fd_law_teams, F_law_teams⟩ := c.d.def_ 5 (d := d_law_teams) rfl
  obtain ⟨fd_law_plan, F_law_plan⟩ := c.d.def_ 6 (d := d_law_plan) rfl
  obtain ⟨fd_law_spoiled, F_law_spoiled⟩ := c.d.def_ 7 (d := d_law_spoiled) rfl
  obtain ⟨fd_law_is_rows, F_law_is_rows⟩ := c.d.def_ 8 (d := d_law_is_rows) rfl
  obtain ⟨fd_law_wanted, F_law_wanted⟩ := c.d.def_ 9 (d := d_law_wanted) rfl
  obtain ⟨fd_is_between, F_is_between⟩ := c.d.def_ 10 (d := d_is_between) rfl
  obtain ⟨fd_are_games, F_are_games⟩ := c.d.def_ 11 (d := d_are_games) rfl
  obtain ⟨fd_choices, F_choices⟩ := c.d.def_ 12 (d := d_choices) rfl
  obtain ⟨fd_all_teams, F_all_teams⟩ := c.d.def_ 13 (d := d_all_teams) rfl
  obtain ⟨fd_check_games, F_check_games⟩ := c.d.def_ 14 (d := d_check_games) rfl
  obtain ⟨fd_check_people, F_check_people⟩ := c.d.def_ 15 (d := d_check_people) rfl
  obtain ⟨fd_is_list, F_is_list⟩ := c.d.def_ 16 (d := d_is_list) rfl
  obtain ⟨fd_is_team, F_is_team⟩ := c.d.def_ 17 (d := d_is_team) rfl
  obtain ⟨fd_is_game_team, F_is_game_team⟩ := c.d.def_ 18 (d := d_is_game_team) rfl
  obtain ⟨fd_parts_of, F_parts_of⟩ := c.d.def_ 19 (d := d_parts_of) rfl
  obtain ⟨fd_team_list, F_team_list⟩ := c.d.def_ 20 (d := d_team_list) rfl
  obtain ⟨fd_every_team, F_every_team⟩ := c.d.def_ 21 (d := d_every_team) rfl
  obtain ⟨fd_check_times, F_check_times⟩ := c.d.def_ 22 (d := d_check_times) rfl
  obtain ⟨fd_ordered, F_ordered⟩ := c.d.def_ 23 (d := d_ordered) rfl
  obtain ⟨fd_Plan___init, F_Plan___init⟩ := c.d.def_ 24 (d := d_Plan___init) rfl
  obtain ⟨fd_law_told, F_law_told⟩ := c.d.def_ 25 (d := d_law_told) rfl
  obtain ⟨fd_law, F_law⟩ := c.d.def_ 26 (d := d_law) rfl
  obtain ⟨fd_BadGames___init, F_BadGames___init⟩ := c.d.def_ 27 (d := d_BadGames___init) rfl
  obtain ⟨fd_BadPeople___init, F_BadPeople___init⟩ := c.d.def_ 28 (d := d_BadPeople___init) rfl
  obtain ⟨fd_BadRounds___init, F_BadRounds___init⟩ := c.d.def_ 29 (d := d_BadRounds___init) rfl
  obtain ⟨fd_BadTeam___init, F_BadTeam___init⟩ := c.d.def_ 30 (d := d_BadTeam___init) rfl
  obtain ⟨fd_TooMany___init, F_TooMany___init⟩ := c.d.def_ 31 (d := d_TooMany___init) rfl
  obtain ⟨fd_WrongTimes___init, F_WrongTimes___init⟩ := c.d.def_ 32 (d := d_WrongTimes___init) rfl
  have e := hfa.symm.trans (He.glo_ok X G (c.d.fact 0 rfl))
  cases e
  have bb := FunD.bindsA (ps := ["_law_script"]) F_law fun _ _ _ _ _ _ us hl => match us, hl with | [_], _ => rfl
  have hsys : K.lookup sysModules = none := by have hx := c.more; unfold ex at hx; obtain ⟨_, hx⟩ := He.ba hx; obtain ⟨_, hx⟩ := He.ba hx; obtain ⟨_, hx⟩ := He.ba hx; obtain ⟨_, hx⟩ := He.ba hx; obtain ⟨_, hx⟩ := He.ba hx; obtain ⟨_, hx⟩ := He.ba hx; exact sysB_ok hx
  refine ⟨fd_law, fun s v => bb s [v] rfl, hsys, fun base _ _ => ?_⟩
  have b : BI mg := ⟨He.free_ok X G (c.d.fact 1 rfl), He.free_ok X G (c.d.fact 2 rfl), He.free_ok X G (c.d.fact 3 rfl), He.free_ok X G (c.d.fact 4 rfl), He.free_ok X G (c.d.fact 5 rfl), He.free_ok X G (c.d.fact 6 rfl), He.free_ok X G (c.d.fact 7 rfl), He.free_ok X G (c.d.fact 8 rfl), He.free_ok X G (c.d.fact 9 rfl), He.free_ok X G (c.d.fact 10 rfl), He.free_ok X G (c.d.fact 11 rfl), He.free_ok X G (c.d.fact 12 rfl), He.free_ok X G (c.d.fact 13 rfl), He.free_ok X G (c.d.fact 14 rfl), He.free_ok X G (c.d.fact 15 rfl), He.free_ok X G (c.d.fact 16 rfl), He.free_ok X G (c.d.fact 17 rfl), He.free_ok X G (c.d.fact 18 rfl), He.free_ok X G (c.d.fact 19 rfl), He.free_ok X G (c.d.fact 20 rfl)⟩
  have k_MOST_PEOPLE : ∃ u, mg "MOST_PEOPLE" = some u ∧ RelV (.int 10) u := by obtain ⟨tk, e⟩ := He.int_ok X G (c.d.fact 21 rfl); exact ⟨_, e, ⟨tk, rfl⟩⟩
  have k_MOST_ROUNDS : ∃ u, mg "MOST_ROUNDS" = some u ∧ RelV (.int 130) u := by obtain ⟨tk, e⟩ := He.int_ok X G (c.d.fact 22 rfl); exact ⟨_, e, ⟨tk, rfl⟩⟩
  have k_MOST_SIZE : ∃ u, mg "MOST_SIZE" = some u ∧ RelV (.int 4) u := by obtain ⟨tk, e⟩ := He.int_ok X G (c.d.fact 23 rfl); exact ⟨_, e, ⟨tk, rfl⟩⟩
  have k_MOST_TEAMS : ∃ u, mg "MOST_TEAMS" = some u ∧ RelV (.int 130) u := by obtain ⟨tk, e⟩ := He.int_ok X G (c.d.fact 24 rfl); exact ⟨_, e, ⟨tk, rfl⟩⟩
  have k_MOST_TIMES : ∃ u, mg "MOST_TIMES" = some u ∧ RelV (.int 3) u := by obtain ⟨tk, e⟩ := He.int_ok X G (c.d.fact 25 rfl); exact ⟨_, e, ⟨tk, rfl⟩⟩
  have hx := c.more
  unfold ex at hx
  obtain ⟨hx0, hx⟩ := He.ba hx
  obtain ⟨hx1, hx⟩ := He.ba hx
  obtain ⟨hx2, hx⟩ := He.ba hx
  obtain ⟨hx3, hx⟩ := He.ba hx
  obtain ⟨hx4, hx⟩ := He.ba hx
  obtain ⟨hx5, hx⟩ := He.ba hx
  have hx6 := hx
  have x_BadGames : Xc P w K mg base "BadGames" (He.ga K "BadGames") ["value"] := ⟨(oexB_ok hx0).1, (oexB_ok hx0).2, He.glo_ok X G (c.d.fact 27 rfl), He.exm_ok (c.d.fact 28 rfl), ⟨_, fd_BadGames___init, (He.meth_ok (c.d.fact 29 rfl)).at_, isFn_ok (He.meth_ok (c.d.fact 29 rfl)).fn, ini_BadGames F_BadGames___init (oexB_ok hx0).1 (He.noat_ok (c.d.fact 26 rfl)), F_BadGames___init.bindsN fun _ _ _ _ _ _ us hl => match us, hl with | [_, _], _ => rfl⟩, fun f hf => by simp only [List.mem_cons, List.not_mem_nil, or_false] at hf; rcases hf with rfl; exact He.noat_ok (c.d.fact 26 rfl)⟩
  have x_BadPeople : Xc P w K mg base "BadPeople" (He.ga K "BadPeople") ["value"] := ⟨(oexB_ok hx1).1, (oexB_ok hx1).2, He.glo_ok X G (c.d.fact 31 rfl), He.exm_ok (c.d.fact 32 rfl), ⟨_, fd_BadPeople___init, (He.meth_ok (c.d.fact 33 rfl)).at_, isFn_ok (He.meth_ok (c.d.fact 33 rfl)).fn, ini_BadPeople F_BadPeople___init (oexB_ok hx1).1 (He.noat_ok (c.d.fact 30 rfl)), F_BadPeople___init.bindsN fun _ _ _ _ _ _ us hl => match us, hl with | [_, _], _ => rfl⟩, fun f hf => by simp only [List.mem_cons, List.not_mem_nil, or_false] at hf; rcases hf with rfl; exact He.noat_ok (c.d.fact 30 rfl)⟩
  have x_BadRounds : Xc P w K mg base "BadRounds" (He.ga K "BadRounds") ["value"] := ⟨(oexB_ok hx2).1, (oexB_ok hx2).2, He.glo_ok X G (c.d.fact 35 rfl), He.exm_ok (c.d.fact 36 rfl), ⟨_, fd_BadRounds___init, (He.meth_ok (c.d.fact 37 rfl)).at_, isFn_ok (He.meth_ok (c.d.fact 37 rfl)).fn, ini_BadRounds F_BadRounds___init (oexB_ok hx2).1 (He.noat_ok (c.d.fact 34 rfl)), F_BadRounds___init.bindsN fun _ _ _ _ _ _ us hl => match us, hl with | [_, _], _ => rfl⟩, fun f hf => by simp only [List.mem_cons, List.not_mem_nil, or_false] at hf; rcases hf with rfl; exact He.noat_ok (c.d.fact 34 rfl)⟩
  have x_BadTeam : Xc P w K mg base "BadTeam" (He.ga K "BadTeam") ["value"] := ⟨(oexB_ok hx3).1, (oexB_ok hx3).2, He.glo_ok X G (c.d.fact 39 rfl), He.exm_ok (c.d.fact 40 rfl), ⟨_, fd_BadTeam___init, (He.meth_ok (c.d.fact 41 rfl)).at_, isFn_ok (He.meth_ok (c.d.fact 41 rfl)).fn, ini_BadTeam F_BadTeam___init (oexB_ok hx3).1 (He.noat_ok (c.d.fact 38 rfl)), F_BadTeam___init.bindsN fun _ _ _ _ _ _ us hl => match us, hl with | [_, _], _ => rfl⟩, fun f hf => by simp only [List.mem_cons, List.not_mem_nil, or_false] at hf; rcases hf with rfl; exact He.noat_ok (c.d.fact 38 rfl)⟩
  have x_TooMany : Xc P w K mg base "TooMany" (He.ga K "TooMany") ["count"] := ⟨(oexB_ok hx4).1, (oexB_ok hx4).2, He.glo_ok X G (c.d.fact 43 rfl), He.exm_ok (c.d.fact 44 rfl), ⟨_, fd_TooMany___init, (He.meth_ok (c.d.fact 45 rfl)).at_, isFn_ok (He.meth_ok (c.d.fact 45 rfl)).fn, ini_TooMany F_TooMany___init (oexB_ok hx4).1 (He.noat_ok (c.d.fact 42 rfl)), F_TooMany___init.bindsN fun _ _ _ _ _ _ us hl => match us, hl with | [_, _], _ => rfl⟩, fun f hf => by simp only [List.mem_cons, List.not_mem_nil, or_false] at hf; rcases hf with rfl; exact He.noat_ok (c.d.fact 42 rfl)⟩
  have x_WrongTimes : Xc P w K mg base "WrongTimes" (He.ga K "WrongTimes") ["team", "count"] := ⟨(oexB_ok hx5).1, (oexB_ok hx5).2, He.glo_ok X G (c.d.fact 48 rfl), He.exm_ok (c.d.fact 49 rfl), ⟨_, fd_WrongTimes___init, (He.meth_ok (c.d.fact 50 rfl)).at_, isFn_ok (He.meth_ok (c.d.fact 50 rfl)).fn, ini_WrongTimes F_WrongTimes___init (oexB_ok hx5).1 (He.noat_ok (c.d.fact 46 rfl)) (He.noat_ok (c.d.fact 47 rfl)), F_WrongTimes___init.bindsN fun _ _ _ _ _ _ us hl => match us, hl with | [_, _, _], _ => rfl⟩, fun f hf => by simp only [List.mem_cons, List.not_mem_nil, or_false] at hf; rcases hf with rfl | rfl <;> first | exact He.noat_ok (c.d.fact 46 rfl) | exact He.noat_ok (c.d.fact 47 rfl)⟩
  have i_Plan : Ci K (He.ga K "Plan") ["own_people", "own_games", "rows"] := ⟨He.cls_ok (c.d.fact 51 rfl), fun f hf => by simp only [List.mem_cons, List.not_mem_nil, or_false] at hf; rcases hf with rfl | rfl | rfl <;> first | exact He.noat_ok (c.d.fact 52 rfl) | exact He.noat_ok (c.d.fact 53 rfl) | exact He.noat_ok (c.d.fact 54 rfl)⟩
  have nx_BadTeam_BadRounds : PySem.W.exmOne K (.ref (He.ga K "BadTeam")) (.ref (He.ga K "BadRounds")) = some false := He.exm_ok (c.d.fact 55 rfl)
  have nx_WrongTimes_BadRounds : PySem.W.exmOne K (.ref (He.ga K "WrongTimes")) (.ref (He.ga K "BadRounds")) = some false := He.exm_ok (c.d.fact 56 rfl)
  have nx_WrongTimes_BadTeam : PySem.W.exmOne K (.ref (He.ga K "WrongTimes")) (.ref (He.ga K "BadTeam")) = some false := He.exm_ok (c.d.fact 57 rfl)
  have c_law_source : Cl P w K mg base CX0 1 "_law_source" ["_law_cell_here"] C_law_source := ⟨_, fd_law_source, ok_law_source F_law_source b, He.glo_ok X G (c.d.fact 58 rfl), F_law_source.kp, F_law_source.bindsN fun _ _ _ _ _ _ us hl => match us, hl with | [_], _ => rfl⟩
  have c_law_draw : Cl P w K mg base CX0 1 "_law_draw" ["_law_source_here", "_law_limit"] C_law_draw := ⟨_, fd_law_draw, ok_law_draw F_law_draw b, He.glo_ok X G (c.d.fact 59 rfl), F_law_draw.kp, F_law_draw.bindsN fun _ _ _ _ _ _ us hl => match us, hl with | [_, _], _ => rfl⟩
  have c_law_choose : Cl P w K mg base CX0 1 "_law_choose" ["_law_many", "_law_few"] C_law_choose := ⟨_, fd_law_choose, ok_law_choose F_law_choose b, He.glo_ok X G (c.d.fact 60 rfl), F_law_choose.kp, F_law_choose.bindsN fun _ _ _ _ _ _ us hl => match us, hl with | [_, _], _ => rfl⟩
  have c_law_people : Cl P w K mg base CX0 2 "_law_people" ["_law_source_here"] C_law_people := ⟨_, fd_law_people, ok_law_people F_law_people b c_law_draw c_law_choose, He.glo_ok X G (c.d.fact 61 rfl), F_law_people.kp, F_law_people.bindsN fun _ _ _ _ _ _ us hl => match us, hl with | [_], _ => rfl⟩
  have c_law_subsets : Cl P w K mg base CX0 1 "_law_subsets" ["_law_people_here", "_law_few"] C_law_subsets := ⟨_, fd_law_subsets, ok_law_subsets F_law_subsets b, He.glo_ok X G (c.d.fact 62 rfl), F_law_subsets.kp, F_law_subsets.bindsN fun _ _ _ _ _ _ us hl => match us, hl with | [_, _], _ => rfl⟩
  have c_law_teams : Cl P w K mg base CX0 2 "_law_teams" ["_law_people_here", "_law_games"] C_law_teams := ⟨_, fd_law_teams, ok_law_teams F_law_teams b c_law_subsets, He.glo_ok X G (c.d.fact 63 rfl), F_law_teams.kp, F_law_teams.bindsN fun _ _ _ _ _ _ us hl => match us, hl with | [_, _], _ => rfl⟩
  have c_law_plan : Cl P w K mg base CX0 3 "_law_plan" ["_law_source_here", "_law_people_here", "_law_games", "_law_many"] C_law_plan := ⟨_, fd_law_plan, ok_law_plan F_law_plan b c_law_teams c_law_draw, He.glo_ok X G (c.d.fact 64 rfl), F_law_plan.kp, F_law_plan.bindsN fun _ _ _ _ _ _ us hl => match us, hl with | [_, _, _, _], _ => rfl⟩
  have c_law_spoiled : Cl P w K mg base CX0 3 "_law_spoiled" ["_law_source_here", "_law_people_here", "_law_games", "_law_rounds"] C_law_spoiled := ⟨_, fd_law_spoiled, ok_law_spoiled F_law_spoiled b c_law_draw c_law_teams, He.glo_ok X G (c.d.fact 65 rfl), F_law_spoiled.kp, F_law_spoiled.bindsN fun _ _ _ _ _ _ us hl => match us, hl with | [_, _, _, _], _ => rfl⟩
  have c_law_is_rows : Cl P w K mg base CX0 1 "_law_is_rows" ["_law_value"] C_law_is_rows := ⟨_, fd_law_is_rows, ok_law_is_rows F_law_is_rows b, He.glo_ok X G (c.d.fact 66 rfl), F_law_is_rows.kp, F_law_is_rows.bindsN fun _ _ _ _ _ _ us hl => match us, hl with | [_], _ => rfl⟩
  have c_law_wanted : Cl P w K mg base CX0 3 "_law_wanted" ["_law_people_here", "_law_games", "_law_rounds"] C_law_wanted := ⟨_, fd_law_wanted, ok_law_wanted F_law_wanted b c_law_teams, He.glo_ok X G (c.d.fact 67 rfl), F_law_wanted.kp, F_law_wanted.bindsN fun _ _ _ _ _ _ us hl => match us, hl with | [_, _, _], _ => rfl⟩
  have c_is_between : Cl P w K mg base CX0 1 "is_between" ["value", "least", "most"] C_is_between := ⟨_, fd_is_between, ok_is_between F_is_between b, He.glo_ok X G (c.d.fact 68 rfl), F_is_between.kp, F_is_between.bindsN fun _ _ _ _ _ _ us hl => match us, hl with | [_, _, _], _ => rfl⟩
  have c_are_games : Cl P w K mg base CX0 2 "are_games" ["people", "value"] C_are_games := ⟨_, fd_are_games, ok_are_games F_are_games b k_MOST_SIZE k_MOST_TIMES c_is_between, He.glo_ok X G (c.d.fact 69 rfl), F_are_games.kp, F_are_games.bindsN fun _ _ _ _ _ _ us hl => match us, hl with | [_, _], _ => rfl⟩
  have c_choices : Cl P w K mg base CX0 1 "choices" ["many", "few"] C_choices := ⟨_, fd_choices, ok_choices F_choices b, He.glo_ok X G (c.d.fact 70 rfl), F_choices.kp, F_choices.bindsN fun _ _ _ _ _ _ us hl => match us, hl with | [_, _], _ => rfl⟩
  have c_all_teams : Cl P w K mg base CX0 2 "all_teams" ["people", "games"] C_all_teams := ⟨_, fd_all_teams, ok_all_teams F_all_teams b c_choices, He.glo_ok X G (c.d.fact 71 rfl), F_all_teams.kp, F_all_teams.bindsN fun _ _ _ _ _ _ us hl => match us, hl with | [_, _], _ => rfl⟩
  have c_check_games : Cl P w K mg base (L2.CX P w) 3 "check_games" ["people", "games"] C_check_games := ⟨_, fd_check_games, ok_check_games F_check_games b k_MOST_TEAMS x_BadGames x_TooMany c_are_games c_all_teams, He.glo_ok X G (c.d.fact 72 rfl), F_check_games.kp, F_check_games.bindsN fun _ _ _ _ _ _ us hl => match us, hl with | [_, _], _ => rfl⟩
  have c_check_people : Cl P w K mg base (L2.CX P w) 4 "check_people" ["people", "games"] C_check_people := ⟨_, fd_check_people, ok_check_people F_check_people b k_MOST_PEOPLE x_BadPeople c_is_between c_check_games, He.glo_ok X G (c.d.fact 73 rfl), F_check_people.kp, F_check_people.bindsN fun _ _ _ _ _ _ us hl => match us, hl with | [_, _], _ => rfl⟩
  have c_is_list : Cl P w K mg base CX0 1 "is_list" ["value"] C_is_list := ⟨_, fd_is_list, ok_is_list F_is_list b, He.glo_ok X G (c.d.fact 74 rfl), F_is_list.kp, F_is_list.bindsN fun _ _ _ _ _ _ us hl => match us, hl with | [_], _ => rfl⟩
  have c_is_team : Cl P w K mg base CX0 2 "is_team" ["people", "value"] C_is_team := ⟨_, fd_is_team, ok_is_team F_is_team b k_MOST_SIZE c_is_between, He.glo_ok X G (c.d.fact 75 rfl), F_is_team.kp, F_is_team.bindsN fun _ _ _ _ _ _ us hl => match us, hl with | [_, _], _ => rfl⟩
  have c_is_game_team : Cl P w K mg base CX0 3 "is_game_team" ["people", "games", "value"] C_is_game_team := ⟨_, fd_is_game_team, ok_is_game_team F_is_game_team b c_is_team, He.glo_ok X G (c.d.fact 76 rfl), F_is_game_team.kp, F_is_game_team.bindsN fun _ _ _ _ _ _ us hl => match us, hl with | [_, _, _], _ => rfl⟩
  have c_parts_of : Cl P w K mg base CX0 1 "parts_of" ["first", "size", "number"] C_parts_of := ⟨_, fd_parts_of, ok_parts_of F_parts_of b, He.glo_ok X G (c.d.fact 77 rfl), F_parts_of.kp, F_parts_of.bindsN fun _ _ _ _ _ _ us hl => match us, hl with | [_, _, _], _ => rfl⟩
  have c_team_list : Cl P w K mg base CX0 2 "team_list" ["sizes", "kind"] C_team_list := ⟨_, fd_team_list, ok_team_list F_team_list b c_parts_of, He.glo_ok X G (c.d.fact 78 rfl), F_team_list.kp, F_team_list.bindsN fun _ _ _ _ _ _ us hl => match us, hl with | [_, _], _ => rfl⟩
  have c_every_team : Cl P w K mg base CX0 3 "every_team" ["people", "games"] C_every_team := ⟨_, fd_every_team, ok_every_team F_every_team b c_team_list, He.glo_ok X G (c.d.fact 79 rfl), F_every_team.kp, F_every_team.bindsN fun _ _ _ _ _ _ us hl => match us, hl with | [_, _], _ => rfl⟩
  have c_check_times : Cl P w K mg base (L2.CX P w) 4 "check_times" ["people", "games", "rounds"] (C_check_times12 (He.ga K "WrongTimes")) := ⟨_, fd_check_times, ok_check_times F_check_times b x_WrongTimes c_every_team, He.glo_ok X G (c.d.fact 80 rfl), F_check_times.kp, F_check_times.bindsN fun _ _ _ _ _ _ us hl => match us, hl with | [_, _, _], _ => rfl⟩
  have c_ordered : Cl P w K mg base CX0 1 "ordered" ["teams"] C_ordered := ⟨_, fd_ordered, ok_ordered F_ordered b, He.glo_ok X G (c.d.fact 81 rfl), F_ordered.kp, F_ordered.bindsN fun _ _ _ _ _ _ us hl => match us, hl with | [_], _ => rfl⟩
  have c_Plan___init : Mi P w K mg base (L2.CX P w) 5 (He.ga K "Plan") "Plan" ["self", "people", "games", "rounds"] (C_Plan___init12 K (He.ga K "Plan") (He.ga K "BadRounds") (He.ga K "BadTeam") (He.ga K "WrongTimes")) := ⟨_, fd_Plan___init, He.mkr_ok (c.d.fact 82 rfl), ok_Plan___init F_Plan___init b i_Plan k_MOST_ROUNDS x_BadRounds x_BadTeam c_check_people c_is_list c_is_game_team c_check_times c_ordered, He.glo_ok X G (c.d.fact 83 rfl), F_Plan___init.bindsN fun _ _ _ _ _ _ us hl => match us, hl with | [_, _, _, _], _ => rfl⟩
  have c_law_told : Cl P w K mg base CX0 7 "_law_told" ["_law_people_here", "_law_games", "_law_rounds"] (C_law_told (He.ga K "Plan") (He.ga K "BadRounds") (He.ga K "BadTeam") (He.ga K "WrongTimes")) := ⟨_, fd_law_told, ok_law_told F_law_told b x_BadRounds x_BadTeam x_WrongTimes nx_BadTeam_BadRounds nx_WrongTimes_BadRounds nx_WrongTimes_BadTeam c_Plan___init, He.glo_ok X G (c.d.fact 84 rfl), F_law_told.kp, F_law_told.bindsN fun _ _ _ _ _ _ us hl => match us, hl with | [_, _, _], _ => rfl⟩
  exact ok_law F_law b c_law_source c_law_people c_law_plan c_law_draw c_law_spoiled c_law_is_rows c_law_wanted c_law_told
end Pf
open PySem PySem.W PySem.Calls PyProof.Rows
theorem PySem.Challenge.cw_allteams_k12_plans_refused_holds : PySem.Challenge.rw_allteams_k12_plans_refused.Holds := by
  w_on; o_law
  refine HandSHeadRun.head_any (r := OpenLaw.row PySem.Challenge.rw_allteams_k12_plans_refused) (q := view (OpenLaw.row PySem.Challenge.rw_allteams_k12_plans_refused).prog [55]) (H := Pf.hk) (ob := Pf.ob) (M := 12000) (loose := Pf.loose) (d := HandSHeadRun.topDef (OpenLaw.row PySem.Challenge.rw_allteams_k12_plans_refused).prog 55) (kwd := []) Pf.ob_eq
    (by kernel_rfl) (fun s => by kernel_rfl) Pf.run (by kernel_rfl) (by kernel_rfl) (by kernel_rfl) (by rfl) (by first | assumption | decide +kernel) (by decide +kernel) ⟨rfl, rfl, rfl, rfl, rfl, by decide +kernel⟩ ?hw ?hc
  case hw => w_witness2
  case hc =>
    refine DL.walkG (l := PySem.Challenge.rw_allteams_k12_plans_refused) (n := 63) (k := 8) (x := "_law_script") rfl (by decide) (by kernel_rfl) ⟨rfl, by decide, by decide⟩ (by kernel_rfl) ?F
    intro w mg fa h Y G hmg0
    obtain ⟨K, KX, c⟩ := Y
    have hmg : mg ("law" : PySem.Str) = some (.ref fa) := by
      have e : (HandSHeadRun.topDef (OpenLaw.row PySem.Challenge.rw_allteams_k12_plans_refused).prog 55).name = ("law" : PySem.Str) := by kernel_rfl
      rw [← e]
      exact hmg0
    obtain ⟨fd, hb, hs, hF⟩ := Pf.facts (P := (PySem.Challenge.rw_allteams_k12_plans_refused).prog) (w := w) KX G hmg c
    exact ⟨K, fd, DL.spF K Pf.C_law, KX, hs, hb, fun H o a ns hl hO hS => DL.start_lawS hO hS ⟨ns, rfl, fun _ z => z, ⟨o, rfl, rfl⟩, fun _ => rfl⟩, hF⟩
