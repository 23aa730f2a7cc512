import PyProof.Rows.All
import Wide.All
import OpenK.AllK
import Wide.FinOn
import HandS.ForMost
import HandS.Exc
import HandS.ExcInit
import HandS.ExcField
import HandS.More
import HandS.WordsExc
import HandS.IsInst
import HandS.Star
import HandS.Conv
import HandS.Zip
import HandS.Evl
import HandS.Wide
import HandS.CallSlots
import HandS.ExcOwn
import KE.KTupSum
import HandS.SortInts
import HandS.Defaults
import HandS.Codes
import HandS.Deep
import KE.GoesNew
import KE.GoesMore
import KE.GoesEnum
import HandS.TupAny
import HandS.TupSets
import KE.DataEq
import KE.KStateDown
import HandS.Head0
import HandS.Head1
import HandS.Head2
import HandS.HeadEnd
import HandS.HeadHook1
import HandS.HeadHook2
import HandS.HeadHook3
import HandS.HeadHook4
import KE.SortData
import HandS.Property
import HandS.Style
import KE.KCount
import HandS.DictComp
import PyProof.TupleOfSeq
import HandS.DictTup
import KE.KDictSum
import KE.KDictCopyH
import KE.KDictOf
import KE.KDictPairs
import PyProof.InstNe
import OpenK.KOps
import PyProof.P3Eq
import KE.DataFind
import HandS.Finally
import HandS.ListEq
import HandS.DictEq
import KE.KEqNest
import PyProof.NeKinds
import HandS.Text
import HandS.FStr
import HandS.StrSplit
import HandS.Steps
import HandS.Flow
import HandS.ClsMeth
import PySem.Challenge.RW_allteams_k08_texts_of_tables
set_option Elab.async false
set_option linter.all false
set_option maxRecDepth 100000
set_option maxHeartbeats 1000000
namespace DL
open PySem L2 Evl
/-! ### data -/
inductive D where
  | non | bl (b : Bool) | int (i : Int) | str (x : Str)
  | lst (xs : List D) | tup (xs : List D)
  | dic (kvs : List (Key × D)) | dit (kvs : List (List Key × D))
  | scr (ns : List Int)
  | ins (C : Addr) (fs : List (Str × D))
mutual
inductive Rp (K : PySem.W.Frag) (G : Hp) : V → D → Prop
  | non : Rp K G .non .non
  | bl (b : Bool) : Rp K G (.bl b) (.bl b)
  | int (i : Int) : Rp K G (.int i) (.int i)
  | str (x : Str) : Rp K G (.str x) (.str x)
  | lst {a : Addr} {xs : List V} {ds : List D} : G a = some (.lst xs) → RpL K G xs ds → Rp K G (.ref a) (.lst ds)
  | tup {a : Addr} {xs : List V} {ds : List D} : G a = some (.tup xs) → RpL K G xs ds → Rp K G (.ref a) (.tup ds)
  | dic {a : Addr} {kvs : List (Key × V)} {ds : List (Key × D)} : Rd G a (.dK kvs) → kvs.map (·.1) = ds.map (·.1) → RpL K G (kvs.map (·.2)) (ds.map (·.2)) → Rp K G (.ref a) (.dic ds)
  | dit {a : Addr} {kvs : List (List Key × V)} {ds : List (List Key × D)} : Rd G a (.dT kvs) → kvs.map (·.1) = ds.map (·.1) → RpL K G (kvs.map (·.2)) (ds.map (·.2)) → Rp K G (.ref a) (.dit ds)
  | scr {a : Addr} {ns : List Int} : SqL K G a (ns.map V.int) → Rp K G (.ref a) (.scr ns)
  | ins {a dx C : Addr} {fv : List (Str × V)} {fs : List (Str × D)} : G a = some (.ins C dx fv) → G dx = some (.own a) → fv.map (·.1) = fs.map (·.1) → RpL K G (fv.map (·.2)) (fs.map (·.2)) → Rp K G (.ref a) (.ins C fs)
inductive RpL (K : PySem.W.Frag) (G : Hp) : List V → List D → Prop
  | nil : RpL K G [] []
  | cons {v : V} {vs : List V} {d : D} {ds : List D} : Rp K G v d → RpL K G vs ds → RpL K G (v :: vs) (d :: ds)
end
mutual
theorem Rp.mono {K : PySem.W.Frag} {G G' : Hp} (e : Ex G G') : ∀ {v : V} {d : D}, Rp K G v d → Rp K G' v d
  | _, _, .non => .non
  | _, _, .bl b => .bl b
  | _, _, .int i => .int i
  | _, _, .str x => .str x
  | _, _, .lst h r => .lst (e _ _ h) (RpL.mono e r)
  | _, _, .tup h r => .tup (e _ _ h) (RpL.mono e r)
  | _, _, .dic h k r => .dic (ex_rd e h) k (RpL.mono e r)
  | _, _, .dit h k r => .dit (ex_rd e h) k (RpL.mono e r)
  | _, _, .scr h => .scr (ex_l e h)
  | _, _, .ins h h2 k r => .ins (e _ _ h) (e _ _ h2) k (RpL.mono e r)
theorem RpL.mono {K : PySem.W.Frag} {G G' : Hp} (e : Ex G G') : ∀ {vs : List V} {ds : List D}, RpL K G vs ds → RpL K G' vs ds
  | _, _, .nil => .nil
  | _, _, .cons h r => .cons (Rp.mono e h) (RpL.mono e r)
end
theorem RpL.length {K : PySem.W.Frag} {G : Hp} : ∀ {vs : List V} {ds : List D}, RpL K G vs ds → vs.length = ds.length
  | _, _, .nil => rfl
  | _, _, .cons _ r => by simp [RpL.length r]
theorem RpL.get {K : PySem.W.Frag} {G : Hp} : ∀ {vs : List V} {ds : List D}, RpL K G vs ds → ∀ {i : Nat} {v : V}, vs[i]? = some v → ∃ d, ds[i]? = some d ∧ Rp K G v d
  | _, _, .nil, i, v, h => by simp at h
  | _, _, .cons h r, 0, v, e => by simp at e; subst e; exact ⟨_, rfl, h⟩
  | _, _, .cons h r, i + 1, v, e => by
    obtain ⟨d, h1, h2⟩ := RpL.get r (i := i) (v := v) (by simpa using e)
    exact ⟨d, by simpa using h1, h2⟩
theorem RpL.getD {K : PySem.W.Frag} {G : Hp} : ∀ {vs : List V} {ds : List D}, RpL K G vs ds → ∀ {i : Nat} {d : D}, ds[i]? = some d → ∃ v, vs[i]? = some v ∧ Rp K G v d
  | _, _, .nil, i, v, h => by simp at h
  | _, _, .cons h r, 0, v, e => by simp at e; subst e; exact ⟨_, rfl, h⟩
  | _, _, .cons h r, i + 1, v, e => by
    obtain ⟨d, h1, h2⟩ := RpL.getD r (i := i) (d := v) (by simpa using e)
    exact ⟨d, by simpa using h1, h2⟩
theorem RpL.append {K : PySem.W.Frag} {G : Hp} : ∀ {vs ws : List V} {ds es : List D}, RpL K G vs ds → RpL K G ws es → RpL K G (vs ++ ws) (ds ++ es)
  | _, _, _, _, .nil, s => s
  | _, _, _, _, .cons h r, s => .cons h (RpL.append r s)
theorem RpL.one {K : PySem.W.Frag} {G : Hp} {v : V} {d : D} (h : Rp K G v d) : RpL K G [v] [d] := .cons h .nil
theorem RpL.ints {K : PySem.W.Frag} {G : Hp} : ∀ {vs : List V} {ns : List Int}, RpL K G vs (ns.map D.int) → vs = ns.map V.int
  | _, [], .nil => rfl
  | _, n :: ns, .cons h r => by
    cases h
    rw [RpL.ints r]
    rfl
theorem RpL.ofInts {K : PySem.W.Frag} {G : Hp} : ∀ (ns : List Int), RpL K G (ns.map V.int) (ns.map D.int)
  | [] => .nil
  | n :: ns => .cons (.int n) (RpL.ofInts ns)
theorem RpL.bools {K : PySem.W.Frag} {G : Hp} : ∀ {vs : List V} {ns : List Bool}, RpL K G vs (ns.map D.bl) → vs = ns.map V.bl
  | _, [], .nil => rfl
  | _, n :: ns, .cons h r => by
    cases h
    rw [RpL.bools r]
    rfl
theorem RpL.strs {K : PySem.W.Frag} {G : Hp} : ∀ {vs : List V} {ns : List Str}, RpL K G vs (ns.map D.str) → vs = ns.map V.str
  | _, [], .nil => rfl
  | _, n :: ns, .cons h r => by
    cases h
    rw [RpL.strs r]
    rfl
theorem RpL.ofStrs {K : PySem.W.Frag} {G : Hp} : ∀ (ns : List Str), RpL K G (ns.map V.str) (ns.map D.str)
  | [] => .nil
  | n :: ns => .cons (.str n) (RpL.ofStrs ns)
theorem RpL.set {K : PySem.W.Frag} {G : Hp} {v : V} {d : D} (h : Rp K G v d) : ∀ {vs : List V} {ds : List D} (i : Nat), RpL K G vs ds → RpL K G (vs.set i v) (ds.set i d)
  | _, _, _, .nil => .nil
  | _, _, 0, .cons _ r => .cons h r
  | _, _, i + 1, .cons a r => .cons a (RpL.set h i r)
theorem RpL.drop {K : PySem.W.Frag} {G : Hp} : ∀ {vs : List V} {ds : List D} (n : Nat), RpL K G vs ds → RpL K G (vs.drop n) (ds.drop n)
  | _, _, 0, r => r
  | _, _, _ + 1, .nil => .nil
  | _, _, n + 1, .cons _ r => RpL.drop n r
theorem RpL.take {K : PySem.W.Frag} {G : Hp} : ∀ {vs : List V} {ds : List D} (n : Nat), RpL K G vs ds → RpL K G (vs.take n) (ds.take n)
  | _, _, 0, _ => .nil
  | _, _, _ + 1, .nil => .nil
  | _, _, n + 1, .cons h r => .cons h (RpL.take n r)
theorem RpL.reverse {K : PySem.W.Frag} {G : Hp} : ∀ {vs : List V} {ds : List D}, RpL K G vs ds → RpL K G vs.reverse ds.reverse
  | _, _, .nil => .nil
  | _, _, .cons h r => by
    rw [List.reverse_cons, List.reverse_cons]
    exact (RpL.reverse r).append (.one h)
/-! ### a dict is locked, and unlocked: data stays -/
def isDct : HO → Bool
  | .dK _ => true | .dT _ => true | _ => false
/-- G' is G with the dict at a locked or unlocked -/
structure Swp (G G' : Hp) (a : Addr) (u : HO) : Prop where
  dct : isDct u = true
  ne : ∀ b, b ≠ a → G' b = G b
  here : Rd G a u
  there : Rd G' a u
theorem Swp.not {G G' : Hp} {a b : Addr} {u o : HO} (s : Swp G G' a u) (h : G b = some o) (h1 : o ≠ u) (h2 : ∀ x, o ≠ .frz x u) : b ≠ a := fun z => by
  subst z
  rcases s.here with e | ⟨x, e⟩
  · rw [h] at e; exact h1 (Option.some.inj e)
  · rw [h] at e; exact h2 x (Option.some.inj e)
theorem Swp.rd {G G' : Hp} {a b : Addr} {u o : HO} (s : Swp G G' a u) (ho : ∀ x w, o ≠ .frz x w) (h : Rd G b o) : Rd G' b o := by
  by_cases z : b = a
  · subst z
    have e : o = u := by
      rcases h with h | ⟨x, h⟩
      · rcases s.here with e | ⟨y, e⟩
        · rw [h] at e; exact Option.some.inj e
        · rw [h] at e; exact absurd (Option.some.inj e) (ho y u)
      · rcases s.here with e | ⟨y, e⟩
        · rw [h] at e; have := Option.some.inj e; have d := s.dct; rw [← this] at d; cases d
        · rw [h] at e; have := Option.some.inj e; injection this
    rw [e]; exact s.there
  · unfold Rd; rw [s.ne b z]; exact h
mutual
theorem Rp.swap {K : PySem.W.Frag} {G G' : Hp} {a : Addr} {u : HO} (s : Swp G G' a u) : ∀ {v : V} {d : D}, Rp K G v d → Rp K G' v d
  | _, _, .non => .non
  | _, _, .bl b => .bl b
  | _, _, .int i => .int i
  | _, _, .str x => .str x
  | _, _, .lst (a := b) e r => .lst (by
      rw [s.ne b]; exact e
      exact s.not e (fun z => by have d := s.dct; rw [← z] at d; cases d) (fun x z => by cases z)) (RpL.swap s r)
  | _, _, .tup (a := b) e r => .tup (by
      rw [s.ne b]; exact e
      exact s.not e (fun z => by have d := s.dct; rw [← z] at d; cases d) (fun x z => by cases z)) (RpL.swap s r)
  | _, _, .dic e k r => .dic (s.rd (fun _ _ z => by cases z) e) k (RpL.swap s r)
  | _, _, .dit e k r => .dit (s.rd (fun _ _ z => by cases z) e) k (RpL.swap s r)
  | _, _, .scr (a := b) e => .scr (by
      rcases e with e | e
      · exact .inl (s.rd (fun _ _ z => by cases z) e)
      · exact .inr e)
  | _, _, .ins (a := b) (dx := dx) e e2 k r => .ins (by
      rw [s.ne b]; exact e
      exact s.not e (fun z => by have d := s.dct; rw [← z] at d; cases d) (fun x z => by cases z)) (by
      rw [s.ne dx]; exact e2
      exact s.not e2 (fun z => by have d := s.dct; rw [← z] at d; cases d) (fun x z => by cases z)) k (RpL.swap s r)
theorem RpL.swap {K : PySem.W.Frag} {G G' : Hp} {a : Addr} {u : HO} (s : Swp G G' a u) : ∀ {vs : List V} {ds : List D}, RpL K G vs ds → RpL K G' vs ds
  | _, _, .nil => .nil
  | _, _, .cons x r => .cons (Rp.swap s x) (RpL.swap s r)
end
/-- data of G is data of G' -/
def Up (K : PySem.W.Frag) (G G' : Hp) : Prop := ∀ v d, Rp K G v d → Rp K G' v d
theorem Up.ex {K : PySem.W.Frag} {G G' : Hp} (e : Ex G G') : Up K G G' := fun _ _ r => r.mono e
theorem Up.sw {K : PySem.W.Frag} {G G' : Hp} {a : Addr} {u : HO} (s : Swp G G' a u) : Up K G G' := fun _ _ r => r.swap s
theorem RpL.up {K : PySem.W.Frag} {G G' : Hp} (e : Up K G G') : ∀ {vs : List V} {ds : List D}, RpL K G vs ds → RpL K G' vs ds
  | _, _, .nil => .nil
  | _, _, .cons x r => .cons (e _ _ x) (RpL.up e r)
/-! ### what may change beside the data: a world with states -/
def noTup : HO → Bool
  | .tup _ => false | _ => true
structure Wd (ι : Type) where
  M : Addr → Prop
  L : Addr → Prop
  I : ι → Hp → Hp → Prop
  dep : ∀ (m : ι) (G G' H H' : Hp), Ex G G' → (∀ a, M a → H' a = H a) → I m G H → I m G' H'
  has : ∀ m G H a, I m G H → M a → ∃ u, H a = some u ∧ noTup u = true
  sw : ∀ (m : ι) (G G' H : Hp) (a : Addr) (u : HO), Swp G G' a u → I m G H → I m G' H
  pin : Addr → HO → Prop
  pinned : ∀ m G H a o, I m G H → pin a o → H a = some o
def W0 : Wd Unit := ⟨fun _ => False, fun _ => False, fun _ _ _ => True, fun _ _ _ _ _ _ _ _ => trivial, fun _ _ _ _ _ h => h.elim, fun _ _ _ _ _ _ _ _ => trivial, fun _ _ => False, fun _ _ _ _ _ _ h => h.elim⟩
theorem Wd.ne {ι : Type} {W : Wd ι} {m : ι} {G H : Hp} {a : Addr} (h : W.I m G H) (ha : W.M a) : H a ≠ none := by
  obtain ⟨u, e, _⟩ := W.has m G H a h ha
  rw [e]; exact fun z => by cases z
structure Ok {ι : Type} (W : Wd ι) (m : ι) (G H : Hp) : Prop where
  ex : Ex G H
  inv : W.I m G H
  off : ∀ a, W.M a → G a = none
  lk : ∀ a o u, G a = some (.frz o u) → (∀ xs, u ≠ .lst xs) → W.L a
structure Grow {ι : Type} (W : Wd ι) (G H : Hp) (m : ι) (G' H' : Hp) : Prop where
  ex : Ex G G'
  sub : Ex G' H'
  fresh : ∀ a o, H a = some o → noTup o = true → G a = none → G' a = none
  keep : ∀ a o, ¬ W.M a → H a = some o → H' a = some o
  inv : W.I m G' H'
  lk : ∀ a o u, G' a = some (.frz o u) → (∀ xs, u ≠ .lst xs) → W.L a ∨ G a = some (.frz o u)
section
variable {ι : Type} {W : Wd ι} {m m' m1 m2 : ι} {G H G' H' G1 H1 G2 H2 : Hp}
theorem Ok.refl (h : Ok W m G H) : Grow W G H m G H := ⟨Ex.refl G, h.ex, fun _ _ _ _ q => q, fun _ _ _ q => q, h.inv, fun _ _ _ q _ => .inr q⟩
theorem Grow.ok (g : Grow W G H m' G' H') (h : Ok W m G H) : Ok W m' G' H' := ⟨g.sub, g.inv, fun a m => by obtain ⟨u, e, t⟩ := W.has _ _ _ a h.inv m; exact g.fresh a u e t (h.off a m), fun a o u q n => (g.lk a o u q n).elim (fun z => z) fun z => h.lk a o u z n⟩
theorem Grow.there (g : Grow W G H m' G' H') {a : Addr} (h : H a ≠ none) : H' a ≠ none := by
  by_cases m : W.M a
  · exact W.ne g.inv m
  · cases e : H a with
    | none => exact absurd e h
    | some o => rw [g.keep a o m e]; exact fun z => by cases z
theorem Grow.back (g : Grow W G H m' G' H') {a : Addr} (h : H' a = none) : H a = none := by
  cases e : H a with
  | none => rfl
  | some o => exact absurd h (g.there (by rw [e]; exact fun z => by cases z))
theorem Grow.trans (a : Grow W G H m1 G1 H1) (b : Grow W G1 H1 m2 G2 H2) : Grow W G H m2 G2 H2 :=
  ⟨a.ex.trans b.ex, b.sub, fun c o h t n => by
    by_cases mc : W.M c
    · obtain ⟨u, e, t2⟩ := W.has _ _ _ c a.inv mc
      exact b.fresh c u e t2 (a.fresh c o h t n)
    · exact b.fresh c o (a.keep c o mc h) t (a.fresh c o h t n), fun c o m h => b.keep c o m (a.keep c o m h), b.inv, fun c o u q n => (b.lk c o u q n).elim .inl fun z => a.lk c o u z n⟩
/-- something new, not data -/
theorem Grow.new (h : Ok W m G H) {p : Addr} {o : HO} (hp : H p = none) : Grow W G H m G (upd H p o) :=
  ⟨Ex.refl G, h.ex.trans (Ex.new hp), fun _ _ _ _ q => q, fun a u _ e => by rw [upd_ne (ne_of_none e hp)]; exact e,
    W.dep _ _ _ _ _ (Ex.refl _) (fun a m => upd_ne fun z => W.ne h.inv m (by rw [z]; exact hp)) h.inv, fun _ _ _ q _ => .inr q⟩
/-- something new, data -/
theorem Grow.newD (h : Ok W m G H) {p : Addr} {o : HO} (hp : H p = none) (nf : ∀ x u, o ≠ .frz x u) : Grow W G H m (upd G p o) (upd H p o) :=
  have gp : G p = none := fresh_back h.ex hp
  ⟨Ex.new gp, fun a u e => by
    by_cases z : a = p
    · subst z; rw [upd_same] at e ⊢; exact e
    · rw [upd_ne z] at e ⊢; exact h.ex a u e, fun a o q _ n => by
    have z : a ≠ p := fun z => by rw [z, hp] at q; cases q
    rw [upd_ne z]; exact n, fun a u _ e => by rw [upd_ne (ne_of_none e hp)]; exact e,
    W.dep _ _ _ _ _ (Ex.new gp) (fun a m => upd_ne fun z => W.ne h.inv m (by rw [z]; exact hp)) h.inv, fun a x u q _ => by
    by_cases z : a = p
    · subst z; rw [upd_same] at q; exact absurd (Option.some.inj q) (nf x u)
    · rw [upd_ne z] at q; exact .inr q⟩
/-- a store at what is neither data nor the world's -/
theorem Grow.mut (g : Grow W G H m' G' H') {p : Addr} {o : HO} (h0 : H p = none) (n : G' p = none) (mp : ¬ W.M p) : Grow W G H m' G' (upd H' p o) :=
  ⟨g.ex, g.sub.mut n, g.fresh, fun b w mb q => by rw [upd_ne (ne_of_none q h0)]; exact g.keep b w mb q, W.dep _ _ _ _ _ (Ex.refl _) (fun b mb => upd_ne fun z => mp (by rw [← z]; exact mb)) g.inv, g.lk⟩
/-- what is new becomes data, as it stands -/
theorem Grow.frz (g : Grow W G H m' G' H') {p : Addr} {u : HO} (h0 : H p = none) (n : G' p = none) (e : H' p = some u) (nf : ∀ x y, u ≠ .frz x y) : Grow W G H m' (upd G' p u) H' :=
  ⟨g.ex.trans (Ex.new n), fun a w q => by
    by_cases z : a = p
    · subst z; rw [upd_same] at q; rw [e]; exact q
    · rw [upd_ne z] at q; exact g.sub a w q, fun a o q t w => by
    have z : a ≠ p := fun z => by rw [z, h0] at q; cases q
    rw [upd_ne z]; exact g.fresh a o q t w, g.keep, W.dep _ _ _ _ _ (Ex.new n) (fun _ _ => rfl) g.inv, fun a x y q n => by
    by_cases z : a = p
    · subst z; rw [upd_same] at q; exact absurd (Option.some.inj q) (nf x y)
    · rw [upd_ne z] at q; exact g.lk a x y q n⟩
end
/-! ### objects of one's own -/
inductive O1 where
  | lst (ds : List D) | dK (kvs : List (Key × D)) | dT (kvs : List (List Key × D))
def O1.frz : O1 → D
  | .lst ds => .lst ds
  | .dK kvs => .dic kvs
  | .dT kvs => .dit kvs
/-- an item, a field: data or an object of one's own -/
inductive It where
  | d (d : D) | o (o : O1)
def It.frz : It → D
  | .d x => x
  | .o x => x.frz
inductive O where
  | one (o : O1) | nest (its : List It) | ins (C : Addr) (fs : List (Str × It))
abbrev O.lst (ds : List D) : O := .one (.lst ds)
abbrev O.dK (kvs : List (Key × D)) : O := .one (.dK kvs)
abbrev O.dT (kvs : List (List Key × D)) : O := .one (.dT kvs)
def O.frz : O → D
  | .one o => o.frz
  | .nest its => .lst (its.map It.frz)
  | .ins C fs => .ins C (fs.map fun f => (f.1, f.2.frz))
section
variable {K : PySem.W.Frag} {F F' : Addr → Prop} {G G' H H' : Hp} {p q : Addr}
def Ob1 (K : PySem.W.Frag) (G H : Hp) (p : Addr) : O1 → Prop
  | .lst ds => ∃ xs, H p = some (.lst xs) ∧ RpL K G xs ds
  | .dK ds => ∃ kvs, H p = some (.dK kvs) ∧ kvs.map (·.1) = ds.map (·.1) ∧ RpL K G (kvs.map (·.2)) (ds.map (·.2))
  | .dT ds => ∃ kvs, H p = some (.dT kvs) ∧ kvs.map (·.1) = ds.map (·.1) ∧ RpL K G (kvs.map (·.2)) (ds.map (·.2))
/-- of which kind -/
def pln : HO → Bool
  | .lst _ => true | .dK _ => true | .dT _ => true | .ins _ _ _ => true | _ => false
theorem Ob1.at (h : Ob1 K G H p o) : ∃ u, H p = some u ∧ pln u = true := by
  cases o with
  | lst ds => obtain ⟨_, e, _⟩ := h; exact ⟨_, e, rfl⟩
  | dK ds => obtain ⟨_, e, _⟩ := h; exact ⟨_, e, rfl⟩
  | dT ds => obtain ⟨_, e, _⟩ := h; exact ⟨_, e, rfl⟩
theorem Ob1.up {o : O1} (e : Up K G G') (hp : H' p = H p) (h : Ob1 K G H p o) : Ob1 K G' H' p o := by
  cases o with
  | lst ds => obtain ⟨xs, a, b⟩ := h; exact ⟨xs, hp.trans a, b.up e⟩
  | dK ds => obtain ⟨xs, a, k, b⟩ := h; exact ⟨xs, hp.trans a, k, b.up e⟩
  | dT ds => obtain ⟨xs, a, k, b⟩ := h; exact ⟨xs, hp.trans a, k, b.up e⟩
theorem Ob1.mono {o : O1} (e : Ex G G') (hp : H' p = H p) (h : Ob1 K G H p o) : Ob1 K G' H' p o := h.up (Up.ex e) hp
def RIt (K : PySem.W.Frag) (F : Addr → Prop) (G H : Hp) (v : V) : It → Prop
  | .d d => Rp K G v d
  | .o o => ∃ q, v = .ref q ∧ F q ∧ Ob1 K G H q o
inductive RIts (K : PySem.W.Frag) (F : Addr → Prop) (G H : Hp) : List V → List It → Prop
  | nil : RIts K F G H [] []
  | cons {v : V} {vs : List V} {i : It} {is : List It} : RIt K F G H v i → RIts K F G H vs is → RIts K F G H (v :: vs) (i :: is)
/-- where the own items stand -/
def kids : List V → List It → List Addr
  | .ref q :: vs, .o _ :: is => q :: kids vs is
  | _ :: vs, _ :: is => kids vs is
  | _, _ => []
theorem kids_d (v : V) (vs : List V) (d : D) (is : List It) : kids (v :: vs) (.d d :: is) = kids vs is := by cases v <;> rfl
theorem kids_o (q : Addr) (vs : List V) (o : O1) (is : List It) : kids (.ref q :: vs) (.o o :: is) = q :: kids vs is := rfl
theorem RIts.kid : ∀ {vs : List V} {is : List It}, RIts K F G H vs is → ∀ {a : Addr}, a ∈ kids vs is → F a ∧ ∃ u, H a = some u ∧ pln u = true
  | _, _, .nil, a, h => by cases h
  | _, _, .cons (i := .d d) r rs, a, h => by rw [kids_d] at h; exact rs.kid h
  | _, _, .cons (i := .o o) r rs, a, h => by
    obtain ⟨q, rfl, f, ob⟩ := r
    rw [kids_o] at h
    rcases List.mem_cons.mp h with rfl | h
    · exact ⟨f, ob.at⟩
    · exact rs.kid h
theorem RIts.upA (e : Up K G G') : ∀ {vs : List V} {is : List It}, (∀ a ∈ kids vs is, H' a = H a ∧ F' a) → RIts K F G H vs is → RIts K F' G' H' vs is
  | [], [], _, _ => .nil
  | [], _ :: _, _, z => by cases z
  | _ :: _, [], _, z => by cases z
  | v :: vs, .d d :: is, k, z => by
    cases z with
    | cons r rs => exact .cons (e _ _ r) (rs.upA e fun a ha => k a (by rw [kids_d]; exact ha))
  | v :: vs, .o o :: is, k, z => by
    cases z with
    | cons r rs =>
      obtain ⟨q, rfl, f, ob⟩ := r
      obtain ⟨k1, k2⟩ := k q (by rw [kids_o]; simp)
      exact .cons ⟨q, rfl, k2, ob.up e k1⟩ (rs.upA e fun a ha => k a (by rw [kids_o]; simp [ha]))
theorem RIts.monoA (e : Ex G G') {vs : List V} {is : List It} (k : ∀ a ∈ kids vs is, H' a = H a ∧ F' a) (r : RIts K F G H vs is) : RIts K F' G' H' vs is := r.upA (Up.ex e) k
theorem RIts.length : ∀ {vs : List V} {is : List It}, RIts K F G H vs is → vs.length = is.length
  | _, _, .nil => rfl
  | _, _, .cons _ r => by simp [r.length]
theorem RIts.getD : ∀ {vs : List V} {is : List It}, RIts K F G H vs is → ∀ {j : Nat} {i : It}, is[j]? = some i → ∃ v, vs[j]? = some v ∧ RIt K F G H v i
  | _, _, .nil, j, i, h => by simp at h
  | _, _, .cons h r, 0, v, e => by simp at e; subst e; exact ⟨_, rfl, h⟩
  | _, _, .cons h r, i + 1, v, e => by
    obtain ⟨d, h1, h2⟩ := r.getD (j := i) (i := v) (by simpa using e)
    exact ⟨d, by simpa using h1, h2⟩
def OwnAt (K : PySem.W.Frag) (F : Addr → Prop) (G H : Hp) (p : Addr) : O → Prop
  | .one o => F p ∧ Ob1 K G H p o
  | .nest its => F p ∧ ∃ vs, H p = some (.lst vs) ∧ RIts K F G H vs its ∧ (p :: kids vs its).Nodup
  | .ins C fs => F p ∧ ∃ dx fv, F dx ∧ H p = some (.ins C dx fv) ∧ H dx = some (.own p) ∧ fv.map (·.1) = fs.map (·.1) ∧ RIts K F G H (fv.map (·.2)) (fs.map (·.2)) ∧ (kids (fv.map (·.2)) (fs.map (·.2))).Nodup
def Ads (H : Hp) (p : Addr) : O → Addr → Prop
  | .one _, a => a = p
  | .nest its, a => a = p ∨ ∃ vs, H p = some (.lst vs) ∧ a ∈ kids vs its
  | .ins C fs, a => a = p ∨ ∃ dx fv, H p = some (.ins C dx fv) ∧ (a = dx ∨ a ∈ kids (fv.map (·.2)) (fs.map (·.2)))
def pln2 (p : Addr) : HO → Bool
  | .own x => decide (x = p) | u => pln u
theorem OwnAt.root {o : O} (h : OwnAt K F G H p o) : F p ∧ ∃ u, H p = some u ∧ pln u = true := by
  cases o with
  | one o => exact ⟨h.1, h.2.at⟩
  | nest its => obtain ⟨f, vs, e, _⟩ := h; exact ⟨f, _, e, rfl⟩
  | ins C fs => obtain ⟨f, dx, fv, _, e, _⟩ := h; exact ⟨f, _, e, rfl⟩
theorem OwnAt.ads {o : O} {a : Addr} (h : OwnAt K F G H p o) (ha : Ads H p o a) : F a ∧ ∃ u, H a = some u ∧ pln2 p u = true := by
  have up : ∀ {b}, (F b ∧ ∃ u, H b = some u ∧ pln u = true) → F b ∧ ∃ u, H b = some u ∧ pln2 p u = true := fun ⟨f, u, e, q⟩ => ⟨f, u, e, by cases u <;> first | exact q | cases q⟩
  cases o with
  | one o => obtain rfl : a = p := ha; exact up h.root
  | nest its =>
    obtain ⟨f, vs, e, r, nd⟩ := id h
    rcases ha with rfl | ⟨vs', e', hk⟩
    · exact up h.root
    · rw [e] at e'; cases e'; exact up (r.kid hk)
  | ins C fs =>
    obtain ⟨f, dx, fv, fx, e, ex, k, r, nd⟩ := id h
    rcases ha with rfl | ⟨dx', fv', e', hk⟩
    · exact up h.root
    · rw [e] at e'
      cases e'
      rcases hk with rfl | hk
      · exact ⟨fx, _, ex, by simp [pln2]⟩
      · exact up (r.kid hk)
theorem Ads.root (o : O) : Ads H p o p := by cases o with
  | one o => rfl
  | nest its => exact .inl rfl
  | ins C fs => exact .inl rfl
theorem OwnAt.upA {o : O} (e : Up K G G') (k : ∀ a, Ads H p o a → H' a = H a ∧ F' a) (h : OwnAt K F G H p o) : OwnAt K F' G' H' p o := by
  obtain ⟨k1, k2⟩ := k p (Ads.root o)
  cases o with
  | one o =>
    obtain ⟨f, ob⟩ := h
    exact ⟨k2, ob.up e k1⟩
  | nest its =>
    obtain ⟨f, vs, eh, r, nd⟩ := h
    exact ⟨k2, vs, k1.trans eh, r.upA e fun a ha => k a (.inr ⟨vs, eh, ha⟩), nd⟩
  | ins C fs =>
    obtain ⟨f, dx, fv, fx, eh, ex, kk, r, nd⟩ := h
    obtain ⟨k3, k4⟩ := k dx (.inr ⟨dx, fv, eh, .inl rfl⟩)
    exact ⟨k2, dx, fv, k4, k1.trans eh, k3.trans ex, kk, r.upA e fun a ha => k a (.inr ⟨dx, fv, eh, .inr ha⟩), nd⟩
theorem OwnAt.monoA {o : O} (e : Ex G G') (k : ∀ a, Ads H p o a → H' a = H a ∧ F' a) (h : OwnAt K F G H p o) : OwnAt K F' G' H' p o := h.upA (Up.ex e) k
theorem pln_t {u : HO} (h : pln u = true) : noTup u = true := by cases u <;> first | rfl | cases h
theorem pln2_t {p : Addr} {u : HO} (h : pln2 p u = true) : noTup u = true := by cases u <;> first | rfl | cases h
theorem OwnAt.mono {o : O} (e : Ex G G') (k : ∀ a, F a → (∃ u, H a = some u ∧ noTup u = true) → H' a = H a ∧ F' a) (h : OwnAt K F G H p o) : OwnAt K F' G' H' p o :=
  h.monoA e fun a ha => by
    obtain ⟨f, u, hu, hk⟩ := h.ads ha
    exact k a f ⟨u, hu, pln2_t hk⟩
theorem Ads.eq {o : O} {a : Addr} (hp : H' p = H p) (h : Ads H' p o a) : Ads H p o a := by
  cases o with
  | one o => exact h
  | nest its => rcases h with h | ⟨vs, e, k⟩; exact .inl h; exact .inr ⟨vs, hp.symm.trans e, k⟩
  | ins C fs => rcases h with h | ⟨dx, fv, e, k⟩; exact .inl h; exact .inr ⟨dx, fv, hp.symm.trans e, k⟩
end
/-! ### what a name, a value is -/
inductive S where
  | no | dat (d : D) | own (o : O) | vw (o : O) | at_ (p : Addr) | xc (C a d : Addr) (fs : List (Str × D)) | el (i j : Nat) | lk (o : O1)
def S.frz : S → S
  | .own o => .dat o.frz
  | s => s
section
variable {ι : Type}
def Fr (W : Wd ι) (H0 G : Hp) (q : Addr) : Prop := H0 q = none ∧ G q = none ∧ ¬ W.M q
def Fv (W : Wd ι) (G : Hp) (q : Addr) : Prop := G q = none ∧ ¬ W.M q
/-- a dict that is locked, as the world knows -/
def LkOb (K : PySem.W.Frag) (G : Hp) (u : HO) : O1 → Prop
  | .lst _ => False
  | .dK ds => ∃ kvs, u = .dK kvs ∧ kvs.map (·.1) = ds.map (·.1) ∧ RpL K G (kvs.map (·.2)) (ds.map (·.2))
  | .dT ds => ∃ kvs, u = .dT kvs ∧ kvs.map (·.1) = ds.map (·.1) ∧ RpL K G (kvs.map (·.2)) (ds.map (·.2))
theorem LkOb.up {K : PySem.W.Frag} {G G' : Hp} {u : HO} {o : O1} (e : Up K G G') (h : LkOb K G u o) : LkOb K G' u o := by
  cases o with
  | lst ds => exact h.elim
  | dK ds => obtain ⟨kvs, a, b, c⟩ := h; exact ⟨kvs, a, b, c.up e⟩
  | dT ds => obtain ⟨kvs, a, b, c⟩ := h; exact ⟨kvs, a, b, c.up e⟩
def RelS (K : PySem.W.Frag) (W : Wd ι) (H0 G H : Hp) (v : V) : S → Prop
  | .no => True
  | .dat d => Rp K G v d
  | .own o => ∃ p, v = .ref p ∧ OwnAt K (Fr W H0 G) G H p o
  | .vw o => ∃ p, v = .ref p ∧ OwnAt K (Fv W G) G H p o
  | .at_ p => v = .ref p
  | .xc _ a d fs => v = .ref a ∧ G d = none ∧ ¬ W.M d ∧ ∃ fv, H d = some (.xd fv) ∧ fv.map (·.1) = fs.map (·.1) ∧ RpL K G (fv.map (·.2)) (fs.map (·.2))
  | .el _ _ => True
  | .lk o => ∃ p x u, v = .ref p ∧ W.pin p (.frz x u) ∧ LkOb K G u o
variable {K : PySem.W.Frag} {W : Wd ι} {m m' m1 m2 : ι} {H0 G H G' H' G1 H1 G2 H2 : Hp} {v : V} {s : S}
theorem grow_at (g : Grow W G H m' G' H') {p : Addr} (m : ¬ W.M p) (h : H p ≠ none) : H' p = H p := by
  cases e : H p with
  | none => exact absurd e h
  | some o => exact g.keep p o m e
theorem Grow.fr (g : Grow W G H m' G' H') (a : Addr) (f : Fr W H0 G a) (h : ∃ u, H a = some u ∧ noTup u = true) : H' a = H a ∧ Fr W H0 G' a := by
  obtain ⟨u, e, t⟩ := h
  exact ⟨grow_at g f.2.2 (by rw [e]; exact fun z => by cases z), f.1, g.fresh a u e t f.2.1, f.2.2⟩
theorem Grow.fv (g : Grow W G H m' G' H') (a : Addr) (f : Fv W G a) (h : ∃ u, H a = some u ∧ noTup u = true) : H' a = H a ∧ Fv W G' a := by
  obtain ⟨u, e, t⟩ := h
  exact ⟨grow_at g f.2 (by rw [e]; exact fun z => by cases z), g.fresh a u e t f.1, f.2⟩
theorem RelS.grow (g : Grow W G H m' G' H') (r : RelS K W H0 G H v s) : RelS K W H0 G' H' v s := by
  cases s with
  | no => trivial
  | el i j => trivial
  | dat d => exact Rp.mono g.ex r
  | own o => obtain ⟨p, rfl, ob⟩ := r; exact ⟨p, rfl, ob.mono g.ex g.fr⟩
  | vw o => obtain ⟨p, rfl, ob⟩ := r; exact ⟨p, rfl, ob.mono g.ex g.fv⟩
  | lk o => obtain ⟨p, x, u, rfl, n, ob⟩ := r; exact ⟨p, x, u, rfl, n, ob.up (Up.ex g.ex)⟩
  | at_ p => exact r
  | xc C a d fs =>
    obtain ⟨e, n, m, fv, h, k, b⟩ := r
    exact ⟨e, g.fresh d _ h rfl n, m, fv, g.keep d _ m h, k, b.mono g.ex⟩
theorem RelS.back (g : Grow W G H m1 G1 H1) (r : RelS K W H1 G2 H2 v s) : RelS K W H G2 H2 v s := by
  cases s with
  | own o =>
    obtain ⟨p, rfl, ob⟩ := r
    exact ⟨p, rfl, ob.mono (Ex.refl _) fun a f _ => ⟨rfl, g.back f.1, f.2⟩⟩
  | no => trivial
  | el i j => trivial
  | dat d => exact r
  | vw o => exact r
  | lk o => exact r
  | at_ p => exact r
  | xc C a d fs => exact r
/-- what an object of one's own is as data -/
theorem frz_1 {p : Addr} {o : O1} (g : Grow W G H m1 G1 H1) (f : Fr W H G1 p) (ob : Ob1 K G1 H1 p o) : ∃ G2, Grow W G H m1 G2 H1 ∧ Rp K G2 (.ref p) o.frz ∧ Ex G1 G2 ∧ ∀ q, q ≠ p → G2 q = G1 q := by
  obtain ⟨u, hu, hk⟩ := ob.at
  have nf : ∀ x y, u ≠ .frz x y := fun x y z => by rw [z] at hk; cases hk
  have x : Ex G1 (upd G1 p u) := Ex.new f.2.1
  refine ⟨upd G1 p u, g.frz f.1 f.2.1 hu nf, ?_, x, fun q hq => upd_ne hq⟩
  cases o with
  | lst ds => obtain ⟨xs, e, b⟩ := ob; rw [hu] at e; cases e; exact Rp.lst upd_same (b.mono x)
  | dK ds => obtain ⟨xs, e, k, b⟩ := ob; rw [hu] at e; cases e; exact Rp.dic (.inl upd_same) k (b.mono x)
  | dT ds => obtain ⟨xs, e, k, b⟩ := ob; rw [hu] at e; cases e; exact Rp.dit (.inl upd_same) k (b.mono x)
theorem frz_its : ∀ {vs : List V} {is : List It} {G1 : Hp}, Grow W G H m1 G1 H1 → RIts K (Fr W H G1) G1 H1 vs is → (kids vs is).Nodup →
    ∃ G2, Grow W G H m1 G2 H1 ∧ RpL K G2 vs (is.map It.frz) ∧ Ex G1 G2 ∧ ∀ q, q ∉ kids vs is → G2 q = G1 q
  | [], [], G1, g, _, _ => ⟨G1, g, .nil, Ex.refl _, fun _ _ => rfl⟩
  | [], _ :: _, _, _, z, _ => by cases z
  | _ :: _, [], _, _, z, _ => by cases z
  | v :: vs, .d d :: is, G1, g, z, nd => by
    cases z with
    | cons r rs =>
      rw [kids_d] at nd
      obtain ⟨G2, g2, r2, e2, k2⟩ := frz_its g rs nd
      exact ⟨G2, g2, .cons (Rp.mono e2 r) r2, e2, fun q hq => k2 q (by rw [kids_d] at hq; exact hq)⟩
  | v :: vs, .o o :: is, G1, g, z, nd => by
    cases z with
    | cons r rs =>
      obtain ⟨p, rfl, f, ob⟩ := r
      rw [kids_o] at nd
      obtain ⟨n1, n2⟩ := List.nodup_cons.mp nd
      obtain ⟨G2, g2, r2, e2, k2⟩ := frz_its g rs n2
      have f2 : Fr W H G2 p := ⟨f.1, by rw [k2 p n1]; exact f.2.1, f.2.2⟩
      obtain ⟨G3, g3, r3, e3, k3⟩ := frz_1 g2 f2 (ob.mono e2 rfl)
      refine ⟨G3, g3, .cons r3 (r2.mono e3), e2.trans e3, fun q hq => ?_⟩
      rw [kids_o, List.mem_cons, not_or] at hq
      rw [k3 q hq.1, k2 q hq.2]
theorem zip_map_eq {α β γ : Type} {l : List (α × β)} {f : β → γ} : (l.map fun x => (x.1, f x.2)).map (·.1) = l.map (·.1) ∧ (l.map fun x => (x.1, f x.2)).map (·.2) = (l.map (·.2)).map f := by simp [List.map_map, Function.comp_def]
theorem frz_own {p : Addr} {o : O} (g : Grow W G H m1 G1 H1) (ob : OwnAt K (Fr W H G1) G1 H1 p o) : ∃ G2, Grow W G H m1 G2 H1 ∧ Rp K G2 (.ref p) o.frz ∧ Ex G1 G2 ∧ ∀ q, ¬ Ads H1 p o q → G2 q = G1 q := by
  cases o with
  | one o =>
    obtain ⟨G2, a, b, c, d⟩ := frz_1 g ob.1 ob.2
    exact ⟨G2, a, b, c, fun q hq => d q hq⟩
  | nest its =>
    obtain ⟨f, vs, e, r, nd⟩ := ob
    obtain ⟨n1, n2⟩ := List.nodup_cons.mp nd
    obtain ⟨G2, g2, r2, e2, k2⟩ := frz_its g r n2
    have n : G2 p = none := by rw [k2 p n1]; exact f.2.1
    refine ⟨upd G2 p (.lst vs), g2.frz f.1 n e (fun _ _ z => by cases z), Rp.lst upd_same (r2.mono (Ex.new n)), e2.trans (Ex.new n), fun q hq => ?_⟩
    have q1 : q ≠ p := fun z => hq (.inl z)
    rw [upd_ne q1, k2 q fun z => hq (.inr ⟨vs, e, z⟩)]
  | ins C fs =>
    obtain ⟨f, dx, fv, fx, e, ex, kk, r, nd⟩ := ob
    obtain ⟨G2, g2, r2, e2, k2⟩ := frz_its g r nd
    have nk : p ∉ kids (fv.map (·.2)) (fs.map (·.2)) := fun z => by
      obtain ⟨_, u, hu, hk⟩ := r.kid z
      rw [e] at hu
      cases hu
      have : ∀ {vs is}, RIts K (Fr W H G1) G1 H1 vs is → p ∈ kids vs is → False := fun {vs is} rr => by
        induction rr with
        | nil => intro h; cases h
        | @cons v vs i is r1 _ ih =>
          intro h
          cases i with
          | d d => rw [kids_d] at h; exact ih h
          | o o =>
            obtain ⟨q, rfl, _, ob⟩ := r1
            rw [kids_o] at h
            rcases List.mem_cons.mp h with rfl | h
            · cases o with
              | lst ds => obtain ⟨_, z, _⟩ := ob; rw [e] at z; cases z
              | dK ds => obtain ⟨_, z, _⟩ := ob; rw [e] at z; cases z
              | dT ds => obtain ⟨_, z, _⟩ := ob; rw [e] at z; cases z
            · exact ih h
      exact this r z
    have nx : dx ∉ kids (fv.map (·.2)) (fs.map (·.2)) := fun z => by
      obtain ⟨_, u, hu, hk⟩ := r.kid z
      rw [ex] at hu
      cases hu
      cases hk
    have pd : p ≠ dx := fun z => by rw [z, ex] at e; cases e
    have n : G2 p = none := by rw [k2 p nk]; exact f.2.1
    have n2 : upd G2 p (.ins C dx fv) dx = none := by rw [upd_ne (Ne.symm pd), k2 dx nx]; exact fx.2.1
    have g3 := (g2.frz f.1 n e (fun _ _ z => by cases z)).frz fx.1 n2 ex (fun _ _ z => by cases z)
    have e3 : Ex G2 (upd (upd G2 p (.ins C dx fv)) dx (.own p)) := (Ex.new n).trans (Ex.new n2)
    refine ⟨_, g3, Rp.ins (dx := dx) (fv := fv) (by rw [upd_ne pd]; exact upd_same) upd_same (by rw [zip_map_eq.1]; exact kk) (by rw [zip_map_eq.2]; exact r2.mono e3), e2.trans e3, fun q hq => ?_⟩
    have q1 : q ≠ p := fun z => hq (.inl z)
    have q2 : q ≠ dx := fun z => hq (.inr ⟨dx, fv, e, .inl z⟩)
    rw [upd_ne q2, upd_ne q1, k2 q fun z => hq (.inr ⟨dx, fv, e, .inr z⟩)]
theorem RelS.freezeX (g : Grow W G H m1 G1 H1) (r : RelS K W H G1 H1 v s) : ∃ G2, Grow W G H m1 G2 H1 ∧ RelS K W H G2 H1 v s.frz ∧ Ex G1 G2 := by
  cases s with
  | own o => obtain ⟨p, rfl, ob⟩ := r; obtain ⟨G2, a, b, x, _⟩ := frz_own g ob; exact ⟨G2, a, b, x⟩
  | no => exact ⟨G1, g, trivial, Ex.refl _⟩
  | el i j => exact ⟨G1, g, trivial, Ex.refl _⟩
  | dat d => exact ⟨G1, g, r, Ex.refl _⟩
  | vw o => exact ⟨G1, g, r, Ex.refl _⟩
  | lk o => exact ⟨G1, g, r, Ex.refl _⟩
  | at_ p => exact ⟨G1, g, r, Ex.refl _⟩
  | xc C a d fs => exact ⟨G1, g, r, Ex.refl _⟩
theorem RelS.freeze (g : Grow W G H m1 G1 H1) (r : RelS K W H G1 H1 v s) : ∃ G2, Grow W G H m1 G2 H1 ∧ RelS K W H G2 H1 v s.frz := by
  obtain ⟨G2, a, b, _⟩ := r.freezeX g
  exact ⟨G2, a, b⟩
end
end DL
set_option Elab.async false
set_option linter.all false
set_option maxRecDepth 100000
set_option maxHeartbeats 1000000
namespace DL
open PySem L2 Evl
/-! ### where one stands -/
abbrev Xp (ι : Type) := ι → Addr → List (Str × D) → Prop
section
variable {ι : Type}
def ExcQ (K : PySem.W.Frag) (W : Wd ι) (G H : Hp) (Ξ : Xp ι) (E : XK) : Prop := ∀ (C d : Addr) (fv : List (Str × V)) (fs : List (Str × D)) (m' : ι) (G' H' : Hp), Grow W G H m' G' H' → G' d = none → ¬ W.M d → H' d = some (.xd fv) → fv.map (·.1) = fs.map (·.1) → RpL K G' (fv.map (·.2)) (fs.map (·.2)) → Ξ m' C fs → E (.ref C) (some d) H'
theorem ExcQ.grow {K : PySem.W.Frag} {W : Wd ι} {m' : ι} {G H G' H' : Hp} {Ξ : Xp ι} {E : XK} (g : Grow W G H m' G' H') (h : ExcQ K W G H Ξ E) : ExcQ K W G' H' Ξ E :=
  fun C d fv fs m2 G2 H2 g2 => h C d fv fs m2 G2 H2 (g.trans g2)
end
structure Cc (ι : Type) where
  K : PySem.W.Frag
  W : Wd ι
  E : XK
  Ξ : Xp ι
  m0 : ι
  G0 : Hp
  H0 : Hp
section
variable {ι : Type}
/-- slot k is item j of the list in slot i -/
def ElAt (H : Hp) (σ : L2.St) (ρ : List S) (k i j : Nat) : Prop := ∃ its p vs q o, ρ[i]? = some (.own (.nest its)) ∧ σ[i]? = some (some (.ref p)) ∧ H p = some (.lst vs) ∧ vs[j]? = some (.ref q) ∧ its[j]? = some (.o o) ∧ σ[k]? = some (some (.ref q))
structure EnvOk (c : Cc ι) (m : ι) (G H : Hp) (σ : L2.St) (ρ : List S) : Prop where
  ok0 : Ok c.W c.m0 c.G0 c.H0
  gr : Grow c.W c.G0 c.H0 m G H
  exc : ExcQ c.K c.W c.G0 c.H0 c.Ξ c.E
  len : σ.length = ρ.length
  at_ : ∀ (i : Nat) (s : S), ρ[i]? = some s → (s = .no ∨ ∃ v, σ[i]? = some (some v) ∧ RelS c.K c.W c.H0 G H v s)
  sep : ∀ (i j : Nat) (o o' : O) (p q : Addr), i ≠ j → ρ[i]? = some (.own o) → ρ[j]? = some (.own o') → σ[i]? = some (some (.ref p)) → σ[j]? = some (some (.ref q)) → ∀ a, Ads H p o a → ¬ Ads H q o' a
  els : ∀ (k i j : Nat), ρ[k]? = some (.el i j) → ElAt H σ ρ k i j
  vws : ∀ (k : Nat) (o : O) (p : Addr), ρ[k]? = some (.vw o) → σ[k]? = some (some (.ref p)) → ∀ a, Ads H p o a → c.H0 a ≠ none
variable {c : Cc ι} {m m' m1 : ι} {G H G' H' : Hp} {σ : L2.St} {ρ : List S}
theorem EnvOk.ok (e : EnvOk c m G H σ ρ) : Ok c.W m G H := e.gr.ok e.ok0
theorem EnvOk.refl (e : EnvOk c m G H σ ρ) : Grow c.W G H m G H := e.ok.refl
theorem EnvOk.own (e : EnvOk c m G H σ ρ) {i : Nat} {o : O} (hi : ρ[i]? = some (.own o)) : ∃ p, σ[i]? = some (some (.ref p)) ∧ OwnAt c.K (Fr c.W c.H0 G) G H p o := by
  rcases e.at_ i _ hi with z | ⟨v, a, p, rfl, ob⟩
  · cases z
  · exact ⟨p, a, ob⟩
theorem OwnAt.here {K : PySem.W.Frag} {F : Addr → Prop} {p : Addr} {o : O} (h : OwnAt K F G H p o) : H p ≠ none := by
  obtain ⟨_, u, e, _⟩ := h.root
  rw [e]; exact fun z => by cases z
theorem OwnAt.hereT {K : PySem.W.Frag} {F : Addr → Prop} {p : Addr} {o : O} (h : OwnAt K F G H p o) : ∃ u, H p = some u ∧ noTup u = true := by
  obtain ⟨_, u, e, t⟩ := h.root
  exact ⟨u, e, pln_t t⟩
theorem EnvOk.grow (g : Grow c.W G H m' G' H') (e : EnvOk c m G H σ ρ) : EnvOk c m' G' H' σ ρ := by
  have kp : ∀ {i : Nat} {o : O} {p : Addr}, ρ[i]? = some (.own o) → σ[i]? = some (some (.ref p)) → H' p = H p := fun {i o p} hi hp => by
    obtain ⟨p', hp', ob⟩ := e.own hi
    rw [hp] at hp'
    cases hp'
    exact (g.fr p ob.root.1 ob.hereT).1
  refine ⟨e.ok0, e.gr.trans g, e.exc, e.len, fun i s h => (e.at_ i s h).imp_right fun ⟨v, a, r⟩ => ⟨v, a, r.grow g⟩, fun i j o o' p q hij hi hj pi pj a ha hb => ?_, fun k i j h => ?_, fun k o p hk hp a ha => ?_⟩
  · exact e.sep i j o o' p q hij hi hj pi pj a (ha.eq (kp hi pi)) (hb.eq (kp hj pj))
  · obtain ⟨its, p, vs, q, o, h1, h2, h3, h4⟩ := e.els k i j h
    exact ⟨its, p, vs, q, o, h1, h2, (kp h1 h2).trans h3, h4⟩
  · rcases e.at_ k _ hk with z | ⟨v, hv, p', rfl, ob⟩
    · cases z
    · rw [hp] at hv
      cases hv
      exact e.vws k o p hk hp a (ha.eq (g.fv p ob.root.1 ob.hereT).1)
theorem EnvOk.excq (e : EnvOk c m G H σ ρ) : ExcQ c.K c.W G H c.Ξ c.E := e.exc.grow e.gr
/-! ### judgements -/
def De (c : Cc ι) (m : ι) (te : TE) (ρ : List S) (Φ : ι → S → Prop) : Prop := ∀ σ G H, EnvOk c m G H σ ρ → ∀ Q : VK, (∀ v s m' G' H', Grow c.W G H m' G' H' → RelS c.K c.W H G' H' v s → Φ m' s → Q v H') → te σ H Q
def DT (c : Cc ι) (m : ι) (tt : TT) (ρ : List S) (Φ : ι → Bool → Prop) : Prop := ∀ σ G H, EnvOk c m G H σ ρ → ∀ Q : Bool → Hp → Prop, (∀ b m' G' H', Grow c.W G H m' G' H' → Φ m' b → Q b H') → tt σ H Q
inductive RelSs (K : PySem.W.Frag) (W : Wd ι) (H0 G H : Hp) : List V → List S → Prop
  | nil : RelSs K W H0 G H [] []
  | cons {v : V} {vs : List V} {s : S} {ss : List S} : RelS K W H0 G H v s → RelSs K W H0 G H vs ss → RelSs K W H0 G H (v :: vs) (s :: ss)
theorem RelSs.grow {K : PySem.W.Frag} {W : Wd ι} {H0 G H G' H' : Hp} (g : Grow W G H m' G' H') : ∀ {vs : List V} {ss : List S}, RelSs K W H0 G H vs ss → RelSs K W H0 G' H' vs ss
  | _, _, .nil => .nil
  | _, _, .cons h r => .cons (h.grow g) (r.grow g)
theorem RelSs.back {K : PySem.W.Frag} {W : Wd ι} {G H G1 H1 G2 H2 : Hp} (g : Grow W G H m1 G1 H1) : ∀ {vs : List V} {ss : List S}, RelSs K W H1 G2 H2 vs ss → RelSs K W H G2 H2 vs ss
  | _, _, .nil => .nil
  | _, _, .cons h r => .cons (h.back g) (r.back g)
theorem RelSs.length {K : PySem.W.Frag} {W : Wd ι} {H0 G H : Hp} : ∀ {vs : List V} {ss : List S}, RelSs K W H0 G H vs ss → vs.length = ss.length
  | _, _, .nil => rfl
  | _, _, .cons _ r => by simp [RelSs.length r]
def DA (c : Cc ι) (m : ι) (ta : TA) (ρ : List S) (Φ : ι → List S → Prop) : Prop := ∀ σ G H, EnvOk c m G H σ ρ → ∀ Q : List V → Hp → Prop, (∀ vs ss m' G' H', Grow c.W G H m' G' H' → RelSs c.K c.W H G' H' vs ss → Φ m' ss → Q vs H') → ta σ H Q
def Ds (c : Cc ι) (m : ι) (ts : TS) (ρ : List S) (N : ι → List S → Prop) (R : ι → S → Prop) (B C : ι → List S → Prop) : Prop := ∀ (D : Ends) σ G H, EnvOk c m G H σ ρ →
  (∀ ρ' σ' m' G' H', N m' ρ' → Ex G G' → EnvOk c m' G' H' σ' ρ' → D.nx σ' H') →
  (∀ s v m' G' H', R m' s → Ex G G' → Grow c.W c.G0 c.H0 m' G' H' → RelS c.K c.W c.H0 G' H' v s → D.rt v H') →
  (∀ ρ' σ' m' G' H', B m' ρ' → Ex G G' → EnvOk c m' G' H' σ' ρ' → D.bk σ' H') →
  (∀ ρ' σ' m' G' H', C m' ρ' → Ex G G' → EnvOk c m' G' H' σ' ρ' → D.ct σ' H') → ts D σ H
variable {Φ : ι → S → Prop} {te ta tb : TE}
theorem De.imp {Ψ : ι → S → Prop} (h : De c m te ρ Φ) (i : ∀ m s, Φ m s → Ψ m s) : De c m te ρ Ψ := fun σ G H e Q q => h σ G H e Q fun v s m' G' H' g r p => q v s m' G' H' g r (i m' s p)
theorem OwnAt.vw {K : PySem.W.Frag} {W : Wd ι} {H0 : Hp} {p : Addr} {o : O} (h : OwnAt K (Fr W H0 G) G H p o) : OwnAt K (Fv W G) G H p o := h.mono (Ex.refl _) fun a f _ => ⟨rfl, f.2⟩
theorem de_varD {i : Nat} {d : D} (hs : ρ[i]? = some (.dat d)) (h : Φ m (.dat d)) : De c m (tVar i) ρ Φ := fun σ G H e Q q => by
  rcases e.at_ i _ hs with hz | ⟨v, a, r⟩
  · cases hz
  · exact ⟨v, a, q v (.dat d) m G H e.refl r h⟩
theorem de_varO {i : Nat} {o : O} (hs : ρ[i]? = some (.own o)) (h : Φ m (.vw o)) : De c m (tVar i) ρ Φ := fun σ G H e Q q => by
  obtain ⟨p, a, ob⟩ := e.own hs
  exact ⟨.ref p, a, q _ (.vw o) m G H e.refl ⟨p, rfl, ob.vw⟩ h⟩
theorem de_varV {i : Nat} {o : O} (hs : ρ[i]? = some (.vw o)) (h : Φ m (.vw o)) : De c m (tVar i) ρ Φ := fun σ G H e Q q => by
  rcases e.at_ i _ hs with hz | ⟨v, a, r⟩
  · cases hz
  · exact ⟨v, a, q v (.vw o) m G H e.refl r h⟩
theorem de_varA {i : Nat} {p : Addr} (hs : ρ[i]? = some (.at_ p)) (h : Φ m (.at_ p)) : De c m (tVar i) ρ Φ := fun σ G H e Q q => by
  rcases e.at_ i _ hs with hz | ⟨v, a, r⟩
  · cases hz
  · exact ⟨v, a, q v (.at_ p) m G H e.refl r h⟩
theorem de_int {i : Int} (h : Φ m (.dat (.int i))) : De c m (tC (.int i)) ρ Φ := fun σ G H e Q q => q _ (.dat (.int i)) m G H e.refl (Rp.int i) h
theorem de_bl {b : Bool} (h : Φ m (.dat (.bl b))) : De c m (tC (.bl b)) ρ Φ := fun σ G H e Q q => q _ (.dat (.bl b)) m G H e.refl (Rp.bl b) h
theorem de_str {x : Str} (h : Φ m (.dat (.str x))) : De c m (tC (.str x)) ρ Φ := fun σ G H e Q q => q _ (.dat (.str x)) m G H e.refl (Rp.str x) h
theorem de_non (h : Φ m (.dat .non)) : De c m (tC .non) ρ Φ := fun σ G H e Q q => q _ (.dat .non) m G H e.refl Rp.non h
/-! operations on values -/
def OpS (K : PySem.W.Frag) (W : Wd ι) (m : ι) (r : R2) (s1 s2 : S) (Φ : ι → S → Prop) : Prop := ∀ H0 G H v1 v2, Ok W m G H → RelS K W H0 G H v1 s1 → RelS K W H0 G H v2 s2 → ∀ Q : VK, (∀ v s m' G' H', Grow W G H m' G' H' → RelS K W H G' H' v s → Φ m' s → Q v H') → r v1 v2 H Q
theorem de_op {r : R2} (h : De c m ta ρ fun m s1 => De c m tb ρ fun m s2 => OpS c.K c.W m r s1 s2 Φ) : De c m (tOp r ta tb) ρ Φ := fun σ G H e Q q =>
  h σ G H e _ fun v1 s1 m1 G1 H1 g1 r1 h1 => h1 σ G1 H1 (e.grow g1) _ fun v2 s2 m2 G2 H2 g2 r2 h2 =>
    h2 H G2 H2 v1 v2 ((e.grow g1).grow g2).ok (r1.grow g2) (r2.back g1) Q fun v s m3 G3 H3 g3 r3 p => q v s m3 G3 H3 ((g1.trans g2).trans g3) ((r3.back g2).back g1) p
theorem de_un {r : V → Hp → VK → Prop} (h : De c m ta ρ fun m s1 => ∀ H0 G H v1, Ok c.W m G H → RelS c.K c.W H0 G H v1 s1 → ∀ Q : VK, (∀ v s m' G' H', Grow c.W G H m' G' H' → RelS c.K c.W H G' H' v s → Φ m' s → Q v H') → r v1 H Q) : De c m (tUn r ta) ρ Φ := fun σ G H e Q q =>
  h σ G H e _ fun v1 s1 m1 G1 H1 g1 r1 h1 => h1 H G1 H1 v1 (e.grow g1).ok r1 Q fun v s m3 G3 H3 g3 r3 p => q v s m3 G3 H3 (g1.trans g3) (r3.back g1) p
theorem de_neg (h : De c m ta ρ fun m s => ∃ i, s = .dat (.int i) ∧ Φ m (.dat (.int (-i)))) : De c m (tUn (rU fun i => .int (-i)) ta) ρ Φ := de_un (h.imp fun m s ⟨i, e, p⟩ H0 G H v1 ok r Q q => by
  subst e
  cases r
  exact ⟨i, rfl, q _ (.dat (.int (-i))) m G H ok.refl (Rp.int (-i)) p⟩)
end
end DL
set_option Elab.async false
set_option linter.all false
set_option maxRecDepth 100000
set_option maxHeartbeats 1000000
namespace DL
open PySem L2 Evl
variable {ι : Type} {m m' m1 m2 : ι}
section
variable {K : PySem.W.Frag} {W : Wd ι} {Φ : ι → S → Prop}
theorem ops_int {f : Int → Int → Int} {i j : Int} (h : Φ m (.dat (.int (f i j)))) : OpS K W m (rI0 fun i j => .int (f i j)) (.dat (.int i)) (.dat (.int j)) Φ := fun H0 G H v1 v2 ok r1 r2 Q q => by
  cases r1; cases r2
  exact ⟨i, j, rfl, rfl, q _ (.dat (.int (f i j))) m G H ok.refl (Rp.int _) h⟩
theorem ops_bool {f : Int → Int → Bool} {i j : Int} (h : Φ m (.dat (.bl (f i j)))) : OpS K W m (rI0 fun i j => .bl (f i j)) (.dat (.int i)) (.dat (.int j)) Φ := fun H0 G H v1 v2 ok r1 r2 Q q => by
  cases r1; cases r2
  exact ⟨i, j, rfl, rfl, q _ (.dat (.bl (f i j))) m G H ok.refl (Rp.bl _) h⟩
theorem ops_intC {C : Int → Int → Prop} {f : Int → Int → Int} {i j : Int} (hc : C i j) (h : Φ m (.dat (.int (f i j)))) : OpS K W m (rI C fun i j => .int (f i j)) (.dat (.int i)) (.dat (.int j)) Φ := fun H0 G H v1 v2 ok r1 r2 Q q => by
  cases r1; cases r2
  exact ⟨i, j, rfl, rfl, hc, q _ (.dat (.int (f i j))) m G H ok.refl (Rp.int _) h⟩
/-! ### == of data -/
mutual
def D.py : D → Option PyData
  | .non => some .none
  | .bl b => some (.bool b)
  | .int i => some (.int i)
  | .str x => some (.str x)
  | .lst ds => (D.pys ds).map .list
  | .tup ds => (D.pys ds).map .tuple
  | .scr ns => some (.list (ns.map .int))
  | _ => none
def D.pys : List D → Option (List PyData)
  | [] => some []
  | d :: ds => (D.py d).bind fun x => (D.pys ds).map fun xs => x :: xs
end
theorem dp_ints {K : PySem.W.Frag} {H : Hp} : ∀ ns : List Int, DpAll K H (ns.map V.int) (ns.map PyData.int)
  | [] => .nil
  | n :: ns => .cons (.int n) (dp_ints ns)
mutual
theorem Rp.dp {K : PySem.W.Frag} {G H : Hp} (e : Ex G H) : ∀ {v : V} {d : D} {x : PyData}, Rp K G v d → d.py = some x → Dp K H v x
  | _, _, x, .non, q => by unfold D.py at q; cases q; exact .non
  | _, _, x, .bl b, q => by unfold D.py at q; cases q; exact .bl b
  | _, _, x, .int i, q => by unfold D.py at q; cases q; exact .int i
  | _, _, x, .str s, q => by unfold D.py at q; cases q; exact .str s
  | _, _, x, .lst (ds := ds) h r, q => by
    unfold D.py at q
    cases z : D.pys ds with
    | none => rw [z] at q; cases q
    | some xs => rw [z] at q; cases q; exact .lst (SqL.of (e _ _ h)) (RpL.dp e r z)
  | _, _, x, .tup (ds := ds) h r, q => by
    unfold D.py at q
    cases z : D.pys ds with
    | none => rw [z] at q; cases q
    | some xs => rw [z] at q; cases q; exact .tup (SqT.of (e _ _ h)) (RpL.dp e r z)
  | _, _, x, .dic _ _ _, q => by unfold D.py at q; cases q
  | _, _, x, .dit _ _ _, q => by unfold D.py at q; cases q
  | _, _, x, .scr h, q => by unfold D.py at q; cases q; exact .lst (ex_l e h) (dp_ints _)
theorem RpL.dp {K : PySem.W.Frag} {G H : Hp} (e : Ex G H) : ∀ {vs : List V} {ds : List D} {xs : List PyData}, RpL K G vs ds → D.pys ds = some xs → DpAll K H vs xs
  | _, _, xs, .nil, q => by unfold D.pys at q; cases q; exact .nil
  | _, _, xs, .cons (d := d) (ds := ds) h r, q => by
    unfold D.pys at q
    cases z : d.py with
    | none => rw [z] at q; cases q
    | some y =>
      rw [z] at q
      cases z2 : D.pys ds with
      | none => rw [z2] at q; cases q
      | some ys => rw [z2] at q; cases q; exact .cons (Rp.dp e h z) (RpL.dp e r z2)
end
/-- data of a value that is read -/
def S.view : S → Option D
  | .dat d => some d
  | .own o => some o.frz
  | .vw o => some o.frz
  | .lk o => some o.frz
  | _ => none
theorem Ob1.rp {G H : Hp} {p : Addr} {o : O1} (e : Ex G H) (h : Ob1 K G H p o) : Rp K H (.ref p) o.frz := by
  cases o with
  | lst ds => obtain ⟨xs, a, b⟩ := h; exact .lst a (b.mono e)
  | dK ds => obtain ⟨xs, a, k, b⟩ := h; exact .dic (.inl a) k (b.mono e)
  | dT ds => obtain ⟨xs, a, k, b⟩ := h; exact .dit (.inl a) k (b.mono e)
theorem RIts.rp {F : Addr → Prop} {G H : Hp} (e : Ex G H) : ∀ {vs : List V} {is : List It}, RIts K F G H vs is → RpL K H vs (is.map It.frz)
  | _, _, .nil => .nil
  | _, _, .cons (i := .d d) r rs => .cons (Rp.mono e r) (rs.rp e)
  | _, _, .cons (i := .o o) r rs => .cons (by obtain ⟨q, rfl, _, ob⟩ := r; exact ob.rp e) (rs.rp e)
theorem OwnAt.rp {F : Addr → Prop} {G H : Hp} {p : Addr} {o : O} (e : Ex G H) (h : OwnAt K F G H p o) : Rp K H (.ref p) o.frz := by
  cases o with
  | one o => exact h.2.rp e
  | nest its => obtain ⟨_, vs, a, r, _⟩ := h; exact .lst a (r.rp e)
  | ins C fs =>
    obtain ⟨_, dx, fv, _, a, b, k, r, _⟩ := h
    exact .ins a b (by rw [zip_map_eq.1]; exact k) (by rw [zip_map_eq.2]; exact r.rp e)
/-- what is read is data of the heap -/
theorem RelS.rd {H0 G H : Hp} {v : V} {s : S} {d : D} (ok : Ok W m G H) (r : RelS K W H0 G H v s) (hs : s.view = some d) : Rp K H v d := by
  cases s with
  | dat d' => cases hs; exact Rp.mono ok.ex r
  | own o => cases hs; obtain ⟨p, rfl, ob⟩ := r; exact ob.rp ok.ex
  | vw o => cases hs; obtain ⟨p, rfl, ob⟩ := r; exact ob.rp ok.ex
  | lk o =>
    cases hs
    obtain ⟨p, x, u, rfl, n, ob⟩ := r
    have e := W.pinned _ _ _ _ _ ok.inv n
    cases o with
    | lst ds => exact ob.elim
    | dK ds => obtain ⟨kvs, rfl, b, c⟩ := ob; exact .dic (.inr ⟨x, e⟩) b (c.mono ok.ex)
    | dT ds => obtain ⟨kvs, rfl, b, c⟩ := ob; exact .dit (.inr ⟨x, e⟩) b (c.mono ok.ex)
  | no => cases hs
  | el i j => cases hs
  | at_ p => cases hs
  | xc _ _ _ _ => cases hs
theorem RelS.dp {H0 G H : Hp} {v : V} {s : S} {d : D} {x : PyData} (ok : Ok W m G H) (r : RelS K W H0 G H v s) (hs : s.view = some d) (hx : d.py = some x) : Dp K H v x := Rp.dp (Ex.refl H) (r.rd ok hs) hx
theorem ops_eqD {s1 s2 : S} {d1 d2 : D} {x1 x2 : PyData} (h1 : s1.view = some d1) (h2 : s2.view = some d2) (e1 : d1.py = some x1) (e2 : d2.py = some x2) (c1 : SeqAt.shaped x1 = true) (c2 : SeqAt.shaped x2 = true) (h : Φ m (.dat (.bl (PyData.eqv x1 x2)))) :
    OpS K W m (rEqD K) s1 s2 Φ := fun H0 G H v1 v2 ok r1 r2 Q q => ⟨x1, x2, r1.dp ok h1 e1, r2.dp ok h2 e2, c1, c2, q _ (.dat (.bl _)) m G H ok.refl (Rp.bl _) h⟩
theorem ops_neD {s1 s2 : S} {d1 d2 : D} {x1 x2 : PyData} (h1 : s1.view = some d1) (h2 : s2.view = some d2) (e1 : d1.py = some x1) (e2 : d2.py = some x2) (c1 : SeqAt.shaped x1 = true) (c2 : SeqAt.shaped x2 = true) (h : Φ m (.dat (.bl (!PyData.eqv x1 x2)))) :
    OpS K W m (rNeD K) s1 s2 Φ := fun H0 G H v1 v2 ok r1 r2 Q q => ⟨x1, x2, r1.dp ok h1 e1, r2.dp ok h2 e2, c1, c2, q _ (.dat (.bl _)) m G H ok.refl (Rp.bl _) h⟩
/-! ### sequences -/
/-- a list that is read: its items -/
def S.lst? : S → Option (List D)
  | .dat (.lst ds) => some ds
  | .dat (.scr ns) => some (ns.map .int)
  | .own (.one (.lst ds)) => some ds
  | .vw (.one (.lst ds)) => some ds
  | _ => none
def S.tup? : S → Option (List D)
  | .dat (.tup ds) => some ds
  | _ => none
theorem RelS.lstV {H0 G H : Hp} {v : V} {s : S} {ds : List D} (ok : Ok W m G H) (r : RelS K W H0 G H v s) (h : s.lst? = some ds) : ∃ p xs, v = .ref p ∧ SqL K H p xs ∧ RpL K G xs ds := by
  cases s with
  | no => cases h
  | at_ p => cases h
  | xc _ _ _ _ => cases h
  | dat d =>
    cases d <;> first | cases h | skip
    · have r : Rp K G v _ := r
      cases r with
      | lst a b => exact ⟨_, _, rfl, SqL.of (ok.ex _ _ a), b⟩
    · have r : Rp K G v _ := r
      cases r with
      | scr a => exact ⟨_, _, rfl, ex_l ok.ex a, RpL.ofInts _⟩
  | el i j => cases h
  | lk o => cases h
  | own o =>
    cases o <;> first | cases h | skip
    rename_i o
    cases o <;> first | cases h | skip
    obtain ⟨p, rfl, _, xs, a, b⟩ := r
    exact ⟨p, xs, rfl, SqL.of a, b⟩
  | vw o =>
    cases o <;> first | cases h | skip
    rename_i o
    cases o <;> first | cases h | skip
    obtain ⟨p, rfl, _, xs, a, b⟩ := r
    exact ⟨p, xs, rfl, SqL.of a, b⟩
theorem RelS.tupV {H0 G H : Hp} {v : V} {s : S} {ds : List D} (ok : Ok W m G H) (r : RelS K W H0 G H v s) (h : s.tup? = some ds) : ∃ p xs, v = .ref p ∧ SqT K H p xs ∧ RpL K G xs ds := by
  cases s with
  | dat d =>
    cases d <;> first | cases h | skip
    have r : Rp K G v _ := r
    cases r with
    | tup a b => exact ⟨_, _, rfl, SqT.of (ok.ex _ _ a), b⟩
  | no => cases h
  | at_ p => cases h
  | xc _ _ _ _ => cases h
  | own o => cases h
  | vw o => cases h
  | el i j => cases h
  | lk o => cases h
/-- a plain list (tracked) -/
def S.raw? : S → Option (List D)
  | .dat (.lst ds) => some ds
  | .own (.one (.lst ds)) => some ds
  | .vw (.one (.lst ds)) => some ds
  | _ => none
theorem RelS.rawV {H0 G H : Hp} {v : V} {s : S} {ds : List D} (ok : Ok W m G H) (r : RelS K W H0 G H v s) (h : s.raw? = some ds) : ∃ p xs, v = .ref p ∧ H p = some (.lst xs) ∧ RpL K G xs ds := by
  cases s with
  | no => cases h
  | at_ p => cases h
  | xc _ _ _ _ => cases h
  | dat d =>
    cases d <;> first | cases h | skip
    have r : Rp K G v _ := r
    cases r with
    | lst a b => exact ⟨_, _, rfl, ok.ex _ _ a, b⟩
  | el i j => cases h
  | lk o => cases h
  | own o =>
    cases o <;> first | cases h | skip
    rename_i o
    cases o <;> first | cases h | skip
    obtain ⟨p, rfl, _, xs, a, b⟩ := r
    exact ⟨p, xs, rfl, a, b⟩
  | vw o =>
    cases o <;> first | cases h | skip
    rename_i o
    cases o <;> first | cases h | skip
    obtain ⟨p, rfl, _, xs, a, b⟩ := r
    exact ⟨p, xs, rfl, a, b⟩
theorem sz {n : Nat} (h : n ≤ 1000000) : n ≤ sizeLine := Nat.le_trans h (by decide)
theorem szl {n : Nat} (h : n < 1000000) : n < sizeLine := Nat.lt_of_lt_of_le h (by decide)
/-- a new list, one's own -/
theorem new_lst {H0 G H : Hp} {xs : List V} {ds : List D} {Q : VK} (ok : Ok W m G H) (r : RpL K G xs ds) (h : Φ m (.own (.lst ds))) (q : ∀ v s m' G' H', Grow W G H m' G' H' → RelS K W H G' H' v s → Φ m' s → Q v H') (p : Addr) (hp : H p = none) : Q (.ref p) (upd H p (.lst xs)) :=
  q (.ref p) (.own (.lst ds)) m G _ (Grow.new ok hp) ⟨p, rfl, ⟨hp, fresh_back ok.ex hp, fun m => W.ne ok.inv m hp⟩, xs, upd_same, r⟩ h
/-- a new tuple -/
theorem new_tup {H0 G H : Hp} {xs : List V} {ds : List D} {Q : VK} (ok : Ok W m G H) (r : RpL K G xs ds) (h : Φ m (.dat (.tup ds))) (q : ∀ v s m' G' H', Grow W G H m' G' H' → RelS K W H G' H' v s → Φ m' s → Q v H') (p : Addr) (hp : H p = none) : Q (.ref p) (upd H p (.tup xs)) :=
  q (.ref p) (.dat (.tup ds)) m (upd G p (.tup xs)) _ (Grow.newD ok hp fun _ _ z => by cases z) (Rp.tup upd_same (r.mono (Ex.new (fresh_back ok.ex hp)))) h
theorem ops_cat {s1 s2 : S} {ds es : List D} (h1 : s1.raw? = some ds) (h2 : s2.raw? = some es) (hl : ds.length + es.length ≤ 1000000) (h : Φ m (.own (.lst (ds ++ es)))) : OpS K W m rCat s1 s2 Φ := fun H0 G H v1 v2 ok r1 r2 Q q => by
  obtain ⟨p, xs, rfl, a1, b1⟩ := r1.rawV ok h1
  obtain ⟨p2, ys, rfl, a2, b2⟩ := r2.rawV ok h2
  exact ⟨p, p2, xs, ys, rfl, rfl, a1, a2, by rw [b1.length, b2.length]; exact sz hl, new_lst (H0 := H0) ok (b1.append b2) h q⟩
theorem atI_rp {G : Hp} {xs : List V} {ds : List D} {i : Int} {d : D} (r : RpL K G xs ds) (h : atI ds i = some d) : ∃ v, atI xs i = some v ∧ Rp K G v d := by
  unfold atI at h ⊢
  rw [r.length]
  cases e : ixN ds.length i with
  | none => rw [e] at h; cases h
  | some j =>
    rw [e] at h
    exact r.getD h
theorem ops_ixL {s1 : S} {ds : List D} {i : Int} {d : D} (h1 : s1.lst? = some ds) (hi : atI ds i = some d) (h : Φ m (.dat d)) : OpS K W m (rIxL K) s1 (.dat (.int i)) Φ := fun H0 G H v1 v2 ok r1 r2 Q q => by
  obtain ⟨p, xs, rfl, a1, b1⟩ := r1.lstV ok h1
  cases r2
  obtain ⟨v, e, r⟩ := atI_rp b1 hi
  exact ⟨p, xs, i, v, rfl, rfl, a1, e, q v (.dat d) m G H ok.refl r h⟩
end
section
variable {c : Cc ι} {ρ : List S} {Φ : ι → S → Prop} {te ta tb : TE}
/-! ### tests -/
theorem de_andV (h : De c m ta ρ fun m s => (s = .dat (.bl true) ∧ De c m tb ρ Φ) ∨ (s = .dat (.bl false) ∧ Φ m (.dat (.bl false)))) : De c m (tAndV ta tb) ρ Φ := fun σ G H e Q q =>
  h σ G H e _ fun v s m1 G1 H1 g1 r1 h1 => by
    rcases h1 with ⟨rfl, h1⟩ | ⟨rfl, h1⟩
    · cases r1
      exact ⟨true, rfl, by rw [if_pos rfl]; exact h1 σ G1 H1 (e.grow g1) Q fun v s m' G' H' g r p => q v s m' G' H' (g1.trans g) (r.back g1) p⟩
    · cases r1
      exact ⟨false, rfl, by rw [if_neg Bool.false_ne_true]; exact q _ (.dat (.bl false)) m1 G1 H1 g1 (Rp.bl false) h1⟩
theorem de_orV (h : De c m ta ρ fun m s => (s = .dat (.bl false) ∧ De c m tb ρ Φ) ∨ (s = .dat (.bl true) ∧ Φ m (.dat (.bl true)))) : De c m (tOrV ta tb) ρ Φ := fun σ G H e Q q =>
  h σ G H e _ fun v s m1 G1 H1 g1 r1 h1 => by
    rcases h1 with ⟨rfl, h1⟩ | ⟨rfl, h1⟩
    · cases r1
      exact ⟨false, rfl, by rw [if_neg Bool.false_ne_true]; exact h1 σ G1 H1 (e.grow g1) Q fun v s m' G' H' g r p => q v s m' G' H' (g1.trans g) (r.back g1) p⟩
    · cases r1
      exact ⟨true, rfl, by rw [if_pos rfl]; exact q _ (.dat (.bl true)) m1 G1 H1 g1 (Rp.bl true) h1⟩
/-- by cases on a known bool -/
theorem de_andB (h : De c m ta ρ fun m s => ∃ b, s = .dat (.bl b) ∧ (b = true → De c m tb ρ Φ) ∧ (b = false → Φ m (.dat (.bl false)))) : De c m (tAndV ta tb) ρ Φ := de_andV (h.imp fun m s ⟨b, e, h1, h2⟩ => by
  cases b with
  | true => exact .inl ⟨e, h1 rfl⟩
  | false => exact .inr ⟨e, h2 rfl⟩)
theorem de_orB (h : De c m ta ρ fun m s => ∃ b, s = .dat (.bl b) ∧ (b = false → De c m tb ρ Φ) ∧ (b = true → Φ m (.dat (.bl true)))) : De c m (tOrV ta tb) ρ Φ := de_orV (h.imp fun m s ⟨b, e, h1, h2⟩ => by
  cases b with
  | true => exact .inr ⟨e, h2 rfl⟩
  | false => exact .inl ⟨e, h1 rfl⟩)
theorem de_notV (h : De c m ta ρ fun m s => ∃ b, s = .dat (.bl b) ∧ Φ m (.dat (.bl (!b)))) : De c m (tNotV ta) ρ Φ := fun σ G H e Q q =>
  h σ G H e _ fun v s m1 G1 H1 g1 r1 ⟨b, e1, h1⟩ => by
    subst e1
    cases r1
    exact ⟨b, rfl, q _ (.dat (.bl (!b))) m1 G1 H1 g1 (Rp.bl _) h1⟩
variable {tt tu : TT} {Ψ : ι → Bool → Prop}
theorem DT.imp {Ψ' : ι → Bool → Prop} (h : DT c m tt ρ Ψ) (i : ∀ m b, Ψ m b → Ψ' m b) : DT c m tt ρ Ψ' := fun σ G H e Q q => h σ G H e Q fun b m' G' H' g p => q b m' G' H' g (i m' b p)
theorem dt_test (h : De c m te ρ fun m s => ∃ b, s = .dat (.bl b) ∧ Ψ m b) : DT c m (tTest te) ρ Ψ := fun σ G H e Q q => h σ G H e _ fun v s m1 G1 H1 g1 r1 ⟨b, e1, h1⟩ => by
  subst e1
  cases r1
  exact ⟨b, rfl, q b m1 G1 H1 g1 h1⟩
theorem dt_B (h : De c m te ρ fun m s => ∃ b, s = .dat (.bl b) ∧ Ψ m b) : DT c m (tB te) ρ Ψ := dt_test h
theorem dt_not (h : DT c m tt ρ fun m b => Ψ m (!b)) : DT c m (tNot tt) ρ Ψ := fun σ G H e Q q => h σ G H e _ fun b m1 G1 H1 g1 h1 => q (!b) m1 G1 H1 g1 h1
theorem dt_and (h : DT c m tt ρ fun m b => (b = true → DT c m tu ρ Ψ) ∧ (b = false → Ψ m false)) : DT c m (tAnd tt tu) ρ Ψ := fun σ G H e Q q => h σ G H e _ fun b m1 G1 H1 g1 ⟨h1, h2⟩ => by
  cases b with
  | true => rw [if_pos rfl]; exact h1 rfl σ G1 H1 (e.grow g1) Q fun b m' G' H' g p => q b m' G' H' (g1.trans g) p
  | false => rw [if_neg Bool.false_ne_true]; exact q false m1 G1 H1 g1 (h2 rfl)
theorem dt_or (h : DT c m tt ρ fun m b => (b = false → DT c m tu ρ Ψ) ∧ (b = true → Ψ m true)) : DT c m (tOr tt tu) ρ Ψ := fun σ G H e Q q => h σ G H e _ fun b m1 G1 H1 g1 ⟨h1, h2⟩ => by
  cases b with
  | false => rw [if_neg Bool.false_ne_true]; exact h1 rfl σ G1 H1 (e.grow g1) Q fun b m' G' H' g p => q b m' G' H' (g1.trans g) p
  | true => rw [if_pos rfl]; exact q true m1 G1 H1 g1 (h2 rfl)
theorem dt_yes (h : Ψ m true) : DT c m tYes ρ Ψ := fun σ G H e Q q => q true m G H e.refl h
theorem de_ifE (h : DT c m tt ρ fun m b => (b = true → De c m ta ρ Φ) ∧ (b = false → De c m tb ρ Φ)) : De c m (tIf tt ta tb) ρ Φ := fun σ G H e Q q => h σ G H e _ fun b m1 G1 H1 g1 ⟨h1, h2⟩ => by
  cases b with
  | true => rw [if_pos rfl]; exact h1 rfl σ G1 H1 (e.grow g1) Q fun v s m' G' H' g r p => q v s m' G' H' (g1.trans g) (r.back g1) p
  | false => rw [if_neg Bool.false_ne_true]; exact h2 rfl σ G1 H1 (e.grow g1) Q fun v s m' G' H' g r p => q v s m' G' H' (g1.trans g) (r.back g1) p
theorem de_chain {r r' : R2} {tc : TE} (h : De c m ta ρ fun m s1 => De c m tb ρ fun m s2 => OpS c.K c.W m r s1 s2 fun m s => ∃ k, s = .dat (.bl k) ∧ (k = true → De c m tc ρ fun m s3 => OpS c.K c.W m r' s2 s3 Φ) ∧ (k = false → Φ m (.dat (.bl false)))) : De c m (tChain r r' ta tb tc) ρ Φ := fun σ G H e Q q =>
  h σ G H e _ fun v1 s1 m1 G1 H1 g1 r1 h1 => h1 σ G1 H1 (e.grow g1) _ fun v2 s2 m2 G2 H2 g2 r2 h2 =>
    h2 H G2 H2 v1 v2 ((e.grow g1).grow g2).ok (r1.grow g2) (r2.back g1) _ fun v s m3 G3 H3 g3 r3 ⟨k, ek, h3, h4⟩ => by
      subst ek
      cases r3
      refine ⟨k, rfl, ?_⟩
      cases k with
      | true =>
        rw [if_pos rfl]
        exact h3 rfl σ G3 H3 (((e.grow g1).grow g2).grow g3) _ fun v3 s3 m4 G4 H4 g4 r4 h5 => h5 H G4 H4 v2 v3 ((((e.grow g1).grow g2).grow g3).grow g4).ok ((((r2.back g1).grow g3)).grow g4) (((r4.back g3).back g2).back g1) Q fun v s m5 G5 H5 g5 r5 p =>
          q v s m5 G5 H5 ((((g1.trans g2).trans g3).trans g4).trans g5) ((((r5.back g4).back g3).back g2).back g1) p
      | false =>
        rw [if_neg Bool.false_ne_true]
        exact q _ (.dat (.bl false)) m3 G3 H3 ((g1.trans g2).trans g3) (Rp.bl false) (h4 rfl)
/-! ### argument lists, displays -/
variable {tr : TA} {Θ : ι → List S → Prop}
theorem da_nil (h : Θ m []) : DA c m tNil ρ Θ := fun σ G H e Q q => q [] [] m G H e.refl .nil h
theorem da_cons (h : De c m ta ρ fun m s => DA c m tr ρ fun m ss => Θ m (s :: ss)) : DA c m (tCons ta tr) ρ Θ := fun σ G H e Q q =>
  h σ G H e _ fun v s m1 G1 H1 g1 r1 h1 => h1 σ G1 H1 (e.grow g1) _ fun vs ss m2 G2 H2 g2 r2 h2 => q (v :: vs) (s :: ss) m2 G2 H2 (g1.trans g2) (.cons (r1.grow g2) (r2.back g1)) h2
theorem relss_dat {K : PySem.W.Frag} {W : Wd ι} {H0 G H : Hp} : ∀ {vs : List V} {ds : List D}, RelSs K W H0 G H vs (ds.map S.dat) → RpL K G vs ds
  | _, [], .nil => .nil
  | _, _ :: _, .cons h r => .cons h (relss_dat r)
theorem de_tup (h : DA c m tr ρ fun m ss => ∃ ds : List D, ss = ds.map S.dat ∧ ds.length ≤ 1000000 ∧ Φ m (.dat (.tup ds))) : De c m (tTup tr) ρ Φ := fun σ G H e Q q => h σ G H e _ fun vs ss m1 G1 H1 g1 r1 ⟨ds, es, hl, p⟩ => by
  subst es
  have r2 := relss_dat r1
  exact ⟨by rw [r2.length]; exact sz hl, new_tup (H0 := H) (e.grow g1).ok r2 p fun v s m' G' H' g r p => q v s m' G' H' (g1.trans g) (r.back g1) p⟩
theorem de_lst (h : DA c m tr ρ fun m ss => ∃ ds : List D, ss = ds.map S.dat ∧ ds.length ≤ 1000000 ∧ Φ m (.own (.lst ds))) : De c m (tLst tr) ρ Φ := fun σ G H e Q q => h σ G H e _ fun vs ss m1 G1 H1 g1 r1 ⟨ds, es, hl, p⟩ => by
  subst es
  have r2 := relss_dat r1
  exact ⟨by rw [r2.length]; exact sz hl, new_lst (H0 := H) (e.grow g1).ok r2 p fun v s m' G' H' g r p => q v s m' G' H' (g1.trans g) (r.back g1) p⟩
theorem da_star (h : De c m ta ρ fun m s => ∃ ds, (s.tup? = some ds ∨ s.lst? = some ds) ∧ DA c m tr ρ fun m ss => Θ m (ds.map S.dat ++ ss)) : DA c m (StX.tStar c.K ta tr) ρ Θ := fun σ G H e Q q =>
  h σ G H e _ fun v s m1 G1 H1 g1 r1 ⟨ds, hs, h1⟩ => by
    have key : ∃ p xs, v = .ref p ∧ (SqT c.K H1 p xs ∨ SqL c.K H1 p xs) ∧ RpL c.K G1 xs ds := by
      rcases hs with hs | hs
      · obtain ⟨p, xs, a, b, d⟩ := r1.tupV (e.grow g1).ok hs
        exact ⟨p, xs, a, .inl b, d⟩
      · obtain ⟨p, xs, a, b, d⟩ := r1.lstV (e.grow g1).ok hs
        exact ⟨p, xs, a, .inr b, d⟩
    obtain ⟨p, xs, ev, hx, r⟩ := key
    refine ⟨p, xs, ev, hx, h1 σ G1 H1 (e.grow g1) _ fun vs ss m2 G2 H2 g2 r2 h2 => q (xs ++ vs) _ m2 G2 H2 (g1.trans g2) ?_ h2⟩
    have app : ∀ {xs : List V} {ds : List D}, RpL c.K G1 xs ds → RelSs c.K c.W H G2 H2 (xs ++ vs) (ds.map S.dat ++ ss) := by
      intro xs ds r
      induction xs generalizing ds with
      | nil => cases r; exact r2.back g1
      | cons x xs ih =>
        cases r with
        | cons a b => exact .cons (Rp.mono g2.ex a) (ih b)
    exact app r
/-! ### calls of defs -/
abbrev Fc := (ι : Type) → Wd ι → ι → List S → (ι → S → Prop) → Xp ι → Prop
def argS : S → Bool
  | .dat _ => true
  | .at_ _ => true
  | .vw _ => true
  | _ => false
def spF (K : PySem.W.Frag) (C : Fc) : Sp := fun vs H Q E => ∃ (κ : Type) (W : Wd κ) (m : κ) (G : Hp) (ss : List S) (Φ : κ → S → Prop) (Ξ : Xp κ), Ok W m G H ∧ RelSs K W H G H vs ss ∧ ss.all argS = true ∧ C κ W m ss Φ Ξ ∧ (∀ v s m' G' H', Grow W G H m' G' H' → RelS K W H G' H' v s → Φ m' s → Q v H') ∧ ExcQ K W G H Ξ E
theorem relss_arg {K : PySem.W.Frag} {W : Wd ι} {H0 H1 G H : Hp} : ∀ {vs : List V} {ss : List S}, RelSs K W H0 G H vs ss → ss.all argS = true → RelSs K W H1 G H vs ss
  | _, _, .nil, _ => .nil
  | _, s :: ss, .cons h r, q => by
    rw [List.all_cons] at q
    obtain ⟨q1, q2⟩ := Bool.and_eq_true_iff.mp q
    refine .cons ?_ (relss_arg r q2)
    cases s <;> first | exact h | cases q1
theorem de_call {C : Fc} (h : DA c m tr ρ fun m ss => ss.all argS = true ∧ C ι c.W m ss Φ c.Ξ) : De c m (tCall (spF c.K C) [] c.E tr) ρ Φ := fun σ G H e Q q => h σ G H e _ fun vs ss m1 G1 H1 g1 r1 ⟨ha, hc⟩ => by
  rw [List.append_nil]
  exact ⟨ι, c.W, m1, G1, ss, Φ, c.Ξ, (e.grow g1).ok, relss_arg r1 ha, ha, hc, fun v s m' G' H' g r p => q v s m' G' H' (g1.trans g) (r.back g1) p, (e.grow g1).excq⟩
/-- a call that raises nothing -/
theorem de_call0 {C : Fc} (h : DA c m tr ρ fun m ss => ss.all argS = true ∧ C ι c.W m ss Φ fun _ _ _ => False) : De c m (tCall (spF c.K C) [] E0 tr) ρ Φ := fun σ G H e Q q => h σ G H e _ fun vs ss m1 G1 H1 g1 r1 ⟨ha, hc⟩ => by
  rw [List.append_nil]
  exact ⟨ι, c.W, m1, G1, ss, Φ, _, (e.grow g1).ok, relss_arg r1 ha, ha, hc, fun v s m' G' H' g r p => q v s m' G' H' (g1.trans g) (r.back g1) p, fun _ _ _ _ _ _ _ _ _ _ _ _ _ z => z.elim⟩
/-! ### calls of built-ins -/
def CbS (K : PySem.W.Frag) (W : Wd ι) (m : ι) (r : List V → Hp → VK → Prop) (ss : List S) (Φ : ι → S → Prop) : Prop := ∀ H0 G H vs, Ok W m G H → RelSs K W H0 G H vs ss → ∀ Q : VK, (∀ v s m' G' H', Grow W G H m' G' H' → RelS K W H G' H' v s → Φ m' s → Q v H') → r vs H Q
theorem de_cb {r : List V → Hp → VK → Prop} (h : DA c m tr ρ fun m ss => CbS c.K c.W m r ss Φ) : De c m (tCB r tr) ρ Φ := fun σ G H e Q q => h σ G H e _ fun vs ss m1 G1 H1 g1 r1 h1 => h1 H G1 H1 vs (e.grow g1).ok r1 Q fun v s m' G' H' g r p => q v s m' G' H' (g1.trans g) (r.back g1) p
end
end DL
set_option Elab.async false
set_option linter.all false
set_option maxRecDepth 100000
set_option maxHeartbeats 1000000
namespace DL
open PySem L2 Evl
variable {ι : Type} {m m' m1 m2 : ι}
/-! ### what is walked -/
def ItD (K : PySem.W.Frag) (W : Wd ι) (G1 : Hp) (J : L2.It) (ds : List D) : Prop := ∀ m G H, Ex G1 G → Ok W m G H → ∀ i : Nat, (∀ d, ds[i]? = some d → J.go i H ∧ ∀ x H', J.yld i H x H' → ∃ G', Grow W G H m G' H' ∧ Rp K G' x d) ∧ (i = ds.length → J.stop i H)
def DI (c : Cc ι) (m : ι) (wi : TI) (ρ : List S) (Φ : ι → List D → Prop) : Prop := ∀ σ G H, EnvOk c m G H σ ρ → ∀ R : L2.It → Hp → Prop, (∀ J ds m' G' H', Grow c.W G H m' G' H' → ItD c.K c.W G' J ds → Φ m' ds → R J H') → wi σ H R
section
variable {c : Cc ι} {ρ : List S} {te ta tb : TE} {tr : TA} {Φ : ι → List D → Prop}
theorem itd_list' {K : PySem.W.Frag} {W : Wd ι} {G1 : Hp} {a : Addr} {xs : List V} {ds : List D} (h : SqL K G1 a xs) (r : RpL K G1 xs ds) : ItD K W G1 (Itl K a) ds := fun m G H e ok i => by
  have hx : SqL K H a xs := ex_l (e.trans ok.ex) h
  refine ⟨fun d hd => ?_, fun hl => ⟨xs, hx, by rw [r.length]; exact Nat.le_of_eq hl.symm⟩⟩
  obtain ⟨v, hv, rv⟩ := r.getD hd
  refine ⟨⟨xs, v, hx, hv⟩, fun x H' y => ?_⟩
  obtain ⟨eh, y⟩ := y
  have z := y xs hx
  rw [hv] at z
  cases z
  subst eh
  exact ⟨G, ok.refl, rv.mono e⟩
theorem itd_tup {K : PySem.W.Frag} {W : Wd ι} {G1 : Hp} {a : Addr} {xs : List V} {ds : List D} (h : SqT K G1 a xs) (r : RpL K G1 xs ds) : ItD K W G1 (Itt K a) ds := fun m G H e ok i => by
  have hx : SqT K H a xs := ex_t (e.trans ok.ex) h
  refine ⟨fun d hd => ?_, fun hl => ⟨xs, hx, by rw [r.length]; exact Nat.le_of_eq hl.symm⟩⟩
  obtain ⟨v, hv, rv⟩ := r.getD hd
  refine ⟨⟨xs, v, hx, hv⟩, fun x H' y => ?_⟩
  obtain ⟨eh, y⟩ := y
  have z := y xs hx
  rw [hv] at z
  cases z
  subst eh
  exact ⟨G, ok.refl, rv.mono e⟩
/-- a list that is data -/
def S.dlst? : S → Option (List D)
  | .dat (.lst ds) => some ds
  | .dat (.scr ns) => some (ns.map .int)
  | _ => none
theorem RelS.dlst {K : PySem.W.Frag} {W : Wd ι} {H0 G H : Hp} {v : V} {s : S} {ds : List D} (r : RelS K W H0 G H v s) (h : s.dlst? = some ds) : ∃ p xs, v = .ref p ∧ SqL K G p xs ∧ RpL K G xs ds := by
  cases s with
  | dat d =>
    cases d <;> first | cases h | skip
    · have r : Rp K G v _ := r
      cases r with
      | lst a b => exact ⟨_, _, rfl, SqL.of a, b⟩
    · have r : Rp K G v _ := r
      cases r with
      | scr a => exact ⟨_, _, rfl, a, RpL.ofInts _⟩
  | no => cases h
  | at_ p => cases h
  | xc _ _ _ _ => cases h
  | own o => cases h
  | vw o => cases h
  | el i j => cases h
  | lk o => cases h
theorem di_list (h : De c m te ρ fun m s => ∃ ds, s.frz.dlst? = some ds ∧ Φ m ds) : DI c m (iList c.K te) ρ Φ := fun σ G H e R q => h σ G H e _ fun v s m1 G1 H1 g1 r1 ⟨ds, hs, p⟩ => by
  obtain ⟨G2, g2, r2⟩ := r1.freeze g1
  obtain ⟨a, xs, rfl, hx, rx⟩ := r2.dlst hs
  exact ⟨a, rfl, ⟨xs, ex_l g2.sub hx⟩, q _ ds m1 G2 H1 g2 (itd_list' hx rx) p⟩
theorem di_tup (h : De c m te ρ fun m s => ∃ ds, s = .dat (.tup ds) ∧ Φ m ds) : DI c m (iTup c.K te) ρ Φ := fun σ G H e R q => h σ G H e _ fun v s m1 G1 H1 g1 r1 ⟨ds, hs, p⟩ => by
  subst hs
  have r1 : Rp c.K G1 v _ := r1
  cases r1 with
  | tup hx rx => exact ⟨_, rfl, ⟨_, SqT.of (g1.sub _ _ hx)⟩, q _ ds m1 G1 H1 g1 (itd_tup (SqT.of hx) rx) p⟩
def rngD (lo : Int) (n : Nat) : List D := (List.range n).map fun i => .int (lo + (i : Nat))
theorem itd_rng {K : PySem.W.Frag} {W : Wd ι} {G1 : Hp} {lo : Int} {n : Nat} : ItD K W G1 (Itr lo n) (rngD lo n) := fun m G H e ok i => by
  refine ⟨fun d hd => ?_, fun hl => by
    have hl' : n ≤ i := by rw [hl]; simp [rngD]
    exact hl'⟩
  have hi : i < n := by
    have := (List.getElem?_eq_some_iff.mp hd).1
    simpa [rngD] using this
  refine ⟨hi, fun x H' y => ?_⟩
  obtain ⟨eh, ex⟩ := y
  subst eh ex
  have : d = .int (lo + (i : Nat)) := by
    unfold rngD at hd
    rw [List.getElem?_map, List.getElem?_range hi] at hd
    exact (Option.some.inj hd).symm
  subst this
  exact ⟨G, ok.refl, .int _⟩
theorem di_rng1 (h : DA c m tr ρ fun m ss => ∃ n : Int, ss = [.dat (.int n)] ∧ -(2 ^ 62) ≤ n ∧ n < 2 ^ 62 ∧ Φ m (rngD 0 n.toNat)) : DI c m (iRng1 tr) ρ Φ := fun σ G H e R q => h σ G H e _ fun vs ss m1 G1 H1 g1 r1 ⟨n, es, h1, h2, p⟩ => by
  subst es
  cases r1 with
  | cons a b =>
    cases b
    cases a
    exact ⟨n, rfl, h1, h2, q _ _ m1 G1 H1 g1 itd_rng p⟩
theorem di_rng2 (h : DA c m tr ρ fun m ss => ∃ l n : Int, ss = [.dat (.int l), .dat (.int n)] ∧ (-(2 ^ 62) ≤ l ∧ l < 2 ^ 62 ∧ -(2 ^ 62) ≤ n ∧ n < 2 ^ 62) ∧ Φ m (rngD l (n - l).toNat)) : DI c m (iRng2 tr) ρ Φ := fun σ G H e R q => h σ G H e _ fun vs ss m1 G1 H1 g1 r1 ⟨m, n, es, h1, p⟩ => by
  subst es
  cases r1 with
  | cons a b =>
    cases b with
    | cons b d =>
      cases d
      cases a
      cases b
      exact ⟨m, n, rfl, h1, q _ _ m1 G1 H1 g1 itd_rng p⟩
end
/-! ### slots -/
def wipeS (ρ : List S) : List Nat → List S
  | [] => ρ
  | v :: vs => (wipeS ρ vs).set v .no
theorem wipe_get (σ : L2.St) : ∀ (vs : List Nat) (i : Nat), (wipe σ vs)[i]? = if i ∈ vs then (σ[i]?).map (fun _ => none) else σ[i]?
  | [], i => by simp [wipe]
  | v :: vs, i => by
    have ih := wipe_get σ vs i
    unfold wipe
    by_cases hi : v = i
    · subst hi
      rw [if_pos List.mem_cons_self, List.getElem?_set_self', wipe_get σ vs v]
      by_cases hm : v ∈ vs
      · rw [if_pos hm]; cases σ[v]? <;> rfl
      · rw [if_neg hm]
        cases σ[v]? <;> rfl
    · rw [List.getElem?_set_ne hi, ih]
      have : (i ∈ v :: vs) ↔ i ∈ vs := by simp [Ne.symm hi]
      simp only [this]
theorem wipe_wipe (σ : L2.St) (vs : List Nat) : wipe (wipe σ vs) vs = wipe σ vs := by
  apply List.ext_getElem?
  intro i
  rw [wipe_get, wipe_get]
  by_cases h : i ∈ vs
  · rw [if_pos h, if_pos h]; cases σ[i]? <;> rfl
  · rw [if_neg h, if_neg h]
/-- no item's name speaks of slot i -/
def noEl (i : Nat) (ρ : List S) : Bool := ρ.all fun s => match s with
  | .el a _ => a != i
  | _ => true
def noEls (vs : List Nat) (ρ : List S) : Bool := vs.all fun v => noEl v ρ
theorem noEl_ok {i : Nat} {ρ : List S} (h : noEl i ρ = true) {k a j : Nat} (hk : ρ[k]? = some (.el a j)) : a ≠ i := by
  have := List.all_eq_true.mp h _ (List.mem_of_getElem? hk)
  simpa using this
section
variable {c : Cc ι} {G H G' H' : Hp} {σ : L2.St} {ρ : List S}
theorem set_get {α : Type} {l : List α} {i j : Nat} {x y : α} (h : (l.set i x)[j]? = some y) : (i = j ∧ y = x ∧ i < l.length) ∨ (i ≠ j ∧ l[j]? = some y) := by
  by_cases hi : i = j
  · subst hi
    rw [List.getElem?_set] at h
    simp only [if_true] at h
    split at h
    · rename_i hl; cases h; exact .inl ⟨rfl, rfl, hl⟩
    · cases h
  · rw [List.getElem?_set_ne hi] at h
    exact .inr ⟨hi, h⟩
/-- a slot gets a value: all that is to be shown -/
theorem EnvOk.set0 {i : Nat} {x : Option V} {s : S} (e : EnvOk c m G H σ ρ) (hr : s = .no ∨ ∃ v, x = some v ∧ RelS c.K c.W c.H0 G H v s) (hs : ∀ o p, s = .own o → x = some (.ref p) → ∀ j o' q, j ≠ i → ρ[j]? = some (.own o') → σ[j]? = some (some (.ref q)) → ∀ a, Ads H p o a → ¬ Ads H q o' a)
    (hn : noEl i ρ = true) (he : ∀ a j, s = .el a j → a ≠ i ∧ ∃ q, x = some (.ref q) ∧ ∃ its p vs o, ρ[a]? = some (.own (.nest its)) ∧ σ[a]? = some (some (.ref p)) ∧ H p = some (.lst vs) ∧ vs[j]? = some (.ref q) ∧ its[j]? = some (.o o)) (hv : ∀ o, s ≠ .vw o) : EnvOk c m G H (σ.set i x) (ρ.set i s) := by
  have sg : ∀ {k : Nat} {y : Option V}, i ≠ k → σ[k]? = some y → (σ.set i x)[k]? = some y := fun hk h => by rw [List.getElem?_set_ne hk]; exact h
  have gs : ∀ {k : Nat} {y : Option V}, i ≠ k → (σ.set i x)[k]? = some y → σ[k]? = some y := fun hk h => by rwa [List.getElem?_set_ne hk] at h
  have here : i < ρ.length → (σ.set i x)[i]? = some x := fun hl => by rw [List.getElem?_set]; simp only [if_true]; rw [if_pos (by rw [e.len]; exact hl)]
  refine ⟨e.ok0, e.gr, e.exc, by rw [List.length_set, List.length_set]; exact e.len, fun j t ht => ?_, fun j k o o' p q hjk hj hk pj pk => ?_, fun k a j hk => ?_, fun k o p hk hp a ha => ?_⟩
  · rcases set_get ht with ⟨rfl, rfl, hl⟩ | ⟨hi, ht⟩
    · rcases hr with hr | ⟨v, rfl, hr⟩
      · exact .inl hr
      · exact .inr ⟨v, here hl, hr⟩
    · exact (e.at_ j t ht).imp_right fun ⟨v, a, r⟩ => ⟨v, sg hi a, r⟩
  · rcases set_get hj with ⟨rfl, h1, hl⟩ | ⟨h1, hj⟩
    · rcases set_get hk with ⟨rfl, _⟩ | ⟨h2, hk⟩
      · exact absurd rfl hjk
      · rw [here hl] at pj
        exact hs o p h1.symm (Option.some.inj pj) k o' q (Ne.symm h2) hk (gs h2 pk)
    · rcases set_get hk with ⟨rfl, h2, hl⟩ | ⟨h2, hk⟩
      · rw [here hl] at pk
        intro a ha hb
        exact hs o' q h2.symm (Option.some.inj pk) j o p (Ne.symm h1) hj (gs h1 pj) a hb ha
      · exact e.sep j k o o' p q hjk hj hk (gs h1 pj) (gs h2 pk)
  · rcases set_get hk with ⟨rfl, h1, hl⟩ | ⟨h1, hk⟩
    · obtain ⟨na, q, rfl, its, p, vs, o, e1, e2, e3, e4, e5⟩ := he a j h1.symm
      exact ⟨its, p, vs, q, o, by rw [List.getElem?_set_ne (Ne.symm na)]; exact e1, sg (Ne.symm na) e2, e3, e4, e5, here hl⟩
    · have na := noEl_ok hn hk
      obtain ⟨its, p, vs, q, o, e1, e2, e3, e4, e5, e6⟩ := e.els k a j hk
      exact ⟨its, p, vs, q, o, by rw [List.getElem?_set_ne (Ne.symm na)]; exact e1, sg (Ne.symm na) e2, e3, e4, e5, sg h1 e6⟩
  · rcases set_get hk with ⟨rfl, h1, hl⟩ | ⟨h1, hk⟩
    · exact absurd h1.symm (hv o)
    · exact e.vws k o p hk (gs h1 hp) a ha
theorem EnvOk.set {i : Nat} {v : V} {s : S} (e : EnvOk c m G H σ ρ) (r : RelS c.K c.W c.H0 G H v s) (hn : noEl i ρ = true) (ho : ∀ o, s ≠ .own o) (he : ∀ a j, s ≠ .el a j) (hv : ∀ o, s ≠ .vw o) : EnvOk c m G H (σ.set i (some v)) (ρ.set i s) :=
  e.set0 (.inr ⟨v, rfl, r⟩) (fun o p z => absurd z (ho o)) hn (fun a j z => absurd z (he a j)) hv
theorem EnvOk.setD {i : Nat} {v : V} {d : D} (e : EnvOk c m G H σ ρ) (hn : noEl i ρ = true) (r : Rp c.K G v d) : EnvOk c m G H (σ.set i (some v)) (ρ.set i (.dat d)) := e.set (s := .dat d) r hn (fun o z => by cases z) (fun _ _ z => by cases z) (fun _ z => by cases z)
/-- a fresh own thing into a slot -/
theorem EnvOk.setF {i : Nat} {v : V} {s : S} (e : EnvOk c m G H σ ρ) (g : Grow c.W G H m' G' H') (r : RelS c.K c.W H G' H' v s) (hn : noEl i ρ = true) (he : ∀ a j, s ≠ .el a j) (hv : ∀ o, s ≠ .vw o) : EnvOk c m' G' H' (σ.set i (some v)) (ρ.set i s) := by
  refine (e.grow g).set0 (.inr ⟨v, rfl, r.back e.gr⟩) (fun o p es ev j o' q hj hs hσ a ha hb => ?_) hn (fun a j z => absurd z (he a j)) hv
  subst es
  cases ev
  obtain ⟨p', e1, ob⟩ := r
  cases e1
  obtain ⟨f1, _⟩ := ob.ads ha
  obtain ⟨q', hq', ob2⟩ := e.own hs
  rw [hσ] at hq'
  cases hq'
  have hb' := hb.eq (grow_at g ob2.root.1.2.2 ob2.here)
  obtain ⟨_, u, hu, _⟩ := ob2.ads hb'
  rw [f1.1] at hu
  cases hu
/-- a slot is forgotten -/
theorem EnvOk.unset {i : Nat} (e : EnvOk c m G H σ ρ) (x : Option V) (hn : noEl i ρ = true) : EnvOk c m G H (σ.set i x) (ρ.set i .no) :=
  e.set0 (.inl rfl) (fun o p z => by cases z) hn (fun a j z => by cases z) (fun _ z => by cases z)
theorem noEl_set {i k : Nat} {ρ : List S} (h : noEl i ρ = true) : noEl i (ρ.set k .no) = true := by
  unfold noEl at h ⊢
  rw [List.all_eq_true] at h ⊢
  intro s hs
  rcases List.mem_or_eq_of_mem_set hs with hs | rfl
  · exact h s hs
  · rfl
theorem noEl_wipe {i : Nat} {ρ : List S} (h : noEl i ρ = true) : ∀ vs, noEl i (wipeS ρ vs) = true
  | [] => h
  | v :: vs => noEl_set (noEl_wipe h vs)
theorem EnvOk.wipe (e : EnvOk c m G H σ ρ) : ∀ vs : List Nat, noEls vs ρ = true → EnvOk c m G H (wipe σ vs) (wipeS ρ vs)
  | [], _ => e
  | v :: vs, h => by
    have h : (noEl v ρ && noEls vs ρ) = true := h
    obtain ⟨h1, h2⟩ := Bool.and_eq_true_iff.mp h
    exact (EnvOk.wipe e vs h2).unset none (noEl_wipe h1 vs)
end
/-! ### targets -/
def DG (c : Cc ι) (m : ι) (g : TG) (vs : List Nat) (d : D) (ρ ρ' : List S) : Prop := ∀ v σ G H, EnvOk c m G H σ ρ → Rp c.K G v d → ∀ Q : L2.St → Hp → Prop, (∀ σ', (∀ m' G' H', Ex G G' → EnvOk c m' G' H' σ ρ → EnvOk c m' G' H' σ' ρ') → wipe σ' vs = wipe σ vs → Q σ' H) → g v σ H Q
theorem wipe_set {σ : L2.St} {vs : List Nat} {i : Nat} {x : Option V} (h : i ∈ vs) : wipe (σ.set i x) vs = wipe σ vs := by
  apply List.ext_getElem?
  intro j
  rw [wipe_get, wipe_get]
  by_cases hj : j ∈ vs
  · rw [if_pos hj, if_pos hj, List.getElem?_set]
    split
    · rename_i z
      subst z
      split
      · rename_i hl
        rw [List.getElem?_eq_getElem hl]
        rfl
      · rename_i hl
        rw [List.getElem?_eq_none (by omega)]
    · rfl
  · rw [if_neg hj, if_neg hj, List.getElem?_set_ne fun z => hj (by rw [← z]; exact h)]
theorem dg_name {c : Cc ι} {j : Nat} {vs : List Nat} {d : D} {ρ : List S} (hj : j ∈ vs) (hn : noEl j ρ = true := by with_unfolding_all rfl) : DG c m (gName j) vs d ρ (ρ.set j (.dat d)) := fun v σ G H e r Q q => q _ (fun _ _ _ x e => e.setD hn (r.mono x)) (wipe_set hj)
theorem noEl_dat {i k : Nat} {d : D} {ρ : List S} (h : noEl i ρ = true) : noEl i (ρ.set k (.dat d)) = true := by
  unfold noEl at h ⊢
  rw [List.all_eq_true] at h ⊢
  intro s hs
  rcases List.mem_or_eq_of_mem_set hs with hs | rfl
  · exact h s hs
  · rfl
theorem dg_tup2 {c : Cc ι} {i j : Nat} {vs : List Nat} {d1 d2 : D} {ρ : List S} (hi : i ∈ vs) (hj : j ∈ vs) (n1 : noEl i ρ = true := by with_unfolding_all rfl) (n2 : noEl j ρ = true := by with_unfolding_all rfl) : DG c m (gTup c.K 2 (gCons (gName i) (gCons (gName j) gNil))) vs (.tup [d1, d2]) ρ ((ρ.set i (.dat d1)).set j (.dat d2)) := fun v σ G H e r Q q => by
  cases r with
  | tup h r =>
    cases r with
    | cons a r =>
      cases r with
      | cons b r =>
        cases r
        exact ⟨_, _, rfl, SqT.of (e.ok.ex _ _ h), rfl, _, _, rfl, _, _, rfl, rfl, q _ (fun _ _ _ x e => (e.setD n1 (Rp.mono x a)).setD (noEl_dat n2) (Rp.mono x b)) ((wipe_set hj).trans (wipe_set hi))⟩
/-! ### comprehensions -/
section
variable {c : Cc ι} {ρ : List S} {Φ : ι → S → Prop} {te : TE} {tt : TT} {wi : TI} {g : TG} {vs : List Nat}
theorem lc_run {σ : L2.St} {m1 : ι} {G H G1 H1 : Hp} {I : L2.It} {ds : List D} {Q : VK} (e1 : EnvOk c m1 G1 H1 σ ρ) (g1 : Grow c.W G H m1 G1 H1) (it : ItD c.K c.W G1 I ds) (q : ∀ v s m' G' H', Grow c.W G H m' G' H' → RelS c.K c.W H G' H' v s → Φ m' s → Q v H')
    (hw : noEls vs ρ = true) (hl : ds.length < 1000000) (J : Nat → ι → List D → Prop) (j0 : J 0 m1 [])
    (jt : ∀ i d m acc, ds[i]? = some d → J i m acc → ∃ ρ', DG c m g vs d (wipeS ρ vs) ρ' ∧ DT c m tt ρ' fun m b => (b = true → De c m te ρ' fun m s => ∃ d', s.frz = .dat d' ∧ J (i + 1) m (acc ++ [d'])) ∧ (b = false → J (i + 1) m acc))
    (jd : ∀ m acc, J ds.length m acc → Φ m (.own (.lst acc))) (Dd : Addr) (hD : H1 Dd = none) :
    ∃ W : Nat → Nat → Hp → Prop, (∃ m, W 0 m (upd H1 Dd (.lst []))) ∧ ∀ i m H, W i m H →
      (I.stop i H ∧ Q (.ref Dd) H) ∨ (I.go i H ∧ ∃ Nx : Hp → Prop, (∀ H', Nx H' → ∃ m', m' < m ∧ W (i + 1) m' H') ∧ ∀ x H', I.yld i H x H' → g x (wipe σ vs) H' fun σ2 H2 => wipe σ2 vs = wipe σ vs ∧ tt σ2 H2 fun b H3 =>
        if b = true then te σ2 H3 fun y H4 => ∃ acc, H4 Dd = some (.lst acc) ∧ acc.length < sizeLine ∧ Nx (upd H4 Dd (.lst (acc ++ [y]))) else Nx H3) := by
  let W : Nat → Nat → Hp → Prop := fun i m H2 => m = ds.length - i ∧ i ≤ ds.length ∧ ∃ m2 G2 xs acc, Grow c.W G1 H1 m2 G2 H2 ∧ H2 Dd = some (.lst xs) ∧ G2 Dd = none ∧ RpL c.K G2 xs acc ∧ acc.length ≤ i ∧ J i m2 acc
  have mD : ¬ c.W.M Dd := fun m => c.W.ne e1.ok.inv m hD
  have up : ∀ {m2 : ι} {G2 H2 : Hp} {ys : List V}, Grow c.W G1 H1 m2 G2 H2 → G2 Dd = none → Grow c.W G1 H1 m2 G2 (upd H2 Dd (.lst ys)) := fun {m2 G2 H2 ys} g2 n =>
    ⟨g2.ex, g2.sub.mut n, g2.fresh, fun a o m q => by rw [upd_ne (ne_of_none q hD)]; exact g2.keep a o m q, c.W.dep _ _ _ _ _ (Ex.refl _) (fun a m => upd_ne fun z => mD (by rw [← z]; exact m)) g2.inv, g2.lk⟩
  refine ⟨W, ⟨ds.length, by simp, Nat.zero_le _, m1, G1, [], [], up e1.refl (fresh_back e1.ok.ex hD), upd_same, fresh_back e1.ok.ex hD, .nil, Nat.le_refl _, j0⟩, ?_⟩
  rintro i m H2 ⟨em, hi, m2, G2, xs, acc, g2, hx, hn, rx, ha, j⟩
  have e2 := e1.grow g2
  obtain ⟨ih1, ih2⟩ := it m2 G2 H2 g2.ex e2.ok i
  by_cases hlt : i < ds.length
  · right
    have hd : ds[i]? = some ds[i] := by simp [hlt]
    obtain ⟨go, yl⟩ := ih1 _ hd
    refine ⟨go, W (i + 1) (m - 1), fun H' w => ⟨m - 1, by omega, w⟩, fun x H' y => ?_⟩
    obtain ⟨G3, g3, r3⟩ := yl x H' y
    obtain ⟨ρ', dg, ht⟩ := jt i _ m2 acc hd j
    have e3 := (e2.grow g3).wipe vs hw
    have keepD : ∀ {m4 : ι} {G4 H4 : Hp}, Grow c.W G2 H2 m4 G4 H4 → H4 Dd = some (.lst xs) ∧ G4 Dd = none := fun g4 => ⟨g4.keep _ _ mD hx, g4.fresh _ _ hx rfl hn⟩
    refine dg x _ G3 H' e3 r3 _ fun σ' f4 hw => ⟨hw.trans (wipe_wipe σ vs), ?_⟩
    have e4 := f4 _ _ _ (Ex.refl _) e3
    refine ht σ' G3 H' e4 _ fun b m4 G4 H4 g4 ⟨hb1, hb2⟩ => ?_
    cases b with
    | true =>
      rw [if_pos rfl]
      refine hb1 rfl σ' G4 H4 (e4.grow g4) _ fun v s m5 G5 H5 g5 r5 ⟨d', es, j'⟩ => ?_
      obtain ⟨G6, g6, r6⟩ := r5.freeze g5
      rw [es] at r6
      obtain ⟨k1, k2⟩ := keepD ((g3.trans g4).trans g6)
      refine ⟨xs, k1, szl (by rw [rx.length]; omega), by omega, hlt, m5, G6, xs ++ [v], acc ++ [d'], up (((g2.trans g3).trans g4).trans g6) k2, upd_same, k2, (rx.mono ((g3.trans g4).trans g6).ex).append (.one r6), by rw [List.length_append]; show acc.length + 1 ≤ i + 1; omega, j'⟩
    | false =>
      rw [if_neg Bool.false_ne_true]
      obtain ⟨k1, k2⟩ := keepD (g3.trans g4)
      exact ⟨by omega, hlt, m4, G4, xs, acc, (g2.trans g3).trans g4, k1, k2, rx.mono (g3.trans g4).ex, by omega, hb2 rfl⟩
  · left
    have hl2 : i = ds.length := by omega
    refine ⟨ih2 hl2, ?_⟩
    subst hl2
    exact q (.ref Dd) (.own (.lst acc)) m2 G2 H2 (g1.trans g2) ⟨Dd, rfl, ⟨g1.back hD, hn, mD⟩, xs, hx, rx⟩ (jd m2 acc j)
theorem de_lc (hw : noEls vs ρ = true) (h : DI c m wi ρ fun m ds => ds.length < 1000000 ∧ ∃ J : Nat → ι → List D → Prop, J 0 m [] ∧
    (∀ i d m acc, ds[i]? = some d → J i m acc → ∃ ρ', DG c m g vs d (wipeS ρ vs) ρ' ∧ DT c m tt ρ' fun m b => (b = true → De c m te ρ' fun m s => ∃ d', s.frz = .dat d' ∧ J (i + 1) m (acc ++ [d'])) ∧ (b = false → J (i + 1) m acc)) ∧
    ∀ m acc, J ds.length m acc → Φ m (.own (.lst acc))) : De c m (tLc wi g tt te vs) ρ Φ := fun σ G H e Q q => h σ G H e _ fun I ds m1 G1 H1 g1 it ⟨hl, J, j0, jt, jd⟩ => fun Dd hD => lc_run (e.grow g1) g1 it q hw hl J j0 jt jd Dd hD
/-- [f x for x in ..] -/
theorem de_lcMap {f : D → D} (h : DI c m wi ρ fun m ds => ds.length < 1000000 ∧ (∀ d ∈ ds, ∃ ρ', DG c m g vs d (wipeS ρ vs) ρ' ∧ De c m te ρ' fun m' s => m' = m ∧ s.frz = .dat (f d)) ∧ Φ m (.own (.lst (ds.map f)))) (hw : noEls vs ρ = true := by with_unfolding_all rfl) : De c m (tLc wi g tYes te vs) ρ Φ :=
  de_lc hw fun σ G H e R q => h σ G H e R fun J ds m' G' H' gg it ⟨hl, h1, h2⟩ => q J ds m' G' H' gg it ⟨hl, fun i m2 acc => m2 = m' ∧ acc = (ds.take i).map f, by simp, fun i d m2 acc hd ⟨em, ha⟩ => by
    subst em
    obtain ⟨ρ', h3, h4⟩ := h1 d (List.mem_of_getElem? hd)
    refine ⟨ρ', h3, dt_yes ⟨fun _ => h4.imp fun m3 s ⟨em, hs⟩ => ⟨f d, hs, em, ?_⟩, fun z => by cases z⟩⟩
    show acc ++ [f d] = (ds.take (i + 1)).map f
    rw [ha, List.take_add_one, hd]
    simp, fun m2 acc ⟨em, ha⟩ => by rw [em, ha, List.take_length]; exact h2⟩
/-- [f x for x in .. if t x] -/
theorem de_lcIf {f : D → D} {t : D → Bool} (h : DI c m wi ρ fun m ds => ds.length < 1000000 ∧ (∀ d ∈ ds, ∃ ρ', DG c m g vs d (wipeS ρ vs) ρ' ∧ DT c m tt ρ' fun m' b => m' = m ∧ b = t d ∧ (t d = true → De c m te ρ' fun m' s => m' = m ∧ s.frz = .dat (f d))) ∧ Φ m (.own (.lst ((ds.filter t).map f)))) (hw : noEls vs ρ = true := by with_unfolding_all rfl) : De c m (tLc wi g tt te vs) ρ Φ :=
  de_lc hw fun σ G H e R q => h σ G H e R fun J ds m' G' H' gg it ⟨hl, h1, h2⟩ => q J ds m' G' H' gg it ⟨hl, fun i m2 acc => m2 = m' ∧ acc = ((ds.take i).filter t).map f, by simp, fun i d m2 acc hd ⟨em, ha⟩ => by
    subst em
    obtain ⟨ρ', h3, h4⟩ := h1 d (List.mem_of_getElem? hd)
    refine ⟨ρ', h3, h4.imp fun m3 b ⟨em3, eb, h5⟩ => ?_⟩
    subst em3
    refine ⟨fun ht => (h5 (by rw [← eb]; exact ht)).imp fun m4 s ⟨em, hs⟩ => ⟨f d, hs, em, ?_⟩, fun hf => ⟨rfl, ?_⟩⟩
    · show acc ++ [f d] = ((ds.take (i + 1)).filter t).map f
      rw [ha, List.take_add_one, hd]
      have : t d = true := by rw [← eb]; exact ht
      simp [List.filter_append, this]
    · show acc = ((ds.take (i + 1)).filter t).map f
      rw [ha, List.take_add_one, hd]
      have : t d = false := by rw [← eb]; exact hf
      simp [List.filter_append, this], fun m2 acc ⟨em, ha⟩ => by rw [em, ha, List.take_length]; exact h2⟩
end
end DL
set_option Elab.async false
set_option linter.all false
set_option maxRecDepth 100000
set_option maxHeartbeats 1000000
namespace DL
open PySem L2 Evl
variable {ι : Type} {m m' m1 m2 : ι}
/-! ### statements -/
def S.ok : S → Bool
  | .vw _ => false
  | .no => false
  | .el _ _ => false
  | .lk _ => false
  | _ => true
section
variable {c : Cc ι} {ρ : List S} {te ta tb : TE} {t u : TS} {tt : TT} {N B C : ι → List S → Prop} {R : ι → S → Prop} {wi : TI} {g : TG}
theorem Ds.imp {N' : ι → List S → Prop} {R' : ι → S → Prop} {B' C' : ι → List S → Prop} (h : Ds c m t ρ N R B C) (hn : ∀ m ρ, N m ρ → N' m ρ) (hr : ∀ m s, R m s → R' m s) (hb : ∀ m ρ, B m ρ → B' m ρ) (hc : ∀ m ρ, C m ρ → C' m ρ) : Ds c m t ρ N' R' B' C' := fun D σ G H e k1 k2 k3 k4 =>
  h D σ G H e (fun ρ' σ' m' G' H' n => k1 ρ' σ' m' G' H' (hn _ _ n)) (fun s v m' G' H' r => k2 s v m' G' H' (hr _ _ r)) (fun ρ' σ' m' G' H' n => k3 ρ' σ' m' G' H' (hb _ _ n)) (fun ρ' σ' m' G' H' n => k4 ρ' σ' m' G' H' (hc _ _ n))
theorem ds_seq (h : Ds c m t ρ (fun m ρ' => Ds c m u ρ' N R B C) R B C) : Ds c m (tSeq t u) ρ N R B C := fun D σ G H e k1 k2 k3 k4 =>
  h { D with nx := u D } σ G H e (fun ρ' σ' m' G' H' n x e' => n D σ' G' H' e' (fun a b m c' d n y z => k1 a b m c' d n (x.trans y) z) (fun s v m' G' H' r y gg rr => k2 s v m' G' H' r (x.trans y) gg rr) (fun a b m c' d n y z => k3 a b m c' d n (x.trans y) z) (fun a b m c' d n y z => k4 a b m c' d n (x.trans y) z)) k2 k3 k4
theorem ds_next (h : N m ρ) : Ds c m tNext ρ N R B C := fun D σ G H e k1 _ _ _ => k1 ρ σ m G H h (Ex.refl G) e
theorem ds_ret (h : De c m te ρ fun m s => s.ok = true ∧ R m s) : Ds c m (tRet te) ρ N R B C := fun D σ G H e _ k2 _ _ => h σ G H e _ fun v s m' G' H' g r ⟨_, p⟩ => k2 s v m' G' H' p g.ex (e.gr.trans g) (r.back e.gr)
theorem ds_retN (h : R m (.dat .non)) : Ds c m tRetN ρ N R B C := fun D σ G H e _ k2 _ _ => k2 (.dat .non) .non m G H h (Ex.refl G) e.gr Rp.non
theorem ds_retVar {i : Nat} {o : O} (hi : ρ[i]? = some (.own o)) (h : R m (.own o)) : Ds c m (tRet (tVar i)) ρ N R B C := fun D σ G H e _ k2 _ _ => by
  rcases e.at_ i _ hi with z | ⟨v, a, r⟩
  · cases z
  · exact ⟨v, a, k2 _ v m G H h (Ex.refl G) e.gr r⟩
theorem ds_asg {i : Nat} (h : De c m te ρ fun m s => s.ok = true ∧ N m (ρ.set i s)) (hn : noEl i ρ = true := by with_unfolding_all rfl) : Ds c m (tAsg te (gName i)) ρ N R B C := fun D σ G H e k1 _ _ _ => h σ G H e _ fun v s m' G' H' g r ⟨hs, p⟩ =>
  k1 _ _ m' G' H' p g.ex (e.setF g r hn (fun a j z => by rw [z] at hs; cases hs) (fun o z => by rw [z] at hs; cases hs))
theorem ds_drop (h : De c m te ρ fun m _ => N m ρ) : Ds c m (tDrop te) ρ N R B C := fun D σ G H e k1 _ _ _ => h σ G H e _ fun v s m' G' H' g r p => k1 ρ σ m' G' H' p g.ex (e.grow g)
theorem ds_if (h : DT c m tt ρ fun m b => (b = true → Ds c m t ρ N R B C) ∧ (b = false → Ds c m u ρ N R B C)) : Ds c m (tIfS tt t u) ρ N R B C := fun D σ G H e k1 k2 k3 k4 => h σ G H e _ fun b m' G' H' g ⟨h1, h2⟩ => by
  cases b with
  | true => rw [if_pos rfl]; exact h1 rfl D σ G' H' (e.grow g) (fun a b m c' d n y z => k1 a b m c' d n (g.ex.trans y) z) (fun s v m' G' H' r y gg rr => k2 s v m' G' H' r (g.ex.trans y) gg rr) (fun a b m c' d n y z => k3 a b m c' d n (g.ex.trans y) z) (fun a b m c' d n y z => k4 a b m c' d n (g.ex.trans y) z)
  | false => rw [if_neg Bool.false_ne_true]; exact h2 rfl D σ G' H' (e.grow g) (fun a b m c' d n y z => k1 a b m c' d n (g.ex.trans y) z) (fun s v m' G' H' r y gg rr => k2 s v m' G' H' r (g.ex.trans y) gg rr) (fun a b m c' d n y z => k3 a b m c' d n (g.ex.trans y) z) (fun a b m c' d n y z => k4 a b m c' d n (g.ex.trans y) z)
/-- an own thing is from here on data -/
theorem ds_frz {i : Nat} {o : O} (hi : ρ[i]? = some (.own o)) (h : Ds c m t (ρ.set i (.dat o.frz)) N R B C) (hn : noEl i ρ = true := by with_unfolding_all rfl) : Ds c m t ρ N R B C := fun D σ G H e k1 k2 k3 k4 => by
  obtain ⟨p, hp, ob⟩ := e.own hi
  have ob0 : OwnAt c.K (Fr c.W c.H0 G) G H p o := ob
  obtain ⟨G2, g2, r2, x, nq⟩ := frz_own e.gr ob
  have hl : i < ρ.length := (List.getElem?_eq_some_iff.mp hi).1
  have e2 : EnvOk c m G2 H σ (ρ.set i (.dat o.frz)) := by
    refine ⟨e.ok0, g2, e.exc, by rw [List.length_set]; exact e.len, fun j s hs => ?_, fun j k o1 o2 p1 p2 hjk hj hk pj pk => ?_, fun k a j hk => ?_, fun k o1 p1 hk hp1 => ?_⟩
    · rcases set_get hs with ⟨rfl, rfl, _⟩ | ⟨hj, hs⟩
      · exact .inr ⟨_, hp, r2⟩
      · rcases e.at_ j s hs with z | ⟨w, aw, rw'⟩
        · exact .inl z
        · refine .inr ⟨w, aw, ?_⟩
          cases s with
          | no => trivial
          | el a b => trivial
          | dat d => exact Rp.mono x rw'
          | at_ q => exact rw'
          | own o' =>
            obtain ⟨q, rfl, zo⟩ := rw'
            refine ⟨q, rfl, zo.monoA x fun a ha => ⟨rfl, ?_⟩⟩
            have na : ¬ Ads H p o a := fun z => e.sep i j o o' p q hj hi hs hp aw a z ha
            obtain ⟨f, _⟩ := zo.ads ha
            exact ⟨f.1, by rw [nq a na]; exact f.2.1, f.2.2⟩
          | vw o' =>
            obtain ⟨q, rfl, zo⟩ := rw'
            refine ⟨q, rfl, zo.monoA x fun a ha => ⟨rfl, ?_⟩⟩
            have na : ¬ Ads H p o a := fun z => e.vws j o' q hs aw a ha (ob0.ads z).1.1
            obtain ⟨f, _⟩ := zo.ads ha
            exact ⟨by rw [nq a na]; exact f.1, f.2⟩
          | lk o' => obtain ⟨q, xq, uq, e1, e2, zo⟩ := rw'; exact ⟨q, xq, uq, e1, e2, zo.up (Up.ex x)⟩
          | xc C a d fs =>
            obtain ⟨e1, e2, e3, fv, e4, e5, e6⟩ := rw'
            have na : ¬ Ads H p o d := fun z => by obtain ⟨_, u, hu, hk⟩ := ob0.ads z; rw [e4] at hu; cases hu; cases hk
            exact ⟨e1, by rw [nq d na]; exact e2, e3, fv, e4, e5, e6.mono x⟩
    · rcases set_get hj with ⟨_, z, _⟩ | ⟨h1, hj⟩
      · cases z
      · rcases set_get hk with ⟨_, z, _⟩ | ⟨h2, hk⟩
        · cases z
        · exact e.sep j k o1 o2 p1 p2 hjk hj hk pj pk
    · rcases set_get hk with ⟨_, z, _⟩ | ⟨h1, hk⟩
      · cases z
      · obtain ⟨its, p', vs, q, o', e1, e2⟩ := e.els k a j hk
        exact ⟨its, p', vs, q, o', by rw [List.getElem?_set_ne (Ne.symm (noEl_ok hn hk))]; exact e1, e2⟩
    · rcases set_get hk with ⟨_, z, _⟩ | ⟨h1, hk⟩
      · cases z
      · exact e.vws k o1 p1 hk hp1
  exact h D σ G2 H e2 (fun a b m c' d n y z => k1 a b m c' d n (x.trans y) z) (fun s v m' G' H' r y gg rr => k2 s v m' G' H' r (x.trans y) gg rr) (fun a b m c' d n y z => k3 a b m c' d n (x.trans y) z) (fun a b m c' d n y z => k4 a b m c' d n (x.trans y) z)
/-! ### loops -/
theorem for_run {vs : List Nat} {m1 : ι} {σ : L2.St} {G1 H1 : Hp} {I : L2.It} {ds : List D} {D0 : Ends} (e1 : EnvOk c m1 G1 H1 σ ρ) (it : ItD c.K c.W G1 I ds) (J : Nat → ι → List S → Prop) (j0 : J 0 m1 ρ)
    (jt : ∀ i d m ρ', ds[i]? = some d → J i m ρ' → ∃ ρ2, DG c m g vs d ρ' ρ2 ∧ Ds c m t ρ2 (J (i + 1)) R N (J (i + 1))) (jd : ∀ m ρ', J ds.length m ρ' → N m ρ')
    (k1 : ∀ ρ' σ' m' G' H', N m' ρ' → Ex G1 G' → EnvOk c m' G' H' σ' ρ' → D0.nx σ' H') (k2 : ∀ s v m' G' H', R m' s → Ex G1 G' → Grow c.W c.G0 c.H0 m' G' H' → RelS c.K c.W c.H0 G' H' v s → D0.rt v H') :
    ∃ W : Nat → Nat → L2.St → Hp → Prop, (∃ m, W 0 m σ H1) ∧ ∀ i m σ H, W i m σ H → (I.stop i H ∧ D0.nx σ H) ∨ (I.go i H ∧ ∃ N : L2.St → Hp → Prop, (∀ σ' H', N σ' H' → ∃ m', m' < m ∧ W (i + 1) m' σ' H') ∧ ∀ x H', I.yld i H x H' → g x σ H' fun σ2 H2 => t { D0 with nx := N, ct := N, bk := D0.nx } σ2 H2) := by
  refine ⟨fun i m σ2 H2 => m = ds.length - i ∧ i ≤ ds.length ∧ ∃ m2 ρ2 G2, Ex G1 G2 ∧ EnvOk c m2 G2 H2 σ2 ρ2 ∧ J i m2 ρ2, ⟨ds.length, by simp, Nat.zero_le _, m1, ρ, G1, Ex.refl _, e1, j0⟩, ?_⟩
  rintro i m σ2 H2 ⟨em, hi, m2, ρ2, G2, x2, e2, j⟩
  obtain ⟨ih1, ih2⟩ := it m2 G2 H2 x2 e2.ok i
  by_cases hlt : i < ds.length
  · right
    have hd : ds[i]? = some ds[i] := by simp [hlt]
    obtain ⟨go, yl⟩ := ih1 _ hd
    refine ⟨go, fun σ' H' => ∃ m3 ρ3 G3, Ex G1 G3 ∧ EnvOk c m3 G3 H' σ' ρ3 ∧ J (i + 1) m3 ρ3, fun σ' H' ⟨m3, ρ3, G3, x3, e3, j3⟩ => ⟨m - 1, by omega, by omega, hlt, m3, ρ3, G3, x3, e3, j3⟩, fun v H' y => ?_⟩
    obtain ⟨G3, g3, r3⟩ := yl v H' y
    obtain ⟨ρ3, dg, hb⟩ := jt i _ m2 ρ2 hd j
    refine dg v σ2 G3 H' (e2.grow g3) r3 _ fun σ' f4 _ => ?_
    have e4 := f4 _ _ _ (Ex.refl _) (e2.grow g3)
    exact hb _ σ' G3 H' e4 (fun ρ' σ'' m' G' H'' n y z => ⟨_, ρ', G', (x2.trans g3.ex).trans y, z, n⟩) (fun s v m' G' H' r y gg rr => k2 s v m' G' H' r ((x2.trans g3.ex).trans y) gg rr) (fun ρ' σ'' m' G' H'' n y z => k1 ρ' σ'' m' G' H'' n ((x2.trans g3.ex).trans y) z) (fun ρ' σ'' m' G' H'' n y z => ⟨_, ρ', G', (x2.trans g3.ex).trans y, z, n⟩)
  · left
    have hl2 : i = ds.length := by omega
    subst hl2
    exact ⟨ih2 rfl, k1 ρ2 σ2 m2 G2 H2 (jd m2 ρ2 j) x2 e2⟩
theorem ds_for {vs : List Nat} (h : DI c m wi ρ fun m ds => ∃ J : Nat → ι → List S → Prop, J 0 m ρ ∧ (∀ i d m ρ', ds[i]? = some d → J i m ρ' → ∃ ρ2, DG c m g vs d ρ' ρ2 ∧ Ds c m t ρ2 (J (i + 1)) R N (J (i + 1))) ∧ ∀ m ρ', J ds.length m ρ' → N m ρ') : Ds c m (tFor wi g t) ρ N R B C := fun D σ G H e k1 k2 k3 k4 =>
  h σ G H e _ fun I ds m1 G1 H1 g1 it ⟨J, j0, jt, jd⟩ => for_run (e.grow g1) it J j0 jt jd (fun ρ' σ' m' G' H' n x z => k1 ρ' σ' m' G' H' n (g1.ex.trans x) z) (fun s v m' G' H' r y gg rr => k2 s v m' G' H' r (g1.ex.trans y) gg rr)
/-- a, b = e -/
theorem ds_asgU {vs : List Nat} (h : De c m te ρ fun m s => ∃ d ρ', s.frz = .dat d ∧ DG c m g vs d ρ ρ' ∧ N m ρ') : Ds c m (tAsg te g) ρ N R B C := fun D σ G H e k1 _ _ _ => h σ G H e _ fun v s m' G' H' gg r ⟨d, ρ', es, dg, p⟩ => by
  obtain ⟨G2, g2, r2⟩ := r.freeze gg
  rw [es] at r2
  exact dg v σ G2 H' (e.grow g2) r2 _ fun σ' f' _ => k1 ρ' σ' _ G2 H' p g2.ex (f' _ _ _ (Ex.refl _) (e.grow g2))
/-! ### an own thing changes -/
theorem EnvOk.mut {G H : Hp} {σ : L2.St} {i : Nat} {o o' : O} {p a0 : Addr} {u : HO} (e : EnvOk c m G H σ ρ) (hi : ρ[i]? = some (.own o)) (hp : σ[i]? = some (some (.ref p))) (ha : Ads H p o a0) (hu : OwnAt c.K (Fr c.W c.H0 G) G (upd H a0 u) p o')
    (hA : ∀ a, Ads (upd H a0 u) p o' a → Ads H p o a) (hel : ∀ (its : List It) (vs : List V), o = .nest its → H p = some (.lst vs) → ∃ (its' : List It) (vs' : List V), o' = .nest its' ∧ upd H a0 u p = some (.lst vs') ∧ ∀ (j : Nat) (q : Addr) (o1 : O1), vs[j]? = some (V.ref q) → its[j]? = some (It.o o1) → vs'[j]? = some (V.ref q) ∧ ∃ o2, its'[j]? = some (It.o o2)) : EnvOk c m G (upd H a0 u) σ (ρ.set i (.own o')) := by
  obtain ⟨p', hp', ob⟩ := e.own hi
  rw [hp] at hp'
  cases hp'
  obtain ⟨f0, u0, hu0, hk0⟩ := ob.ads ha
  have hl : i < ρ.length := (List.getElem?_eq_some_iff.mp hi).1
  have ne : ∀ {j : Nat} {o2 : O} {q : Addr}, i ≠ j → ρ[j]? = some (.own o2) → σ[j]? = some (some (.ref q)) → ∀ a, Ads H q o2 a → a ≠ a0 := fun hij hj hq a h z => by
    rw [z] at h
    exact e.sep i _ o _ p _ hij hi hj hp hq a0 ha h
  refine ⟨e.ok0, e.gr.mut f0.1 f0.2.1 f0.2.2, e.exc, by rw [List.length_set]; exact e.len, fun j s hs => ?_, fun j k o1 o2 p1 p2 hjk hj hk pj pk a h1 h2 => ?_, fun k a j hk => ?_, fun k o1 p1 hk hp1 a ha1 => ?_⟩
  · rcases set_get hs with ⟨rfl, rfl, _⟩ | ⟨hj, hs⟩
    · exact .inr ⟨_, hp, p, rfl, hu⟩
    · rcases e.at_ j s hs with z | ⟨w, aw, rw'⟩
      · exact .inl z
      · refine .inr ⟨w, aw, ?_⟩
        cases s with
        | no => trivial
        | el a b => trivial
        | dat d => exact rw'
        | at_ q => exact rw'
        | own o2 =>
          obtain ⟨q, rfl, zo⟩ := rw'
          exact ⟨q, rfl, zo.monoA (Ex.refl G) fun a h => ⟨upd_ne (ne hj hs aw a h), (zo.ads h).1⟩⟩
        | vw o2 =>
          obtain ⟨q, rfl, zo⟩ := rw'
          exact ⟨q, rfl, zo.monoA (Ex.refl G) fun a h => ⟨upd_ne (fun z => e.vws j o2 q hs aw a h (by rw [z]; exact f0.1)), (zo.ads h).1⟩⟩
        | lk o2 => exact rw'
        | xc C a d fs =>
          obtain ⟨e1, e2, e3, fv, e4, e5, e6⟩ := rw'
          exact ⟨e1, e2, e3, fv, (upd_ne (fun z => by rw [z, hu0] at e4; cases e4; cases hk0)).trans e4, e5, e6⟩
  · have back : ∀ {j : Nat} {o1 : O} {p1 : Addr}, i ≠ j → ρ[j]? = some (.own o1) → σ[j]? = some (some (.ref p1)) → Ads (upd H a0 u) p1 o1 a → Ads H p1 o1 a := fun hij hj pj h => h.eq (upd_ne (ne hij hj pj _ (Ads.root _)))
    rcases set_get hj with ⟨rfl, z, _⟩ | ⟨n1, hj⟩
    · cases z
      rw [hp] at pj
      cases pj
      rcases set_get hk with ⟨rfl, _⟩ | ⟨n2, hk⟩
      · exact hjk rfl
      · exact e.sep i k o o2 p p2 hjk hi hk hp pk a (hA a h1) (back n2 hk pk h2)
    · rcases set_get hk with ⟨rfl, z, _⟩ | ⟨n2, hk⟩
      · cases z
        rw [hp] at pk
        cases pk
        exact e.sep j i o1 o p1 p hjk hj hi pj hp a (back n1 hj pj h1) (hA a h2)
      · exact e.sep j k o1 o2 p1 p2 hjk hj hk pj pk a (back n1 hj pj h1) (back n2 hk pk h2)
  · rcases set_get hk with ⟨_, z, _⟩ | ⟨n1, hk⟩
    · cases z
    · obtain ⟨its, p1, vs, q, o1, e1, e2, e3, e4, e5, e6⟩ := e.els k a j hk
      by_cases hai : i = a
      · subst hai
        rw [hi] at e1
        cases e1
        rw [hp] at e2
        cases e2
        obtain ⟨its', vs', rfl, h4, h5⟩ := hel its vs rfl e3
        obtain ⟨h6, o2, h7⟩ := h5 j q o1 e4 e5
        exact ⟨its', p, vs', q, o2, by rw [List.getElem?_set]; simp only [if_true]; rw [if_pos hl], hp, h4, h6, h7, e6⟩
      · exact ⟨its, p1, vs, q, o1, by rw [List.getElem?_set_ne hai]; exact e1, e2, (upd_ne (ne hai e1 e2 p1 (Ads.root _))).trans e3, e4, e5, e6⟩
  · rcases set_get hk with ⟨_, z, _⟩ | ⟨n1, hk⟩
    · cases z
    · have np : p1 ≠ a0 := fun z => e.vws k o1 p1 hk hp1 p1 (Ads.root _) (by rw [z]; exact f0.1)
      exact e.vws k o1 p1 hk hp1 a (ha1.eq (upd_ne np))
/-- a plain own thing changes -/
theorem EnvOk.mut1 {G H : Hp} {σ : L2.St} {i : Nat} {o o' : O1} {p : Addr} {u : HO} (e : EnvOk c m G H σ ρ) (hi : ρ[i]? = some (.own (.one o))) (hp : σ[i]? = some (some (.ref p))) (hu : Ob1 c.K G (upd H p u) p o') : EnvOk c m G (upd H p u) σ (ρ.set i (.own (.one o'))) := by
  obtain ⟨p', hp', ob⟩ := e.own hi
  rw [hp] at hp'
  cases hp'
  exact e.mut hi hp rfl ⟨ob.root.1, hu⟩ (fun a h => h) (fun its vs z => by cases z)
/-- kids as a place -/
theorem kid_at {K : PySem.W.Frag} {F : Addr → Prop} {G H : Hp} : ∀ {vs : List V} {is : List It}, RIts K F G H vs is → ∀ {j : Nat} {q : Addr} {o : O1}, vs[j]? = some (.ref q) → is[j]? = some (.o o) → q ∈ kids vs is
  | _, _, .nil, j, q, o, h, _ => by simp at h
  | _, _, .cons (i := i) r rs, 0, q, o, h, h2 => by simp at h h2; subst h h2; rw [kids_o]; simp
  | v :: vs, i :: is, .cons r rs, j + 1, q, o, h, h2 => by
    have ih := kid_at rs (j := j) (q := q) (o := o) (by simpa using h) (by simpa using h2)
    cases i with
    | d d => rw [kids_d]; exact ih
    | o o1 => obtain ⟨q1, rfl, _⟩ := r; rw [kids_o]; simp [ih]
/-- xs.append(e) -/
theorem ds_app {i : Nat} {ds : List D} (hi : ρ[i]? = some (.own (.lst ds))) (hl : ds.length < 1000000) (h : De c m te ρ fun m s => ∃ d, s.frz = .dat d ∧ N m (ρ.set i (.own (.lst (ds ++ [d]))))) : Ds c m (tDrop (tBM c.K "list" rAppend (tVar i) (tCons te tNil))) ρ N R B C := fun D σ G H e k1 _ _ _ => by
  obtain ⟨p, a, f, xs, hx, rx⟩ := e.own hi
  refine ⟨_, a, .inl ⟨rfl, xs, SqL.of hx⟩, h σ G H e _ fun v s m' G' H' g r ⟨d, es, hn⟩ => ?_⟩
  obtain ⟨G2, g2, r2⟩ := r.freeze g
  rw [es] at r2
  have e2 := e.grow g2
  have hx2 := g2.keep _ _ f.2.2 hx
  exact ⟨p, xs, v, rfl, rfl, hx2, szl (by rw [rx.length]; exact hl), k1 _ σ _ G2 _ hn g2.ex (e2.mut1 hi a ⟨_, upd_same, (rx.mono g2.ex).append (.one r2)⟩)⟩
/-! ### a def's body -/
theorem relss_get {K : PySem.W.Frag} {W : Wd ι} {H0 G H : Hp} : ∀ {vs : List V} {ss : List S}, RelSs K W H0 G H vs ss → ∀ {i : Nat} {s : S}, ss[i]? = some s → ∃ v, vs[i]? = some v ∧ RelS K W H0 G H v s
  | _, _, .nil, i, s, h => by simp at h
  | _, _, .cons h r, 0, s, e => by simp at e; subst e; exact ⟨_, rfl, h⟩
  | _, _, .cons h r, i + 1, s, e => by
    obtain ⟨v, h1, h2⟩ := relss_get r (i := i) (s := s) (by simpa using e)
    exact ⟨v, by simpa using h1, h2⟩
theorem run_fn {K : PySem.W.Frag} {F : Fc} {Nm : List Str} {t : TS} {vs : List V} {H : Hp} {Q : VK} {E : XK} (hl : vs.length ≤ Nm.length) (h : spF K F vs H Q E)
    (body : ∀ κ W m ss Φ Ξ G, F κ W m ss Φ Ξ → Ds ⟨K, W, E, Ξ, m, G, H⟩ m t (ss ++ List.replicate (Nm.length - ss.length) .no) (fun m _ => Φ m (.dat .non)) Φ (fun _ _ => False) (fun _ _ => False)) :
    t { nx := fun _ H' => Q .non H', rt := Q } (L2.start Nm vs) H := by
  obtain ⟨κ, W, m, G, ss, Φ, Ξ, ok, rs, ha, hf, hq, he⟩ := h
  have hlen := rs.length
  refine body κ W m ss Φ Ξ G hf _ (L2.start Nm vs) G H ?_ (fun ρ' σ' m' G' H' n x e' => hq .non (.dat .non) m' G' H' e'.gr Rp.non n) (fun s v m' G' H' r _ g rr => hq v s m' G' H' g rr r) (fun _ _ _ _ _ z => z.elim) (fun _ _ _ _ _ z => z.elim)
  have arg : ∀ {i : Nat} {s : S}, (ss ++ List.replicate (Nm.length - ss.length) S.no)[i]? = some s → (argS s = true ∧ ss[i]? = some s) ∨ s = .no := fun {i s} z => by
    by_cases hi : i < ss.length
    · rw [List.getElem?_append_left hi] at z
      exact .inl ⟨List.all_eq_true.mp ha _ (List.mem_of_getElem? z), z⟩
    · rw [List.getElem?_append_right (by omega), List.getElem?_replicate] at z
      split at z <;> first | (cases z; exact .inr rfl) | cases z
  have sig : ∀ {i : Nat} {v : V}, vs[i]? = some v → (L2.start Nm vs)[i]? = some (some v) := fun {i v} hv => by
    unfold L2.start
    rw [List.getElem?_append_left (by rw [List.length_map]; exact (List.getElem?_eq_some_iff.mp hv).1), List.getElem?_map, hv]
    rfl
  refine ⟨ok, ok.refl, he, ?_, fun i s hs => ?_, fun i j o o' p q _ hi => ?_, fun k i j hk => ?_, fun k o p hk hp a ha2 => ?_⟩
  · unfold L2.start
    rw [List.length_append, List.length_append, List.length_map, List.length_replicate, List.length_replicate, hlen]
  · rcases arg hs with ⟨_, h1⟩ | rfl
    · obtain ⟨v, hv, r⟩ := relss_get rs h1
      exact .inr ⟨v, sig hv, r⟩
    · exact .inl rfl
  · rcases arg hi with ⟨z, _⟩ | z <;> cases z
  · rcases arg hk with ⟨z, _⟩ | z <;> cases z
  · rcases arg hk with ⟨_, h1⟩ | z
    · obtain ⟨v, hv, p', rfl, ob⟩ := relss_get rs h1
      have e := sig hv
      rw [hp] at e
      cases e
      obtain ⟨_, u, hu, _⟩ := ob.ads ha2
      rw [show (Cc.H0 _) = H from rfl, hu]
      exact fun z => by cases z
    · cases z
end
end DL
set_option Elab.async false
set_option linter.all false
set_option maxRecDepth 100000
set_option maxHeartbeats 1000000
namespace DL
open PySem L2 Evl
/-! ### a dict is locked while it is walked -/
def lkH (X : Hp) (d : Addr) (o : HO) : Hp := fun b => if b = d ∧ X d ≠ none then some o else X b
section
variable {X : Hp} {d b : Addr} {o : HO}
theorem lkH_ne (h : b ≠ d) : lkH X d o b = X b := if_neg fun z => h z.1
theorem lkH_none (h : X d = none) : lkH X d o = X := by
  funext b
  exact if_neg fun z => z.2 h
theorem lkH_some (h : X d ≠ none) : lkH X d o = upd X d o := by
  funext b
  by_cases e : b = d
  · subst e; rw [upd_same]; exact if_pos ⟨rfl, h⟩
  · rw [upd_ne e]; exact lkH_ne e
end
def lockW {ι : Type} (W : Wd ι) (d : Addr) : Wd ι := { W with L := fun a => W.L a ∨ a = d }
theorem dct_frz {u : HO} (h : isDct u = true) : (∀ x w, u ≠ .frz x w) ∧ noTup u = true ∧ ∀ xs, u ≠ .lst xs := by
  cases u with
  | dK kvs => exact ⟨(fun _ _ z => by cases z), rfl, (fun _ z => by cases z)⟩
  | dT kvs => exact ⟨(fun _ _ z => by cases z), rfl, (fun _ z => by cases z)⟩
  | _ => cases h
theorem swp_lk {G : Hp} {d : Addr} {u : HO} {od : Obj} (hu : isDct u = true) (h : G d = some u) : Swp G (upd G d (.frz od u)) d u := ⟨hu, fun b hb => upd_ne hb, .inl h, .inr ⟨od, upd_same⟩⟩
theorem swp_un {G : Hp} {d : Addr} {u : HO} {od : Obj} (hu : isDct u = true) (h : G d = some (.frz od u)) : Swp G (upd G d u) d u := ⟨hu, fun b hb => upd_ne hb, .inr ⟨od, h⟩, .inl upd_same⟩
section
variable {ι : Type} {W : Wd ι} {m m0 m' : ι} {A B G H G' H' : Hp} {d : Addr} {u : HO} {od : Obj}
theorem up_lk {K : PySem.W.Frag} (hu : isDct u = true) (h : G d = some u ∨ G d = none) : Up K G (lkH G d (.frz od u)) := by
  rcases h with h | h
  · rw [lkH_some (by rw [h]; exact fun z => by cases z)]; exact Up.sw (swp_lk hu h)
  · rw [lkH_none h]; exact Up.ex (Ex.refl _)
theorem up_un {K : PySem.W.Frag} (hu : isDct u = true) (h : G d = some (.frz od u) ∨ G d = none) : Up K G (lkH G d u) := by
  rcases h with h | h
  · rw [lkH_some (by rw [h]; exact fun z => by cases z)]; exact Up.sw (swp_un hu h)
  · rw [lkH_none h]; exact Up.ex (Ex.refl _)
theorem inv_lk (hu : isDct u = true) (md : ¬ W.M d) (hg : G d = some u ∨ G d = none) (h : W.I m G H) : W.I m (lkH G d (.frz od u)) (lkH H d (.frz od u)) := by
  have h1 : W.I m G (lkH H d (.frz od u)) := W.dep _ _ _ _ _ (Ex.refl _) (fun a ha => lkH_ne fun z => md (by rw [← z]; exact ha)) h
  rcases hg with hg | hg
  · rw [lkH_some (X := G) (by rw [hg]; exact fun z => by cases z)]; exact W.sw _ _ _ _ d u (swp_lk hu hg) h1
  · rw [lkH_none (X := G) hg]; exact h1
theorem inv_un (hu : isDct u = true) (md : ¬ W.M d) (hg : G d = some (.frz od u) ∨ G d = none) (h : W.I m G H) : W.I m (lkH G d u) (upd H d u) := by
  have h1 : W.I m G (upd H d u) := W.dep _ _ _ _ _ (Ex.refl _) (fun a ha => upd_ne fun z => md (by rw [← z]; exact ha)) h
  rcases hg with hg | hg
  · rw [lkH_some (X := G) (by rw [hg]; exact fun z => by cases z)]; exact W.sw _ _ _ _ d u (swp_un hu hg) h1
  · rw [lkH_none (X := G) hg]; exact h1
theorem lock_ok (hu : isDct u = true) (md : ¬ W.M d) (ok : Ok W m A B) (ha : A d = some u ∨ A d = none) (hb : A d = some u → B d ≠ none) : Ok (lockW W d) m (lkH A d (.frz od u)) (lkH B d (.frz od u)) := by
  refine ⟨fun b o h => ?_, inv_lk hu md ha ok.inv, fun a h => ?_, fun a o w h n => ?_⟩
  · by_cases z : b = d
    · subst z
      rcases ha with ha | ha
      · rw [lkH_some (by rw [ha]; exact fun z => by cases z), upd_same] at h
        rw [lkH_some (hb ha), upd_same]; exact h
      · rw [lkH_none ha, ha] at h; cases h
    · rw [lkH_ne z] at h ⊢; exact ok.ex b o h
  · rw [lkH_ne fun z => md (by rw [← z]; exact h)]; exact ok.off a h
  · by_cases z : a = d
    · exact .inr z
    · rw [lkH_ne z] at h; exact .inl (ok.lk a o w h n)
theorem lock_grow (hu : isDct u = true) (md : ¬ W.M d) (g : Grow W A B m G H) (hd : H d = some u) (hg : G d = some u ∨ G d = none) (ok : Ok W m0 A B) : Grow (lockW W d) (lkH A d (.frz od u)) (lkH B d (.frz od u)) m (lkH G d (.frz od u)) (lkH H d (.frz od u)) := by
  have hA : A d = some u ∨ A d = none := by
    cases e : A d with
    | none => exact .inr rfl
    | some o => have := g.sub d o (g.ex d o e); rw [hd] at this; exact .inl (by rw [← Option.some.inj this])
  have hH : H d ≠ none := by rw [hd]; exact fun z => by cases z
  refine ⟨fun b o h => ?_, fun b o h => ?_, fun b o h t n => ?_, fun b o mb h => ?_, inv_lk hu md hg g.inv, fun b o w h n => ?_⟩
  · by_cases z : b = d
    · subst z
      rcases hA with ha | ha
      · rw [lkH_some (by rw [ha]; exact fun z => by cases z), upd_same] at h
        rw [lkH_some (by rw [g.ex _ _ ha]; exact fun z => by cases z), upd_same]; exact h
      · rw [lkH_none ha, ha] at h; cases h
    · rw [lkH_ne z] at h ⊢; exact g.ex b o h
  · by_cases z : b = d
    · subst z
      rcases hg with hg | hg
      · rw [lkH_some (by rw [hg]; exact fun z => by cases z), upd_same] at h
        rw [lkH_some hH, upd_same]; exact h
      · rw [lkH_none hg, hg] at h; cases h
    · rw [lkH_ne z] at h ⊢; exact g.sub b o h
  · by_cases z : b = d
    · subst z
      have na : A b = none := by
        rcases hA with ha | ha
        · rw [lkH_some (by rw [ha]; exact fun z => by cases z), upd_same] at n; cases n
        · exact ha
      have nb : B b = some u := by
        cases e : B b with
        | none => rw [lkH_none e, e] at h; cases h
        | some o2 => have := g.keep b o2 md e; rw [hd] at this; rw [← Option.some.inj this]
      have ng := g.fresh b u nb (dct_frz hu).2.1 na
      rw [lkH_none ng]; exact ng
    · rw [lkH_ne z] at h n ⊢; exact g.fresh b o h t n
  · by_cases z : b = d
    · subst z
      cases e : B b with
      | none => rw [lkH_none e, e] at h; cases h
      | some o2 =>
        rw [lkH_some (by rw [e]; exact fun z => by cases z), upd_same] at h
        rw [lkH_some hH, upd_same]; exact h
    · rw [lkH_ne z] at h ⊢; exact g.keep b o mb h
  · by_cases z : b = d
    · exact .inl (.inr z)
    · rw [lkH_ne z] at h ⊢
      exact (g.lk b o w h n).imp .inl fun q => q
theorem unlock_grow (hu : isDct u = true) (md : ¬ W.M d) (hA : A d = some u ∨ A d = none) (hB : B d = some u ∨ B d = none) (hAB : A d = some u → B d = some u) (g : Grow (lockW W d) (lkH A d (.frz od u)) (lkH B d (.frz od u)) m' G' H') (hH' : H' d = some (.frz od u)) (hG' : G' d = some (.frz od u) ∨ G' d = none) :
    Grow W A B m' (lkH G' d u) (upd H' d u) := by
  have su : ∀ {x : Option HO}, x = some u → x ≠ none := fun h => by rw [h]; exact fun z => by cases z
  refine ⟨fun b o h => ?_, fun b o h => ?_, fun b o h t n => ?_, fun b o mb h => ?_, inv_un hu md hG' g.inv, fun b o w h n => ?_⟩
  · by_cases z : b = d
    · subst z
      rcases hA with ha | ha
      · have e : lkH A b (.frz od u) b = some (.frz od u) := by rw [lkH_some (su ha), upd_same]
        have e2 := g.ex b _ e
        rw [lkH_some (by rw [e2]; exact fun z => by cases z), upd_same, ← h, ha]
      · rw [ha] at h; cases h
    · rw [lkH_ne z]; exact g.ex b o (by rw [lkH_ne z]; exact h)
  · by_cases z : b = d
    · subst z
      rw [upd_same]
      rcases hG' with hg | hg
      · rw [lkH_some (by rw [hg]; exact fun z => by cases z), upd_same] at h; exact h
      · rw [lkH_none hg, hg] at h; cases h
    · rw [lkH_ne z] at h; rw [upd_ne z]; exact g.sub b o h
  · by_cases z : b = d
    · subst z
      have e : lkH B b (.frz od u) b = some (.frz od u) := by rw [lkH_some (by rw [h]; exact fun z => by cases z), upd_same]
      have ng := g.fresh b _ e rfl (by rw [lkH_none n]; exact n)
      rw [lkH_none ng]; exact ng
    · rw [lkH_ne z]; exact g.fresh b o (by rw [lkH_ne z]; exact h) t (by rw [lkH_ne z]; exact n)
  · by_cases z : b = d
    · subst z
      rw [upd_same]
      rcases hB with hb | hb
      · rw [← h, hb]
      · rw [hb] at h; cases h
    · rw [upd_ne z]; exact g.keep b o mb (by rw [lkH_ne z]; exact h)
  · have z : b ≠ d := fun z => by
      subst z
      rcases hG' with hg | hg
      · rw [lkH_some (by rw [hg]; exact fun z => by cases z), upd_same] at h; exact (dct_frz hu).1 _ _ (Option.some.inj h)
      · rw [lkH_none hg, hg] at h; cases h
    rw [lkH_ne z] at h
    rcases g.lk b o w h n with (q | q) | q
    · exact .inl q
    · exact absurd q z
    · rw [lkH_ne z] at q; exact .inr q
end
section
variable {ι : Type} {c : Cc ι} {m m' : ι} {ρ : List S} {G H G' H' : Hp} {σ : L2.St} {d : Addr} {u : HO} {od : Obj}
/-- within the lock -/
abbrev lockC (c : Cc ι) (d : Addr) (F : HO) : Cc ι := ⟨c.K, lockW c.W d, c.E, fun _ _ _ => False, c.m0, lkH c.G0 d F, lkH c.H0 d F⟩
/-- what is known of a dict that may be locked -/
structure Lkb (c : Cc ι) (G H : Hp) (d : Addr) (u : HO) : Prop where
  hu : isDct u = true
  md : ¬ c.W.M d
  hd : H d = some u
  hg : G d = some u ∨ G d = none
theorem Lkb.base (k : Lkb c G H d u) (e : EnvOk c m G H σ ρ) : (c.G0 d = some u ∨ c.G0 d = none) ∧ (c.H0 d = some u ∨ c.H0 d = none) ∧ (c.G0 d = some u → c.H0 d = some u) := by
  have h2 : c.H0 d = some u ∨ c.H0 d = none := by
    cases q : c.H0 d with
    | none => exact .inr rfl
    | some o => have := e.gr.keep d o k.md q; rw [k.hd] at this; exact .inl (by rw [← Option.some.inj this])
  refine ⟨?_, h2, fun h => e.ok0.ex _ _ h⟩
  cases q : c.G0 d with
  | none => exact .inr rfl
  | some o =>
    have := e.gr.sub d o (e.gr.ex d o q)
    rw [k.hd] at this
    exact .inl (by rw [← Option.some.inj this])
/-- the slots within the lock, if those of own things and views have nothing to do with the dict -/
theorem EnvOk.lock {ρ1 : List S} (k : Lkb c G H d u) (e : EnvOk c m G H σ ρ) (hl : ρ1.length = ρ.length)
    (hs : ∀ (j : Nat) (s : S), ρ1[j]? = some s → s = .no ∨ (∃ v, σ[j]? = some (some v) ∧ RelS c.K (lockW c.W d) (lkH c.H0 d (.frz od u)) (lkH G d (.frz od u)) (lkH H d (.frz od u)) v s) ∧ ((∃ o, s = .lk o) ∨ ρ[j]? = some s))
    (hel : ∀ (k i j : Nat), ρ1[k]? = some (S.el i j) → ∀ its, ρ[i]? = some (S.own (.nest its)) → ρ1[i]? = some (S.own (.nest its)))
    (hne : ∀ (j : Nat) (o : O) (p : Addr), (ρ1[j]? = some (.own o) ∨ ρ1[j]? = some (.vw o)) → σ[j]? = some (some (.ref p)) → ∀ a, Ads H p o a → a ≠ d) : EnvOk (lockC c d (.frz od u)) m (lkH G d (.frz od u)) (lkH H d (.frz od u)) σ ρ1 := by
  obtain ⟨b1, b2, b3⟩ := k.base e
  have down : ∀ {j : Nat} {s : S}, ρ1[j]? = some s → s ≠ .no → (∀ o, s ≠ .lk o) → ρ[j]? = some s := fun h n1 n2 => by
    rcases hs _ _ h with z | ⟨_, ⟨o, z⟩ | z⟩
    · exact absurd z n1
    · exact absurd z (n2 o)
    · exact z
  refine ⟨lock_ok k.hu k.md e.ok0 b1 (fun z => by rw [b3 z]; exact fun z => by cases z), lock_grow k.hu k.md e.gr k.hd k.hg e.ok0, fun _ _ _ _ _ _ _ _ _ _ _ _ _ z => z.elim, by rw [hl]; exact e.len, fun j s h => (hs j s h).imp_right fun z => z.1, fun i j o o' p q hij hi hj pi pj a ha hb => ?_, fun kk i j hk => ?_, fun kk o p hk hp a ha => ?_⟩
  · have hi' := down hi (fun z => by cases z) (fun _ z => by cases z)
    have hj' := down hj (fun z => by cases z) (fun _ z => by cases z)
    exact e.sep i j o o' p q hij hi' hj' pi pj a (ha.eq (lkH_ne (hne i o p (.inl hi) pi p (Ads.root _)))) (hb.eq (lkH_ne (hne j o' q (.inl hj) pj q (Ads.root _))))
  · obtain ⟨its, p, vs, q, o, h1, h2, h3, h4, h5, h6⟩ := e.els kk i j (down hk (fun z => by cases z) (fun _ z => by cases z))
    have h1' := hel kk i j hk its h1
    exact ⟨its, p, vs, q, o, h1', h2, (lkH_ne (hne i _ p (.inl h1') h2 p (Ads.root _))).trans h3, h4, h5, h6⟩
  · have hk' := down hk (fun z => by cases z) (fun _ z => by cases z)
    have hp' := hne kk o p (.inr hk) hp
    have q := e.vws kk o p hk' hp a (ha.eq (lkH_ne (hp' p (Ads.root _))))
    show lkH c.H0 d (.frz od u) a ≠ none
    by_cases z : a = d
    · subst z; rw [lkH_some q, upd_same]; exact fun z => by cases z
    · rw [lkH_ne z]; exact q
/-- a value, locked and unlocked -/
theorem RelS.lock {K : PySem.W.Frag} {W : Wd ι} {H0 : Hp} {v : V} {s : S} (hu : isDct u = true) (hd : H d = some u) (hg : G d = some u ∨ G d = none) (hne : ∀ o p, (s = .own o ∨ s = .vw o) → v = .ref p → ∀ a, Ads H p o a → a ≠ d) (r : RelS K W H0 G H v s) : RelS K (lockW W d) (lkH H0 d (.frz od u)) (lkH G d (.frz od u)) (lkH H d (.frz od u)) v s := by
  have up := up_lk (K := K) (od := od) hu hg
  cases s with
  | no => trivial
  | el i j => trivial
  | at_ p => exact r
  | dat x => exact up _ _ r
  | own o =>
    obtain ⟨p, rfl, ob⟩ := r
    refine ⟨p, rfl, ob.upA up fun a ha => ?_⟩
    have n := hne o p (.inl rfl) rfl a ha
    obtain ⟨f, _⟩ := ob.ads ha
    exact ⟨lkH_ne n, (lkH_ne n).trans f.1, (lkH_ne n).trans f.2.1, f.2.2⟩
  | vw o =>
    obtain ⟨p, rfl, ob⟩ := r
    refine ⟨p, rfl, ob.upA up fun a ha => ?_⟩
    have n := hne o p (.inr rfl) rfl a ha
    obtain ⟨f, _⟩ := ob.ads ha
    exact ⟨lkH_ne n, (lkH_ne n).trans f.1, f.2⟩
  | lk o => obtain ⟨p, x, w, e1, e2, ob⟩ := r; exact ⟨p, x, w, e1, e2, ob.up up⟩
  | xc C a x fs =>
    obtain ⟨e, n, mp, fv, h, k, b⟩ := r
    have z : x ≠ d := fun z => by rw [z, hd] at h; cases h; cases hu
    exact ⟨e, (lkH_ne z).trans n, mp, fv, (lkH_ne z).trans h, k, b.up up⟩
theorem RelS.unlock {K : PySem.W.Frag} {W : Wd ι} {H0 : Hp} {v : V} {s : S} (hu : isDct u = true) (hd : H' d = some (.frz od u)) (hg : G' d = some (.frz od u) ∨ G' d = none) (r : RelS K (lockW W d) (lkH H0 d (.frz od u)) G' H' v s) : RelS K W H0 (lkH G' d u) (upd H' d u) v s := by
  have up := up_un (K := K) hu hg
  have ne : ∀ {a : Addr} {w : HO} {p : Addr}, H' a = some w → pln2 p w = true → a ≠ d := fun h t z => by rw [z, hd] at h; cases h; cases t
  have h0 : ∀ a, lkH H0 d (.frz od u) a = none → H0 a = none := fun a h => by
    by_cases z : a = d
    · subst z
      cases q : H0 a with
      | none => rfl
      | some o => rw [lkH_some (by rw [q]; exact fun z => by cases z), upd_same] at h; cases h
    · rw [lkH_ne z] at h; exact h
  cases s with
  | no => trivial
  | el i j => trivial
  | at_ p => exact r
  | dat x => exact up _ _ r
  | own o =>
    obtain ⟨p, rfl, ob⟩ := r
    refine ⟨p, rfl, ob.upA up fun a ha => ?_⟩
    obtain ⟨f, w, hw, t⟩ := ob.ads ha
    have n := ne hw t
    exact ⟨upd_ne n, h0 a f.1, (lkH_ne n).trans f.2.1, f.2.2⟩
  | vw o =>
    obtain ⟨p, rfl, ob⟩ := r
    refine ⟨p, rfl, ob.upA up fun a ha => ?_⟩
    obtain ⟨f, w, hw, t⟩ := ob.ads ha
    have n := ne hw t
    exact ⟨upd_ne n, (lkH_ne n).trans f.1, f.2⟩
  | lk o => obtain ⟨p, x, w, e1, e2, ob⟩ := r; exact ⟨p, x, w, e1, e2, ob.up up⟩
  | xc C a x fs =>
    obtain ⟨e, n, mp, fv, h, k, b⟩ := r
    have z : x ≠ d := fun z => by rw [z, hd] at h; cases h
    exact ⟨e, (lkH_ne z).trans n, mp, fv, (upd_ne z).trans h, k, b.up up⟩
end
end DL
set_option Elab.async false
set_option linter.all false
set_option maxRecDepth 100000
set_option maxHeartbeats 1000000
namespace DL
open PySem L2 Evl
/-! ### keys -/
def keyD : Key → D
  | .inl i => .int i
  | .inr x => .str x
def keyT (k : List Key) : D := .tup (k.map keyD)
theorem rp_key {K : PySem.W.Frag} {G : Hp} : ∀ k : Key, Rp K G (kV k) (keyD k)
  | .inl i => .int i
  | .inr x => .str x
theorem rp_keys {K : PySem.W.Frag} {G : Hp} : ∀ k : List Key, RpL K G (k.map kV) (k.map keyD)
  | [] => .nil
  | a :: k => .cons (rp_key a) (rp_keys k)
section
variable {ι : Type} {W : Wd ι} {m : ι} {G H : Hp}
/-- a tuple of the heap is data -/
theorem Grow.tup {q : Addr} {xs : List V} (ok : Ok W m G H) (hq : H q = some (.tup xs)) : ∃ G', Grow W G H m G' H ∧ G' q = some (.tup xs) ∧ Ex G G' := by
  cases e : G q with
  | some o =>
    have := ok.ex q o e
    rw [hq] at this
    cases this
    exact ⟨G, ok.refl, e, Ex.refl _⟩
  | none =>
    have x : Ex G (upd G q (.tup xs)) := Ex.new e
    refine ⟨upd G q (.tup xs), ⟨x, fun a o h => ?_, fun a o h t n => ?_, fun _ _ _ h => h, W.dep _ _ _ _ _ x (fun _ _ => rfl) ok.inv, fun a o u h n => ?_⟩, upd_same, x⟩
    · by_cases z : a = q
      · subst z; rw [upd_same] at h; rw [hq]; exact h
      · rw [upd_ne z] at h; exact ok.ex a o h
    · have z : a ≠ q := fun z => by subst z; rw [hq] at h; cases h; cases t
      rw [upd_ne z]; exact n
    · by_cases z : a = q
      · subst z; rw [upd_same] at h; cases h
      · rw [upd_ne z] at h; exact .inr h
end
/-! ### paths: what is read without a call -/
section
variable {ι : Type} {c : Cc ι} {m m' : ι} {ρ : List S}
def DP (c : Cc ι) (m : ι) (td : TE) (ρ : List S) (d : D) : Prop := ∀ σ G H, EnvOk c m G H σ ρ → ∃ v, (∀ H', (∀ b o, G b = some o → isDct o = false → H' b = some o) → ∀ Q : VK, Q v H' → td σ H' Q) ∧ Rp c.K G v d
theorem dp_var {i : Nat} {d : D} (hi : ρ[i]? = some (.dat d)) : DP c m (tVar i) ρ d := fun σ G H e => by
  rcases e.at_ i _ hi with z | ⟨v, a, r⟩
  · cases z
  · exact ⟨v, fun H' _ Q q => ⟨v, a, q⟩, r⟩
end
/-! ### walks over a locked dict -/
def RpU (K : PySem.W.Frag) (G : Hp) (u : HO) : D → Prop
  | .dic ds => ∃ kvs, u = .dK kvs ∧ kvs.map (·.1) = ds.map (·.1) ∧ RpL K G (kvs.map (·.2)) (ds.map (·.2))
  | .dit ds => ∃ kvs, u = .dT kvs ∧ kvs.map (·.1) = ds.map (·.1) ∧ RpL K G (kvs.map (·.2)) (ds.map (·.2))
  | _ => False
theorem RpU.up {K : PySem.W.Frag} {G G' : Hp} {u : HO} {d : D} (e : Up K G G') (h : RpU K G u d) : RpU K G' u d := by
  cases d <;> first | exact h.elim | (obtain ⟨kvs, a, b, c⟩ := h; exact ⟨kvs, a, b, c.up e⟩)
def Walks (wi : TI) (td : TE) (dd : D) (ds : List D) : Prop := ∀ {κ : Type} {K : PySem.W.Frag} {W : Wd κ} {G H : Hp} {σ : L2.St} {d : Addr} {od : Obj} {u : HO}, (∀ m G' H', Ex G G' → Ok W m G' H' → H' d = some (.frz od u)) → H d = some (.frz od u) → RpU K G u dd → (∀ Q : VK, Q (.ref d) H → td σ H Q) → ∀ R : L2.It → Hp → Prop, (∀ J, ItD K W G J ds → R J H) → wi σ H R
theorem walks_keysK {td : TE} {ds : List (Key × D)} : Walks (iKeys td) td (.dic ds) (ds.map fun p => keyD p.1) := fun {κ K W G H σ d od u} hs hd ru ht R q => by
  obtain ⟨kvs, rfl, hk, rv⟩ := ru
  refine ht _ ⟨d, od, rfl, .inl ⟨kvs, hd, q _ fun m G' H' x ok j => ?_⟩⟩
  have hh := hs m G' H' x ok
  have hlen : kvs.length = ds.length := by
    have := congrArg List.length hk
    rwa [List.length_map, List.length_map] at this
  refine ⟨fun y hy => ?_, fun hl => ⟨hh, by rw [hlen, hl, List.length_map]; exact Nat.le_refl _⟩⟩
  rw [List.getElem?_map] at hy
  cases hj : ds[j]? with
  | none => rw [hj] at hy; cases hy
  | some p =>
    rw [hj] at hy
    cases hy
    have hjl : j < kvs.length := by rw [hlen]; exact (List.getElem?_eq_some_iff.mp hj).1
    refine ⟨⟨hh, hjl⟩, fun y H2 z => ?_⟩
    obtain ⟨eh, k, v, hv, ey⟩ := z
    subst eh ey
    have ek : k = p.1 := by
      have h1 : (kvs.map (·.1))[j]? = some k := by rw [List.getElem?_map, hv]; rfl
      rw [hk, List.getElem?_map, hj] at h1
      exact (Option.some.inj h1).symm
    rw [ek]
    exact ⟨G', ok.refl, rp_key _⟩
theorem walks_keysT {td : TE} {ds : List (List Key × D)} : Walks (iKeys td) td (.dit ds) (ds.map fun p => keyT p.1) := fun {κ K W G H σ d od u} hs hd ru ht R q => by
  obtain ⟨kvs, rfl, hk, rv⟩ := ru
  refine ht _ ⟨d, od, rfl, .inr ⟨kvs, hd, q _ fun m G' H' x ok j => ?_⟩⟩
  have hh := hs m G' H' x ok
  have hlen : kvs.length = ds.length := by
    have := congrArg List.length hk
    rwa [List.length_map, List.length_map] at this
  refine ⟨fun y hy => ?_, fun hl => ⟨hh, by rw [hlen, hl, List.length_map]; exact Nat.le_refl _⟩⟩
  rw [List.getElem?_map] at hy
  cases hj : ds[j]? with
  | none => rw [hj] at hy; cases hy
  | some p =>
    rw [hj] at hy
    cases hy
    have hjl : j < kvs.length := by rw [hlen]; exact (List.getElem?_eq_some_iff.mp hj).1
    refine ⟨⟨hh, hjl⟩, fun y H2 z => ?_⟩
    obtain ⟨eh, k, v, a, hv, ey, ha⟩ := z
    subst eh ey
    have ek : k = p.1 := by
      have h1 : (kvs.map (·.1))[j]? = some k := by rw [List.getElem?_map, hv]; rfl
      rw [hk, List.getElem?_map, hj] at h1
      exact (Option.some.inj h1).symm
    subst ek
    obtain ⟨G2, g2, e2, _⟩ := Grow.tup ok ha
    exact ⟨G2, g2, Rp.tup e2 (rp_keys _)⟩
/-! ### locks: data -/
section
variable {ι : Type} {c : Cc ι} {m m' : ι} {ρ : List S} {G H G' H' : Hp} {σ : L2.St} {d : Addr} {u : HO} {od : Obj}
theorem EnvOk.lockD (k : Lkb c G H d u) (hg : G d = some u) (e : EnvOk c m G H σ ρ) : EnvOk (lockC c d (.frz od u)) m (lkH G d (.frz od u)) (lkH H d (.frz od u)) σ ρ := by
  have gd : ∀ {a : Addr}, G a = none → a ≠ d := fun h z => by rw [z, hg] at h; cases h
  have ne : ∀ (j : Nat) (o : O) (p : Addr), (ρ[j]? = some (.own o) ∨ ρ[j]? = some (.vw o)) → σ[j]? = some (some (.ref p)) → ∀ a, Ads H p o a → a ≠ d := fun j o p hj hp a ha => by
    rcases hj with hj | hj
    · obtain ⟨p', hp', ob⟩ := e.own hj
      rw [hp] at hp'
      cases hp'
      exact gd (ob.ads ha).1.2.1
    · rcases e.at_ j _ hj with z | ⟨v, hv, p', rfl, ob⟩
      · cases z
      · rw [hp] at hv
        cases hv
        exact gd (ob.ads ha).1.1
  refine e.lock k rfl (fun j s h => (e.at_ j s h).imp_right fun ⟨v, a, r⟩ => ⟨⟨v, a, r.lock k.hu k.hd k.hg fun o p ho hv => ?_⟩, .inr h⟩) (fun _ _ _ _ _ h => h) ne
  subst hv
  rcases ho with rfl | rfl
  · exact ne j o p (.inl h) a
  · exact ne j o p (.inr h) a
theorem EnvOk.unlock {σ' : L2.St} {ρ' : List S} (k : Lkb c G H d u) (e : EnvOk c m G H σ ρ) (hH' : H' d = some (.frz od u)) (hG' : G' d = some (.frz od u) ∨ G' d = none) (e' : EnvOk (lockC c d (.frz od u)) m' G' H' σ' ρ') : EnvOk c m' (lkH G' d u) (upd H' d u) σ' ρ' := by
  obtain ⟨b1, b2, b3⟩ := k.base e
  have ne : ∀ {j : Nat} {o : O} {p : Addr}, ρ'[j]? = some (.own o) → σ'[j]? = some (some (.ref p)) → p ≠ d := fun hj hp z => by
    obtain ⟨p', hp', ob⟩ := e'.own hj
    rw [hp] at hp'
    cases hp'
    obtain ⟨_, w, hw, t⟩ := ob.root
    rw [z, hH'] at hw
    cases hw
    cases t
  have nv : ∀ {j : Nat} {o : O} {p : Addr}, ρ'[j]? = some (.vw o) → σ'[j]? = some (some (.ref p)) → p ≠ d := fun hj hp z => by
    rcases e'.at_ _ _ hj with y | ⟨v, hv, p', rfl, ob⟩
    · cases y
    · rw [hp] at hv
      cases hv
      obtain ⟨_, w, hw, t⟩ := ob.root
      rw [z, hH'] at hw
      cases hw
      cases t
  refine ⟨e.ok0, unlock_grow k.hu k.md b1 b2 b3 e'.gr hH' hG', e.exc, e'.len, fun j s h => (e'.at_ j s h).imp_right fun ⟨v, a, r⟩ => ⟨v, a, r.unlock k.hu hH' hG'⟩, fun i j o o' p q hij hi hj pi pj a ha hb => ?_, fun kk i j hk => ?_, fun kk o p hk hp a ha => ?_⟩
  · exact e'.sep i j o o' p q hij hi hj pi pj a (ha.eq (upd_ne (ne hi pi))) (hb.eq (upd_ne (ne hj pj)))
  · obtain ⟨its, p, vs, q, o, h1, h2, h3, h4, h5, h6⟩ := e'.els kk i j hk
    exact ⟨its, p, vs, q, o, h1, h2, (upd_ne (ne h1 h2)).trans h3, h4, h5, h6⟩
  · have q := e'.vws kk o p hk hp a (ha.eq (upd_ne (nv hk hp)))
    intro z
    have q : lkH c.H0 d (.frz od u) a ≠ none := q
    by_cases y : a = d
    · subst y; rw [lkH_none z] at q; exact q z
    · rw [lkH_ne y] at q; exact q z
/-- a data dict that may be locked -/
theorem lkb_of {dd : D} {v : V} (e : EnvOk c m G H σ ρ) (hL : ∀ a, ¬ c.W.L a) (r : Rp c.K G v dd) (hd : (∃ ds, dd = .dic ds) ∨ ∃ ds, dd = .dit ds) : ∃ d u, v = .ref d ∧ Lkb c G H d u ∧ G d = some u ∧ RpU c.K G u dd ∧ Mut (some u) := by
  have mk : ∀ {d u}, isDct u = true → Rd G d u → Lkb c G H d u ∧ G d = some u := fun {d u} hu hr => by
    have h : G d = some u := by
      rcases hr with h | ⟨o, h⟩
      · exact h
      · exact absurd (e.ok.lk d o u h fun xs z => by rw [z] at hu; cases hu) (hL d)
    exact ⟨⟨hu, (fun z => by rw [e.ok.off d z] at h; cases h), e.ok.ex _ _ h, .inl h⟩, h⟩
  rcases hd with ⟨ds, rfl⟩ | ⟨ds, rfl⟩
  · cases r with
    | dic h k rv => obtain ⟨a, b⟩ := mk (u := .dK _) rfl h; exact ⟨_, _, rfl, a, b, ⟨_, rfl, k, rv⟩, trivial⟩
  · cases r with
    | dit h k rv => obtain ⟨a, b⟩ := mk (u := .dT _) rfl h; exact ⟨_, _, rfl, a, b, ⟨_, rfl, k, rv⟩, trivial⟩
variable {Φ : ι → S → Prop} {td te : TE} {tt : TT} {wi : TI} {g : TG} {vs : List Nat} {t : TS} {N B C : ι → List S → Prop} {R : ι → S → Prop}
theorem frzG (k : Lkb c G H d u) (hg : G d = some u) (g' : Grow (lockW c.W d) (lkH G d (.frz od u)) (lkH H d (.frz od u)) m' G' H') : H' d = some (.frz od u) ∧ G' d = some (.frz od u) := by
  have e1 : lkH G d (.frz od u) d = some (.frz od u) := by rw [lkH_some (by rw [hg]; exact fun z => by cases z), upd_same]
  have e2 := g'.ex _ _ e1
  exact ⟨g'.sub _ _ e2, e2⟩
theorem de_lockLc {dd : D} {ds : List D} (hp : DP c m td ρ dd) (hd : (∃ ds, dd = .dic ds) ∨ ∃ ds, dd = .dit ds) (hL : ∀ a, ¬ c.W.L a) (hwk : Walks wi td dd ds) (hl : ds.length < 1000000) (J : Nat → ι → List D → Prop) (j0 : J 0 m [])
    (jt : ∀ d F i x m acc, ds[i]? = some x → J i m acc → ∃ ρ', DG (lockC c d F) m g vs x (wipeS ρ vs) ρ' ∧ DT (lockC c d F) m tt ρ' fun m b => (b = true → De (lockC c d F) m te ρ' fun m s => ∃ d', s.frz = .dat d' ∧ J (i + 1) m (acc ++ [d'])) ∧ (b = false → J (i + 1) m acc))
    (jd : ∀ m acc, J ds.length m acc → Φ m (.own (.lst acc))) (hw : noEls vs ρ = true := by with_unfolding_all rfl) : De c m (tLockE (tLc wi g tt te vs)) ρ Φ := fun σ G H e Q q => by
  obtain ⟨v, kp, rv⟩ := hp σ G H e
  obtain ⟨d, u, rfl, k, hg, ru, mu⟩ := lkb_of e hL rv hd
  refine ⟨d, u, k.hd, mu, fun od => ?_⟩
  have e1 := e.lockD (od := od) k hg
  have hh : upd H d (.frz od u) = lkH H d (.frz od u) := (lkH_some (by rw [k.hd]; exact fun z => by cases z)).symm
  rw [hh]
  have gd : lkH G d (.frz od u) d = some (.frz od u) := by rw [lkH_some (by rw [hg]; exact fun z => by cases z), upd_same]
  refine hwk (W := lockW c.W d) (G := lkH G d (.frz od u)) (fun m G' H' x ok => ok.ex _ _ (x _ _ gd)) (e1.ok.ex _ _ gd) (ru.up (up_lk k.hu (.inl hg))) (fun Q q => kp _ (fun b o hb ho => ?_) Q q) _ fun I it => fun Dd hD =>
    lc_run (c := lockC c d (.frz od u)) (Φ := Φ) (Q := fun v H' => H' d = some (.frz od u) ∧ Q v (upd H' d u)) e1 e1.refl it (fun v s m' G' H' g' r p => ?_) hw hl J j0 (jt d _) jd Dd hD
  · have z : b ≠ d := fun z => by rw [z, hg] at hb; cases hb; rw [k.hu] at ho; cases ho
    rw [lkH_ne z]; exact e.ok.ex _ _ hb
  · obtain ⟨f1, f2⟩ := frzG k hg g'
    have ug := unlock_grow k.hu k.md (.inl hg) (.inl k.hd) (fun _ => k.hd) g' f1 (.inl f2)
    exact ⟨f1, q v s m' _ _ ug (r.unlock k.hu f1 (.inl f2)) p⟩
/-- [f x for x in d] -/
theorem de_lcKM {dd : D} {ds : List D} (f : D → D) (hp : DP c m td ρ dd) (hd : (∃ ds, dd = .dic ds) ∨ ∃ ds, dd = .dit ds) (hL : ∀ a, ¬ c.W.L a) (hwk : Walks wi td dd ds) (hl : ds.length < 1000000)
    (h : ∀ d F x, x ∈ ds → ∃ ρ', DG (lockC c d F) m g vs x (wipeS ρ vs) ρ' ∧ De (lockC c d F) m te ρ' fun m' s => m' = m ∧ s.frz = .dat (f x))
    (hΦ : Φ m (.own (.lst (ds.map f)))) (hw : noEls vs ρ = true := by with_unfolding_all rfl) : De c m (tLockE (tLc wi g tYes te vs)) ρ Φ :=
  de_lockLc hp hd hL hwk hl (fun i m2 acc => m2 = m ∧ acc = (ds.take i).map f) (by simp)
    (fun d F i x m2 acc hx ⟨em, ha⟩ => by
      subst em
      obtain ⟨ρ', h3, h4⟩ := h d F x (List.mem_of_getElem? hx)
      refine ⟨ρ', h3, dt_yes ⟨fun _ => h4.imp fun m3 s ⟨em, hs⟩ => ⟨f x, hs, em, ?_⟩, fun z => by cases z⟩⟩
      rw [ha, List.take_add_one, hx]
      simp)
    (fun m2 acc ⟨em, ha⟩ => by
      subst em
      rw [ha, List.take_length]
      exact hΦ) hw
end
end DL
set_option Elab.async false
set_option linter.all false
set_option maxRecDepth 100000
set_option maxHeartbeats 1000000
namespace DL
open PySem L2 Evl
/-! ### dicts -/
section
variable {κ : Type} [DecidableEq κ]
def valD (kvs : List (κ × D)) (k : κ) : Option D := (kvs.find? fun kv => decide (kv.1 = k)).map (·.2)
def putD (kvs : List (κ × D)) (k : κ) (v : D) : List (κ × D) :=
  if (kvs.any fun kv => decide (kv.1 = k)) = true then kvs.map (fun kv => if kv.1 = k then (kv.1, v) else kv) else kvs ++ [(k, v)]
theorem rpk_val {K : PySem.W.Frag} {G : Hp} : ∀ {kvs : List (κ × V)} {ds : List (κ × D)} (k : κ), kvs.map (·.1) = ds.map (·.1) → RpL K G (kvs.map (·.2)) (ds.map (·.2)) → (valV kvs k = none ∧ valD ds k = none) ∨ ∃ v d, valV kvs k = some v ∧ valD ds k = some d ∧ Rp K G v d
  | [], [], k, _, _ => .inl ⟨rfl, rfl⟩
  | [], _ :: _, k, h, _ => by cases h
  | _ :: _, [], k, h, _ => by cases h
  | (a, v) :: kvs, (b, d) :: ds, k, h, r => by
    rw [List.map_cons, List.map_cons] at h r
    obtain ⟨h1, h2⟩ := List.cons.inj h
    cases r with
    | cons r1 r2 =>
      have h1 : a = b := h1
      subst h1
      by_cases e : a = k
      · exact .inr ⟨v, d, by simp [valV, e], by simp [valD, e], r1⟩
      · have ih := rpk_val k h2 r2
        have e1 : valV ((a, v) :: kvs) k = valV kvs k := by simp [valV, e]
        have e2 : valD ((a, d) :: ds) k = valD ds k := by simp [valD, e]
        rw [e1, e2]
        exact ih
theorem rpk_any : ∀ {kvs : List (κ × V)} {ds : List (κ × D)} (k : κ), kvs.map (·.1) = ds.map (·.1) → (kvs.any fun kv => decide (kv.1 = k)) = (ds.any fun kv => decide (kv.1 = k))
  | [], [], k, _ => rfl
  | [], _ :: _, k, h => by cases h
  | _ :: _, [], k, h => by cases h
  | (a, v) :: kvs, (b, d) :: ds, k, h => by
    rw [List.map_cons, List.map_cons] at h
    obtain ⟨h1, h2⟩ := List.cons.inj h
    have h1 : a = b := h1
    subst h1
    rw [List.any_cons, List.any_cons, rpk_any k h2]
theorem rpk_put {K : PySem.W.Frag} {G : Hp} {kvs : List (κ × V)} {ds : List (κ × D)} {k : κ} {v : V} {d : D} (h : kvs.map (·.1) = ds.map (·.1)) (r : RpL K G (kvs.map (·.2)) (ds.map (·.2))) (rv : Rp K G v d) :
    (putK kvs k v).map (·.1) = (putD ds k d).map (·.1) ∧ RpL K G ((putK kvs k v).map (·.2)) ((putD ds k d).map (·.2)) := by
  unfold putK putD
  rw [rpk_any k h]
  split
  · constructor
    · have key : ∀ {α : Type} (l : List (κ × α)) (x : α), (l.map fun kv => if kv.1 = k then (kv.1, x) else kv).map (·.1) = l.map (·.1) := by
        intro α l x
        rw [List.map_map]
        apply List.map_congr_left
        intro a _
        show (if a.1 = k then (a.1, x) else a).1 = a.1
        split <;> rfl
      rw [key, key]
      exact h
    · rename_i hx
      clear hx
      induction kvs generalizing ds with
      | nil =>
        cases ds with
        | nil => exact .nil
        | cons _ _ => cases h
      | cons p kvs ih =>
        cases ds with
        | nil => cases h
        | cons q ds =>
          rw [List.map_cons, List.map_cons] at h r
          obtain ⟨h1, h2⟩ := List.cons.inj h
          cases r with
          | cons r1 r2 =>
            rw [List.map_cons, List.map_cons, List.map_cons, List.map_cons]
            refine .cons ?_ (ih h2 r2)
            have h1 : p.1 = q.1 := h1
            rw [h1]
            split
            · exact rv
            · exact r1
  · rw [List.map_append, List.map_append, List.map_append, List.map_append, h]
    exact ⟨rfl, r.append (.one rv)⟩
end
/-- a dict as it is read -/
inductive DV where
  | K (ds : List (Key × D)) | T (ds : List (List Key × D))
def S.dct? : S → Option DV
  | .dat (.dic ds) => some (.K ds)
  | .dat (.dit ds) => some (.T ds)
  | .own (.one (.dK ds)) => some (.K ds)
  | .vw (.one (.dK ds)) => some (.K ds)
  | .own (.one (.dT ds)) => some (.T ds)
  | .vw (.one (.dT ds)) => some (.T ds)
  | .lk (.dK ds) => some (.K ds)
  | .lk (.dT ds) => some (.T ds)
  | _ => none
/-- what is found at a key -/
inductive Look : DV → D → Option D → Prop
  | k {ds : List (Key × D)} (k : Key) : Look (.K ds) (keyD k) (valD ds k)
  | t {ds : List (List Key × D)} (k : List Key) : Look (.T ds) (keyT k) (valD ds k)
def RpDV (K : PySem.W.Frag) (G H : Hp) (a : Addr) : DV → Prop
  | .K ds => ∃ kvs, Rd H a (.dK kvs) ∧ kvs.map (·.1) = ds.map (·.1) ∧ RpL K G (kvs.map (·.2)) (ds.map (·.2))
  | .T ds => ∃ kvs, Rd H a (.dT kvs) ∧ kvs.map (·.1) = ds.map (·.1) ∧ RpL K G (kvs.map (·.2)) (ds.map (·.2))
section
variable {ι : Type} {m : ι} {K : PySem.W.Frag} {W : Wd ι} {Φ : ι → S → Prop} {H0 G H : Hp} {v : V} {s : S}
theorem RelS.dct {dv : DV} (ok : Ok W m G H) (r : RelS K W H0 G H v s) (h : s.dct? = some dv) : ∃ a, v = .ref a ∧ RpDV K G H a dv := by
  have o1 : ∀ {p o}, Ob1 K G H p o → (∀ dv, (match o with | .dK ds => some (DV.K ds) | .dT ds => some (.T ds) | _ => none) = some dv → RpDV K G H p dv) := fun {p o} ob dv h => by
    cases o with
    | lst ds => cases h
    | dK ds => cases h; obtain ⟨kvs, a, k, b⟩ := ob; exact ⟨kvs, .inl a, k, b⟩
    | dT ds => cases h; obtain ⟨kvs, a, k, b⟩ := ob; exact ⟨kvs, .inl a, k, b⟩
  cases s with
  | dat d =>
    have r : Rp K G v d := r
    cases d <;> first | cases h | skip
    · cases r with
      | dic a k b => exact ⟨_, rfl, _, ex_rd ok.ex a, k, b⟩
    · cases r with
      | dit a k b => exact ⟨_, rfl, _, ex_rd ok.ex a, k, b⟩
  | own o =>
    obtain ⟨p, rfl, ob⟩ := r
    cases o <;> first | cases h | skip
    rename_i o
    refine ⟨p, rfl, o1 ob.2 dv ?_⟩
    cases o <;> exact h
  | vw o =>
    obtain ⟨p, rfl, ob⟩ := r
    cases o <;> first | cases h | skip
    rename_i o
    refine ⟨p, rfl, o1 ob.2 dv ?_⟩
    cases o <;> exact h
  | lk o =>
    obtain ⟨p, x, u, rfl, n, ob⟩ := r
    have e := W.pinned _ _ _ _ _ ok.inv n
    cases o <;> first | cases h | skip
    · obtain ⟨kvs, rfl, k, b⟩ := ob; exact ⟨p, rfl, kvs, .inr ⟨x, e⟩, k, b⟩
    · obtain ⟨kvs, rfl, k, b⟩ := ob; exact ⟨p, rfl, kvs, .inr ⟨x, e⟩, k, b⟩
  | no => cases h
  | el i j => cases h
  | at_ p => cases h
  | xc _ _ _ _ => cases h
theorem RpDV.isD {a : Addr} {dv : DV} (h : RpDV K G H a dv) : IsD H a := by
  cases dv with
  | K ds => obtain ⟨kvs, e, _⟩ := h; exact .inl ⟨kvs, e⟩
  | T ds => obtain ⟨kvs, e, _⟩ := h; exact .inr ⟨kvs, e⟩
theorem key_inv {k : Key} {v : V} (r : Rp K G v (keyD k)) : v = kV k := by cases k <;> (cases r; rfl)
theorem keys_inv : ∀ {k : List Key} {vs : List V}, RpL K G vs (k.map keyD) → vs = k.map kV
  | [], _, .nil => rfl
  | a :: k, _, .cons h r => by rw [key_inv h, keys_inv r]; rfl
theorem keyT_inv {k : List Key} {v : V} (r : Rp K G v (keyT k)) : ∃ b, v = .ref b ∧ G b = some (.tup (k.map kV)) := by
  unfold keyT at r
  cases r with
  | tup h rx => rw [keys_inv rx] at h; exact ⟨_, rfl, h⟩
/-- a look at a dict -/
theorem look_get {a : Addr} {dv : DV} {kd : D} {o : Option D} {y : V} (e : Ex G H) (h : RpDV K G H a dv) (l : Look dv kd o) (ry : Rp K G y kd) : ∃ w, DGet H a y w ∧ ((w = none ∧ o = none) ∨ ∃ v d, w = some v ∧ o = some d ∧ Rp K G v d) := by
  cases l with
  | k k =>
    obtain ⟨kvs, hd, hk, rv⟩ := h
    refine ⟨valV kvs k, .inl ⟨kvs, k, hd, key_inv ry, rfl⟩, ?_⟩
    exact rpk_val k hk rv
  | t k =>
    obtain ⟨kvs, hd, hk, rv⟩ := h
    obtain ⟨b, rfl, hb⟩ := keyT_inv ry
    refine ⟨valV kvs k, .inr ⟨kvs, k, b, hd, rfl, e _ _ hb, rfl⟩, ?_⟩
    exact rpk_val k hk rv
end
section
variable {ι : Type} {c : Cc ι} {m : ι} {ρ : List S} {Φ : ι → S → Prop} {td ty tx te : TE} {N B C : ι → List S → Prop} {R : ι → S → Prop}
/-- d[k] -/
theorem de_dget (h : De c m td ρ fun m s => De c m ty ρ fun m s2 => ∃ dv kd d, s.dct? = some dv ∧ s2 = .dat kd ∧ Look dv kd (some d) ∧ Φ m (.dat d)) : De c m (tDGet td ty) ρ Φ := fun σ G H e Q q =>
  h σ G H e _ fun v s m1 G1 H1 g1 r1 h1 => h1 σ G1 H1 (e.grow g1) _ fun v2 s2 m2 G2 H2 g2 r2 ⟨dv, kd, d, hs, es, hl, p⟩ => by
    subst es
    have e2 := (e.grow g1).grow g2
    obtain ⟨a, rfl, hd⟩ := (r1.grow g2).dct e2.ok hs
    obtain ⟨w, hw, ⟨_, z⟩ | ⟨x, d', rfl, hd', rx⟩⟩ := look_get e2.ok.ex hd hl r2
    · cases z
    · cases hd'
      exact ⟨a, x, rfl, hw, q x (.dat d) m2 G2 H2 (g1.trans g2) rx p⟩
/-- d.get(k, x) -/
theorem de_dget2 (h : De c m td ρ fun m s => (∃ dv, s.dct? = some dv ∧ De c m ty ρ fun m s2 => De c m tx ρ fun m s3 => ∃ kd o x, s2 = .dat kd ∧ s3 = .dat x ∧ Look dv kd o ∧ Φ m (.dat (o.getD x)))) : De c m (tDGet2 td ty tx) ρ Φ := fun σ G H e Q q =>
  h σ G H e _ fun v s m1 G1 H1 g1 r1 ⟨dv, hs, h1⟩ => by
    obtain ⟨a, rfl, hd0⟩ := r1.dct (e.grow g1).ok hs
    refine ⟨a, rfl, hd0.isD, h1 σ G1 H1 (e.grow g1) _ fun v2 s2 m2 G2 H2 g2 r2 h2 => h2 σ G2 H2 ((e.grow g1).grow g2) _ fun v3 s3 m3 G3 H3 g3 r3 ⟨kd, o, x, es, es3, hl, p⟩ => ?_⟩
    subst es es3
    have e3 := ((e.grow g1).grow g2).grow g3
    obtain ⟨a', ea, hd⟩ := ((r1.grow g2).grow g3).dct e3.ok hs
    cases ea
    obtain ⟨w, hw, z⟩ := look_get e3.ok.ex hd hl (r2.grow g3)
    refine ⟨w, hw, ?_⟩
    rcases z with ⟨rfl, rfl⟩ | ⟨y, d, rfl, rfl, ry⟩
    · exact q v3 (.dat x) m3 G3 H3 ((g1.trans g2).trans g3) r3 p
    · exact q y (.dat d) m3 G3 H3 ((g1.trans g2).trans g3) ry p
/-- k in d -/
theorem de_din (h : De c m ty ρ fun m s2 => De c m td ρ fun m s => ∃ dv kd o, s.dct? = some dv ∧ s2 = .dat kd ∧ Look dv kd o ∧ Φ m (.dat (.bl o.isSome))) : De c m (tDIn ty td) ρ Φ := fun σ G H e Q q =>
  h σ G H e _ fun v2 s2 m1 G1 H1 g1 r2 h1 => h1 σ G1 H1 (e.grow g1) _ fun v s m2 G2 H2 g2 r1 ⟨dv, kd, o, hs, es, hl, p⟩ => by
    subst es
    have e2 := (e.grow g1).grow g2
    obtain ⟨a, rfl, hd⟩ := r1.dct e2.ok hs
    obtain ⟨w, hw, z⟩ := look_get e2.ok.ex hd hl (r2.grow g2)
    have ew : w.isSome = o.isSome := by rcases z with ⟨rfl, rfl⟩ | ⟨y, d, rfl, rfl, _⟩ <;> rfl
    exact ⟨a, w, rfl, hw, by rw [ew]; exact q _ (.dat (.bl _)) m2 G2 H2 (g1.trans g2) (Rp.bl _) p⟩
/-- k not in d -/
theorem de_dnotin (h : De c m ty ρ fun m s2 => De c m td ρ fun m s => ∃ dv kd o, s.dct? = some dv ∧ s2 = .dat kd ∧ Look dv kd o ∧ Φ m (.dat (.bl (!o.isSome)))) : De c m (tDNotIn ty td) ρ Φ := fun σ G H e Q q =>
  h σ G H e _ fun v2 s2 m1 G1 H1 g1 r2 h1 => h1 σ G1 H1 (e.grow g1) _ fun v s m2 G2 H2 g2 r1 ⟨dv, kd, o, hs, es, hl, p⟩ => by
    subst es
    have e2 := (e.grow g1).grow g2
    obtain ⟨a, rfl, hd⟩ := r1.dct e2.ok hs
    obtain ⟨w, hw, z⟩ := look_get e2.ok.ex hd hl (r2.grow g2)
    have ew : w.isSome = o.isSome := by rcases z with ⟨rfl, rfl⟩ | ⟨y, d, rfl, rfl, _⟩ <;> rfl
    exact ⟨a, w, rfl, hw, by rw [ew]; exact q _ (.dat (.bl _)) m2 G2 H2 (g1.trans g2) (Rp.bl _) p⟩
theorem de_dnew (h : Φ m (.own (.dK []))) : De c m tDNewK ρ Φ := fun σ G H e Q q p hp =>
  q (.ref p) (.own (.dK [])) m G _ (Grow.new e.ok hp) ⟨p, rfl, ⟨hp, fresh_back e.ok.ex hp, fun m => c.W.ne e.ok.inv m hp⟩, [], upd_same, rfl, .nil⟩ h
theorem de_dnewT (h : Φ m (.own (.dT []))) : De c m tDNewT ρ Φ := fun σ G H e Q q p hp =>
  q (.ref p) (.own (.dT [])) m G _ (Grow.new e.ok hp) ⟨p, rfl, ⟨hp, fresh_back e.ok.ex hp, fun m => c.W.ne e.ok.inv m hp⟩, [], upd_same, rfl, .nil⟩ h
/-- what a store makes of a dict -/
inductive PutS : O1 → D → D → O1 → Prop
  | k {ds : List (Key × D)} (k : Key) (d : D) : PutS (.dK ds) (keyD k) d (.dK (putD ds k d))
  | t {ds : List (List Key × D)} (k : List Key) (d : D) : PutS (.dT ds) (keyT k) d (.dT (putD ds k d))
def O1.few : O1 → Prop
  | .dK ds => ds.length < 1000000
  | .dT ds => ds.length < 1000000
  | .lst _ => True
theorem put_dput {K : PySem.W.Frag} {G H : Hp} {a : Addr} {o o' : O1} {kd d : D} {y v : V} (e : Ex G H) (ob : Ob1 K G H a o) (hf : o.few) (p : PutS o kd d o') (ry : Rp K G y kd) (rv : Rp K G v d) : ∃ u, DPut H a y v (upd H a u) ∧ Ob1 K G (upd H a u) a o' := by
  cases p with
  | k k d =>
    obtain ⟨kvs, hd, hk, rx⟩ := ob
    have hl : kvs.length < sizeLine := by
      have := congrArg List.length hk
      rw [List.length_map, List.length_map] at this
      exact szl (by rw [this]; exact hf)
    obtain ⟨k1, k2⟩ := rpk_put (k := k) hk rx rv
    exact ⟨_, .inl ⟨kvs, k, hd, key_inv ry, hl, rfl⟩, _, upd_same, k1, k2⟩
  | t k d =>
    obtain ⟨kvs, hd, hk, rx⟩ := ob
    have hl : kvs.length < sizeLine := by
      have := congrArg List.length hk
      rw [List.length_map, List.length_map] at this
      exact szl (by rw [this]; exact hf)
    obtain ⟨b, rfl, hb⟩ := keyT_inv ry
    obtain ⟨k1, k2⟩ := rpk_put (k := k) hk rx rv
    exact ⟨_, .inr ⟨kvs, k, b, hd, rfl, e _ _ hb, hl, rfl⟩, _, upd_same, k1, k2⟩
/-- d[k] = e, d one's own -/
theorem ds_dput {i : Nat} {o : O1} {tv : TE} (hi : ρ[i]? = some (.own (.one o))) (hf : o.few) (h : De c m tv ρ fun m s => De c m ty ρ fun m s2 => ∃ d kd o', s.frz = .dat d ∧ s2 = .dat kd ∧ PutS o kd d o' ∧ N m (ρ.set i (.own (.one o')))) : Ds c m (sDPut (tVar i) ty tv) ρ N R B C := fun D σ G H e k1 _ _ _ =>
  h σ G H e _ fun v s m1 G1 H1 g1 r1 h1 => by
    obtain ⟨p, a, _⟩ := e.own hi
    refine ⟨_, a, h1 σ G1 H1 (e.grow g1) _ fun v2 s2 m2 G2 H2 g2 r2 ⟨d, kd, o', es, es2, hp, hn⟩ => ?_⟩
    subst es2
    obtain ⟨G3, g3, r3, x3⟩ := (r1.grow g2).freezeX (g1.trans g2)
    rw [es] at r3
    have e3 := e.grow g3
    obtain ⟨p', a', f, ob⟩ := e3.own hi
    rw [a] at a'
    cases a'
    obtain ⟨u, hu, ob'⟩ := put_dput e3.ok.ex ob hf hp (Rp.mono x3 r2) r3
    exact ⟨p, _, rfl, hu, k1 _ σ m2 G3 _ hn g3.ex (e3.mut1 hi a ob')⟩
/-- {k: v} -/
theorem de_disp1 {tk tv : TE} (h : De c m tk ρ fun m s => De c m tv ρ fun m s2 => ∃ k d, s = .dat (keyD k) ∧ s2.frz = .dat d ∧ Φ m (.own (.dK [(k, d)]))) : De c m (tDisp [(tk, tv)]) ρ Φ := fun σ G H e Q q p hp => by
  have g0 := Grow.new (o := .dK []) e.ok hp
  have e0 := e.grow g0
  have gp : G p = none := fresh_back e.ok.ex hp
  have mp : ¬ c.W.M p := fun mm => c.W.ne e.ok.inv mm hp
  refine h σ G _ e0 _ fun v s m1 G1 H1 g1 r1 h1 => h1 σ G1 H1 (e0.grow g1) _ fun v2 s2 m2 G2 H2 g2 r2 ⟨k, d, es, es2, hΦ⟩ => ?_
  obtain ⟨G3, g3, r3⟩ := r2.freeze g2
  rw [es2] at r3
  subst es
  have ek := key_inv (k := k) r1
  subst ek
  have g13 := g1.trans g3
  have hp0 : upd H p (HO.dK []) p = some (.dK []) := upd_same
  have hp3 : H2 p = some (.dK []) := g13.keep p _ mp hp0
  refine ⟨hp3, [(k, v2)], rfl, by show 1 ≤ 15; decide, ?_⟩
  have n3 : G3 p = none := g13.fresh p _ hp0 rfl gp
  have ga := g0.trans g13
  exact q (.ref p) (.own (.dK [(k, d)])) m2 G3 _ (ga.mut hp n3 mp) ⟨p, rfl, ⟨hp, n3, mp⟩, [(k, v2)], upd_same, rfl, .one r3⟩ hΦ
end
end DL
set_option Elab.async false
set_option linter.all false
set_option maxRecDepth 100000
set_option maxHeartbeats 1000000
namespace DL
open PySem PySem.Spec PyProof.Rows L2 Evl
variable {ι : Type} {m m' m1 m2 : ι}
/-! ### a def that is called by its name -/
structure Cl (P : Program) (w : World) (K : PySem.W.Frag) (mg : Str → Option Value) (base : Heap) (CX : CXT) (k : Nat) (x : Str) (ps : List Str) (C : Fc) : Prop where
  ex : ∃ (f : Addr) (fd : FuncData), FnOk P w K mg base CX k f fd ps (spF K C) ∧ mg x = some (.ref f) ∧ PySem.W.keepIn K (.ref f) = true ∧ Binds K fd ps []
section
variable {X : Cx} {k j : Nat} {x : Str} {ps : List Str} {C : Fc} {p pos : Pos} {e : Expr} {es : List Expr} {t : TA}
theorem pcl {CX : CXT} {E : XK} (c : Cl X.prog X.w X.K X.mg X.base CX k x ps C) (hr : Room j X.A) (hx : Passes CX X E) (ha : PA X (e :: es) t) (hk : k ≤ j := by decide) (hg : Gl X x := by rfl) (hdb : (x == ("__debug__" : Str)) = false := by decide)
    (he : starEach (e :: es) X.env = (false, eval e X.env) :: starEach es X.env := by rfl) (hpl : (backTo pos (starEach es X.env)).any (·.1) = false := by rfl) :
    PE X (.Call (.Name x p) (e :: es) [] pos) (tCall (spF X.K C) [] E t) := by
  obtain ⟨f, fd, F, hm, kp, hb⟩ := c.ex
  exact pe_call F (hr.mono hk) hg hm kp hb .nil hx ha hdb he hpl
end
/-! ### built-ins, wider -/
section
variable {X : Cx}
def rLenA (K : PySem.W.Frag) : List V → Hp → VK → Prop := fun xs H Q => (∃ p ys, xs = [V.ref p] ∧ (SqL K H p ys ∨ SqT K H p ys) ∧ Q (.int ys.length) H) ∨ ∃ (a : Addr) (kvs : List (Key × V)), xs = [V.ref a] ∧ Rd H a (.dK kvs) ∧ Q (.int kvs.length) H
theorem call_lenA : CallR X (.builtin "len") (rLenA X.K) := call_len_seq.or fun pins s σ H xs us Q I r h => by
  obtain ⟨a, kvs, rfl, ha, q⟩ := h
  obtain ⟨u, rfl, ru⟩ := vals1 r
  cases ru
  exact d_len I ha fun t s' I' => ⟨.int kvs.length, H, I', ⟨t, rfl⟩, q⟩
def rSumA (K : PySem.W.Frag) : List V → Hp → VK → Prop := fun vs H Q => ∃ (a : Addr) (ns : List Int), vs = [V.ref a] ∧ (SqL K H a (ns.map V.int) ∨ SqT K H a (ns.map V.int)) ∧ Q (.int ns.sum) H
theorem call_sumA (hc : X.calm = true) : CallR X (.builtin "sum") (rSumA X.K) := fun pins s σ H vs us Q I r h => by
  obtain ⟨a, ns, rfl, hs, q⟩ := h
  rcases hs with hs | hs
  · exact cr_sum hc pins s σ H _ us Q I r ⟨a, ns, rfl, hs, q⟩
  · obtain ⟨its, rv, hl, _⟩ := I.tuple hs
    rw [Vals.ref1 r]
    have hi := rv.ints
    obtain ⟨xs, ex⟩ := hi.allInts.items
    have hn : numsOf (intItems xs).toList = ns := by rw [← ex]; exact hi.numsOf
    rw [nums_intItems] at hn
    have hl2 : s.heap.IsTuple a (intItems xs) := by rw [← ex]; exact hl
    refine PySem.W.ktm_sumG (I.ok.hd hc) hl2 fun h' tk t' hk => ?_
    rw [preSum_eq, List.take_of_length_le (by simp), hn]
    exact ⟨.int ns.sum, H, I.kept hk, ⟨_, rfl⟩, q⟩
end
/-! ### their readings over data -/
section
variable {K : PySem.W.Frag} {W : Wd ι} {Φ : ι → S → Prop} {H0 G H : Hp} {v : V} {s : S}
theorem RelS.dicV {ds : List (Key × D)} (ok : Ok W m G H) (r : RelS K W H0 G H v s) (h : s.dct? = some (.K ds)) : ∃ a kvs, v = .ref a ∧ Rd H a (.dK kvs) ∧ kvs.map (·.1) = ds.map (·.1) ∧ RpL K G (kvs.map (·.2)) (ds.map (·.2)) := by
  obtain ⟨a, rfl, kvs, b, c, d⟩ := r.dct ok h
  exact ⟨a, kvs, rfl, b, c, d⟩
theorem relss1 {vs : List V} {s : S} (r : RelSs K W H0 G H vs [s]) : ∃ v, vs = [v] ∧ RelS K W H0 G H v s := by
  cases r with
  | cons a b => cases b; exact ⟨_, rfl, a⟩
theorem relss2 {vs : List V} {s s2 : S} (r : RelSs K W H0 G H vs [s, s2]) : ∃ v v2, vs = [v, v2] ∧ RelS K W H0 G H v s ∧ RelS K W H0 G H v2 s2 := by
  cases r with
  | cons a b =>
    cases b with
    | cons b d => cases d; exact ⟨_, _, rfl, a, b⟩
theorem cb_lenL {s : S} {ds : List D} (h1 : s.lst? = some ds) (h : Φ m (.dat (.int ds.length))) : CbS K W m (rLenA K) [s] Φ := fun H0 G H vs ok rr Q q => by
  obtain ⟨v, rfl, r⟩ := relss1 rr
  obtain ⟨p, xs, rfl, a, b⟩ := r.lstV ok h1
  exact .inl ⟨p, xs, rfl, .inl a, by rw [b.length]; exact q _ (.dat (.int _)) m G H ok.refl (Rp.int _) h⟩
theorem cb_lenT {s : S} {ds : List D} (h1 : s.tup? = some ds) (h : Φ m (.dat (.int ds.length))) : CbS K W m (rLenA K) [s] Φ := fun H0 G H vs ok rr Q q => by
  obtain ⟨v, rfl, r⟩ := relss1 rr
  obtain ⟨p, xs, rfl, a, b⟩ := r.tupV ok h1
  exact .inl ⟨p, xs, rfl, .inr a, by rw [b.length]; exact q _ (.dat (.int _)) m G H ok.refl (Rp.int _) h⟩
theorem cb_lenK {s : S} {ds : List (Key × D)} (h1 : s.dct? = some (.K ds)) (h : Φ m (.dat (.int ds.length))) : CbS K W m (rLenA K) [s] Φ := fun H0 G H vs ok rr Q q => by
  obtain ⟨v, rfl, r⟩ := relss1 rr
  obtain ⟨p, kvs, rfl, a, k, b⟩ := r.dicV ok h1
  have e : kvs.length = ds.length := by
    have := congrArg List.length k
    rwa [List.length_map, List.length_map] at this
  exact .inr ⟨p, kvs, rfl, a, by rw [e]; exact q _ (.dat (.int _)) m G H ok.refl (Rp.int _) h⟩
theorem cb_sum {s : S} {ns : List Int} (h1 : s.lst? = some (ns.map D.int) ∨ s.tup? = some (ns.map D.int)) (h : Φ m (.dat (.int ns.sum))) : CbS K W m (rSumA K) [s] Φ := fun H0 G H vs ok rr Q q => by
  obtain ⟨v, rfl, r⟩ := relss1 rr
  rcases h1 with h1 | h1
  · obtain ⟨p, xs, rfl, a, b⟩ := r.lstV ok h1
    exact ⟨p, ns, rfl, .inl (by rw [← b.ints]; exact a), q _ (.dat (.int _)) m G H ok.refl (Rp.int _) h⟩
  · obtain ⟨p, xs, rfl, a, b⟩ := r.tupV ok h1
    exact ⟨p, ns, rfl, .inr (by rw [← b.ints]; exact a), q _ (.dat (.int _)) m G H ok.refl (Rp.int _) h⟩
theorem cb_all {s : S} {bs : List Bool} (h1 : s.lst? = some (bs.map D.bl)) (h : Φ m (.dat (.bl (bs.all id)))) : CbS K W m (rAll K) [s] Φ := fun H0 G H vs ok rr Q q => by
  obtain ⟨v, rfl, r⟩ := relss1 rr
  obtain ⟨p, xs, rfl, a, b⟩ := r.lstV ok h1
  exact ⟨p, bs, rfl, by rw [← b.bools]; exact a, q _ (.dat (.bl _)) m G H ok.refl (Rp.bl _) h⟩
theorem cb_max2 {i j : Int} (h : Φ m (.dat (.int (max i j)))) : CbS K W m (fun xs H Q => ∃ i j, xs = [V.int i, V.int j] ∧ Q (.int (if j > i then j else i)) H) [.dat (.int i), .dat (.int j)] Φ := fun H0 G H vs ok rr Q q => by
  obtain ⟨v, v2, rfl, r, r2⟩ := relss2 rr
  cases r; cases r2
  have e : (if j > i then j else i) = max i j := by rw [Int.max_def]; split <;> split <;> omega
  exact ⟨i, j, rfl, by rw [e]; exact q _ (.dat (.int _)) m G H ok.refl (Rp.int _) h⟩
theorem cb_min2 {i j : Int} (h : Φ m (.dat (.int (min i j)))) : CbS K W m (fun xs H Q => ∃ i j, xs = [V.int i, V.int j] ∧ Q (.int (if j < i then j else i)) H) [.dat (.int i), .dat (.int j)] Φ := fun H0 G H vs ok rr Q q => by
  obtain ⟨v, v2, rfl, r, r2⟩ := relss2 rr
  cases r; cases r2
  have e : (if j < i then j else i) = min i j := by rw [Int.min_def]; split <;> split <;> omega
  exact ⟨i, j, rfl, by rw [e]; exact q _ (.dat (.int _)) m G H ok.refl (Rp.int _) h⟩
theorem cb_int {i : Int} (h : Φ m (.dat (.int i))) : CbS K W m (fun xs H Q => (∃ i, xs = [V.int i] ∧ Q (.int i) H) ∨ ∃ k, xs = [V.bl k] ∧ Q (.int (if k then 1 else 0)) H) [.dat (.int i)] Φ := fun H0 G H vs ok rr Q q => by
  obtain ⟨v, rfl, r⟩ := relss1 rr
  cases r
  exact .inl ⟨i, rfl, q _ (.dat (.int _)) m G H ok.refl (Rp.int _) h⟩
theorem cb_tuple {s : S} {ds : List D} (h1 : s.lst? = some ds ∨ s = .dat (.tup ds)) (h : Φ m (.dat (.tup ds))) : CbS K W m (fun xs H Q => ∃ p ys, xs = [V.ref p] ∧ ((SqL K H p ys ∧ ∀ l, H l = none → Q (.ref l) (upd H l (.tup ys))) ∨ (SqT K H p ys ∧ Q (.ref p) H))) [s] Φ := fun H0 G H vs ok rr Q q => by
  obtain ⟨v, rfl, r⟩ := relss1 rr
  rcases h1 with h1 | h1
  · obtain ⟨p, xs, rfl, a, b⟩ := r.lstV ok h1
    exact ⟨p, xs, rfl, .inl ⟨a, new_tup (H0 := H0) ok b h q⟩⟩
  · subst h1
    obtain ⟨p, xs, rfl, a, b⟩ := r.tupV ok rfl
    exact ⟨p, xs, rfl, .inr ⟨a, q _ (.dat (.tup ds)) m G H ok.refl r h⟩⟩
/-- the sorted list of ints -/
def srt (ks : List Int) : List Int := ks.mergeSort fun a b => decide (a ≤ b)
theorem srt_perm (ks : List Int) : (srt ks).Perm ks := List.mergeSort_perm ks _
theorem srt_sorted (ks : List Int) : (srt ks).Pairwise (· ≤ ·) := by
  have := List.pairwise_mergeSort (le := fun a b : Int => decide (a ≤ b)) (fun a b c h1 h2 => by simp at *; omega) (fun a b => by simp; omega) ks
  exact this.imp fun h => by simpa using h
theorem srt_uniq {ys ks : List Int} (p : ys.Perm ks) (s : ys.Pairwise (· ≤ ·)) : ys = srt ks :=
  (p.trans (srt_perm ks).symm).eq_of_pairwise (fun a b _ _ h1 h2 => Int.le_antisymm h1 h2) s (srt_sorted ks)
theorem cb_sortedK {s : S} {ds : List (Key × D)} {ks : List Int} (h1 : s.dct? = some (.K ds)) (hk : ds.map (·.1) = ks.map Sum.inl) (h64 : ks.length < 64) (h : Φ m (.own (.lst ((srt ks).map D.int)))) : CbS K W m (fun xs H Q => ∃ (a : Addr) (kvs : List (Key × V)) (ks : List Int), xs = [V.ref a] ∧ Rd H a (.dK kvs) ∧ kvs.map (·.1) = ks.map Sum.inl ∧ ks.length < 64 ∧
    ∀ (ys : List Int) (p : Addr), ys.Perm ks → ys.Pairwise (· ≤ ·) → H p = none → Q (.ref p) (upd H p (.lst (ys.map V.int)))) [s] Φ := fun H0 G H vs ok rr Q q => by
  obtain ⟨v, rfl, r⟩ := relss1 rr
  obtain ⟨p, kvs, rfl, a, k, b⟩ := r.dicV ok h1
  exact ⟨p, kvs, ks, rfl, a, k.trans hk, h64, fun ys l pm st hl => new_lst (H0 := H0) ok (by rw [srt_uniq pm st]; exact RpL.ofInts _) h q l hl⟩
/-- a value's type -/
def D.ty : D → String
  | .non => "NoneType" | .bl _ => "bool" | .int _ => "int" | .str _ => "str" | .lst _ => "list" | .tup _ => "tuple" | .dic _ => "dict" | .dit _ => "dict" | .scr _ => "list" | .ins _ _ => "object"
/-- isinstance(x, T), x a locked dict with tuple keys among others -/
def rIsiW (K : PySem.W.Frag) : List V → Hp → VK → Prop := fun xs H Q => rIsi K xs H Q ∨ ∃ (a : Addr) (o : Obj) (kvs : List (List Key × V)) (T : String) (b : Bool), xs = [.ref a, .ty T] ∧ H a = some (.frz o (.dT kvs)) ∧ kitB "dict" T = some b ∧ Q (.bl b) H
/-- no dict with tuple keys that is locked, no instance -/
def D.ty? : D → Bool
  | .ins _ _ => false | _ => true
theorem Rp.tyx {d : D} (ok : Ok W m G H) (hL : ∀ ds, d = .dit ds → ∀ a, ¬ W.L a) (r : Rp K G v d) (hd : d.ty? = true) : TyX K H v (.type d.ty) := by
  cases r with
  | non => exact .base .non
  | bl b => exact .base (.bl b)
  | int i => exact .base (.int i)
  | str x => exact .base (.str x)
  | lst a b => exact .base (.lst (ok.ex _ _ a))
  | tup a b => exact .base (.tup (ok.ex _ _ a))
  | dic a k b =>
    rcases ex_rd ok.ex a with a | ⟨o, a⟩
    · exact .base (.dK a)
    · exact .fDict a
  | dit a k b =>
    rcases a with a | ⟨o, a⟩
    · exact .base (.dT (ok.ex _ _ a))
    · exact absurd (ok.lk _ o _ a fun xs z => by cases z) (hL _ rfl _)
  | scr a =>
    rcases ex_l ok.ex a with a | ⟨o, its, n, a, b, _⟩
    · rcases a with a | ⟨o, a⟩
      · exact .base (.lst a)
      · exact .base (.frz a)
    · exact .kList a b
  | ins a b c e => cases hd
theorem Ob1.tyx {p : Addr} {o : O1} (h : Ob1 K G H p o) : TyX K H (.ref p) (.type o.frz.ty) := by
  cases o with
  | lst ds => obtain ⟨xs, a, _⟩ := h; exact .base (.lst a)
  | dK ds => obtain ⟨xs, a, _⟩ := h; exact .base (.dK a)
  | dT ds => obtain ⟨xs, a, _⟩ := h; exact .base (.dT a)
end
section
variable {c : Cc ι} {ρ : List S} {Φ : ι → S → Prop} {te : TE}
/-- isinstance(e, T) -/
theorem de_isi {T : String} (h : De c m te ρ fun m s => ∃ d b, s = .dat d ∧ d.ty? = true ∧ (∀ ds, d = .dit ds → ∀ a, ¬ c.W.L a) ∧ kitB d.ty T = some b ∧ Φ m (.dat (.bl b))) : De c m (tCB (rIsiW c.K) (tCons te (tCons (tC (.ty T)) tNil))) ρ Φ := fun σ G H e Q q =>
  h σ G H e _ fun v s m1 G1 H1 g1 r1 ⟨d, b, es, hd, hL, hb, p⟩ => by
    subst es
    exact .inl ⟨v, .ty T, _, _, b, rfl, .ty T, Rp.tyx (e.grow g1).ok hL r1 hd, kit_ty hb, q _ (.dat (.bl b)) m1 G1 H1 g1 (Rp.bl b) p⟩
/-- .. of any data, locked or not -/
theorem de_isiD {T : String} (h : De c m te ρ fun m s => ∃ d b, s = .dat d ∧ d.ty? = true ∧ kitB d.ty T = some b ∧ Φ m (.dat (.bl b))) : De c m (tCB (rIsiW c.K) (tCons te (tCons (tC (.ty T)) tNil))) ρ Φ := fun σ G H e Q q =>
  h σ G H e _ fun v s m1 G1 H1 g1 r1 ⟨d, b, es, hd, hb, p⟩ => by
    subst es
    have fin := q _ (.dat (.bl b)) m1 G1 H1 g1 (Rp.bl b) p
    by_cases z : ∃ ds, d = .dit ds
    · obtain ⟨ds, rfl⟩ := z
      have ok := (e.grow g1).ok
      cases r1 with
      | dit a k rv =>
        rcases ex_rd ok.ex a with a | ⟨o, a⟩
        · exact .inl ⟨_, .ty T, _, _, b, rfl, .ty T, .base (.dT a), kit_ty hb, fin⟩
        · exact .inr ⟨_, o, _, T, b, rfl, a, hb, fin⟩
    · exact .inl ⟨v, .ty T, _, _, b, rfl, .ty T, Rp.tyx (e.grow g1).ok (fun ds e => absurd ⟨ds, e⟩ z) r1 hd, kit_ty hb, fin⟩
/-- .. of a view -/
theorem de_isiV {T : String} (h : De c m te ρ fun m s => ∃ o b, s = .vw (.one o) ∧ kitB o.frz.ty T = some b ∧ Φ m (.dat (.bl b))) : De c m (tCB (rIsiW c.K) (tCons te (tCons (tC (.ty T)) tNil))) ρ Φ := fun σ G H e Q q =>
  h σ G H e _ fun v s m1 G1 H1 g1 r1 ⟨o, b, es, hb, p⟩ => by
    subst es
    obtain ⟨a, rfl, _, ob⟩ := r1
    exact .inl ⟨.ref a, .ty T, _, _, b, rfl, .ty T, ob.tyx, kit_ty hb, q _ (.dat (.bl b)) m1 G1 H1 g1 (Rp.bl b) p⟩
end
end DL
set_option Elab.async false
set_option linter.all false
set_option maxRecDepth 100000
set_option maxHeartbeats 1000000
namespace DL
open PySem PySem.Spec PyProof.Rows L2 Evl
variable {ι : Type} {m m' m1 m2 : ι}
/-! ### own exceptions with fields -/
/-- __init__(self, f1, ..): self.f1 = f1; .. -/
def spX (C : Addr) : List Str → Sp := fun fs vs H Q _ => ∃ (a : Addr) (ws : List V), vs = .ref a :: ws ∧ ws.length = fs.length ∧ H a = some (exo a C none) ∧ ∀ dx, H dx = none → dx ≠ a → Q .non (upd (upd H dx (exd dx (fs.zip ws).reverse)) a (exo a C (some dx)))
structure Xc (P : Program) (w : World) (K : PySem.W.Frag) (mg : Str → Option Value) (base : Heap) (x : Str) (C : Addr) (fs : List Str) : Prop where
  oex : OexC K C
  xf : XfC K C
  gC : mg x = some (.ref C)
  te : PySem.W.exmOne K (.ref C) (.ref C) = some true
  ini : ∃ (fI : Addr) (fd : FuncData), PySem.W.findIn K (.ref C) "__init__" = some (some (.ref fI)) ∧ PySem.W.typeIn K (.ref fI) = some (.type "function") ∧ FnOk P w K mg base CX0 1 fI fd ("self" :: fs) (spX C fs) ∧ Binds K fd ("self" :: fs) []
  noat : ∀ f ∈ fs, PySem.W.findIn K (.ref C) f = some none
section
variable {X : Cx} {x : Str} {C : Addr} {fs : List Str} {j : Nat} {E : XK} {e : Expr} {es : List Expr} {p pos pos2 : Pos} {ta : TA}
def tRz (C : Addr) (fs : List Str) (E : XK) (ta : TA) : TS := fun _ σ H => tMkO C (spX C fs) [] ta σ H fun cls d H' => (fun (cls : Value) (d : Option Addr) (_ : L2.St) (H : Hp) => E cls d H) cls d σ H'
theorem raiseX (T : Xc X.prog X.w X.K X.mg X.base x C fs) (hr : Room j X.A) (tk : Takes X (fun cls d _ H => E cls d H)) (ha : PA X (e :: es) ta) (hj : 2 ≤ j := by decide) (hc : X.calm = true := by rfl) (hg : Gl X x := by rfl)
    (hdb : (x == ("__debug__" : Str)) = false := by decide) (he : starEach (e :: es) X.env = (false, eval e X.env) :: starEach es X.env := by rfl) (hpl : (backTo pos (starEach es X.env)).any (·.1) = false := by rfl) :
    PS X (.Raise (some (.Call (.Name x p) (e :: es) [] pos)) none pos2) (tRz C fs E ta) := by
  obtain ⟨fI, fd, h1, h2, h3, h4⟩ := T.ini
  exact ps_raise hc tk (pmk_oex T.oex h1 h2 h3 (hr.mono hj) h4 .nil pass0 hg T.gC ha hdb he hpl)
end
theorem upd_del {H : Hp} {a d : Addr} {o o1 o2 o3 : HO} (ha : H a = none) (ne : d ≠ a) : upd (del (upd (upd (upd H a o1) d o2) a o3) a) d o = upd H d o := by
  funext b
  by_cases h1 : b = d
  · rw [h1, upd_same, upd_same]
  · rw [upd_ne h1, upd_ne h1]
    by_cases h2 : b = a
    · rw [h2, del_same, ha]
    · rw [del_ne h2, upd_ne h2, upd_ne h1, upd_ne h2]
theorem zip_keys {α : Type} : ∀ {fs : List Str} {ws : List α}, ws.length = fs.length → (fs.zip ws).map (·.1) = fs ∧ (fs.zip ws).map (·.2) = ws
  | [], [], _ => ⟨rfl, rfl⟩
  | [], _ :: _, h => by simp at h
  | _ :: _, [], h => by simp at h
  | f :: fs, w :: ws, h => by
    obtain ⟨a, b⟩ := zip_keys (fs := fs) (ws := ws) (by simpa using h)
    simp [a, b]
section
variable {c : Cc ι} {ρ : List S} {ta : TA} {N B C' : ι → List S → Prop} {R : ι → S → Prop} {C : Addr} {fs : List Str}
theorem ds_raise (h : DA c m ta ρ fun m ss => ∃ ds : List D, ss = ds.map S.dat ∧ ds.length = fs.length ∧ ds.length ≤ 1000 ∧ c.Ξ m C (fs.zip ds).reverse) : Ds c m (tRz C fs c.E ta) ρ N R B C' := fun D σ G H e _ _ _ _ => h σ G H e _ fun vs ss m1 G1 H1 g1 r1 ⟨ds, es, hl, hk, hx⟩ => by
  subst es
  have r2 := relss_dat r1
  have e1 := e.grow g1
  refine ⟨by rw [r2.length]; exact hk, fun a ha => ⟨a, vs, by rw [List.append_nil], by rw [r2.length]; exact hl, upd_same, fun dx hdx ne => ?_⟩⟩
  have hd1 : H1 dx = none := by
    rw [upd_ne ne] at hdx
    exact hdx
  refine ⟨rfl, dx, _, upd_same, by rw [upd_ne ne]; exact upd_same, hd1, ?_⟩
  rw [upd_del ha ne]
  have hlen : vs.length = fs.length := by rw [r2.length]; exact hl
  obtain ⟨k1, k2⟩ := zip_keys hlen
  obtain ⟨k3, k4⟩ := zip_keys hl
  refine e1.excq C dx _ (fs.zip ds).reverse m1 G1 _ (Grow.new e1.ok hd1) (fresh_back e1.ok.ex hd1) (fun m => c.W.ne e1.ok.inv m hd1) upd_same ?_ ?_ hx
  · rw [List.map_reverse, List.map_reverse, k1, k3]
  · rw [List.map_reverse, List.map_reverse, k2, k4]
    exact r2.reverse
end
/-! ### list or tuple -/
section
variable {X : Cx} {tg l : Expr} {tl : TE}
def iSeq (K : PySem.W.Frag) (tl : TE) : TI := fun σ H R => tl σ H fun x H1 => ∃ a, x = .ref a ∧ ((∃ xs, SqL K H1 a xs ∧ R (Itl K a) H1) ∨ ∃ xs, SqT K H1 a xs ∧ R (Itt K a) H1)
theorem pi_seq (hl : PE X l tl) : PI X tg l (iSeq X.K tl) := ⟨fun pins s σ H R I h => by
  have key := hl.run pins s σ H _ I h
  refine thn key fun v s1 ⟨x, H1, I1, r1, a, ex, hh⟩ => ?_
  subst ex
  obtain rfl : v = Value.ref a := r1
  rcases hh with ⟨xs, hx, hR⟩ | ⟨xs, hx, hR⟩
  · obtain ⟨its, rv, pl, _⟩ := I1.list hx
    exact wpAny_pyIter_list pl.isList (pi_one I1 _ (turn_list a s1.heap.objs.size) ⟨_, Heap.get?_push_size _ rfl, rfl, rfl⟩ hR)
  · obtain ⟨its, rv, pl, _⟩ := I1.tuple hx
    exact wpAny_pyIter_tuple (show s1.heap.IsTuple a its.toArray from pl) (pi_one I1 _ (turn_tuple a s1.heap.objs.size) ⟨_, Heap.get?_push_size _ rfl, rfl, rfl⟩ hR)⟩
end
section
variable {c : Cc ι} {ρ : List S} {te : TE} {Φ : ι → List D → Prop}
def S.seq? : S → Option (List D)
  | .dat (.lst ds) => some ds
  | .dat (.tup ds) => some ds
  | .dat (.scr ns) => some (ns.map .int)
  | _ => none
theorem di_seq (h : De c m te ρ fun m s => ∃ ds, s.frz.seq? = some ds ∧ Φ m ds) : DI c m (iSeq c.K te) ρ Φ := fun σ G H e R q => h σ G H e _ fun v s m1 G1 H1 g1 r1 ⟨ds, hs, p⟩ => by
  obtain ⟨G2, g2, r2⟩ := r1.freeze g1
  cases hz : s.frz with
  | dat d =>
    rw [hz] at hs r2
    cases d <;> first | cases hs | skip
    · obtain ⟨a, xs, rfl, hx, rx⟩ := r2.dlst (ds := ds) rfl
      exact ⟨a, rfl, .inl ⟨xs, ex_l g2.sub hx, q _ ds m1 G2 H1 g2 (itd_list' hx rx) p⟩⟩
    · have r2 : Rp c.K G2 v (.tup ds) := r2
      cases r2 with
      | tup hx rx => exact ⟨_, rfl, .inr ⟨_, SqT.of (g2.sub _ _ hx), q _ ds m1 G2 H1 g2 (itd_tup (SqT.of hx) rx) p⟩⟩
    · obtain ⟨a, xs, rfl, hx, rx⟩ := r2.dlst (ds := _) rfl
      exact ⟨a, rfl, .inl ⟨xs, ex_l g2.sub hx, q _ _ m1 G2 H1 g2 (itd_list' hx rx) p⟩⟩
  | no => rw [hz] at hs; cases hs
  | own o => rw [hz] at hs; cases hs
  | vw o => rw [hz] at hs; cases hs
  | at_ a => rw [hz] at hs; cases hs
  | xc _ _ _ _ => rw [hz] at hs; cases hs
  | el _ _ => rw [hz] at hs; cases hs
  | lk _ => rw [hz] at hs; cases hs
end
end DL
set_option Elab.async false
set_option linter.all false
set_option maxRecDepth 100000
set_option maxHeartbeats 1000000
namespace DL
open PySem PySem.Spec PyProof.Rows L2 Evl
variable {ι : Type} {m m' m1 m2 : ι}
/-! ### zip of two lists or tuples, in any mixture -/
inductive SK | l | t
def SqK (K : PySem.W.Frag) (H : Hp) : SK → Addr → List V → Prop
  | .l => SqL K H
  | .t => SqT K H
def SeqK (h : Heap) : SK → Addr → Array Value → Prop
  | .l => h.IsList
  | .t => h.IsTuple
theorem seqK_at {k : SK} {X : Cx} {pins : List (Addr × Obj)} {σ : L2.St} {H : Hp} {s : Shared} {a : Addr} {xs : List V} (I : Inv X pins σ H s) (h : SqK X.K H k a xs) : ∃ its : List Value, Vals xs its ∧ SeqK s.heap k a its.toArray := by
  cases k with
  | l => obtain ⟨its, r, p, _⟩ := I.list h; exact ⟨its, r, p.isList⟩
  | t => obtain ⟨its, r, p, _⟩ := I.tuple h; exact ⟨its, r, p⟩
def ItS (K : PySem.W.Frag) (k1 k2 : SK) (a b : Addr) : L2.It :=
  ⟨fun i H => ∃ (xs ys : List V) (x y : V), SqK K H k1 a xs ∧ SqK K H k2 b ys ∧ xs[i]? = some x ∧ ys[i]? = some y,
   fun i H v H' => ∃ T x y, v = .ref T ∧ H T = none ∧ H' = upd H T (.tup [x, y]) ∧ (∀ xs, SqK K H k1 a xs → xs[i]? = some x) ∧ ∀ ys, SqK K H k2 b ys → ys[i]? = some y,
   fun i H => ∃ xs ys : List V, SqK K H k1 a xs ∧ SqK K H k2 b ys ∧ i = min xs.length ys.length⟩
def iZipS (K : PySem.W.Frag) (ta : TA) : TI := fun σ H R => ta σ H fun vs H1 => ∃ a b k1 k2 xs ys, vs = [V.ref a, V.ref b] ∧ SqK K H1 k1 a xs ∧ SqK K H1 k2 b ys ∧ R (ItS K k1 k2 a b) H1
/-! over data -/
def zipD (ds es : List D) : List D := (ds.zip es).map fun p => .tup [p.1, p.2]
section
variable {c : Cc ι} {ρ : List S} {tr : TA} {Φ : ι → List D → Prop}
theorem RelS.seqG {K : PySem.W.Frag} {W : Wd ι} {H0 G H : Hp} {v : V} {s : S} {ds : List D} (r : RelS K W H0 G H v s) (h : s.seq? = some ds) : ∃ p k xs, v = .ref p ∧ SqK K G k p xs ∧ RpL K G xs ds := by
  cases s with
  | dat d =>
    cases d <;> first | cases h | skip
    · have r : Rp K G v _ := r
      cases r with
      | lst a b => exact ⟨_, .l, _, rfl, SqL.of a, b⟩
    · have r : Rp K G v _ := r
      cases r with
      | tup a b => exact ⟨_, .t, _, rfl, SqT.of a, b⟩
    · have r : Rp K G v _ := r
      cases r with
      | scr a => exact ⟨_, .l, _, rfl, a, RpL.ofInts _⟩
  | no => cases h
  | own o => cases h
  | vw o => cases h
  | at_ a => cases h
  | xc _ _ _ _ => cases h
  | el _ _ => cases h
  | lk _ => cases h
theorem sqK_mono {K : PySem.W.Frag} {G G' : Hp} {k : SK} {a : Addr} {xs : List V} (e : Ex G G') (h : SqK K G k a xs) : SqK K G' k a xs := by
  cases k with
  | l => exact ex_l e h
  | t => exact ex_t e h
theorem zipD_get {ds es : List D} {i : Nat} {d : D} (h : (zipD ds es)[i]? = some d) : ∃ a b, ds[i]? = some a ∧ es[i]? = some b ∧ d = .tup [a, b] := by
  unfold zipD at h
  rw [List.getElem?_map] at h
  cases z : (ds.zip es)[i]? with
  | none => rw [z] at h; cases h
  | some p =>
    rw [z] at h
    cases h
    have := List.getElem?_zip_eq_some.mp z
    exact ⟨p.1, p.2, this.1, this.2, rfl⟩
theorem itd_zip {K : PySem.W.Frag} {W : Wd ι} {G1 : Hp} {k1 k2 : SK} {a b : Addr} {xs ys : List V} {ds es : List D} (h1 : SqK K G1 k1 a xs) (r1 : RpL K G1 xs ds) (h2 : SqK K G1 k2 b ys) (r2 : RpL K G1 ys es) : ItD K W G1 (ItS K k1 k2 a b) (zipD ds es) := fun m G H e ok i => by
  have hx : SqK K H k1 a xs := sqK_mono (e.trans ok.ex) h1
  have hy : SqK K H k2 b ys := sqK_mono (e.trans ok.ex) h2
  refine ⟨fun d hd => ?_, fun hl => ⟨xs, ys, hx, hy, by rw [hl, r1.length, r2.length]; simp [zipD, List.length_zip]⟩⟩
  obtain ⟨d1, d2, e1, e2, rfl⟩ := zipD_get hd
  obtain ⟨v, hv, rv⟩ := r1.getD e1
  obtain ⟨u, hu, ru⟩ := r2.getD e2
  refine ⟨⟨xs, ys, v, u, hx, hy, hv, hu⟩, fun x H' y => ?_⟩
  obtain ⟨T, x', y', rfl, hT, rfl, q1, q2⟩ := y
  have e3 := q1 xs hx
  rw [hv] at e3
  cases e3
  have e4 := q2 ys hy
  rw [hu] at e4
  cases e4
  have x1 : Ex G (upd G T (.tup [v, u])) := Ex.new (fresh_back ok.ex hT)
  exact ⟨upd G T (.tup [v, u]), Grow.newD ok hT (fun _ _ z => by cases z), Rp.tup upd_same (.cons (rv.mono (e.trans x1)) (.cons (ru.mono (e.trans x1)) .nil))⟩
theorem di_zip (h : DA c m tr ρ fun m ss => ∃ s1 s2 ds es, ss = [s1, s2] ∧ s1.seq? = some ds ∧ s2.seq? = some es ∧ Φ m (zipD ds es)) : DI c m (iZipS c.K tr) ρ Φ := fun σ G H e R q => h σ G H e _ fun vs ss m1 G1 H1 g1 r1 ⟨s1, s2, ds, es, hs, h1, h2, p⟩ => by
  subst hs
  obtain ⟨v1, v2, rfl, q1, q2⟩ := relss2 r1
  obtain ⟨a, k1, xs, rfl, x1, y1⟩ := q1.seqG h1
  obtain ⟨b, k2, ys, rfl, x2, y2⟩ := q2.seqG h2
  exact ⟨a, b, k1, k2, xs, ys, rfl, sqK_mono g1.sub x1, sqK_mono g1.sub x2, q _ _ m1 G1 H1 g1 (itd_zip x1 y1 x2 y2) p⟩
end
end DL
set_option Elab.async false
set_option linter.all false
set_option maxRecDepth 100000
set_option maxHeartbeats 1000000
namespace DL
open PySem PySem.Spec PyProof.Rows L2 Evl
variable {ι : Type} {m m' m1 m2 : ι}
/-! ### slices, sums of tuples, repeats, membership -/
def cutD (ds : List D) (lo hi : Option Int) : List D := (ds.drop (HT.sIx ds.length 0 lo)).take (HT.sIx ds.length ds.length hi - HT.sIx ds.length 0 lo)
theorem RpL.cut {K : PySem.W.Frag} {G : Hp} {xs : List V} {ds : List D} (r : RpL K G xs ds) (lo hi : Option Int) : RpL K G (cutV xs lo hi) (cutD ds lo hi) := by
  unfold cutV cutD
  rw [r.length]
  exact (r.drop _).take _
def DO (c : Cc ι) (m : ι) (t : TO) (ρ : List S) (Φ : ι → Option Int → Prop) : Prop := ∀ σ G H, EnvOk c m G H σ ρ → ∀ Q : Option Int → Hp → Prop, (∀ o m' G' H', Grow c.W G H m' G' H' → Φ m' o → Q o H') → t σ H Q
section
variable {c : Cc ι} {ρ : List S} {Φ : ι → S → Prop} {te : TE} {tl th : TO} {Ψ : ι → Option Int → Prop}
theorem do_none (h : Ψ m none) : DO c m tNoPart ρ Ψ := fun σ G H e Q q => q none m G H e.refl h
theorem do_some (h : De c m te ρ fun m s => ∃ i, s = .dat (.int i) ∧ Ψ m (some i)) : DO c m (tPart te) ρ Ψ := fun σ G H e Q q => h σ G H e _ fun v s m1 G1 H1 g1 r1 ⟨i, es, p⟩ => by
  subst es
  cases r1
  exact ⟨i, rfl, q _ m1 G1 H1 g1 p⟩
theorem de_slL (h : De c m te ρ fun m s => ∃ ds, s.lst? = some ds ∧ DO c m tl ρ fun m lo => DO c m th ρ fun m hi => Φ m (.own (.lst (cutD ds lo hi)))) : De c m (tSl (rSlL c.K) te tl th) ρ Φ := fun σ G H e Q q =>
  h σ G H e _ fun v s m1 G1 H1 g1 r1 ⟨ds, hs, h1⟩ => h1 σ G1 H1 (e.grow g1) _ fun lo m2 G2 H2 g2 h2 => h2 σ G2 H2 ((e.grow g1).grow g2) _ fun hi m3 G3 H3 g3 h3 => by
    have e3 := ((e.grow g1).grow g2).grow g3
    obtain ⟨p, xs, rfl, a, b⟩ := ((r1.grow g2).grow g3).lstV e3.ok hs
    exact ⟨p, xs, rfl, a, fun l hl => new_lst (H0 := H) e3.ok (b.cut lo hi) h3 (fun v s m' G' H' g r p => q v s m' G' H' (((g1.trans g2).trans g3).trans g) (((r.back g3).back g2).back g1) p) l hl⟩
theorem de_slT (h : De c m te ρ fun m s => ∃ ds, s = .dat (.tup ds) ∧ DO c m tl ρ fun m lo => DO c m th ρ fun m hi => Φ m (.dat (.tup (cutD ds lo hi)))) : De c m (tSl (rSlA c.K) te tl th) ρ Φ := fun σ G H e Q q =>
  h σ G H e _ fun v s m1 G1 H1 g1 r1 ⟨ds, hs, h1⟩ => h1 σ G1 H1 (e.grow g1) _ fun lo m2 G2 H2 g2 h2 => h2 σ G2 H2 ((e.grow g1).grow g2) _ fun hi m3 G3 H3 g3 h3 => by
    subst hs
    have e3 := ((e.grow g1).grow g2).grow g3
    have r3 := (r1.grow g2).grow g3
    obtain ⟨p, xs, rfl, a, b⟩ := r3.tupV e3.ok rfl
    refine ⟨p, xs, rfl, a, fun hw => ?_, fun _ l hl => new_tup (H0 := H) e3.ok (b.cut lo hi) h3 (fun v s m' G' H' g r p => q v s m' G' H' (((g1.trans g2).trans g3).trans g) (((r.back g3).back g2).back g1) p) l hl⟩
    rw [b.length] at hw
    have ec : cutD ds lo hi = ds := by unfold cutD; rw [hw.1, hw.2]; simp
    have h3 : Φ m3 (.dat (.tup (cutD ds lo hi))) := h3
    rw [ec] at h3
    exact q _ (.dat (.tup ds)) m3 G3 H3 ((g1.trans g2).trans g3) r3 h3
end
section
variable {K : PySem.W.Frag} {W : Wd ι} {Φ : ι → S → Prop}
theorem ops_catA {ds es : List D} (hl : ds.length + es.length ≤ 1000000) (h : Φ m (.dat (.tup (ds ++ es)))) : OpS K W m (rCatA K) (.dat (.tup ds)) (.dat (.tup es)) Φ := fun H0 G H v1 v2 ok r1 r2 Q q => by
  obtain ⟨p, xs, rfl, a1, b1⟩ := r1.tupV ok rfl
  obtain ⟨p2, ys, rfl, a2, b2⟩ := r2.tupV ok rfl
  refine ⟨p, p2, xs, ys, rfl, rfl, a1, a2, by rw [b1.length, b2.length]; exact sz hl, fun z => ?_, fun _ z => ?_, fun _ _ => new_tup (H0 := H0) ok (b1.append b2) h q⟩
  · subst z
    cases b1
    exact q _ (.dat (.tup es)) m G H ok.refl r2 h
  · subst z
    cases b2
    rw [List.append_nil] at h
    exact q _ (.dat (.tup ds)) m G H ok.refl r1 h
theorem cb_minKD {ds : List (Key × D)} {ks : List Int} (hL : ∀ a, ¬ W.L a) (hk : ds.map (·.1) = ks.map Sum.inl) (h0 : ks ≠ []) (h : ∀ k, k ∈ ks → (∀ j ∈ ks, k ≤ j) → Φ m (.dat (.int k))) : CbS K W m rMinK [.dat (.dic ds)] Φ := fun H0 G H vs ok rr Q q => by
  obtain ⟨v, rfl, r⟩ := relss1 rr
  have r : Rp K G v (.dic ds) := r
  cases r with
  | dic hd hkv rv =>
    rcases hd with hd | ⟨o, hd⟩
    · exact ⟨_, _, ks, rfl, ok.ex _ _ hd, hkv.trans hk, h0, fun k k1 k2 => q _ (.dat (.int k)) m G H ok.refl (Rp.int k) (h k k1 k2)⟩
    · exact absurd (ok.lk _ o _ hd fun xs z => by cases z) (hL _)
end
/-! ### two loops in a comprehension -/
section
variable {c : Cc ι} {ρ : List S} {Φ : ι → S → Prop} {te : TE} {tt tt1 : TT} {wi wi1 : TI} {g g1 : TG} {vs vs1 : List Nat}
theorem de_lc2 (hwN : noEls vs ρ = true) (h : DI c m wi ρ fun m ds => ∃ J : Nat → ι → List D → Prop, J 0 m [] ∧
    (∀ i d m acc, ds[i]? = some d → J i m acc → ∃ ρ', DG c m g vs d (wipeS ρ vs) ρ' ∧ DT c m tt ρ' fun m b =>
      (b = true → noEls vs1 ρ' = true ∧ DI c m wi1 ρ' fun m es => ∃ J1 : Nat → ι → List D → Prop, J1 0 m acc ∧
        (∀ j e m acc, es[j]? = some e → J1 j m acc → acc.length < 1000000 ∧ ∃ ρ2, DG c m g1 vs1 e (wipeS ρ' vs1) ρ2 ∧ DT c m tt1 ρ2 fun m b =>
          (b = true → De c m te ρ2 fun m s => ∃ d', s.frz = .dat d' ∧ J1 (j + 1) m (acc ++ [d'])) ∧ (b = false → J1 (j + 1) m acc)) ∧
        ∀ m acc, J1 es.length m acc → J (i + 1) m acc) ∧ (b = false → J (i + 1) m acc)) ∧
    ∀ m acc, J ds.length m acc → Φ m (.own (.lst acc))) : De c m (tLc2 wi g tt wi1 g1 tt1 te vs vs1) ρ Φ := fun σ G H e Q q => h σ G H e _ fun I ds m1 G1 H1 gr1 it ⟨J, j0, jt, jd⟩ => fun Dd hD => by
  have e1 := e.grow gr1
  let W : Nat → Nat → Hp → Prop := fun i m H2 => m = ds.length - i ∧ i ≤ ds.length ∧ ∃ m2 G2 xs acc, Grow c.W G1 H1 m2 G2 H2 ∧ H2 Dd = some (.lst xs) ∧ G2 Dd = none ∧ RpL c.K G2 xs acc ∧ J i m2 acc
  have mD : ¬ c.W.M Dd := fun m => c.W.ne e1.ok.inv m hD
  have up : ∀ {m2 : ι} {G2 H2 : Hp} {ys : List V}, Grow c.W G1 H1 m2 G2 H2 → G2 Dd = none → Grow c.W G1 H1 m2 G2 (upd H2 Dd (.lst ys)) := fun {m2 G2 H2 ys} g2 n =>
    ⟨g2.ex, g2.sub.mut n, g2.fresh, fun a o m q => by rw [upd_ne (ne_of_none q hD)]; exact g2.keep a o m q, c.W.dep _ _ _ _ _ (Ex.refl _) (fun a m => upd_ne fun z => mD (by rw [← z]; exact m)) g2.inv, g2.lk⟩
  have keepD : ∀ {m4 : ι} {G3 H3 G4 H4 : Hp} {xs : List V}, H3 Dd = some (.lst xs) → G3 Dd = none → Grow c.W G3 H3 m4 G4 H4 → H4 Dd = some (.lst xs) ∧ G4 Dd = none := fun hx hn g4 => ⟨g4.keep _ _ mD hx, g4.fresh _ _ hx rfl hn⟩
  refine ⟨W, ⟨ds.length, by simp, Nat.zero_le _, m1, G1, [], [], up e1.refl (fresh_back e1.ok.ex hD), upd_same, fresh_back e1.ok.ex hD, .nil, j0⟩, ?_⟩
  rintro i m H2 ⟨em, hi, m2, G2, xs, acc, g2, hx, hn, rx, j⟩
  have e2 := e1.grow g2
  obtain ⟨ih1, ih2⟩ := it m2 G2 H2 g2.ex e2.ok i
  by_cases hlt : i < ds.length
  · right
    have hd : ds[i]? = some ds[i] := by simp [hlt]
    obtain ⟨go, yl⟩ := ih1 _ hd
    refine ⟨go, W (i + 1) (m - 1), fun H' w => ⟨m - 1, by omega, w⟩, fun x H' y => ?_⟩
    obtain ⟨G3, g3, r3⟩ := yl x H' y
    obtain ⟨ρ', dg, ht⟩ := jt i _ m2 acc hd j
    have e3 := (e2.grow g3).wipe vs hwN
    refine dg x _ G3 H' e3 r3 _ fun σ' f4 hw => ⟨hw.trans (wipe_wipe σ vs), ?_⟩
    have e4 := f4 _ _ _ (Ex.refl _) e3
    refine ht σ' G3 H' e4 _ fun b m4 G4 H4 g4 ⟨hb1, hb2⟩ => ?_
    have g24 := g3.trans g4
    cases b with
    | false =>
      rw [if_neg Bool.false_ne_true]
      obtain ⟨k1, k2⟩ := keepD hx hn g24
      exact ⟨by omega, hlt, m4, G4, xs, acc, g2.trans g24, k1, k2, rx.mono g24.ex, hb2 rfl⟩
    | true =>
      rw [if_pos rfl]
      obtain ⟨hw1, hb1⟩ := hb1 rfl
      refine hb1 σ' G4 H4 (e4.grow g4) _ fun I1 es m5 G5 H5 g5 it1 ⟨J1, k0, kt, kd⟩ => ?_
      have g25 := g24.trans g5
      obtain ⟨kx, kn⟩ := keepD hx hn g25
      -- the environment of the inner loop, wherever one is
      have env : ∀ {m6 : ι} {G6 H6 : Hp}, Grow c.W G1 H1 m6 G6 H6 → Ex G5 G6 → EnvOk c m6 G6 H6 σ' ρ' := fun {m6 G6 H6} g6 x6 => f4 _ _ _ ((g4.ex.trans g5.ex).trans x6) ((e1.grow g6).wipe vs hwN)
      refine ⟨fun jj k H6 => k = es.length - jj ∧ jj ≤ es.length ∧ ∃ m6 G6 ys acc6, Grow c.W G1 H1 m6 G6 H6 ∧ Ex G5 G6 ∧ H6 Dd = some (.lst ys) ∧ G6 Dd = none ∧ RpL c.K G6 ys acc6 ∧ J1 jj m6 acc6, ⟨es.length, by simp, Nat.zero_le _, m5, G5, xs, acc, g2.trans g25, Ex.refl _, kx, kn, rx.mono g25.ex, k0⟩, ?_⟩
      rintro jj k H6 ⟨ek, hj, m6, G6, ys, acc6, g6, x6, hy, hn6, ry, j6⟩
      have e6 := env g6 x6
      obtain ⟨jh1, jh2⟩ := it1 m6 G6 H6 x6 e6.ok jj
      by_cases hlt2 : jj < es.length
      · right
        have hd2 : es[jj]? = some es[jj] := by simp [hlt2]
        obtain ⟨go2, yl2⟩ := jh1 _ hd2
        refine ⟨go2, fun H7 => jj + 1 ≤ es.length ∧ ∃ m6 G6 ys acc6, Grow c.W G1 H1 m6 G6 H7 ∧ Ex G5 G6 ∧ H7 Dd = some (.lst ys) ∧ G6 Dd = none ∧ RpL c.K G6 ys acc6 ∧ J1 (jj + 1) m6 acc6, fun H7 w => ⟨k - 1, by omega, by omega, w⟩, fun x2 H7 y2 => ?_⟩
        obtain ⟨G7, g7, r7⟩ := yl2 x2 H7 y2
        obtain ⟨hlen, ρ2, dg2, ht2⟩ := kt jj _ m6 acc6 hd2 j6
        have e7 := (e6.grow g7).wipe vs1 hw1
        refine dg2 x2 _ G7 H7 e7 r7 _ fun σ3 f8 hw2 => ⟨hw2.trans (wipe_wipe σ' vs1), ?_⟩
        have e8 := f8 _ _ _ (Ex.refl _) e7
        refine ht2 σ3 G7 H7 e8 _ fun b m8 G8 H8 g8 ⟨hc1, hc2⟩ => ?_
        have g68 := g7.trans g8
        cases b with
        | false =>
          rw [if_neg Bool.false_ne_true]
          obtain ⟨l1, l2⟩ := keepD hy hn6 g68
          exact ⟨hlt2, m8, G8, ys, acc6, g6.trans g68, x6.trans g68.ex, l1, l2, ry.mono g68.ex, hc2 rfl⟩
        | true =>
          rw [if_pos rfl]
          refine hc1 rfl σ3 G8 H8 (e8.grow g8) _ fun v s m9 G9 H9 g9 r9 ⟨d', es', j'⟩ => ?_
          obtain ⟨GA, gA, rA⟩ := r9.freeze g9
          rw [es'] at rA
          have g6A := g68.trans gA
          obtain ⟨l1, l2⟩ := keepD hy hn6 g6A
          exact ⟨ys, l1, szl (by rw [ry.length]; exact hlen), hlt2, m9, GA, ys ++ [v], acc6 ++ [d'], up (g6.trans g6A) l2, x6.trans g6A.ex, upd_same, l2, (ry.mono g6A.ex).append (.one rA), j'⟩
      · left
        have hl2 : jj = es.length := by omega
        refine ⟨jh2 hl2, by omega, hlt, m6, G6, ys, acc6, g6, hy, hn6, ry, ?_⟩
        subst hl2
        exact kd _ _ j6
  · left
    have hl2 : i = ds.length := by omega
    refine ⟨ih2 hl2, ?_⟩
    subst hl2
    exact q (.ref Dd) (.own (.lst acc)) m2 G2 H2 (gr1.trans g2) ⟨Dd, rfl, ⟨gr1.back hD, hn, mD⟩, xs, hx, rx⟩ (jd m2 acc j)
end
section
variable {ι : Type} {m : ι} {c : Cc ι} {ρ : List S} {Φ : ι → S → Prop} {te : TE} {tt1 : TT} {wi wi1 : TI} {g0 g1 : TG} {vs vs1 : List Nat}
theorem DI.imp {Ψ Ψ' : ι → List D → Prop} (h : DI c m wi ρ Ψ) (i : ∀ m ds, Ψ m ds → Ψ' m ds) : DI c m wi ρ Ψ' := fun σ G H e R q => h σ G H e R fun J ds m' G' H' g it p => q J ds m' G' H' g it (i m' ds p)
theorem flat_at {α β : Type} {h : α → List β} {l : List α} {i : Nat} {d : α} (hd : l[i]? = some d) : l.flatMap h = (l.take i).flatMap h ++ (h d ++ (l.drop (i + 1)).flatMap h) := by
  have hi := (List.getElem?_eq_some_iff.mp hd).1
  have e : l = l.take i ++ d :: l.drop (i + 1) := by
    have h1 : l.drop i = d :: l.drop (i + 1) := by
      rw [List.drop_eq_getElem_cons hi]
      congr 1
      exact (List.getElem?_eq_some_iff.mp hd).2
    rw [← h1, List.take_append_drop]
  rw [congrArg (List.flatMap h) e]
  simp
/-- [g d e for d in ds for e in F d if t d e] -/
theorem de_lc2M (F : D → List D) (t : D → D → Bool) (g : D → D → D)
    (h : DI c m wi ρ fun m ds => (ds.flatMap fun d => ((F d).filter (t d)).map (g d)).length < 1000000 ∧
      (∀ d ∈ ds, ∃ ρ', DG c m g0 vs d (wipeS ρ vs) ρ' ∧ noEls vs1 ρ' = true ∧ DI c m wi1 ρ' fun m' es => m' = m ∧ es = F d ∧ ∀ e ∈ es, ∃ ρ2, DG c m g1 vs1 e (wipeS ρ' vs1) ρ2 ∧ DT c m tt1 ρ2 fun m' b => m' = m ∧ b = t d e ∧ (t d e = true → De c m te ρ2 fun m' s => m' = m ∧ s.frz = .dat (g d e))) ∧
      Φ m (.own (.lst (ds.flatMap fun d => ((F d).filter (t d)).map (g d))))) (hw : noEls vs ρ = true := by with_unfolding_all rfl) : De c m (tLc2 wi g0 tYes wi1 g1 tt1 te vs vs1) ρ Φ :=
  de_lc2 hw (h.imp fun m ds ⟨hl, h1, h2⟩ => by
    refine ⟨fun i m' acc => m' = m ∧ acc = (ds.take i).flatMap fun d => ((F d).filter (t d)).map (g d), ⟨rfl, by simp⟩, ?_, ?_⟩
    · rintro i d m' acc hd ⟨rfl, rfl⟩
      obtain ⟨ρ', h3, hw1, h4⟩ := h1 d (List.mem_of_getElem? hd)
      refine ⟨ρ', h3, dt_yes ⟨fun _ => ⟨hw1, h4.imp fun m3 es ⟨em, ees, h5⟩ => ?_⟩, fun z => by cases z⟩⟩
      subst em ees
      have tot := flat_at (h := fun d => ((F d).filter (t d)).map (g d)) hd
      refine ⟨fun j m4 acc => m4 = m3 ∧ acc = (ds.take i).flatMap (fun d => ((F d).filter (t d)).map (g d)) ++ (((F d).take j).filter (t d)).map (g d), ⟨rfl, by simp⟩, ?_, ?_⟩
      · rintro j e m4 acc he ⟨rfl, rfl⟩
        have tot2 : ((F d).take j ++ (F d).drop j) = F d := List.take_append_drop _ _
        refine ⟨?_, ?_⟩
        · rw [tot] at hl
          have : (((F d).filter (t d)).map (g d)).length = ((((F d).take j).filter (t d)).map (g d)).length + ((((F d).drop j).filter (t d)).map (g d)).length := by
            have := congrArg (fun l => ((l.filter (t d)).map (g d)).length) tot2
            simp only [List.filter_append, List.map_append, List.length_append] at this
            exact this.symm
          simp only [List.length_append] at hl ⊢
          omega
        · obtain ⟨ρ2, h6, h7⟩ := h5 e (List.mem_of_getElem? he)
          refine ⟨ρ2, h6, h7.imp fun m5 b ⟨em, eb, h8⟩ => ?_⟩
          subst em
          refine ⟨fun hb => (h8 (by rw [← eb]; exact hb)).imp fun m6 s ⟨em, hs⟩ => ⟨_, hs, em, ?_⟩, fun hb => ⟨rfl, ?_⟩⟩
          · have : t d e = true := by rw [← eb]; exact hb
            rw [List.take_add_one, he]
            simp [List.filter_append, this]
          · have : t d e = false := by rw [← eb]; exact hb
            rw [List.take_add_one, he]
            simp [List.filter_append, this]
      · rintro m4 acc ⟨rfl, rfl⟩
        refine ⟨rfl, ?_⟩
        rw [List.take_length, List.take_add_one, hd]
        simp
    · rintro m' acc ⟨rfl, rfl⟩
      rw [List.take_length]
      exact h2)
end
end DL
set_option Elab.async false
set_option linter.all false
set_option maxRecDepth 100000
set_option maxHeartbeats 1000000
namespace DL
open PySem PySem.Spec PyProof.Rows L2 Evl
/-! ### plain data of some depth -/
inductive Pl : Nat → D → Prop
  | non {n : Nat} : Pl n .non
  | bl {n : Nat} (b : Bool) : Pl n (.bl b)
  | int {n : Nat} (i : Int) : Pl n (.int i)
  | str {n : Nat} {x : Str} : PyData.strOk x = true → Pl n (.str x)
  | lst {n : Nat} {ds : List D} : (∀ d ∈ ds, Pl n d) → Pl (n + 1) (.lst ds)
  | tup {n : Nat} {ds : List D} : (∀ d ∈ ds, Pl n d) → Pl (n + 1) (.tup ds)
  | scr {n : Nat} {ns : List Int} : Pl (n + 1) (.scr ns)
theorem Pl.up {n k : Nat} (h : n ≤ k) {d : D} (p : Pl n d) : Pl k d := by
  induction p generalizing k with
  | non => exact .non
  | bl b => exact .bl b
  | int i => exact .int i
  | str hx => exact .str hx
  | lst _ ih =>
    obtain ⟨j, rfl⟩ : ∃ j, k = j + 1 := ⟨k - 1, by omega⟩
    exact .lst fun d hd => ih d hd (by omega)
  | tup _ ih =>
    obtain ⟨j, rfl⟩ : ∃ j, k = j + 1 := ⟨k - 1, by omega⟩
    exact .tup fun d hd => ih d hd (by omega)
  | scr =>
    obtain ⟨j, rfl⟩ : ∃ j, k = j + 1 := ⟨k - 1, by omega⟩
    exact .scr
def PyOk (n : Nat) (x : PyData) : Prop := x.canLay0 = true ∧ x.depth ≤ n ∧ PyData.eqv x x = true
theorem pys_ok {n : Nat} : ∀ {ds : List D}, (∀ d ∈ ds, ∃ x, d.py = some x ∧ PyOk n x) → ∃ xs, D.pys ds = some xs ∧ PyData.canLayAll0 xs = true ∧ PyData.depthAll xs ≤ n ∧ PyData.eqvAll xs xs = true
  | [], _ => ⟨[], by unfold D.pys; rfl, rfl, Nat.zero_le _, by rw [PyData.eqvAll]⟩
  | d :: ds, h => by
    obtain ⟨x, e1, a1, b1, c1⟩ := h d (by simp)
    obtain ⟨xs, e2, a2, b2, c2⟩ := pys_ok (ds := ds) fun d hd => h d (by simp [hd])
    refine ⟨x :: xs, by unfold D.pys; rw [e1, e2]; rfl, ?_, ?_, ?_⟩
    · rw [PyData.canLayAll0, a1, a2]; rfl
    · rw [PyData.depthAll]; exact Nat.max_le.mpr ⟨b1, b2⟩
    · rw [PyData.eqvAll, c1, c2]; rfl
theorem ints_ok : ∀ ns : List Int, PyData.canLayAll0 (ns.map PyData.int) = true ∧ PyData.depthAll (ns.map PyData.int) = 0 ∧ PyData.eqvAll (ns.map PyData.int) (ns.map PyData.int) = true
  | [] => ⟨rfl, rfl, by rw [List.map_nil, PyData.eqvAll]⟩
  | n :: ns => by
    obtain ⟨a, b, c⟩ := ints_ok ns
    refine ⟨?_, ?_, ?_⟩
    · rw [List.map_cons, PyData.canLayAll0, a]; rfl
    · rw [List.map_cons, PyData.depthAll, b]; rfl
    · rw [List.map_cons, PyData.eqvAll, c]; simp [PyData.eqv]
theorem Pl.py {n : Nat} {d : D} (p : Pl n d) : ∃ x, d.py = some x ∧ PyOk n x := by
  induction p with
  | non => exact ⟨.none, by unfold D.py; rfl, rfl, Nat.zero_le _, by rw [PyData.eqv]⟩
  | bl b => exact ⟨.bool b, by unfold D.py; rfl, rfl, Nat.zero_le _, by simp [PyData.eqv]⟩
  | int i => exact ⟨.int i, by unfold D.py; rfl, rfl, Nat.zero_le _, by simp [PyData.eqv]⟩
  | str h => exact ⟨.str _, by unfold D.py; rfl, h, Nat.zero_le _, by simp [PyData.eqv]⟩
  | lst _ ih =>
    obtain ⟨xs, e, a, b, c⟩ := pys_ok ih
    exact ⟨.list xs, by unfold D.py; rw [e]; rfl, by rw [PyData.canLay0]; exact a, by rw [PyData.depth]; omega, by rw [PyData.eqv]; exact c⟩
  | tup _ ih =>
    obtain ⟨xs, e, a, b, c⟩ := pys_ok ih
    exact ⟨.tuple xs, by unfold D.py; rw [e]; rfl, by rw [PyData.canLay0]; exact a, by rw [PyData.depth]; omega, by rw [PyData.eqv]; exact c⟩
  | @scr n ns =>
    obtain ⟨a, b, c⟩ := ints_ok ns
    exact ⟨.list (ns.map .int), by unfold D.py; rfl, by rw [PyData.canLay0]; exact a, by rw [PyData.depth, b]; omega, by rw [PyData.eqv]; exact c⟩
theorem PyOk.shaped {n : Nat} {x : PyData} (h : PyOk n x) (hn : n ≤ 64) : SeqAt.shaped x = true := by
  unfold SeqAt.shaped
  rw [h.1, Bool.true_and, decide_eq_true_iff]
  exact Nat.le_trans h.2.1 hn
section
variable {ι : Type} {K : PySem.W.Frag} {W : Wd ι} {m : ι} {Φ : ι → S → Prop}
theorem ops_eqI {i j : Int} (h : Φ m (.dat (.bl (decide (i = j))))) : OpS K W m (rEqD K) (.dat (.int i)) (.dat (.int j)) Φ := by
  refine ops_eqD (d1 := .int i) (d2 := .int j) (x1 := .int i) (x2 := .int j) rfl rfl (by unfold D.py; rfl) (by unfold D.py; rfl) (by rfl) (by rfl) ?_
  have e : PyData.eqv (.int i) (.int j) = decide (i = j) := by rw [PyData.eqv]; rfl
  rw [e]; exact h
theorem ops_neI {i j : Int} (h : Φ m (.dat (.bl (!decide (i = j))))) : OpS K W m (rNeD K) (.dat (.int i)) (.dat (.int j)) Φ := by
  refine ops_neD (d1 := .int i) (d2 := .int j) (x1 := .int i) (x2 := .int j) rfl rfl (by unfold D.py; rfl) (by unfold D.py; rfl) (by rfl) (by rfl) ?_
  have e : PyData.eqv (.int i) (.int j) = decide (i = j) := by rw [PyData.eqv]; rfl
  rw [e]; exact h
end
end DL
set_option Elab.async false
set_option linter.all false
set_option maxRecDepth 100000
set_option maxHeartbeats 1000000
namespace DL
open PySem PySem.Spec PyProof.Rows L2 Evl
/-! ### a source: a list of three numbers that is changed by each draw -/
def SrcOk (p : Addr) (m : Nat) (H : Hp) : Prop := ∃ a b n : Int, H p = some (.lst [.int a, .int b, .int n]) ∧ 0 ≤ n ∧ n + m ≤ 1048576
/-- the world has a source at p: how many draws are left, what a draw makes of the state -/
structure Src {ι : Type} (W : Wd ι) (p : Addr) where
  left : ι → Nat
  dec : ι → ι
  mem : W.M p
  out : ∀ m G H, W.I m G H → SrcOk p (left m) H
  upd : ∀ m G H H', W.I m G H → 0 < left m → (∀ x, x ≠ p → H' x = H x) → SrcOk p (left m - 1) H' → W.I (dec m) G H'
  less : ∀ m, 0 < left m → left (dec m) = left m - 1
def srcW {κ : Type} (V : Wd κ) (p : Addr) : Wd (κ × Nat) where
  M := fun a => V.M a ∨ a = p
  L := V.L
  I := fun m G H => V.I m.1 G H ∧ SrcOk p m.2 H
  dep := fun m G G' H H' x k ⟨h1, a, b, n, h2, h3, h4⟩ => ⟨V.dep _ _ _ _ _ x (fun y hy => k y (.inl hy)) h1, a, b, n, (k p (.inr rfl)).trans h2, h3, h4⟩
  has := fun m G H a ⟨h1, x, y, n, h2, _⟩ hm => by
    rcases hm with hm | rfl
    · exact V.has _ _ _ _ h1 hm
    · exact ⟨_, h2, rfl⟩
  sw := fun m G G' H a u s ⟨h1, h2⟩ => ⟨V.sw _ _ _ _ _ _ s h1, h2⟩
  pin := V.pin
  pinned := fun m G H a o ⟨h1, _⟩ hp => V.pinned _ _ _ _ _ h1 hp
def srcL {κ : Type} {V : Wd κ} {p : Addr} (np : ¬ V.M p) : Src (srcW V p) p where
  left := fun m => m.2
  dec := fun m => (m.1, m.2 - 1)
  mem := .inr rfl
  out := fun m G H h => h.2
  upd := fun m G H H' h _ ne ok => ⟨V.dep _ _ _ _ _ (Ex.refl _) (fun y hy => ne y fun z => np (by rw [← z]; exact hy)) h.1, ok⟩
  less := fun m _ => rfl
def Src.up {κ : Type} {V : Wd κ} {p q : Addr} (L : Src V q) (np : ¬ V.M p) : Src (srcW V p) q where
  left := fun m => L.left m.1
  dec := fun m => (L.dec m.1, m.2)
  mem := .inl L.mem
  out := fun m G H h => L.out _ _ _ h.1
  upd := fun m G H H' h hl ne ok => by
    have hpq : p ≠ q := fun z => np (by rw [z]; exact L.mem)
    obtain ⟨a, b, n, h2, h3, h4⟩ := h.2
    exact ⟨L.upd _ _ _ _ h.1 hl ne ok, a, b, n, (ne p hpq).trans h2, h3, h4⟩
  less := fun m h => L.less _ h
def Src.lk {κ : Type} {V : Wd κ} {q : Addr} (L : Src V q) (d : Addr) : Src (lockW V d) q := ⟨L.left, L.dec, L.mem, L.out, L.upd, L.less⟩
theorem src_grow {ι : Type} {W : Wd ι} {p : Addr} (L : Src W p) {m : ι} {G H H' : Hp} {a b n a' b' : Int} (ok : Ok W m G H) (hl : 0 < L.left m) (hp : H p = some (.lst [.int a, .int b, .int n])) (hn : 0 ≤ n ∧ n + (L.left m : Int) ≤ 1048576)
    (ne : ∀ x, x ≠ p → H' x = H x) (hp' : H' p = some (.lst [.int a', .int b', .int (n + 1)])) : Grow W G H (L.dec m) G H' := by
  have gp : G p = none := ok.off p L.mem
  refine ⟨Ex.refl G, fun x o h => ?_, fun _ _ _ _ q => q, fun x o hm h => ?_, L.upd _ _ _ _ ok.inv hl ne ⟨a', b', n + 1, hp', by omega, by omega⟩, fun _ _ _ q _ => .inr q⟩
  · have z : x ≠ p := fun z => by rw [z, gp] at h; cases h
    rw [ne x z]; exact ok.ex x o h
  · have z : x ≠ p := fun z => hm (by rw [z]; exact L.mem)
    rw [ne x z]; exact h
/-! steps over heaps -/
section
variable {σ : L2.St} {H : Hp} {Q : VK} {K : PySem.W.Frag}
theorem h_var {i : Nat} {v : V} (h : σ[i]? = some (some v)) (q : Q v H) : tVar i σ H Q := ⟨v, h, q⟩
theorem h_ix {p : Addr} {xs : List V} {i : Int} {v : V} (hp : H p = some (.lst xs)) (hi : atI xs i = some v) (q : Q v H) : rIxL K (.ref p) (.int i) H Q := ⟨p, xs, i, v, rfl, rfl, SqL.of hp, hi, q⟩
theorem h_i0 {f : Int → Int → V} {i j : Int} (q : Q (f i j) H) : rI0 f (.int i) (.int j) H Q := ⟨i, j, rfl, rfl, q⟩
theorem h_i {C : Int → Int → Prop} {f : Int → Int → V} {i j : Int} (hc : C i j) (q : Q (f i j) H) : rI C f (.int i) (.int j) H Q := ⟨i, j, rfl, rfl, hc, q⟩
theorem h_set {p : Addr} {xs : List V} {k : Int} {j : Nat} {v : V} {R : Hp → Prop} (hp : H p = some (.lst xs)) (hj : ixN xs.length k = some j) (q : R (upd H p (.lst (xs.set j v)))) : rSetL (.ref p) (.int k) v H R := ⟨p, xs, k, j, rfl, rfl, hp, hj, q⟩
end
/-! a source that is one's own is from here on a source -/
section
variable {ι : Type} {c : Cc ι} {ρ : List S} {m : ι} {t : TS} {N B C : ι → List S → Prop} {R : ι → S → Prop}
def noVw (ρ : List S) : Bool := ρ.all fun s => match s with
  | .vw _ => false
  | _ => true
theorem noVw_ok {ρ : List S} (h : noVw ρ = true) (j : Nat) (w : O) : ρ[j]? ≠ some (S.vw w) := fun z => by
  have := List.all_eq_true.mp h _ (List.mem_of_getElem? z)
  cases this
theorem relS_srcBack {κ : Type} {K : PySem.W.Frag} {Vd : Wd κ} {p : Addr} {H0 H G H' : Hp} {v : V} {s : S} (hb : ∀ a, H a = none → H0 a = none) (r : RelS K (srcW Vd p) H G H' v s) : RelS K Vd H0 G H' v s := by
  cases s with
  | no => trivial
  | el _ _ => trivial
  | dat d => exact r
  | at_ q => exact r
  | lk o => exact r
  | own o => obtain ⟨q, e, ob⟩ := r; exact ⟨q, e, ob.monoA (Ex.refl _) fun a ha => ⟨rfl, hb a (ob.ads ha).1.1, (ob.ads ha).1.2.1, fun z => (ob.ads ha).1.2.2 (.inl z)⟩⟩
  | vw o => obtain ⟨q, e, ob⟩ := r; exact ⟨q, e, ob.monoA (Ex.refl _) fun a ha => ⟨rfl, (ob.ads ha).1.1, fun z => (ob.ads ha).1.2 (.inl z)⟩⟩
  | xc C a d fs => obtain ⟨e, b, c, r⟩ := r; exact ⟨e, b, fun z => c (.inl z), r⟩
end
end DL
set_option Elab.async false
set_option linter.all false
set_option maxRecDepth 100000
set_option maxHeartbeats 1000000
namespace DL
open PySem PySem.Spec PyProof.Rows L2 Evl
variable {ι : Type} {m m' m1 : ι}
/-! ### items and arguments: own things become data -/
section
variable {c : Cc ι} {ρ : List S} {Φ : ι → S → Prop} {ta : TE} {tr : TA} {Θ : ι → List S → Prop}
theorem da_imp {Θ' : ι → List S → Prop} (h : DA c m tr ρ Θ) (i : ∀ m ss, Θ m ss → Θ' m ss) : DA c m tr ρ Θ' := fun σ G H e Q q => h σ G H e Q fun vs ss m1 G1 H1 g r p => q vs ss m1 G1 H1 g r (i m1 ss p)
def DAF (c : Cc ι) (m : ι) (tr : TA) (ρ : List S) (Θ : ι → List S → Prop) : Prop := DA c m tr ρ fun m ss' => ∃ ss, ss' = ss.map S.frz ∧ Θ m ss
theorem daf_nil (h : Θ m []) : DAF c m tNil ρ Θ := da_nil ⟨[], rfl, h⟩
theorem daf_cons (h : De c m ta ρ fun m s => DAF c m tr ρ fun m ss => Θ m (s :: ss)) : DAF c m (tCons ta tr) ρ Θ :=
  da_cons (fun σ G H e Q q => h σ G H e _ fun v s m1 G1 H1 g r p => by
    obtain ⟨G2, g2, r2⟩ := r.freeze g
    exact q v s.frz m1 G2 H1 g2 r2 (da_imp p fun m2 ss' ⟨ss, e1, h1⟩ => ⟨s :: ss, by rw [e1]; rfl, h1⟩))
theorem daf_star (h : De c m ta ρ fun m s => ∃ ds, (s.tup? = some ds ∨ s.lst? = some ds) ∧ DAF c m tr ρ fun m ss => Θ m (ds.map S.dat ++ ss)) : DAF c m (StX.tStar c.K ta tr) ρ Θ :=
  da_star (h.imp fun m s ⟨ds, hs, p⟩ => ⟨ds, hs, da_imp p fun m2 ss' ⟨ss, e1, h1⟩ => ⟨ds.map S.dat ++ ss, by rw [e1, List.map_append, List.map_map]; rfl, h1⟩⟩)
/-! items -/
def isD : S → Bool
  | .dat _ => true | .own _ => true | _ => false
def unD : S → D
  | .dat d => d | .own o => o.frz | _ => .non
def LstK (n : Nat) (ss : List S) (P : List D → Prop) : Prop := ss.all isD = true ∧ ss.length ≤ n ∧ P (ss.map unD)
theorem lk_nil {n : Nat} {P : List D → Prop} (h : P []) : LstK n [] P := ⟨rfl, Nat.zero_le _, h⟩
theorem lk_dat {n : Nat} {d : D} {ss : List S} {P : List D → Prop} (h : LstK n ss fun ds => P (d :: ds)) : LstK (n + 1) (.dat d :: ss) P := ⟨by rw [List.all_cons, h.1]; rfl, by have := h.2.1; rw [List.length_cons]; omega, h.2.2⟩
theorem lk_own {n : Nat} {o : O} {ss : List S} {P : List D → Prop} (h : LstK n ss fun ds => P (o.frz :: ds)) : LstK (n + 1) (.own o :: ss) P := ⟨by rw [List.all_cons, h.1]; rfl, by have := h.2.1; rw [List.length_cons]; omega, h.2.2⟩
theorem lk_lst {n : Nat} {es : List D} {ss : List S} {P : List D → Prop} (h : LstK n ss fun ds => P (.lst es :: ds)) : LstK (n + 1) (.own (.lst es) :: ss) P := lk_own h
theorem lk_dK {n : Nat} {es : List (Key × D)} {ss : List S} {P : List D → Prop} (h : LstK n ss fun ds => P (.dic es :: ds)) : LstK (n + 1) (.own (.dK es) :: ss) P := lk_own h
theorem lk_dT {n : Nat} {es : List (List Key × D)} {ss : List S} {P : List D → Prop} (h : LstK n ss fun ds => P (.dit es :: ds)) : LstK (n + 1) (.own (.dT es) :: ss) P := lk_own h
theorem lk_app {n k : Nat} {es : List D} {ss : List S} {P : List D → Prop} (hk : es.length ≤ k) (h : LstK n ss fun ds => P (es ++ ds)) : LstK (n + k) (es.map S.dat ++ ss) P := by
  refine ⟨?_, ?_, ?_⟩
  · rw [List.all_append, h.1, Bool.and_true, List.all_map, List.all_eq_true]
    intro x _; rfl
  · have := h.2.1
    rw [List.length_append, List.length_map]; omega
  · rw [List.map_append, List.map_map]
    have e : es.map (unD ∘ S.dat) = es := by
      conv => rhs; rw [← List.map_id es]
      rfl
    rw [e]
    exact h.2.2
theorem isD_frz {ss : List S} (h : ss.all isD = true) : ss.map S.frz = (ss.map unD).map S.dat := by
  induction ss with
  | nil => rfl
  | cons s ss ih =>
    rw [List.all_cons] at h
    obtain ⟨q1, q2⟩ := Bool.and_eq_true_iff.mp h
    rw [List.map_cons, List.map_cons, List.map_cons, ih q2]
    cases s <;> first | rfl | cases q1
theorem de_tupG (h : DAF c m tr ρ fun m ss => LstK 1000 ss fun ds => Φ m (.dat (.tup ds))) : De c m (tTup tr) ρ Φ :=
  de_tup (da_imp h fun m ss' ⟨ss, e, a, b, p⟩ => ⟨_, e.trans (isD_frz a), by rw [List.length_map]; omega, p⟩)
theorem de_lstG (h : DAF c m tr ρ fun m ss => LstK 1000 ss fun ds => Φ m (.own (.lst ds))) : De c m (tLst tr) ρ Φ :=
  de_lst (da_imp h fun m ss' ⟨ss, e, a, b, p⟩ => ⟨_, e.trans (isD_frz a), by rw [List.length_map]; omega, p⟩)
/-! arguments -/
def frzOk : S → Bool
  | .own _ => true | .dat _ => true | .at_ _ => true | .vw _ => true | _ => false
def ArgK (ss : List S) (P : List S → Prop) : Prop := ss.all frzOk = true ∧ P (ss.map S.frz)
theorem ak_nil {P : List S → Prop} (h : P []) : ArgK [] P := ⟨rfl, h⟩
theorem ak_dat {d : D} {ss : List S} {P : List S → Prop} (h : ArgK ss fun ds => P (.dat d :: ds)) : ArgK (.dat d :: ss) P := ⟨by rw [List.all_cons, h.1]; rfl, h.2⟩
theorem ak_at {p : Addr} {ss : List S} {P : List S → Prop} (h : ArgK ss fun ds => P (.at_ p :: ds)) : ArgK (.at_ p :: ss) P := ⟨by rw [List.all_cons, h.1]; rfl, h.2⟩
theorem ak_vw {o : O} {ss : List S} {P : List S → Prop} (h : ArgK ss fun ds => P (.vw o :: ds)) : ArgK (.vw o :: ss) P := ⟨by rw [List.all_cons, h.1]; rfl, h.2⟩
theorem ak_own {o : O} {ss : List S} {P : List S → Prop} (h : ArgK ss fun ds => P (.dat o.frz :: ds)) : ArgK (.own o :: ss) P := ⟨by rw [List.all_cons, h.1]; rfl, h.2⟩
theorem ak_lst {es : List D} {ss : List S} {P : List S → Prop} (h : ArgK ss fun ds => P (.dat (.lst es) :: ds)) : ArgK (.own (.lst es) :: ss) P := ak_own h
theorem ak_dK {es : List (Key × D)} {ss : List S} {P : List S → Prop} (h : ArgK ss fun ds => P (.dat (.dic es) :: ds)) : ArgK (.own (.dK es) :: ss) P := ak_own h
theorem ak_dT {es : List (List Key × D)} {ss : List S} {P : List S → Prop} (h : ArgK ss fun ds => P (.dat (.dit es) :: ds)) : ArgK (.own (.dT es) :: ss) P := ak_own h
theorem frz_arg {s : S} (h : frzOk s = true) : argS s.frz = true := by cases s <;> first | rfl | cases h
theorem all_arg : ∀ {ss : List S}, ss.all frzOk = true → (ss.map S.frz).all argS = true
  | [], _ => rfl
  | s :: ss, h => by
    rw [List.all_cons] at h
    obtain ⟨q1, q2⟩ := Bool.and_eq_true_iff.mp h
    rw [List.map_cons, List.all_cons, frz_arg q1, all_arg q2]
    rfl
theorem de_callG {C : Fc} (h : DAF c m tr ρ fun m ss => ArgK ss fun ss => C ι c.W m ss Φ c.Ξ) : De c m (tCall (spF c.K C) [] c.E tr) ρ Φ :=
  de_call (da_imp h fun m ss' ⟨ss, e, a, b⟩ => by subst e; exact ⟨all_arg a, b⟩)
theorem de_call0G {C : Fc} (h : DAF c m tr ρ fun m ss => ArgK ss fun ss => C ι c.W m ss Φ fun _ _ _ => False) : De c m (tCall (spF c.K C) [] E0 tr) ρ Φ :=
  de_call0 (da_imp h fun m ss' ⟨ss, e, a, b⟩ => by subst e; exact ⟨all_arg a, b⟩)
end
/-! ### a value that is dropped -/
section
variable {c : Cc ι} {ρ : List S} {N B C : ι → List S → Prop} {R : ι → S → Prop} {K : PySem.W.Frag} {sp : Sp} {ds : List V} {E : XK} {tr : TA} {T : String} {te : TE} {r : V → List V → Hp → VK → Prop} {rb : List V → Hp → VK → Prop}
theorem ds_dropC (h : De c m (tCall sp ds E tr) ρ fun m _ => N m ρ) : Ds c m (tDrop (tCall sp ds E tr)) ρ N R B C := ds_drop h
theorem ds_dropB (h : De c m (tCB rb tr) ρ fun m _ => N m ρ) : Ds c m (tDrop (tCB rb tr)) ρ N R B C := ds_drop h
theorem ds_drop0 (h : De c m (tBM0 K T r te) ρ fun m _ => N m ρ) : Ds c m (tDrop (tBM0 K T r te)) ρ N R B C := ds_drop h
end
/-! ### slots that are forgotten -/
inductive Wk : List S → List S → Prop
  | nil : Wk [] []
  | keep {s : S} {a b : List S} : Wk a b → Wk (s :: a) (s :: b)
  | drop {s : S} {a b : List S} : Wk a b → Wk (s :: a) (.no :: b)
theorem Wk.refl : ∀ a : List S, Wk a a
  | [] => .nil
  | _ :: a => .keep (Wk.refl a)
theorem Wk.len {a b : List S} (h : Wk a b) : b.length = a.length := by
  induction h with
  | nil => rfl
  | keep _ ih => simp [ih]
  | drop _ ih => simp [ih]
theorem Wk.get {a b : List S} (h : Wk a b) : ∀ {i : Nat} {s : S}, b[i]? = some s → s = .no ∨ a[i]? = some s := by
  induction h with
  | nil => intro i s h; simp at h
  | keep _ ih =>
    intro i s h
    cases i with
    | zero => exact .inr h
    | succ i => exact ih (i := i) (by simpa using h)
  | drop _ ih =>
    intro i s h
    cases i with
    | zero => left; simp at h; exact h.symm
    | succ i => exact ih (i := i) (by simpa using h)
def elsOk (b : List S) : Bool := b.all fun s => match s with
  | .el i _ => (match b[i]? with
    | some (.own (.nest _)) => true
    | _ => false)
  | _ => true
theorem elsOk_ok {b : List S} (h : elsOk b = true) {k i j : Nat} (hk : b[k]? = some (.el i j)) : ∃ its, b[i]? = some (.own (.nest its)) := by
  have h1 := List.all_eq_true.mp h _ (List.mem_of_getElem? hk)
  have h1 : (match b[i]? with
    | some (.own (.nest _)) => true
    | _ => false) = true := h1
  cases e : b[i]? with
  | none => rw [e] at h1; cases h1
  | some s =>
    rw [e] at h1
    cases s with
    | own o => cases o with
      | nest its => exact ⟨its, rfl⟩
      | one o => cases h1
      | ins C fs => cases h1
    | _ => cases h1
theorem EnvOk.wk {c : Cc ι} {G H : Hp} {σ : L2.St} {a b : List S} (w : Wk a b) (he : elsOk b = true) (e : EnvOk c m G H σ a) : EnvOk c m G H σ b := by
  refine ⟨e.ok0, e.gr, e.exc, by rw [w.len]; exact e.len, fun i s h => ?_, fun i j o o' p q hij hi hj pi pj => ?_, fun k i j hk => ?_, fun k o p hk hp => ?_⟩
  · rcases w.get h with z | z
    · exact .inl z
    · exact e.at_ i s z
  · rcases w.get hi with z | z
    · cases z
    · rcases w.get hj with z2 | z2
      · cases z2
      · exact e.sep i j o o' p q hij z z2 pi pj
  · rcases w.get hk with z | z
    · cases z
    · obtain ⟨its, p, vs, q, o, e1, e2⟩ := e.els k i j z
      obtain ⟨its', h2⟩ := elsOk_ok he hk
      rcases w.get h2 with y | y
      · cases y
      · rw [e1] at y
        cases y
        exact ⟨its, p, vs, q, o, h2, e2⟩
  · rcases w.get hk with z | z
    · cases z
    · exact e.vws k o p z hp
def WkJ (ρ : List S) (P : List S → Prop) : Prop := ∃ ρ', Wk ρ ρ' ∧ elsOk ρ' = true ∧ P ρ'
section
variable {c : Cc ι} {ρ : List S} {t u : TS} {tt : TT} {N B C : ι → List S → Prop} {R : ι → S → Prop} {wi : TI} {g : TG}
theorem Ds.weak {B' C' N' : ι → List S → Prop} (h : Ds c m t ρ N R B C) (hn : ∀ m ρ, N m ρ → WkJ ρ (N' m)) (hb : ∀ m ρ, B m ρ → B' m ρ) (hc : ∀ m ρ, C m ρ → C' m ρ) : Ds c m t ρ N' R B' C' := fun D σ G H e k1 k2 k3 k4 =>
  h D σ G H e (fun ρ' σ' m' G' H' n x f => by obtain ⟨ρ2, w, we, n2⟩ := hn _ _ n; exact k1 ρ2 σ' m' G' H' n2 x (f.wk w we)) k2 (fun ρ' σ' m' G' H' n x f => k3 ρ' σ' m' G' H' (hb _ _ n) x f) (fun ρ' σ' m' G' H' n x f => k4 ρ' σ' m' G' H' (hc _ _ n) x f)
theorem DG.wk {vs : List Nat} {d : D} {ρ1 ρ2 ρ3 : List S} (w : Wk ρ1 ρ2) (we : elsOk ρ2 = true) (h : DG c m g vs d ρ2 ρ3) : DG c m g vs d ρ1 ρ3 := fun v σ G H e r Q q => h v σ G H (e.wk w we) r Q fun σ' k z => q σ' (fun m' G' H' x f => k m' G' H' x (f.wk w we)) z
theorem DT.wk {ρ1 ρ2 : List S} {Φ : ι → Bool → Prop} (w : Wk ρ1 ρ2) (we : elsOk ρ2 = true) (h : DT c m tt ρ2 Φ) : DT c m tt ρ1 Φ := fun σ G H e Q q => h σ G H (e.wk w we) Q q
theorem De.wk {te : TE} {ρ1 ρ2 : List S} {Φ : ι → S → Prop} (w : Wk ρ1 ρ2) (we : elsOk ρ2 = true) (h : De c m te ρ2 Φ) : De c m te ρ1 Φ := fun σ G H e Q q => h σ G H (e.wk w we) Q q
theorem ds_forget {ρ' : List S} (w : Wk ρ ρ') (h : Ds c m t ρ' N R B C) (we : elsOk ρ' = true := by with_unfolding_all rfl) : Ds c m t ρ N R B C := fun D σ G H e k1 k2 k3 k4 => h D σ G H (e.wk w we) k1 k2 k3 k4
theorem ds_forW {vs : List Nat} (h : DI c m wi ρ fun m ds => ∃ J : Nat → ι → List S → Prop, WkJ ρ (J 0 m) ∧ (∀ i d m ρ', ds[i]? = some d → J i m ρ' → ∃ ρ2, DG c m g vs d ρ' ρ2 ∧ Ds c m t ρ2 (fun m ρ' => WkJ ρ' (J (i + 1) m)) R N (fun m ρ' => WkJ ρ' (J (i + 1) m))) ∧ ∀ m ρ', J ds.length m ρ' → N m ρ') : Ds c m (tFor wi g t) ρ N R B C := by
  have key : Ds c m (tFor wi g t) ρ (fun m ρ => N m ρ ∨ WkJ ρ (N m)) R B C := by
    refine ds_for (vs := vs) fun σ G H e R' q => h σ G H e R' fun I ds m' G' H' gg it ⟨J, ⟨ρ0, w0, we0, j0⟩, jt, jd⟩ => ?_
    refine q I ds m' G' H' gg it ⟨fun i m ρ => WkJ ρ (J i m), ⟨ρ0, w0, we0, j0⟩, ?_, ?_⟩
    · rintro i d m ρ1 hd ⟨ρ2, w, we, j⟩
      obtain ⟨ρ3, dg, hs⟩ := jt i d m ρ2 hd j
      exact ⟨ρ3, dg.wk w we, hs.imp (fun _ _ n => n) (fun _ _ n => n) (fun _ ρ n => .inl n) (fun _ _ n => n)⟩
    · rintro m ρ1 ⟨ρ2, w, we, j⟩
      exact .inr ⟨ρ2, w, we, jd m ρ2 j⟩
  exact fun D σ G H e k1 k2 k3 k4 => key D σ G H e (fun ρ' σ' m' G' H' n x f => by
    rcases n with n | ⟨ρ2, w, we, n⟩
    · exact k1 ρ' σ' m' G' H' n x f
    · exact k1 ρ2 σ' m' G' H' n x (f.wk w we)) k2 k3 k4
/-- a block in two parts -/
theorem ds_cut (M : ι → List S → Prop) (h1 : Ds c m t ρ (fun m ρ => WkJ ρ (M m)) R B C) (h2 : ∀ m ρ, M m ρ → Ds c m u ρ N R B C) : Ds c m (tSeq t u) ρ N R B C :=
  ds_seq (h1.imp (fun m ρ ⟨ρ', w, we, n⟩ => ds_forget w (h2 m ρ' n) we) (fun _ _ n => n) (fun _ _ n => n) (fun _ _ n => n))
end
/-! ### a def's body -/
theorem run_fnP {K : PySem.W.Frag} {F : Fc} {Nm : List Str} {t : TS} {vs : List V} {H : Hp} {Q : VK} {E : XK} {n k : Nat} (pad : List S) (hN : Nm.length = n + k) (hv : vs.length = n) (hpad : pad = List.replicate k .no) (h : spF K F vs H Q E)
    (body : ∀ κ W m ss Φ Ξ G, F κ W m ss Φ Ξ → Ds ⟨K, W, E, Ξ, m, G, H⟩ m t (ss ++ pad) (fun m _ => Φ m (.dat .non)) Φ (fun _ _ => False) (fun _ _ => False)) :
    t { nx := fun _ H' => Q .non H', rt := Q } (L2.start Nm vs) H := by
  obtain ⟨κ, W, m, G, ss, Φ, Ξ, ok, rs, rest⟩ := h
  have hl : ss.length = n := by rw [← rs.length]; exact hv
  refine run_fn (F := fun κ W m ss Φ Ξ => ss.length = n ∧ F κ W m ss Φ Ξ) (by omega) ⟨κ, W, m, G, ss, Φ, Ξ, ok, rs, rest.1, ⟨hl, rest.2.1⟩, rest.2.2⟩ fun κ W m ss Φ Ξ G ⟨hl2, hf⟩ => ?_
  have e : Nm.length - ss.length = k := by omega
  rw [e, ← hpad]
  exact body κ W m ss Φ Ξ G hf
end DL
set_option Elab.async false
set_option linter.all false
set_option maxRecDepth 100000
set_option maxHeartbeats 1000000
namespace DL
open PySem PySem.Spec PyProof.Rows L2 Evl
/-! rules whose readings name the given heap K, and not a context's field: these also fit within a block -/
section
variable {X : Cx} {K : PySem.W.Frag}
theorem k_isi (hK : X.K = K) : CallR X (.builtin "isinstance") (rIsiW K) := by
  subst hK
  intro pins s σ H xs us Q I r h
  rcases h with h | ⟨a, o, kvs, T, b, rfl, ea, hb, q⟩
  · exact call_isi pins s σ H xs us Q I r h
  · obtain ⟨u1, u2, rfl, r1, r2⟩ := vals2 r
    cases (show u1 = Value.ref a from r1)
    cases (show u2 = Value.type T from r2)
    obtain ⟨_, _, _, _, _, ob, _, _, h1, h2, _⟩ := (show ObjOk X.prog X.w H s.heap a (.frz o (.dT kvs)) from I.hok a _ ea)
    exact PySem.W.kia_one (x := .ref a) PySem.W.kitx_dict I.kIn ⟨ob, h1, h2.1⟩ (kit_ty hb) (fun z => nomatch z) fun tk => ⟨.bl b, H, I.tok tk, rfl, q⟩
theorem k_len (hK : X.K = K) : CallR X (.builtin "len") (rLenA K) := by subst hK; exact call_lenA
theorem k_sum (hK : X.K = K) (hc : X.calm = true) : CallR X (.builtin "sum") (rSumA K) := by subst hK; exact call_sumA hc
theorem k_all (hK : X.K = K) (hc : X.calm = true) : CallR X (.builtin "all") (rAll K) := by subst hK; exact cr_all hc
theorem k_tupleOf (hK : X.K = K) : CallR X (.type "tuple") (fun xs H Q => ∃ p ys, xs = [V.ref p] ∧ ((SqL K H p ys ∧ ∀ l, H l = none → Q (.ref l) (upd H l (.tup ys))) ∨ (SqT K H p ys ∧ Q (.ref p) H))) := by subst hK; exact call_tuple_of
theorem k_ixL (hK : X.K = K) : IxR X (rIxL K) := by subst hK; exact ix_list
theorem k_slL (hK : X.K = K) : SlR X (rSlL K) := by subst hK; exact sl_list
theorem k_eqD (hK : X.K = K) (hu : X.A.units + 64 < cLine) : OpR X (compareOp .Eq) (rEqD K) := by subst hK; exact op_eqD hu
theorem k_neD (hK : X.K = K) (hu : X.A.units + 64 < cLine) : OpR X (compareOp .NotEq) (rNeD K) := by subst hK; exact op_neD hu
theorem k_catA (hK : X.K = K) : OpR X (binaryOp .Add) (rCatA K) := by subst hK; exact op_catA
variable {tg l e : Expr} {es : List Expr} {tl te : TE} {t : TA} {p pos : Pos}
theorem k_piL (hK : X.K = K) (hl : PE X l tl) : PI X tg l (iList K tl) := by subst hK; exact pi_list hl
theorem k_piT (hK : X.K = K) (hl : PE X l tl) : PI X tg l (iTup K tl) := by subst hK; exact pi_tup hl
theorem k_piS (hK : X.K = K) (hl : PE X l tl) : PI X tg l (iSeq K tl) := by subst hK; exact pi_seq hl
theorem k_star (hK : X.K = K) (he : PE X e te) (hr : PA X es t) (hs : starEach (.Starred e p :: es) X.env = (true, eval e X.env) :: starEach es X.env := by rfl) : PA X (.Starred e p :: es) (StX.tStar K te t) := by subst hK; exact StX.pa_star he hr hs
theorem k_gTup {es : List Expr} {k : Nat} {t : TGs} {n : Nat} (hK : X.K = K) (hc : X.calm = true) (h : PGs X es t)
    (hn : (assignEach es X.env).length = n := by rfl) (hst : (assignEach es X.env).findIdx? (·.1) = none := by rfl) : PG X (.Tuple es k pos) (gTup K n t) := by subst hK; exact pg_tup hc h hn hst
variable {T name : Str} {id : String} {r : V → List V → Hp → VK → Prop} {o : Expr} {to : TE} {apos cpos : Pos}
theorem k_app (hK : X.K = K) (ho : PE X o to) (ha : PA X (e :: es) t)
    (hbase : attributeBase o "append" X.env (eval o X.env) = eval o X.env := by rfl)
    (hfew : ((backTo cpos (starEach (e :: es) X.env)).all (fun x => !x.1) && (backToKw cpos (keywordEach [] X.env)).all (fun x => x.1.isSome)
      && decide ((e :: es).length + ([] : List Keyword).length + (if ([] : List Keyword).isEmpty then 0 else 1) < 30)) = true := by rfl)
    (hline : (apos.endLine == cpos.line) = true := by rfl) (hs : starEach (e :: es) X.env = (false, eval e X.env) :: starEach es X.env := by rfl) (hplain : (backTo cpos (starEach es X.env)).any (·.1) = false := by rfl) :
    PE X (.Call (.Attribute o "append" apos) (e :: es) [] cpos) (tBM K "list" rAppend to t) := by subst hK; exact pe_bm PySem.F.plainAttrs_list PySem.F.slot_list_append PySem.F.type_list_append mt_append ho ha hbase hfew hline hs hplain
variable {k j : Nat} {x : Str} {ps : List Str} {C : Fc}
theorem k_cl {CX : CXT} {E : XK} (c : Cl X.prog X.w K X.mg X.base CX k x ps C) (hK : X.K = K) (hr : Room j X.A) (hx : Passes CX X E) (ha : PA X (e :: es) t) (hk : k ≤ j := by decide) (hg : Gl X x := by rfl) (hdb : (x == ("__debug__" : Str)) = false := by decide)
    (he : starEach (e :: es) X.env = (false, eval e X.env) :: starEach es X.env := by rfl) (hpl : (backTo pos (starEach es X.env)).any (·.1) = false := by rfl) :
    PE X (.Call (.Name x p) (e :: es) [] pos) (tCall (spF K C) [] E t) := by subst hK; exact pcl c hr hx ha hk hg hdb he hpl
theorem k_cl0 (c : Cl X.prog X.w K X.mg X.base CX0 k x ps C) (hK : X.K = K) (hr : Room j X.A) (ha : PA X (e :: es) t) (hk : k ≤ j := by decide) (hg : Gl X x := by rfl) (hdb : (x == ("__debug__" : Str)) = false := by decide)
    (he : starEach (e :: es) X.env = (false, eval e X.env) :: starEach es X.env := by rfl) (hpl : (backTo pos (starEach es X.env)).any (·.1) = false := by rfl) :
    PE X (.Call (.Name x p) (e :: es) [] pos) (tCall (spF K C) [] E0 t) := by subst hK; exact pcl c hr pass0 ha hk hg hdb he hpl
theorem k_clL (c : Cl X.prog X.w K X.mg X.base (L2.CX X.prog X.w) k x ps C) (hK : X.K = K) (hr : Room j X.A) (ha : PA X (e :: es) t) (hk : k ≤ j := by decide) (hg : Gl X x := by rfl) (hdb : (x == ("__debug__" : Str)) = false := by decide)
    (he : starEach (e :: es) X.env = (false, eval e X.env) :: starEach es X.env := by rfl) (hpl : (backTo pos (starEach es X.env)).any (·.1) = false := by rfl) :
    PE X (.Call (.Name x p) (e :: es) [] pos) (tCall (spF K C) [] E0 t) := by subst hK; exact pcl c hr passL ha hk hg hdb he hpl
end
end DL
set_option Elab.async false
set_option linter.all false
set_option maxRecDepth 100000
set_option maxHeartbeats 1000000
namespace DL
open PySem PySem.Spec PyProof.Rows L2 Evl
/-! ### an exception's __init__ -/
section
variable {K : PySem.W.Frag} {C : Addr} {H : Hp} {Q : VK} {E : XK} {vs : List V} {f g k : Str}
theorem init1 (T : OexC K C) (n1 : PySem.W.findIn K (.ref C) f = some none) (h : spX C [f] vs H Q E) : tOst K f (tVar 0) (tVar 1) { nx := fun _ H' => Q .non H', rt := Q } (L2.start ["self", f] vs) H := by
  obtain ⟨a, ws, rfl, hl, ha, hq⟩ := h
  match ws, hl with
  | [w], _ => exact ⟨w, rfl, _, rfl, a, C, rfl, T, n1, .inl ⟨ha, fun dx hd ne => hq dx hd ne⟩⟩
end
def oexB1 (o : Obj) (C : Addr) : Bool := match o with
  | ⟨.type t, _, .cls cd, sl⟩ => (match cd.mro, sl.toList with
    | .ref C' :: bm, [_, _, _, _, some (.builtin n), _] => decide (t = "type") && (decide (C' = C) && (decide (n = "ValueError.__new__") && (!cd.hasDel && (cd.hasDict && PySem.HandSPX.refsVE bm))))
    | _, _ => false)
  | _ => false
def oexB (K : PySem.W.Frag) (C : Addr) : Bool := (match K.lookup C with
  | some o => oexB1 o C
  | _ => false) && (He.eqO (PySem.W.findIn K (.ref C) "__setattr__") (some (some (.builtin "object.__setattr__"))) && (decide (PySem.W.subIn K (.ref C) (.type "BaseException") = some true) && (decide (PySem.W.typeIn K (.ref C) = some (.type "type")) && (PySem.W.keepIn K (.ref C) && xfB K C))))
theorem oexB1_ok {o : Obj} {C : Addr} (h : oexB1 o C = true) : ∃ nm q N bs bm sn sub ab col dd k0 k1 k2 k3 k5, o = excClassObj nm q C N bs bm true sn sub ab col dd k0 k1 k2 k3 k5 "ValueError.__new__" ∧ PySem.HandSPX.refsVE bm = true := by
  obtain ⟨oc, od, dt, sl⟩ := o
  cases oc with
  | type t =>
    cases dt with
    | cls cd =>
      obtain ⟨nm, bs, mro, ns, qn, hd, sn, sb, ab, col, del⟩ := cd
      obtain ⟨sl⟩ := sl
      unfold oexB1 at h
      dsimp only at h
      split at h
      · obtain ⟨h1, h⟩ := He.ba h
        obtain ⟨h2, h⟩ := He.ba h
        obtain ⟨h3, h⟩ := He.ba h
        obtain ⟨h4, h⟩ := He.ba h
        obtain ⟨h5, h6⟩ := He.ba h
        have e1 := of_decide_eq_true h1
        have e2 := of_decide_eq_true h2
        have e3 := of_decide_eq_true h3
        subst e1 e2 e3 h5
        cases del with
        | true => cases h4
        | false => exact ⟨_, _, _, _, _, _, _, _, _, _, _, _, _, _, _, rfl, h6⟩
      · cases h
    | _ => cases h
  | _ => cases dt <;> cases h
theorem oexB_ok {K : PySem.W.Frag} {C : Addr} (h : oexB K C = true) : OexC K C ∧ XfC K C := by
  obtain ⟨h1, h⟩ := He.ba h
  obtain ⟨h2, h⟩ := He.ba h
  obtain ⟨h3, h⟩ := He.ba h
  obtain ⟨h4, h⟩ := He.ba h
  obtain ⟨h5, h6⟩ := He.ba h
  refine ⟨⟨?_, He.eqO_ok h2, of_decide_eq_true h3, of_decide_eq_true h4, h5⟩, xfB_ok h6⟩
  cases e : K.lookup C with
  | none => rw [e] at h1; cases h1
  | some o =>
    rw [e] at h1
    obtain ⟨nm, q, N, bs, bm, sn, sub, ab, col, dd, k0, k1, k2, k3, k5, e2, e3⟩ := oexB1_ok h1
    exact ⟨nm, q, N, bs, bm, sn, sub, ab, col, dd, k0, k1, k2, k3, k5, by rw [e2], e3⟩
theorem isFn_ok {K : PySem.W.Frag} {v : Value} (h : PySem.W.isFn K v = true) : PySem.W.typeIn K v = some (.type "function") := by
  unfold PySem.W.isFn at h
  exact beq_iff_eq.mp h
/-! ### the start of a law -/
def scrOf (H : Hp) : Hp := fun b => match H b with
  | some (.lst xs) => some (.lst xs)
  | some (.frz o (.lst xs)) => some (.frz o (.lst xs))
  | _ => none
theorem start_law {K : PySem.W.Frag} {F : Fc} {H : Hp} {a : Addr} {ns : List Int} (hS : SqL K H a (ns.map V.int)) (hF : F Unit W0 () [.dat (.scr ns)] (fun _ s => s = .dat (.bl true)) fun _ _ _ => False) :
    spF K F [.ref a] H (fun v _ => v = .bl true) fun _ _ _ => False := by
  have ex : Ex (scrOf H) H := fun b o h => by
    unfold scrOf at h
    split at h
    · rename_i e; rw [e]; exact h
    · rename_i e; rw [e]; exact h
    · cases h
  refine ⟨Unit, W0, (), scrOf H, [.dat (.scr ns)], fun _ s => s = .dat (.bl true), fun _ _ _ => False, ⟨ex, trivial, fun _ z => z.elim, fun b o u h hu => ?_⟩, ?_, rfl, hF, ?_, fun _ _ _ _ _ _ _ _ _ _ _ _ _ z => z.elim⟩
  · unfold scrOf at h
    split at h
    · cases h
    · rename_i xs e; cases h; exact (hu xs rfl).elim
    · cases h
  · refine .cons (Rp.scr ?_) .nil
    rcases hS with hS | hS
    · left
      rcases hS with hS | ⟨o, hS⟩
      · exact .inl (by unfold scrOf; rw [hS])
      · exact .inr ⟨o, by unfold scrOf; rw [hS]⟩
    · exact .inr hS
  · intro v s m' G' H' _ r e
    subst e
    cases r
    rfl
end DL
set_option Elab.async false
set_option linter.all false
set_option maxRecDepth 100000
set_option maxHeartbeats 1000000
namespace DL
open PySem PySem.Spec PyProof.Rows L2 Evl
variable {ι : Type} {m m' m1 : ι}
/-! ### a list of new own things -/
section
variable {K : PySem.W.Frag} {F : Addr → Prop} {G H : Hp}
theorem RIts.append : ∀ {vs ws : List V} {is js : List It}, RIts K F G H vs is → RIts K F G H ws js → RIts K F G H (vs ++ ws) (is ++ js)
  | _, _, _, _, .nil, s => s
  | _, _, _, _, .cons h r, s => .cons h (RIts.append r s)
theorem kids_append {vs ws : List V} {is js : List It} (h : vs.length = is.length) : kids (vs ++ ws) (is ++ js) = kids vs is ++ kids ws js := by
  induction vs generalizing is with
  | nil =>
    cases is with
    | nil => rfl
    | cons _ _ => simp at h
  | cons v vs ih =>
    cases is with
    | nil => simp at h
    | cons i is =>
      have h2 : vs.length = is.length := by simpa using h
      cases i with
      | d d => rw [List.cons_append, List.cons_append, kids_d, kids_d, ih h2]
      | o o =>
        cases v with
        | ref q => rw [List.cons_append, List.cons_append, kids_o, kids_o, ih h2]; rfl
        | _ =>
          have e : ∀ (w : V) (l : List V) (k : List It), (∀ q, w ≠ .ref q) → kids (w :: l) (.o o :: k) = kids l k := fun w l k hw => by cases w <;> first | rfl | exact absurd rfl (hw _)
          rw [List.cons_append, List.cons_append, e _ _ _ (fun _ z => by cases z), e _ _ _ (fun _ z => by cases z), ih h2]
end
section
variable {c : Cc ι} {ρ : List S} {Φ : ι → S → Prop} {te : TE} {tt : TT} {wi : TI} {g : TG} {vs : List Nat}
theorem de_lcN (h : DI c m wi ρ fun m ds => ds.length < 1000000 ∧ ∃ J : Nat → ι → List O1 → Prop, J 0 m [] ∧
    (∀ i d m acc, ds[i]? = some d → J i m acc → ∃ ρ', DG c m g vs d (wipeS ρ vs) ρ' ∧ De c m te ρ' fun m s => ∃ o, s = .own (.one o) ∧ J (i + 1) m (acc ++ [o])) ∧
    ∀ m acc, J ds.length m acc → Φ m (.own (.nest (acc.map It.o)))) (hw : noEls vs ρ = true := by with_unfolding_all rfl) : De c m (tLc wi g tYes te vs) ρ Φ := fun σ G H e Q q => h σ G H e _ fun I ds m1 G1 H1 g1 it ⟨hl, J, j0, jt, jd⟩ => fun Dd hD => by
  have e1 := e.grow g1
  have mD : ¬ c.W.M Dd := fun m => c.W.ne e1.ok.inv m hD
  have gD : G1 Dd = none := fresh_back e1.ok.ex hD
  let W : Nat → Nat → Hp → Prop := fun i m H2 => m = ds.length - i ∧ i ≤ ds.length ∧ ∃ m2 G2 xs acc, Grow c.W G1 H1 m2 G2 H2 ∧ H2 Dd = some (.lst xs) ∧ G2 Dd = none ∧ RIts c.K (Fr c.W H1 G2) G2 H2 xs (acc.map It.o) ∧ (Dd :: kids xs (acc.map It.o)).Nodup ∧ acc.length ≤ i ∧ J i m2 acc
  refine ⟨W, ⟨ds.length, by simp, Nat.zero_le _, m1, G1, [], [], (e1.refl).mut hD gD mD, upd_same, gD, .nil, by simp [kids], Nat.le_refl _, j0⟩, ?_⟩
  rintro i m H2 ⟨em, hi, m2, G2, xs, acc, g2, hx, hn, rx, nd, ha, j⟩
  have e2 := e1.grow g2
  obtain ⟨ih1, ih2⟩ := it m2 G2 H2 g2.ex e2.ok i
  by_cases hlt : i < ds.length
  · right
    have hd : ds[i]? = some ds[i] := by simp [hlt]
    obtain ⟨go, yl⟩ := ih1 _ hd
    refine ⟨go, W (i + 1) (m - 1), fun H' w => ⟨m - 1, by omega, w⟩, fun x H' y => ?_⟩
    obtain ⟨G3, g3, r3⟩ := yl x H' y
    obtain ⟨ρ', dg, ht⟩ := jt i _ m2 acc hd j
    have e3 := (e2.grow g3).wipe vs hw
    refine dg x _ G3 H' e3 r3 _ fun σ' f4 hw' => ⟨hw'.trans (wipe_wipe σ vs), ?_⟩
    have e4 := f4 _ _ _ (Ex.refl _) e3
    dsimp only [tYes]
    rw [if_pos rfl]
    refine ht σ' G3 H' e4 _ fun v s m5 G5 H5 g5 r5 ⟨o, es, j'⟩ => ?_
    subst es
    obtain ⟨p, rfl, fp, ob⟩ := r5
    have g35 := g3.trans g5
    have k1 : H5 Dd = some (.lst xs) := g35.keep _ _ mD hx
    have k2 : G5 Dd = none := g35.fresh _ _ hx rfl hn
    have rk := rx.monoA g35.ex (F' := Fr c.W H1 G5) (H' := H5) fun a ha => by
      obtain ⟨f, u, hu, t⟩ := rx.kid ha
      exact g35.fr a f ⟨u, hu, pln_t t⟩
    have new : ∀ a, H' a ≠ none → a ≠ p := fun a ha z => ha (by rw [z]; exact fp.1)
    have pD : Dd ≠ p := new Dd (by rw [g3.keep _ _ mD hx]; exact fun z => by cases z)
    have pk : p ∉ kids xs (acc.map It.o) := fun z => by
      obtain ⟨f, u, hu, t⟩ := rx.kid z
      exact new p (by rw [(g3.fr p f ⟨u, hu, pln_t t⟩).1, hu]; exact fun z => by cases z) rfl
    have p1 : H1 p = none := (g2.trans g3).back fp.1
    have len := rx.length
    rw [List.length_map] at len
    obtain ⟨n1, n2⟩ := List.nodup_cons.mp nd
    have ndk : (kids xs (acc.map It.o) ++ kids [V.ref p] [It.o o]).Nodup := by
      rw [List.nodup_append]
      refine ⟨n2, by simp [kids], fun a ha b hb z => ?_⟩
      simp [kids] at hb
      exact pk (by rw [← hb, ← z]; exact ha)
    have up : RIts c.K (Fr c.W H1 G5) G5 (upd H5 Dd (.lst (xs ++ [V.ref p]))) (xs ++ [V.ref p]) ((acc ++ [o]).map It.o) := by
      rw [List.map_append]
      refine RIts.append (rk.monoA (Ex.refl _) fun a ha => ⟨upd_ne fun z => n1 (by rw [← z]; exact ha), (rk.kid ha).1⟩) (.cons ⟨p, rfl, ⟨p1, fp.2⟩, ob.mono (Ex.refl _) (upd_ne (Ne.symm pD))⟩ .nil)
    refine ⟨xs, k1, szl (by omega), by omega, hlt, m5, G5, xs ++ [V.ref p], acc ++ [o], (g2.trans g35).mut hD k2 mD, upd_same, k2, up, ?_, by rw [List.length_append]; show acc.length + 1 ≤ i + 1; omega, j'⟩
    rw [List.map_append, kids_append (by rw [List.length_map]; exact len)]
    refine List.nodup_cons.mpr ⟨fun z => ?_, ndk⟩
    rcases List.mem_append.mp z with z | z
    · exact n1 z
    · simp [kids] at z; exact pD z
  · left
    have hl2 : i = ds.length := by omega
    refine ⟨ih2 hl2, ?_⟩
    subst hl2
    refine q (.ref Dd) (.own (.nest (acc.map It.o))) m2 G2 H2 (g1.trans g2) ⟨Dd, rfl, ⟨g1.back hD, hn, mD⟩, xs, hx, rx.monoA (Ex.refl _) fun a ha => ⟨rfl, ?_⟩, nd⟩ (jd m2 acc j)
    obtain ⟨f, _⟩ := rx.kid ha
    exact ⟨g1.back f.1, f.2⟩
/-- [f x for x in ..], each f x a new own thing -/
theorem de_lcNM {f : D → O1} (h : DI c m wi ρ fun m ds => ds.length < 1000000 ∧ (∀ d ∈ ds, ∃ ρ', DG c m g vs d (wipeS ρ vs) ρ' ∧ De c m te ρ' fun m' s => m' = m ∧ s = .own (.one (f d))) ∧ Φ m (.own (.nest (ds.map fun d => It.o (f d))))) (hw : noEls vs ρ = true := by with_unfolding_all rfl) : De c m (tLc wi g tYes te vs) ρ Φ :=
  de_lcN (h.imp fun m ds ⟨hl, h1, h2⟩ => ⟨hl, fun i m2 acc => m2 = m ∧ acc = (ds.take i).map f, by simp, fun i d m2 acc hd ⟨em, ha⟩ => by
    subst em
    obtain ⟨ρ', h3, h4⟩ := h1 d (List.mem_of_getElem? hd)
    refine ⟨ρ', h3, h4.imp fun m3 s ⟨em, hs⟩ => ⟨f d, hs, em, ?_⟩⟩
    rw [ha, List.take_add_one, hd]
    simp, fun m2 acc ⟨em, ha⟩ => by rw [em, ha, List.take_length, List.map_map]; exact h2⟩) hw
end
end DL
set_option Elab.async false
set_option linter.all false
set_option maxRecDepth 100000
set_option maxHeartbeats 1000000
/-! plain mathematics: binomials -/
namespace KM
def ch : Nat → Nat → Nat
  | _, 0 => 1
  | 0, _ + 1 => 0
  | n + 1, k + 1 => ch n k + ch n (k + 1)
@[simp] theorem ch_zero (n : Nat) : ch n 0 = 1 := by cases n <;> rfl
@[simp] theorem ch_zs (k : Nat) : ch 0 (k + 1) = 0 := rfl
theorem ch_ss (n k : Nat) : ch (n + 1) (k + 1) = ch n k + ch n (k + 1) := rfl
theorem ch_gt : ∀ {n k : Nat}, n < k → ch n k = 0
  | _, 0, h => by omega
  | 0, k + 1, _ => rfl
  | n + 1, k + 1, h => by rw [ch_ss, ch_gt (by omega), ch_gt (by omega)]
theorem succ_mul : ∀ n k : Nat, (n + 1) * ch n k = ch (n + 1) (k + 1) * (k + 1)
  | 0, 0 => rfl
  | 0, k + 1 => by simp [ch_ss]
  | n + 1, 0 => by
    have h := succ_mul n 0
    rw [ch_zero] at h
    rw [ch_zero, ch_ss (n + 1) 0, ch_zero]
    omega
  | n + 1, k + 1 => by
    have h1 := succ_mul n k
    have h2 := succ_mul n (k + 1)
    rw [ch_ss (n + 1) (k + 1), Nat.add_mul (ch (n + 1) (k + 1)), ← h2]
    have e : ch (n + 1) (k + 1) * (k + 1 + 1) = ch (n + 1) (k + 1) * (k + 1) + ch (n + 1) (k + 1) := Nat.mul_succ _ _
    rw [e, ← h1]
    have e2 : (n + 1 + 1) * ch (n + 1) (k + 1) = (n + 1) * ch (n + 1) (k + 1) + ch (n + 1) (k + 1) := Nat.succ_mul _ _
    rw [e2, ch_ss n k, Nat.mul_add]
    omega
theorem ch_step (n k : Nat) : ch n (k + 1) * (k + 1) = ch n k * (n - k) := by
  have e : (n + 1) * ch n k = ch n (k + 1) * (k + 1) + ch n k * (k + 1) := by
    rw [← Nat.add_mul, Nat.add_comm (ch n (k + 1)), ← ch_ss, succ_mul]
  by_cases h : k ≤ n
  · have e2 : (n + 1) * ch n k = ch n k * (n - k) + ch n k * (k + 1) := by
      rw [← Nat.mul_add, show n - k + (k + 1) = n + 1 by omega, Nat.mul_comm]
    omega
  · rw [ch_gt (by omega : n < k), ch_gt (by omega : n < k + 1)]
    simp
theorem ch_div (n k : Nat) : ch n k * (n - k) / (k + 1) = ch n (k + 1) := by
  rw [← ch_step]
  exact Nat.mul_div_cancel _ (by omega)
theorem ch_divI (n k : Nat) : (ch n k : Int) * max 0 ((n : Int) - k) / ((k : Int) + 1) = ch n (k + 1) := by
  have e : max (0 : Int) ((n : Int) - k) = ((n - k : Nat) : Int) := by omega
  rw [e, ← ch_div n k]
  push_cast
  rfl
end KM
/-! the dues come to all teams -/
namespace KM
def G : Nat → (Nat → Nat) → Nat
  | 0, f => f 0
  | n + 1, f => G n f + G n fun j => f (j + 1)
def rs (s : Nat) (g : Nat → Nat) : Nat → Nat
  | 0 => 0
  | k + 1 => rs s g k + ch s k * g k
theorem rs_succ (s : Nat) : ∀ (k : Nat) (g : Nat → Nat), rs (s + 1) g (k + 1) = rs s g (k + 1) + rs s (fun j => g (j + 1)) k
  | 0, g => by simp [rs]
  | k + 1, g => by
    show rs (s + 1) g (k + 1) + ch (s + 1) (k + 1) * g (k + 1) = (rs s g (k + 1) + ch s (k + 1) * g (k + 1)) + (rs s (fun j => g (j + 1)) k + ch s k * g (k + 1))
    rw [rs_succ s k g, ch_ss, Nat.add_mul]
    omega
theorem rs_G : ∀ (s : Nat) (g : Nat → Nat), rs s g (s + 1) = G s g
  | 0, g => by simp [rs, G]
  | s + 1, g => by
    rw [rs_succ, rs_G s, G, rs, rs_G s, ch_gt (by omega)]
    simp
theorem sum_range (s : Nat) (g : Nat → Nat) : ∀ k, ((List.range k).map fun n => ch s n * g n).sum = rs s g k
  | 0 => rfl
  | k + 1 => by
    rw [List.range_succ, List.map_append, List.sum_append, sum_range s g k, rs]
    simp
theorem G_add : ∀ (a b : Nat) (f : Nat → Nat), G a (fun c => G b fun n => f (c + n)) = G (a + b) f
  | 0, b, f => by simp [G]
  | a + 1, b, f => by
    rw [G, G_add a b f]
    have e := G_add a b fun j => f (j + 1)
    have e2 : (fun c => G b fun n => f (c + 1 + n)) = fun c => G b fun n => f (c + n + 1) := by
      funext c
      congr 1
      funext n
      congr 1
      omega
    rw [e2, e, Nat.add_right_comm a 1 b, G]
theorem G_zero : ∀ n : Nat, G n (fun _ => 0) = 0
  | 0 => rfl
  | n + 1 => by rw [G, G_zero n]
theorem G_ind : ∀ (n t : Nat), G n (fun j => if j = t then 1 else 0) = ch n t
  | 0, 0 => rfl
  | 0, t + 1 => by simp [G]
  | n + 1, 0 => by
    rw [G, G_ind n 0]
    have : (fun j => if j + 1 = 0 then 1 else 0) = fun _ : Nat => 0 := by funext j; simp
    rw [this, G_zero, ch_zero, ch_zero]
  | n + 1, t + 1 => by
    rw [G, G_ind n (t + 1)]
    have : (fun j => if j + 1 = t + 1 then 1 else 0) = fun j : Nat => if j = t then 1 else 0 := by funext j; simp
    rw [this, G_ind n t, ch_ss]
    omega
end KM
set_option Elab.async false
set_option linter.all false
set_option maxRecDepth 100000
set_option maxHeartbeats 1000000
namespace Pf
open PySem PySem.Spec PyProof.Rows L2 DL
abbrev FnP (K : PySem.W.Frag) (x : Str) (st : Stmt) (f : Addr) (fd : FuncData) : Prop := FunD K x x (defArgs st) (defBody st) (defScope st) [] [] f fd
structure BI (mg : Str → Option Value) : Prop where
  len : mg "len" = none
  isinstance : mg "isinstance" = none
  int_ : mg "int" = none
  bool_ : mg "bool" = none
  list_ : mg "list" = none
  tuple_ : mg "tuple" = none
  dict_ : mg "dict" = none
  range : mg "range" = none
  max : mg "max" = none
  min : mg "min" = none
  sum : mg "sum" = none
  all : mg "all" = none
  any : mg "any" = none
  sorted : mg "sorted" = none
  zip : mg "zip" = none
  enumerate : mg "enumerate" = none
  str_ : mg "str" = none
  set_ : mg "set" = none
  repr : mg "repr" = none
  reversed : mg "reversed" = none
theorem spF_len {K : PySem.W.Frag} {C : Fc} {m : Nat} (h : ∀ κ W m' ss Φ Ξ, C κ W m' ss Φ Ξ → ss.length = m) (vs : List V) (H : Hp) (Q : VK) (E : XK) (q : spF K C vs H Q E) : vs.length = m := by
  obtain ⟨κ, W, m', G, ss, Φ, Ξ, _, rs, _, c, _⟩ := q
  rw [rs.length]
  exact h κ W m' ss Φ Ξ c
theorem rng_at {lo : Int} {n i : Nat} {d : D} (h : (rngD lo n)[i]? = some d) : i < n ∧ d = .int (lo + (i : Nat)) := by
  have hi : i < n := by
    have := (List.getElem?_eq_some_iff.mp h).1
    simpa [rngD] using this
  refine ⟨hi, ?_⟩
  unfold rngD at h
  rw [List.getElem?_map, List.getElem?_range hi] at h
  exact (Option.some.inj h).symm
theorem rng_len {lo : Int} {n : Nat} : (rngD lo n).length = n := by simp [rngD]
theorem hu65 {A : Around} {k : Nat} (hr : Room k A) : A.units + 65 < cLine := by have := hr.un; omega
end Pf
set_option Elab.async false
set_option linter.all false
set_option maxRecDepth 100000
set_option maxHeartbeats 1000000
namespace Pf
open PySem PySem.Spec PyProof.Rows L2 DL
/-! ### lists of numbers as data -/
def dN (sz : List Nat) : List D := sz.map fun n => D.int (n : Nat)
theorem dN_ints (sz : List Nat) : dN sz = (sz.map fun n : Nat => (n : Int)).map D.int := by simp [dN, List.map_map]
theorem dN_len (sz : List Nat) : (dN sz).length = sz.length := by simp [dN]
theorem dN_mem {sz : List Nat} {d : D} (h : d ∈ dN sz) : ∃ n : Nat, n ∈ sz ∧ d = .int n := by
  unfold dN at h
  obtain ⟨n, hn, rfl⟩ := List.mem_map.mp h
  exact ⟨n, hn, rfl⟩
theorem dN_get {sz : List Nat} {i : Nat} : (dN sz)[i]? = (sz[i]?).map fun n => D.int (n : Nat) := by simp [dN]
theorem sumI (sz : List Nat) : (sz.map fun n : Nat => (n : Int)).sum = (sz.sum : Nat) := by
  induction sz with
  | nil => rfl
  | cons a l ih => simp [ih]
def isSeq (s : S) (ns : List Nat) : Prop := s = .dat (.lst (dN ns)) ∨ s = .dat (.tup (dN ns))
def GSz (sz : List Nat) : Prop := 1 ≤ sz.length ∧ (∀ s ∈ sz, 1 ≤ s) ∧ sz.sum ≤ 10
theorem len_le_sum : ∀ {sz : List Nat}, (∀ s ∈ sz, 1 ≤ s) → sz.length ≤ sz.sum
  | [], _ => Nat.le_refl _
  | a :: l, h => by
    have h1 := h a (by simp)
    have h2 := len_le_sum (sz := l) fun s hs => h s (by simp [hs])
    simp
    omega
theorem mem_le_sum : ∀ {sz : List Nat} {s : Nat}, s ∈ sz → s ≤ sz.sum
  | a :: l, s, h => by
    simp
    rcases List.mem_cons.mp h with rfl | h
    · omega
    · have := mem_le_sum h; omega
section
variable {ι : Type} {K : PySem.W.Frag} {W : Wd ι} {m : ι} {Φ : ι → S → Prop}
theorem cb_sumN {s : S} {sz : List Nat} (h1 : s.lst? = some (dN sz) ∨ s.tup? = some (dN sz)) (h : Φ m (.dat (.int (sz.sum : Nat)))) : CbS K W m (rSumA K) [s] Φ := by
  refine cb_sum (ns := sz.map fun n : Nat => (n : Int)) ?_ ?_
  · rw [← dN_ints]; exact h1
  · rw [sumI]; exact h
theorem cb_allM {ds : List D} {t : D → Bool} (h : Φ m (.dat (.bl (ds.all t)))) : CbS K W m (rAll K) [.own (.lst (ds.map fun d => .bl (t d)))] Φ := by
  refine cb_all (bs := ds.map t) (by show some _ = _; rw [List.map_map]; rfl) ?_
  have e : (ds.map t).all id = ds.all t := by rw [List.all_map]; rfl
  rw [e]; exact h
theorem cb_allT {α : Type} {l : List α} (h : Φ m (.dat (.bl true))) : CbS K W m (rAll K) [.own (.lst (l.map fun _ => D.bl true))] Φ := by
  refine cb_all (bs := l.map fun _ => true) (by show some _ = _; rw [List.map_map]; rfl) ?_
  have e : (l.map fun _ => true).all id = true := by rw [List.all_map]; simp
  rw [e]; exact h
end
/-! ### games -/
def gD (gs : List (Nat × Nat)) : List (Key × D) := gs.map fun p => (Sum.inl (p.1 : Int), D.int (p.2 : Nat))
theorem gD_len (gs : List (Nat × Nat)) : (gD gs).length = gs.length := by simp [gD]
theorem gD_keys (gs : List (Nat × Nat)) : (gD gs).map (·.1) = (gs.map fun p => (p.1 : Int)).map Sum.inl := by simp [gD, List.map_map]
theorem gD_mem {gs : List (Nat × Nat)} {p : Key × D} (h : p ∈ gD gs) : ∃ t v : Nat, (t, v) ∈ gs ∧ p = (Sum.inl (t : Int), D.int v) := by
  unfold gD at h
  obtain ⟨⟨t, v⟩, hn, rfl⟩ := List.mem_map.mp h
  exact ⟨t, v, hn, rfl⟩
/-- how often a team of t people plays -/
def gv (gs : List (Nat × Nat)) (t : Nat) : Option Nat := (gs.find? fun p => decide (p.1 = t)).map (·.2)
theorem gD_val (gs : List (Nat × Nat)) (t : Nat) : valD (gD gs) (Sum.inl (t : Int)) = (gv gs t).map fun v => D.int (v : Nat) := by
  induction gs with
  | nil => rfl
  | cons p l ih =>
    obtain ⟨a, v⟩ := p
    by_cases h : a = t
    · subst h; simp [valD, gD, gv]
    · have h2 : (a : Int) ≠ t := by omega
      have e1 : valD (gD ((a, v) :: l)) (Sum.inl (t : Int)) = valD (gD l) (Sum.inl (t : Int)) := by simp [valD, gD, h2]
      have e2 : gv ((a, v) :: l) t = gv l t := by simp [gv, h]
      rw [e1, e2, ih]
theorem gv_mem {gs : List (Nat × Nat)} (nd : (gs.map (·.1)).Nodup) {t v : Nat} (h : (t, v) ∈ gs) : gv gs t = some v := by
  induction gs with
  | nil => cases h
  | cons p l ih =>
    obtain ⟨a, u⟩ := p
    rw [List.map_cons, List.nodup_cons] at nd
    rcases List.mem_cons.mp h with h | h
    · cases h; simp [gv]
    · have : a ≠ t := fun z => nd.1 (by rw [z]; exact List.mem_map.mpr ⟨_, h, rfl⟩)
      have e2 : gv ((a, u) :: l) t = gv l t := by simp [gv, this]
      rw [e2]; exact ih nd.2 h
theorem gv_some {gs : List (Nat × Nat)} {t v : Nat} (h : gv gs t = some v) : (t, v) ∈ gs := by
  unfold gv at h
  cases z : gs.find? fun p => decide (p.1 = t) with
  | none => rw [z] at h; cases h
  | some p =>
    rw [z] at h
    cases h
    have h1 := List.find?_some z
    have h2 := List.mem_of_find?_eq_some z
    simp at h1
    subst h1
    exact h2
/-- all teams of the games -/
def tot (n : Nat) (gs : List (Nat × Nat)) : Nat := (gs.map fun p => p.2 * KM.ch n p.1).sum
structure GGm (n : Nat) (gs : List (Nat × Nat)) : Prop where
  l1 : 1 ≤ gs.length
  l2 : gs.length ≤ 2
  ok : ∀ t v : Nat, (t, v) ∈ gs → 1 ≤ t ∧ t ≤ 4 ∧ t ≤ n ∧ 1 ≤ v ∧ v ≤ 3
  nd : (gs.map (·.1)).Nodup
def Good (sz : List Nat) (gs : List (Nat × Nat)) : Prop := GSz sz ∧ GGm sz.sum gs ∧ tot sz.sum gs ≤ 130
end Pf
set_option Elab.async false
set_option linter.all false
set_option maxRecDepth 100000
set_option maxHeartbeats 1000000
namespace Pf
open PySem PySem.Spec PyProof.Rows L2 DL
/-! ### tuples below sizes -/
abbrev tD (k : List Nat) : D := .tup (dN k)
def stepT (acc : List (List Nat)) (s : Nat) : List (List Nat) := acc.flatMap fun one => (List.range (s + 1)).map fun n => one ++ [n]
def TB (sz : List Nat) : List (List Nat) := sz.foldl stepT [[]]
theorem stepT_len (acc : List (List Nat)) (s : Nat) : (stepT acc s).length = acc.length * (s + 1) := by
  unfold stepT
  induction acc with
  | nil => simp
  | cons a l ih => simp [ih, Nat.add_mul]; omega
theorem le_two (s : Nat) : s + 1 ≤ 2 ^ s := by
  induction s with
  | zero => simp
  | succ n ih => rw [Nat.pow_succ]; omega
theorem fold_len (sz : List Nat) : ∀ acc, (sz.foldl stepT acc).length ≤ acc.length * 2 ^ sz.sum := by
  induction sz with
  | nil => intro acc; simp
  | cons s l ih =>
    intro acc
    rw [List.foldl_cons]
    refine Nat.le_trans (ih _) ?_
    rw [stepT_len, List.sum_cons, Nat.pow_add, Nat.mul_assoc]
    exact Nat.mul_le_mul_left _ (Nat.mul_le_mul_right _ (le_two s))
theorem TB_len {sz : List Nat} (h : sz.sum ≤ 10) : (TB sz).length ≤ 1024 := by
  have := fold_len sz [[]]
  unfold TB
  refine Nat.le_trans this ?_
  have : 2 ^ sz.sum ≤ 2 ^ 10 := Nat.pow_le_pow_right (by decide) h
  simpa using this
theorem sum_take_le (sz : List Nat) (i : Nat) : (sz.take i).sum ≤ sz.sum := by
  have := congrArg List.sum (List.take_append_drop i sz)
  rw [List.sum_append] at this
  omega
theorem TB_succ {sz : List Nat} {i s : Nat} (h : sz[i]? = some s) : TB (sz.take (i + 1)) = stepT (TB (sz.take i)) s := by
  unfold TB
  rw [List.take_add_one, h]
  simp
/-- k lies below sz -/
def Below (k sz : List Nat) : Prop := k.length = sz.length ∧ ∀ i a s : Nat, k[i]? = some a → sz[i]? = some s → a ≤ s
theorem fold_mem (sz : List Nat) : ∀ (acc : List (List Nat)) (k : List Nat), k ∈ sz.foldl stepT acc ↔ ∃ a b, a ∈ acc ∧ Below b sz ∧ k = a ++ b := by
  induction sz with
  | nil =>
    intro acc k
    rw [List.foldl_nil]
    constructor
    · intro h; exact ⟨k, [], h, ⟨rfl, fun i a s h => by simp at h⟩, by simp⟩
    · rintro ⟨a, b, ha, ⟨hb, _⟩, rfl⟩
      have : b = [] := List.length_eq_zero_iff.mp hb
      subst this
      simpa using ha
  | cons s l ih =>
    intro acc k
    rw [List.foldl_cons, ih]
    constructor
    · rintro ⟨a, b, ha, ⟨hl, hb⟩, rfl⟩
      unfold stepT at ha
      obtain ⟨one, h1, h2⟩ := List.mem_flatMap.mp ha
      obtain ⟨n, h3, rfl⟩ := List.mem_map.mp h2
      refine ⟨one, n :: b, h1, ⟨by simp [hl], fun i x y hx hy => ?_⟩, by simp⟩
      cases i with
      | zero =>
        simp at hx hy
        subst hx hy
        have := List.mem_range.mp h3
        omega
      | succ j => exact hb j x y (by simpa using hx) (by simpa using hy)
    · rintro ⟨a, b, ha, ⟨hl, hb⟩, rfl⟩
      cases b with
      | nil => simp at hl
      | cons n b =>
        refine ⟨a ++ [n], b, ?_, ⟨by simpa using hl, fun i x y hx hy => hb (i + 1) x y (by simpa using hx) (by simpa using hy)⟩, by simp⟩
        unfold stepT
        refine List.mem_flatMap.mpr ⟨a, ha, List.mem_map.mpr ⟨n, List.mem_range.mpr ?_, rfl⟩⟩
        have := hb 0 n s rfl rfl
        omega
theorem TB_mem {sz k : List Nat} : k ∈ TB sz ↔ Below k sz := by
  unfold TB
  rw [fold_mem]
  constructor
  · rintro ⟨a, b, ha, hb, rfl⟩
    simp at ha
    subst ha
    simpa using hb
  · intro h
    exact ⟨[], k, by simp, h, by simp⟩
/-! ### kinds -/
def dsum : D → Int
  | .tup xs => (xs.map fun | .int i => i | _ => 0).sum
  | _ => 0
theorem dsum_tD (k : List Nat) : dsum (tD k) = (k.sum : Nat) := by
  show ((k.map fun n : Nat => D.int (n : Nat)).map fun | .int i => i | _ => 0).sum = _
  rw [List.map_map, ← sumI]
  rfl
def tS (d e : D) : Bool := match d with
  | .int a => decide (dsum e = a)
  | _ => false
/-- the sizes of teams, in order -/
def ks (gs : List (Nat × Nat)) : List Nat := (srt (gs.map fun p => (p.1 : Int))).map Int.toNat
theorem ks_int (gs : List (Nat × Nat)) : srt (gs.map fun p => (p.1 : Int)) = (ks gs).map fun n : Nat => (n : Int) := by
  unfold ks
  rw [List.map_map]
  have : ∀ x ∈ srt (gs.map fun p => (p.1 : Int)), 0 ≤ x := fun x hx => by
    have := (srt_perm _).mem_iff.mp hx
    obtain ⟨p, _, rfl⟩ := List.mem_map.mp this
    omega
  conv => lhs; rw [← List.map_id (srt _)]
  apply List.map_congr_left
  intro x hx
  have := this x hx
  simp only [id, Function.comp]
  omega
theorem ks_perm (gs : List (Nat × Nat)) : (ks gs).Perm (gs.map (·.1)) := by
  have h := (srt_perm (gs.map fun p => (p.1 : Int))).map Int.toNat
  rw [List.map_map] at h
  unfold ks
  refine h.trans (List.Perm.of_eq ?_)
  apply List.map_congr_left
  intro p _
  simp
theorem ks_mem {gs : List (Nat × Nat)} {t : Nat} : t ∈ ks gs ↔ ∃ v, (t, v) ∈ gs := by
  rw [(ks_perm gs).mem_iff, List.mem_map]
  constructor
  · rintro ⟨⟨a, v⟩, h, rfl⟩; exact ⟨v, h⟩
  · rintro ⟨v, h⟩; exact ⟨_, h, rfl⟩
theorem ks_len (gs : List (Nat × Nat)) : (ks gs).length = gs.length := by rw [(ks_perm gs).length_eq, List.length_map]
def AK (sz : List Nat) (gs : List (Nat × Nat)) : List (List Nat) := (ks gs).flatMap fun t => (TB sz).filter fun k => decide (k.sum = t)
theorem AK_mem {sz : List Nat} {gs : List (Nat × Nat)} {k : List Nat} : k ∈ AK sz gs ↔ Below k sz ∧ ∃ v, (k.sum, v) ∈ gs := by
  unfold AK
  rw [List.mem_flatMap]
  constructor
  · rintro ⟨t, ht, hk⟩
    rw [List.mem_filter] at hk
    have : k.sum = t := by simpa using hk.2
    subst this
    exact ⟨TB_mem.mp hk.1, ks_mem.mp ht⟩
  · rintro ⟨hb, hv⟩
    exact ⟨k.sum, ks_mem.mpr hv, List.mem_filter.mpr ⟨TB_mem.mpr hb, by simp⟩⟩
theorem AK_len {sz : List Nat} {gs : List (Nat × Nat)} (h : sz.sum ≤ 10) (hg : gs.length ≤ 2) : (AK sz gs).length ≤ 2048 := by
  have key : ∀ l : List Nat, (l.flatMap fun t => (TB sz).filter fun k => decide (k.sum = t)).length ≤ l.length * 1024 := by
    intro l
    induction l with
    | nil => simp
    | cons a l ih =>
      rw [List.flatMap_cons, List.length_append, List.length_cons, Nat.add_mul]
      have h1 := List.length_filter_le (fun k : List Nat => decide (k.sum = a)) (TB sz)
      have h2 := TB_len h
      omega
  have := key (ks gs)
  rw [ks_len] at this
  unfold AK
  omega
def ways (sz k : List Nat) : Nat := ((sz.zip k).map fun p => KM.ch p.1 p.2).prod
/-! values one may ask about -/
end Pf
set_option Elab.async false
set_option linter.all false
set_option maxRecDepth 100000
set_option maxHeartbeats 1000000
namespace Pf
open KM
def due (sz : List Nat) (gs : List (Nat × Nat)) (k : List Nat) : Nat := (gv gs k.sum).getD 0 * ways sz k
theorem sum_flatMap {α β : Type} (f : β → Nat) (h : α → List β) : ∀ l : List α, ((l.flatMap h).map f).sum = (l.map fun a => ((h a).map f).sum).sum
  | [] => rfl
  | a :: l => by simp [sum_flatMap f h l]
theorem sum_mul {α : Type} (c : Nat) (f : α → Nat) : ∀ l : List α, (l.map fun a => c * f a).sum = c * (l.map f).sum
  | [] => rfl
  | a :: l => by simp [sum_mul c f l, Nat.mul_add]
theorem ways_snoc {l k : List Nat} (h : k.length = l.length) (s n : Nat) : ways (l ++ [s]) (k ++ [n]) = ways l k * ch s n := by
  unfold ways
  rw [List.zip_append h.symm]
  simp
theorem TB_snoc (l : List Nat) (s : Nat) : TB (l ++ [s]) = stepT (TB l) s := by
  unfold TB
  rw [List.foldl_append]
  rfl
theorem sum_congr {α : Type} {f g : α → Nat} : ∀ {l : List α}, (∀ a ∈ l, f a = g a) → (l.map f).sum = (l.map g).sum := fun {l} h => by rw [List.map_congr_left h]
theorem TB_G (sz : List Nat) : ∀ f : Nat → Nat, ((TB sz).map fun k => ways sz k * f k.sum).sum = G sz.sum f := by
  have key : ∀ (r : List Nat) (f : Nat → Nat), ((TB r.reverse).map fun k => ways r.reverse k * f k.sum).sum = G r.reverse.sum f := by
    intro r
    induction r with
    | nil => intro f; simp [TB, ways, G]
    | cons s r ih =>
      intro f
      rw [List.reverse_cons, TB_snoc, stepT, sum_flatMap]
      rw [show (r.reverse ++ [s]).sum = r.reverse.sum + s by simp, ← G_add, ← ih]
      apply sum_congr
      intro k hk
      have hl := (TB_mem.mp hk).1
      rw [List.map_map, ← rs_G, ← sum_range, ← sum_mul]
      apply sum_congr
      intro n _
      show ways (r.reverse ++ [s]) (k ++ [n]) * f (k ++ [n]).sum = _
      rw [ways_snoc hl, List.sum_append, Nat.mul_assoc]
      simp
  intro f
  have := key sz.reverse f
  rwa [List.reverse_reverse] at this
theorem sum_filter {α : Type} (p : α → Bool) (f : α → Nat) : ∀ l : List α, ((l.filter p).map f).sum = (l.map fun a => f a * if p a then 1 else 0).sum
  | [] => rfl
  | a :: l => by
    cases h : p a <;> simp [h, sum_filter p f l]
theorem dues_tot {sz : List Nat} {gs : List (Nat × Nat)} (nd : (gs.map (·.1)).Nodup) : ((AK sz gs).map (due sz gs)).sum = tot sz.sum gs := by
  unfold AK
  rw [sum_flatMap]
  have e1 : ((ks gs).map fun t => (((TB sz).filter fun k => decide (k.sum = t)).map (due sz gs)).sum) = (ks gs).map fun t => (gv gs t).getD 0 * ch sz.sum t := by
    apply List.map_congr_left
    intro t _
    have e2 : (((TB sz).filter fun k => decide (k.sum = t)).map (due sz gs)).sum = (((TB sz).filter fun k => decide (k.sum = t)).map fun k => (gv gs t).getD 0 * ways sz k).sum := by
      apply sum_congr
      intro k hk
      have : k.sum = t := by simpa using (List.mem_filter.mp hk).2
      unfold due
      rw [this]
    rw [e2, sum_mul, sum_filter]
    congr 1
    rw [← G_ind, ← TB_G]
    apply sum_congr
    intro k _
    simp
  rw [e1]
  have p := (ks_perm gs).map fun t => (gv gs t).getD 0 * ch sz.sum t
  rw [p.sum_nat, List.map_map]
  unfold tot
  apply sum_congr
  rintro ⟨t, v⟩ h
  show (gv gs t).getD 0 * ch sz.sum t = v * ch sz.sum t
  rw [gv_mem nd h]
  rfl
end Pf
set_option Elab.async false
set_option linter.all false
namespace Pf
open PySem PySem.Spec PyProof.Rows L2 DL
def top (i : Nat) : Stmt := PySem.Challenge.pw_allteams_k08_texts_of_tables.main.body.getD i (.Pass ⟨0, 0, 0, 0⟩)
end Pf
set_option Elab.async false
set_option linter.all false
set_option maxRecDepth 100000
set_option maxHeartbeats 1000000
namespace DL
open PySem PySem.Spec PyProof.Rows L2 Evl
/-! ### sorted of data -/
end DL
set_option Elab.async false
set_option linter.all false
set_option maxRecDepth 100000
set_option maxHeartbeats 1000000
namespace DL
open PySem PySem.Spec PyProof.Rows L2 Evl
/-! ### instances: an instance under __init__ is in the world's state; afterwards it is data -/
def putD' (f : Str) (d : D) : List (Str × D) → List (Str × D)
  | [] => [(f, d)]
  | (g, x) :: r => if g = f then (g, d) :: r else (g, x) :: putD' f d r
def InsOk (K : PySem.W.Frag) (a dx C : Addr) (fs : List (Str × D)) (G H : Hp) : Prop := H dx = some (.own a) ∧ ∃ fv, H a = some (.ins C dx fv) ∧ fv.map (·.1) = fs.map (·.1) ∧ RpL K G (fv.map (·.2)) (fs.map (·.2))
theorem putF_rp {K : PySem.W.Frag} {G : Hp} {f : Str} {v : V} {d : D} (r : Rp K G v d) : ∀ {fv : List (Str × V)} {fs : List (Str × D)}, fv.map (·.1) = fs.map (·.1) → RpL K G (fv.map (·.2)) (fs.map (·.2)) → (putF f v fv).map (·.1) = (putD' f d fs).map (·.1) ∧ RpL K G ((putF f v fv).map (·.2)) ((putD' f d fs).map (·.2))
  | [], [], _, _ => ⟨rfl, .one r⟩
  | [], _ :: _, k, _ => by cases k
  | _ :: _, [], k, _ => by cases k
  | (g, x) :: fv, (g', y) :: fs, k, rs => by
    simp only [List.map_cons, List.cons.injEq] at k
    obtain ⟨k1, k2⟩ := k
    subst k1
    cases rs with
    | cons r1 rs =>
      unfold putF putD'
      by_cases h : g = f
      · rw [if_pos h, if_pos h]
        exact ⟨by simp [k2], .cons r rs⟩
      · rw [if_neg h, if_neg h]
        obtain ⟨a, b⟩ := putF_rp r k2 rs
        exact ⟨by simp [a], .cons r1 b⟩
theorem lookup_rpI {K : PySem.W.Frag} {G : Hp} {f : Str} {d : D} : ∀ {fv : List (Str × V)} {fs : List (Str × D)}, fv.map (·.1) = fs.map (·.1) → RpL K G (fv.map (·.2)) (fs.map (·.2)) → fs.lookup f = some d → ∃ v, fv.lookup f = some v ∧ Rp K G v d
  | [], [], _, _, h => by cases h
  | [], _ :: _, k, _, _ => by cases k
  | _ :: _, [], k, _, _ => by cases k
  | (g, x) :: fv, (g', y) :: fs, k, rs, h => by
    simp only [List.map_cons, List.cons.injEq] at k
    obtain ⟨k1, k2⟩ := k
    subst k1
    cases rs with
    | cons r1 rs =>
      rw [List.lookup_cons] at h ⊢
      cases e : (f == g) with
      | true => rw [e] at h; simp at h; subst h; exact ⟨x, rfl, r1⟩
      | false => rw [e] at h; exact lookup_rpI k2 rs h
theorem lookup_none {α β : Type} {f : Str} : ∀ {fv : List (Str × α)} {fs : List (Str × β)}, fv.map (·.1) = fs.map (·.1) → fs.lookup f = none → fv.lookup f = none
  | [], [], _, _ => rfl
  | [], _ :: _, k, _ => by cases k
  | _ :: _, [], k, _ => by cases k
  | (g, x) :: fv, (g', y) :: fs, k, h => by
    simp only [List.map_cons, List.cons.injEq] at k
    obtain ⟨k1, k2⟩ := k
    subst k1
    rw [List.lookup_cons] at h ⊢
    cases e : (f == g) with
    | true => rw [e] at h; cases h
    | false => rw [e] at h; exact lookup_none k2 h
/-- the world has an instance of C at a -/
structure Ins (K : PySem.W.Frag) {ι : Type} (W : Wd ι) (a C : Addr) where
  get : ι → List (Str × D)
  put : ι → List (Str × D) → ι
  mem : W.M a
  out : ∀ m G H, W.I m G H → ∃ dx, InsOk K a dx C (get m) G H
  upd : ∀ m G H H' fs dx, W.I m G H → InsOk K a dx C (get m) G H → (∀ x, x ≠ a → H' x = H x) → InsOk K a dx C fs G H' → W.I (put m fs) G H'
  gp : ∀ m fs, get (put m fs) = fs
  pp : ∀ m fs fs', put (put m fs) fs' = put m fs'
def insW {κ : Type} (K : PySem.W.Frag) (Vd : Wd κ) (a dx C : Addr) : Wd (κ × List (Str × D)) where
  M := fun x => Vd.M x ∨ x = a ∨ x = dx
  L := Vd.L
  I := fun m G H => Vd.I m.1 G H ∧ InsOk K a dx C m.2 G H
  dep := fun m G G' H H' x k ⟨h1, h2, fv, h3, h4, h5⟩ => ⟨Vd.dep _ _ _ _ _ x (fun y hy => k y (.inl hy)) h1, (k dx (.inr (.inr rfl))).trans h2, fv, (k a (.inr (.inl rfl))).trans h3, h4, h5.mono x⟩
  has := fun m G H b ⟨h1, h2, fv, h3, _⟩ hm => by
    rcases hm with hm | rfl | rfl
    · exact Vd.has _ _ _ _ h1 hm
    · exact ⟨_, h3, rfl⟩
    · exact ⟨_, h2, rfl⟩
  sw := fun m G G' H b u s ⟨h1, h2, fv, h3, h4, h5⟩ => ⟨Vd.sw _ _ _ _ _ _ s h1, h2, fv, h3, h4, h5.swap s⟩
  pin := Vd.pin
  pinned := fun m G H b o ⟨h1, _⟩ hp => Vd.pinned _ _ _ _ _ h1 hp
def insL {κ : Type} {K : PySem.W.Frag} {Vd : Wd κ} {a dx C : Addr} (na : ¬ Vd.M a) : Ins K (insW K Vd a dx C) a C where
  get := fun m => m.2
  put := fun m fs => (m.1, fs)
  mem := .inr (.inl rfl)
  out := fun m G H h => ⟨dx, h.2⟩
  upd := fun m G H H' fs dx' h h2 ne ok => by
    have e : dx' = dx := by
      obtain ⟨_, fv, e1, _⟩ := h2
      obtain ⟨_, _, fv', e2, _⟩ := h
      rw [e1] at e2
      injection e2 with e2
      injection e2
    subst e
    exact ⟨Vd.dep _ _ _ _ _ (Ex.refl _) (fun y hy => ne y fun z => na (by rw [← z]; exact hy)) h.1, ok⟩
  gp := fun _ _ => rfl
  pp := fun _ _ _ => rfl
def Ins.lk {κ : Type} {K : PySem.W.Frag} {Vd : Wd κ} {a C : Addr} (L : Ins K Vd a C) (d : Addr) : Ins K (lockW Vd d) a C := ⟨L.get, L.put, L.mem, L.out, L.upd, L.gp, L.pp⟩
section
variable {ι : Type} {c : Cc ι} {ρ : List S} {m : ι} {ta tv : TE} {N B C' : ι → List S → Prop} {R : ι → S → Prop} {Φ : ι → S → Prop} {a C : Addr} {f : Str}
theorem ins_ne {a dx C : Addr} {K : PySem.W.Frag} {fs : List (Str × D)} {G H : Hp} (h : InsOk K a dx C fs G H) : dx ≠ a := fun z => by
  obtain ⟨h1, fv, h2, _⟩ := h
  rw [z, h2] at h1
  cases h1
/-- self.f = e -/
theorem ds_fld {i : Nat} (L : Ins c.K c.W a C) (hi : ρ[i]? = some (.at_ a)) (hc : Cls c.K C) (hn : NoAttr c.K C f)
    (h : De c m tv ρ fun m' s => ∃ d, s.frz = .dat d ∧ (L.get m').length < 1000 ∧ N (L.put m' (putD' f d (L.get m'))) ρ) : Ds c m (sFld c.K (tVar i) tv f) ρ N R B C' := fun D σ G H e k1 _ _ _ => by
  refine h σ G H e _ fun v s m1 G1 H1 g r ⟨d, hd, hl, hN⟩ => ?_
  obtain ⟨G2, g2, r2, x2⟩ := r.freezeX g
  rw [hd] at r2
  have r2 : Rp c.K G2 v d := r2
  have e2 := e.grow g2
  have hv : σ[i]? = some (some (.ref a)) := by
    rcases e.at_ i _ hi with z | ⟨w, aw, rfl⟩
    · cases z
    · exact aw
  obtain ⟨dx, io⟩ := L.out _ _ _ e2.gr.inv
  obtain ⟨h1, fv, h2, h3, h4⟩ := id io
  have hlen : fv.length = (L.get m1).length := by simpa using congrArg List.length h3
  refine ⟨_, hv, a, C, dx, fv, rfl, h2, hc, hn, by omega, ?_⟩
  have ga : G2 a = none := e2.ok.off a L.mem
  obtain ⟨p1, p2⟩ := putF_rp (f := f) r2 h3 h4
  have iv : c.W.I (L.put m1 (putD' f d (L.get m1))) G2 (upd H1 a (.ins C dx (putF f v fv))) := L.upd _ _ _ _ _ dx e2.gr.inv io (fun x hx => upd_ne hx) ⟨by rw [upd_ne (ins_ne io)]; exact h1, _, upd_same, p1, p2⟩
  have g3 : Grow c.W G2 H1 (L.put m1 (putD' f d (L.get m1))) G2 (upd H1 a (.ins C dx (putF f v fv))) :=
    ⟨Ex.refl _, e2.gr.sub.mut ga, fun _ _ _ _ q => q, fun x o hm hx => by rw [upd_ne fun z => hm (by rw [z]; exact L.mem)]; exact hx, iv, fun _ _ _ q _ => .inr q⟩
  exact k1 ρ σ _ _ _ hN g2.ex (e2.grow g3)
/-- e.f of an instance that is data -/
theorem de_fld (h : De c m ta ρ fun m' s => ∃ C fs d, s.frz = .dat (.ins C fs) ∧ Cls c.K C ∧ NoAttr c.K C f ∧ fs.lookup f = some d ∧ Φ m' (.dat d)) : De c m (tFld c.K ta f) ρ Φ := fun σ G H e Q q =>
  h σ G H e _ fun v s m1 G1 H1 g r ⟨C, fs, d, hs, hc, hn, hl, hΦ⟩ => by
    obtain ⟨G2, g2, r2, x2⟩ := r.freezeX g
    rw [hs] at r2
    have r2 : Rp c.K G2 v (.ins C fs) := r2
    cases r2 with
    | @ins a dx _ fv _ e1 e2 k rs =>
      obtain ⟨w, lw, rw'⟩ := lookup_rpI k rs hl
      exact ⟨a, C, dx, fv, w, rfl, g2.sub _ _ e1, hc, hn, lw, q w (.dat d) m1 G2 H1 g2 rw' hΦ⟩
/-- e.f, a property -/
theorem de_prop {F : Fc} (h : De c m ta ρ fun m' s => ∃ fs, s.frz = .dat (.ins C fs) ∧ F ι c.W m' [.dat (.ins C fs)] Φ fun _ _ _ => False) : De c m (tProp C (spF c.K F) [] E0 ta) ρ Φ := fun σ G H e Q q =>
  h σ G H e _ fun v s m1 G1 H1 g r ⟨fs, hs, hF⟩ => by
    obtain ⟨G2, g2, r2, x2⟩ := r.freezeX g
    rw [hs] at r2
    have r2 : Rp c.K G2 v (.ins C fs) := r2
    have r3 := r2
    cases r2 with
    | @ins a dx _ fv _ e1 e2 k rs =>
      refine ⟨a, dx, fv, rfl, g2.sub _ _ e1, ?_⟩
      exact ⟨ι, c.W, m1, G2, _, Φ, _, (e.grow g2).ok, .cons (s := .dat (.ins C fs)) r3 .nil, rfl, hF, fun v s m' G' H' g r p => q v s m' G' H' (g2.trans g) (r.back g2) p, fun _ _ _ _ _ _ _ _ _ _ _ _ _ z => z.elim⟩
/-- e.m(..) -/
theorem de_meth {F : Fc} {tr : TA} {mn : Str} {E : XK} {Ξ : Xp ι} (hE : ∀ σ G H m, EnvOk c m G H σ ρ → ExcQ c.K c.W G H Ξ E)
    (h : De c m ta ρ fun m' s => ∃ fs, s.frz = .dat (.ins C fs) ∧ fs.lookup mn = none ∧ DA c m' tr ρ fun m2 ss => ss.all argS = true ∧ F ι c.W m2 (.dat (.ins C fs) :: ss) Φ Ξ) : De c m (tMeth C mn (spF c.K F) [] E ta tr) ρ Φ := fun σ G H e Q q =>
  h σ G H e _ fun v s m1 G1 H1 g r ⟨fs, hs, hl, hA⟩ => by
    obtain ⟨G2, g2, r2, x2⟩ := r.freezeX g
    rw [hs] at r2
    have r2 : Rp c.K G2 v (.ins C fs) := r2
    have r3 := r2
    cases r2 with
    | @ins a dx _ fv _ e1 e2 k rs =>
      refine ⟨a, dx, fv, rfl, g2.sub _ _ e1, lookup_none k hl, hA σ G2 H1 (e.grow g2) _ fun vs ss m3 G3 H3 g3 r4 ⟨ha, hF⟩ => ?_⟩
      rw [List.append_nil]
      have g23 := g2.trans g3
      exact ⟨ι, c.W, m3, G3, _, Φ, Ξ, (e.grow g23).ok, .cons (s := .dat (.ins C fs)) (r3.mono g3.ex) (relss_arg r4 ha), by simp [argS, ha], hF, fun v s m' G' H' g r p => q v s m' G' H' (g23.trans g) (r.back g23) p, hE σ _ _ _ (e.grow g23)⟩
/-- C(..) -/
theorem de_make {F : Fc} {tr : TA} {E : XK} {Ξ : Xp ι} (hE : ∀ σ G H m, EnvOk c m G H σ ρ → ExcQ c.K c.W G H Ξ E)
    (h : DA c m tr ρ fun m2 ss => ss.all argS = true ∧ ∀ a dx, ¬ c.W.M a → F (ι × List (Str × D)) (insW c.K c.W a dx C) (m2, []) (.at_ a :: ss) (fun mm s => s = .dat .non ∧ Φ mm.1 (.dat (.ins C mm.2))) fun mm => Ξ mm.1) :
    De c m (tMake C (spF c.K F) [] E tr) ρ Φ := fun σ G H e Q q =>
  h σ G H e _ fun vs ss m1 G1 H1 g1 r1 ⟨ha, hF⟩ x dx hx hdx ne => by
    rw [List.append_nil]
    have ok := (e.grow g1).ok
    have hx1 : upd H1 dx (.own x) x = none := by rw [upd_ne (Ne.symm ne)]; exact hx
    have gn : Grow c.W G1 H1 m1 G1 (upd (upd H1 dx (.own x)) x (.ins C dx [])) := (Grow.new ok hdx).trans (Grow.new ((Grow.new ok hdx).ok ok) hx1)
    have gx : G1 x = none := fresh_back ok.ex hx
    have gdx : G1 dx = none := fresh_back ok.ex hdx
    have mx : ¬ c.W.M x := fun z => c.W.ne ok.inv z hx
    have mdx : ¬ c.W.M dx := fun z => c.W.ne ok.inv z hdx
    have ok' : Ok (insW c.K c.W x dx C) (m1, []) G1 (upd (upd H1 dx (.own x)) x (.ins C dx [])) := ⟨gn.sub, ⟨gn.inv, by rw [upd_ne ne]; exact upd_same, [], upd_same, rfl, .nil⟩, fun b hb => by
      rcases hb with hb | rfl | rfl
      · exact ok.off b hb
      · exact gx
      · exact gdx, ok.lk⟩
    have back : ∀ {m' : ι × List (Str × D)} {G' H' : Hp}, Grow (insW c.K c.W x dx C) G1 (upd (upd H1 dx (.own x)) x (.ins C dx [])) m' G' H' → Grow c.W G1 H1 m'.1 G' H' := fun {m' G' H'} g =>
      ⟨g.ex, g.sub, fun b o hb t hg => by
        have nb : b ≠ x := fun z => by rw [z, hx] at hb; cases hb
        have nd : b ≠ dx := fun z => by rw [z, hdx] at hb; cases hb
        exact g.fresh b o (by rw [upd_ne nb, upd_ne nd]; exact hb) t hg, fun b o hm hb => by
        have nb : b ≠ x := fun z => by rw [z, hx] at hb; cases hb
        have nd : b ≠ dx := fun z => by rw [z, hdx] at hb; cases hb
        exact g.keep b o (fun z => by
          rcases z with z | z | z
          · exact hm z
          · exact nb z
          · exact nd z) (by rw [upd_ne nb, upd_ne nd]; exact hb), g.inv.1, g.lk⟩
    have args : ∀ {vs : List V} {ss : List S}, RelSs c.K c.W H G1 H1 vs ss → ss.all argS = true → RelSs c.K (insW c.K c.W x dx C) (upd (upd H1 dx (.own x)) x (.ins C dx [])) G1 (upd (upd H1 dx (.own x)) x (.ins C dx [])) vs ss := fun {vs ss} rr => by
      induction rr with
      | nil => intro _; exact .nil
      | @cons v vs s ss r _ ih =>
        intro hs
        rw [List.all_cons] at hs
        obtain ⟨q1, q2⟩ := Bool.and_eq_true_iff.mp hs
        refine .cons ?_ (ih q2)
        cases s with
        | dat d => exact r
        | at_ p => exact r
        | vw o =>
          obtain ⟨p, rfl, ob⟩ := r
          refine ⟨p, rfl, ob.monoA (Ex.refl _) fun b hb => ?_⟩
          obtain ⟨f, u, hu, _⟩ := ob.ads hb
          have nb : b ≠ x := fun z => by rw [z, hx] at hu; cases hu
          have nd : b ≠ dx := fun z => by rw [z, hdx] at hu; cases hu
          exact ⟨by rw [upd_ne nb, upd_ne nd], f.1, fun z => by
            rcases z with z | z | z
            · exact f.2 z
            · exact nb z
            · exact nd z⟩
        | no => cases q1
        | own _ => cases q1
        | xc _ _ _ _ => cases q1
        | el _ _ => cases q1
        | lk _ => cases q1
    refine ⟨_, _, _, G1, .at_ x :: ss, _, _, ok', .cons rfl (args r1 ha), by simp [argS, ha], hF x dx mx, fun v s m' G' H' g r ⟨hs, hΦ⟩ => ?_, fun C2 d fv fs m' G' H' g nd md hd hk hr hx2 => hE σ _ _ _ (e.grow g1) C2 d fv fs m'.1 G' H' (back g) nd (fun z => md (.inl z)) hd hk hr hx2⟩
    subst hs
    cases r
    refine ⟨rfl, ?_⟩
    obtain ⟨_, i1, fv, i2, i3, i4⟩ := g.inv
    have o1 : G' x = none := (g.ok ok').off x (.inr (.inl rfl))
    have o2 : G' dx = none := (g.ok ok').off dx (.inr (.inr rfl))
    have b1 := back g
    have b2 := b1.frz hx o1 i2 (fun _ _ z => by cases z)
    have n2 : upd G' x (.ins C dx fv) dx = none := by rw [upd_ne ne]; exact o2
    have b3 := b2.frz hdx n2 i1 (fun _ _ z => by cases z)
    have e3 : Ex G' (upd (upd G' x (.ins C dx fv)) dx (.own x)) := (Ex.new o1).trans (Ex.new n2)
    refine q (.ref x) (.dat (.ins C m'.2)) m'.1 _ H' (g1.trans b3) (Rp.ins (dx := dx) (fv := fv) (by rw [upd_ne (Ne.symm ne)]; exact upd_same) upd_same i3 (i4.mono e3)) hΦ
theorem hE_c : ∀ σ G H m, EnvOk c m G H σ ρ → ExcQ c.K c.W G H c.Ξ c.E := fun _ _ _ _ e => e.excq
theorem hE_0 : ∀ σ G H m, EnvOk c m G H σ ρ → ExcQ c.K c.W G H (fun _ _ _ => False) E0 := fun _ _ _ _ _ _ _ _ _ _ _ _ _ _ _ _ _ _ z => z.elim
end
end DL
set_option Elab.async false
set_option linter.all false
set_option maxRecDepth 100000
set_option maxHeartbeats 1000000
namespace DL
open PySem PySem.Spec PyProof.Rows L2 Evl
section
variable {ι : Type} {c : Cc ι} {ρ : List S} {m : ι} {ta tb te : TE} {tr : TA} {Φ : ι → S → Prop} {K : PySem.W.Frag} {W : Wd ι}
/-! ### list(range(..)) -/
theorem rp_rg {K : PySem.W.Frag} {G : Hp} (a b : Int) : RpL K G (rgV a b) (rngD a (b - a).toNat) := by
  unfold rgV rngD
  have : ∀ l : List Nat, RpL K G (l.map fun i => V.int (a + (i : Nat))) (l.map fun i => D.int (a + (i : Nat))) := fun l => by
    induction l with
    | nil => exact .nil
    | cons x l ih => exact .cons (.int _) ih
  exact this _
theorem own_new {c : Cc ι} {m1 : ι} {G H G1 H1 : Hp} {p : Addr} {xs : List V} {ds : List D} (g1 : Grow c.W G H m1 G1 H1) (ok1 : Ok c.W m1 G1 H1) (hp : H1 p = none) (r : RpL c.K G1 xs ds) : Grow c.W G H m1 G1 (upd H1 p (.lst xs)) ∧ RelS c.K c.W H G1 (upd H1 p (.lst xs)) (.ref p) (.own (.lst ds)) :=
  ⟨g1.trans (Grow.new ok1 hp), p, rfl, ⟨g1.back hp, fresh_back ok1.ex hp, fun z => c.W.ne ok1.inv z hp⟩, xs, upd_same, r⟩
theorem de_lstRg1 (h : De c m ta ρ fun m s => ∃ n : Int, s = .dat (.int n) ∧ RgOk 0 n ∧ Φ m (.own (.lst (rngD 0 n.toNat)))) : De c m (tLstRg (tRg1 ta)) ρ Φ := fun σ G H e Q q => h σ G H e _ fun v s m1 G1 H1 g1 r1 ⟨n, es, ok, p⟩ => by
  subst es
  cases r1
  refine ⟨n, rfl, ok, fun a ha => ?_⟩
  obtain ⟨g2, r2⟩ := own_new (c := c) g1 (e.grow g1).ok ha (rp_rg (K := c.K) 0 n)
  refine q _ _ m1 G1 _ g2 r2 ?_
  rw [Int.sub_zero]; exact p
theorem de_lstRg2 (h : De c m ta ρ fun m s => De c m tb ρ fun m s2 => ∃ l n : Int, s = .dat (.int l) ∧ s2 = .dat (.int n) ∧ RgOk l n ∧ Φ m (.own (.lst (rngD l (n - l).toNat)))) : De c m (tLstRg (tRg2 ta tb)) ρ Φ := fun σ G H e Q q => h σ G H e _ fun v s m1 G1 H1 g1 r1 h2 => h2 σ G1 H1 (e.grow g1) _ fun v2 s2 m2 G2 H2 g2 r2 ⟨l, n, e1, e2, ok, p⟩ => by
  subst e1 e2
  cases r1
  cases r2
  refine ⟨l, n, rfl, rfl, ok, fun a ha => ?_⟩
  obtain ⟨g3, r3⟩ := own_new (c := c) (g1.trans g2) (e.grow (g1.trans g2)).ok ha (rp_rg (K := c.K) l n)
  exact q _ _ m2 G2 _ g3 r3 p
/-! ### xs[::-1] -/
theorem de_revL (h : De c m te ρ fun m s => ∃ ds, s.lst? = some ds ∧ Φ m (.own (.lst ds.reverse))) : De c m (tRevL c.K te) ρ Φ := fun σ G H e Q q => h σ G H e _ fun v s m1 G1 H1 g1 r1 ⟨ds, hs, p⟩ => by
  obtain ⟨a, xs, rfl, h1, h2⟩ := r1.lstV (e.grow g1).ok hs
  refine ⟨a, xs, rfl, h1, fun b hb => ?_⟩
  obtain ⟨g2, r2⟩ := own_new (c := c) g1 (e.grow g1).ok hb h2.reverse
  exact q _ _ m1 G1 _ g2 r2 p
/-! ### enumerate -/
def enumD (ds : List D) : List D := (List.range ds.length).map fun i => .tup [.int (i : Nat), ds.getD i .non]
theorem enumD_len (ds : List D) : (enumD ds).length = ds.length := by simp [enumD]
theorem enumD_at {ds : List D} {i : Nat} {d : D} (h : (enumD ds)[i]? = some d) : ∃ x, ds[i]? = some x ∧ d = .tup [.int (i : Nat), x] := by
  have hi : i < ds.length := by have := (List.getElem?_eq_some_iff.mp h).1; rwa [enumD_len] at this
  unfold enumD at h
  rw [List.getElem?_map, List.getElem?_range hi] at h
  refine ⟨ds[i], by simp [hi], ?_⟩
  have := (Option.some.inj h).symm
  rw [this]
  simp [List.getD, hi]
theorem itd_enum {G1 : Hp} {a : Addr} {xs : List V} {ds : List D} (h : SqL K G1 a xs) (r : RpL K G1 xs ds) : ItD K W G1 (Ite K a) (enumD ds) := fun m G H e ok i => by
  have hx : SqL K H a xs := ex_l (e.trans ok.ex) h
  refine ⟨fun d hd => ?_, fun hl => ⟨xs, hx, by rw [r.length]; rw [enumD_len] at hl; exact Nat.le_of_eq hl.symm⟩⟩
  obtain ⟨x, hx2, rfl⟩ := enumD_at hd
  obtain ⟨v, hv, rv⟩ := r.getD hx2
  refine ⟨⟨xs, v, hx, hv⟩, fun y H' ⟨T, z, ey, hT, eH, hz⟩ => ?_⟩
  have e2 := hz xs hx
  rw [hv] at e2
  cases e2
  subst ey eH
  have gT : G T = none := fresh_back ok.ex hT
  exact ⟨upd G T (.tup [.int (i : Nat), v]), Grow.newD ok hT (fun _ _ z => by cases z), .tup upd_same (.cons (.int _) (.cons ((rv.mono e).mono (Ex.new gT)) .nil))⟩
theorem di_enum {Ψ : ι → List D → Prop} (h : De c m te ρ fun m s => ∃ ds, s.frz.dlst? = some ds ∧ Ψ m (enumD ds)) : DI c m (iEnum c.K (tCons te tNil)) ρ Ψ := fun σ G H e R q => h σ G H e _ fun v s m1 G1 H1 g1 r1 ⟨ds, hs, p⟩ => by
  obtain ⟨G2, g2, r2, x2⟩ := r1.freezeX g1
  obtain ⟨a, xs, rfl, h1, h2⟩ := r2.dlst hs
  exact ⟨a, xs, rfl, ex_l g2.sub h1, q _ _ m1 G2 H1 g2 (itd_enum h1 h2) p⟩
/-! ### min, max of a list of numbers -/
/-! ### the truth of a list, a tuple, a number -/
def S.tru? : S → Option Bool
  | .dat (.int i) => some (i != 0)
  | .dat (.lst ds) => some (!ds.isEmpty)
  | .dat (.tup ds) => some (!ds.isEmpty)
  | .own (.one (.lst ds)) => some (!ds.isEmpty)
  | .vw (.one (.lst ds)) => some (!ds.isEmpty)
  | _ => none
theorem rpl_empty {G : Hp} {xs : List V} {ds : List D} (r : RpL K G xs ds) : xs.isEmpty = ds.isEmpty := by cases r <;> rfl
theorem RelS.tru {H0 G H : Hp} {v : V} {s : S} {b : Bool} (ok : Ok W m G H) (r : RelS K W H0 G H v s) (h : s.tru? = some b) : TruV K v H b := by
  have key : ∀ ds, s.lst? = some ds → b = (!ds.isEmpty) → TruV K v H b := fun ds h1 h2 => by
    obtain ⟨a, xs, rfl, h3, h4⟩ := r.lstV ok h1
    exact .inl ⟨xs, h3, by rw [h2, rpl_empty h4]⟩
  cases s with
  | dat d =>
    cases d with
    | int i => cases r; cases h; rfl
    | lst ds => cases h; exact key ds rfl rfl
    | tup ds =>
      cases h
      obtain ⟨a, xs, rfl, h3, h4⟩ := r.tupV (ds := ds) ok rfl
      exact .inr (.inl ⟨xs, h3, by rw [rpl_empty h4]⟩)
    | _ => cases h
  | own o =>
    cases o with
    | one o =>
      cases o with
      | lst ds => cases h; exact key ds rfl rfl
      | _ => cases h
    | _ => cases h
  | vw o =>
    cases o with
    | one o =>
      cases o with
      | lst ds => cases h; exact key ds rfl rfl
      | _ => cases h
    | _ => cases h
  | _ => cases h
theorem dt_tru {Ψ : ι → Bool → Prop} (h : De c m te ρ fun m s => ∃ b, s.tru? = some b ∧ Ψ m b) : DT c m (fun σ H Q => te σ H fun x H' => ∃ k, TruV c.K x H' k ∧ Q k H') ρ Ψ := fun σ G H e Q q => h σ G H e _ fun v s m1 G1 H1 g1 r1 ⟨b, hs, p⟩ =>
  ⟨b, r1.tru (e.grow g1).ok hs, q b m1 G1 H1 g1 p⟩
/-! ### list.count, list.index of numbers -/
def rCountI (K : PySem.W.Frag) : V → List V → Hp → VK → Prop := fun x xs H Q => ∃ (a : Addr) (ns : List Int) (k : Int), x = V.ref a ∧ xs = [V.int k] ∧ SqL K H a (ns.map V.int) ∧ Q (.int (ns.count k : Nat)) H
theorem tyL {H0 G H : Hp} {v : V} {s : S} {ds : List D} (ok : Ok W m G H) (r : RelS K W H0 G H v s) (h : s.lst? = some ds) : tyV K "list" v H := by
  obtain ⟨a, xs, rfl, h3, h4⟩ := r.lstV ok h
  exact .inl ⟨rfl, xs, h3⟩
theorem de_count (h : De c m te ρ fun m s => ∃ ns : List Int, s.lst? = some (ns.map D.int) ∧ De c m ta ρ fun m s2 => ∃ k : Int, s2 = .dat (.int k) ∧ Φ m (.dat (.int (ns.count k : Nat)))) : De c m (tBM c.K "list" (rCountI c.K) te (tCons ta tNil)) ρ Φ := fun σ G H e Q q => h σ G H e _ fun v s m1 G1 H1 g1 r1 ⟨ns, hs, h2⟩ => by
  refine ⟨tyL (e.grow g1).ok r1 hs, h2 σ G1 H1 (e.grow g1) _ fun v2 s2 m2 G2 H2 g2 r2 ⟨k, e2, p⟩ => ?_⟩
  subst e2
  cases r2
  have e2 := (e.grow g1).grow g2
  obtain ⟨a, xs, rfl, h3, h4⟩ := (r1.grow g2).lstV e2.ok hs
  exact ⟨a, ns, k, rfl, rfl, by rw [← h4.ints]; exact h3, q _ (.dat (.int _)) m2 G2 H2 (g1.trans g2) (Rp.int _) p⟩
theorem de_index (h : De c m te ρ fun m s => ∃ ns : List Int, s.lst? = some (ns.map D.int) ∧ De c m ta ρ fun m s2 => ∃ (k : Int) (j : Nat), s2 = .dat (.int k) ∧ ns[j]? = some k ∧ (∀ i, i < j → ns[i]? ≠ some k) ∧ Φ m (.dat (.int (j : Nat)))) : De c m (tBM c.K "list" (rIndex c.K) te (tCons ta tNil)) ρ Φ := fun σ G H e Q q => h σ G H e _ fun v s m1 G1 H1 g1 r1 ⟨ns, hs, h2⟩ => by
  refine ⟨tyL (e.grow g1).ok r1 hs, h2 σ G1 H1 (e.grow g1) _ fun v2 s2 m2 G2 H2 g2 r2 ⟨k, j, e2, hj, hn, p⟩ => ?_⟩
  subst e2
  cases r2
  have e2 := (e.grow g1).grow g2
  obtain ⟨a, xs, rfl, h3, h4⟩ := (r1.grow g2).lstV e2.ok hs
  refine ⟨a, ns.map V.int, .int k, j, .int k, rfl, rfl, by rw [← h4.ints]; exact h3, rfl, by simp [List.all_map, flatV], by simp [hj], by simp [eqV], fun i z hi hz => ?_, q _ (.dat (.int _)) m2 G2 H2 (g1.trans g2) (Rp.int _) p⟩
  rw [List.getElem?_map] at hz
  cases hx : ns[i]? with
  | none => rw [hx] at hz; cases hz
  | some y =>
    rw [hx] at hz
    cases hz
    have : y ≠ k := fun w => hn i hi (by rw [hx, w])
    simp [eqV, this]
section
variable {X : Cx} {o e : Expr} {es : List Expr} {t : TA} {to : TE} {apos cpos : Pos}
theorem k_revL {e : Expr} {te : TE} {k : Nat} {p1 p2 p3 pos : Pos} (hK : X.K = K) (he : PE X e te) : PE X (.Subscript e (.Slice none none (some (.UnaryOp .USub (.Constant (.int 1) k p1) p2)) p3) pos) (tRevL K te) := by subst hK; exact pe_revL he
theorem k_enum {e : Expr} {ta : TA} {p pos tpos : Pos} {elts : List Expr} {kk : Nat} (hK : X.K = K) (hg : Gl X "enumerate") (hm : X.mg "enumerate" = none) (ha : PA X [e] ta) (hs : starEach [e] X.env = [(false, eval e X.env)] := by rfl) :
    PI X (.Tuple elts kk tpos) (.Call (.Name "enumerate" p) [e] [] pos) (iEnum K ta) := by subst hK; exact pi_enum hg hm ha hs
end
/-! ### part.append(left.pop(e)) -/
end
end DL
set_option Elab.async false
set_option linter.all false
set_option maxRecDepth 100000
set_option maxHeartbeats 1000000
namespace DL
open PySem PySem.Spec PyProof.Rows L2 Evl
section
variable {ι : Type} {c : Cc ι} {ρ : List S} {m : ι} {Φ : ι → S → Prop} {K : PySem.W.Frag} {W : Wd ι}
theorem eqv_ints : ∀ ns ks : List Int, PyData.eqvAll (ns.map PyData.int) (ks.map PyData.int) = decide (ns = ks)
  | [], [] => by rw [List.map_nil, PyData.eqvAll]; rfl
  | [], _ :: _ => by rw [List.map_nil, List.map_cons, PyData.eqvAll] <;> simp
  | _ :: _, [] => by rw [List.map_nil, List.map_cons, PyData.eqvAll] <;> simp
  | a :: ns, b :: ks => by
    rw [List.map_cons, List.map_cons, PyData.eqvAll, eqv_ints ns ks, PyData.eqv]
    by_cases h : a = b
    · subst h; simp
    · simp [h]
theorem pys_ints : ∀ ns : List Int, D.pys (ns.map D.int) = some (ns.map PyData.int)
  | [] => by rw [List.map_nil, D.pys]; rfl
  | a :: ns => by rw [List.map_cons, D.pys, pys_ints ns, D.py]; rfl
theorem py_ints (ns : List Int) : (D.lst (ns.map D.int)).py = some (.list (ns.map PyData.int)) := by rw [D.py, pys_ints]; rfl
theorem ok_ints (ns : List Int) : PyOk 64 (.list (ns.map PyData.int)) := by
  obtain ⟨a, b, c⟩ := ints_ok ns
  exact ⟨by rw [PyData.canLay0]; exact a, by rw [PyData.depth, b]; omega, by rw [PyData.eqv]; exact c⟩
end
end DL
set_option Elab.async false
set_option linter.all false
set_option maxRecDepth 100000
set_option maxHeartbeats 1000000
namespace DL
open PySem PySem.Spec PyProof.Rows L2 Evl
/-! ### classes of one's own -/
/-- the class at C, under the name x, with the attributes fs of its instances -/
structure Ci (K : PySem.W.Frag) (C : Addr) (fs : List Str) : Prop where
  cl : Cls K C
  no : ∀ f ∈ fs, NoAttr K C f
/-- a property -/
structure Pr (P : Program) (w : World) (K : PySem.W.Frag) (mg : Str → Option Value) (base : Heap) (CX : CXT) (k : Nat) (C : Addr) (x : Str) (F : Fc) : Prop where
  cl : Cls K C
  ex : ∃ (p g : Addr) (fd : FuncData), PropOf K C x p g ∧ FnOk P w K mg base CX k g fd ["self"] (spF K F) ∧ Binds K fd ["self"] []
/-- making an instance -/
structure Mi (P : Program) (w : World) (K : PySem.W.Frag) (mg : Str → Option Value) (base : Heap) (CX : CXT) (k : Nat) (C : Addr) (x : Str) (ps : List Str) (F : Fc) : Prop where
  ex : ∃ (g : Addr) (fd : FuncData), Mk K C g ∧ FnOk P w K mg base CX k g fd ps (spF K F) ∧ mg x = some (.ref C) ∧ Binds K fd ps []
section
variable {X : Cx} {K : PySem.W.Frag} {C : Addr} {k j : Nat} {x : Str} {ps : List Str} {F : Fc} {e : Expr} {es : List Expr} {ta : TE} {t : TA} {p pos pos' : Pos} {f : Str} {o value : Expr} {tv : TE}
theorem k_fld (hK : X.K = K) (he : PE X e ta) (hb : attributeBase e f X.env (eval e X.env) = eval e X.env := by rfl) : PE X (.Attribute e f pos) (tFld K ta f) := by subst hK; exact pe_fld he hb
theorem k_sfld (hK : X.K = K) (ha : PE X o ta) (hv : PE X value tv) (hs : swapsWith value (some (.Attribute o f pos')) pos.line X.env = pure false := by rfl) : PS X (.Assign [.Attribute o f pos'] value pos) (sFld K ta tv f) := by subst hK; exact ps_fld ha hv hs
theorem k_prop (c : Pr X.prog X.w K X.mg X.base CX0 k C x F) (hK : X.K = K) (hr : Room j X.A) (he : PE X e ta) (hk : k + 1 ≤ j := by decide) (hab : attributeBase e x X.env (eval e X.env) = eval e X.env := by rfl) :
    PE X (.Attribute e x pos) (tProp C (spF K F) [] E0 ta) := by
  subst hK
  obtain ⟨p, g, fd, hp, hF, hb⟩ := c.ex
  exact pe_prop he c.cl hp hF (hr.mono hk) hb .nil pass0 hab
theorem k_make {CX : CXT} {E : XK} (c : Mi X.prog X.w K X.mg X.base CX k C x ps F) (hK : X.K = K) (hr : Room j X.A) (hx : Passes CX X E) (ha : PA X (e :: es) t) (hk : k + 1 ≤ j := by decide) (hg : Gl X x := by rfl) (hdb : (x == ("__debug__" : Str)) = false := by decide)
    (he : starEach (e :: es) X.env = (false, eval e X.env) :: starEach es X.env := by rfl) (hpl : (backTo pos (starEach es X.env)).any (·.1) = false := by rfl) :
    PE X (.Call (.Name x p) (e :: es) [] pos) (tMake C (spF K F) [] E t) := by
  subst hK
  obtain ⟨g, fd, M, hF, hm, hb⟩ := c.ex
  exact pe_make M hF (hr.mono hk) hg hm hb .nil hx ha hdb he hpl
end
end DL
set_option Elab.async false
set_option linter.all false
set_option maxRecDepth 100000
set_option maxHeartbeats 1000000
namespace DL
open PySem PySem.Spec PyProof.Rows L2 Evl
section
variable {ι : Type} {c : Cc ι} {ρ : List S} {m : ι} {Φ : ι → S → Prop} {tk tv : TE} {wi : TI} {g : TG} {vs : List Nat}
theorem putD_len {κ : Type} [DecidableEq κ] (ds : List (κ × D)) (k : κ) (d : D) : (putD ds k d).length ≤ ds.length + 1 := by
  unfold putD
  split <;> simp
theorem rp_keyV {K : PySem.W.Frag} {G : Hp} {v : V} {k : Key} (r : Rp K G v (keyD k)) : v = kV k := by
  cases k with
  | inl i => cases r; rfl
  | inr s => cases r; rfl
/-- {k: v for x in ..}, numbers or texts as keys -/
theorem de_dc (h : DI c m wi ρ fun m ds => ds.length < 1000000 ∧ ∃ J : Nat → ι → List (Key × D) → Prop, J 0 m [] ∧
    (∀ i d m acc, ds[i]? = some d → J i m acc → ∃ ρ', DG c m g vs d (wipeS ρ vs) ρ' ∧ De c m tk ρ' fun m s => ∃ k, s = .dat (keyD k) ∧ De c m tv ρ' fun m s2 => ∃ d', s2.frz = .dat d' ∧ J (i + 1) m (putD acc k d')) ∧
    ∀ m acc, J ds.length m acc → Φ m (.own (.dK acc))) (hw : noEls vs ρ = true := by with_unfolding_all rfl) : De c m (tDc wi g tYes tk tv vs) ρ Φ := fun σ G H e Q q => h σ G H e _ fun I ds m1 G1 H1 g1 it ⟨hl, J, j0, jt, jd⟩ => fun Dd hD => by
  have e1 := e.grow g1
  have mD : ¬ c.W.M Dd := fun m => c.W.ne e1.ok.inv m hD
  have gD : G1 Dd = none := fresh_back e1.ok.ex hD
  let W : Nat → Nat → Hp → Prop := fun i m H2 => m = ds.length - i ∧ i ≤ ds.length ∧ ∃ m2 G2 kvs acc, Grow c.W G1 H1 m2 G2 H2 ∧ H2 Dd = some (.dK kvs) ∧ G2 Dd = none ∧ kvs.map (·.1) = acc.map (·.1) ∧ RpL c.K G2 (kvs.map (·.2)) (acc.map (·.2)) ∧ acc.length ≤ i ∧ J i m2 acc
  refine ⟨W, ⟨ds.length, by simp, Nat.zero_le _, m1, G1, [], [], (e1.refl).mut hD gD mD, upd_same, gD, rfl, .nil, Nat.le_refl _, j0⟩, ?_⟩
  rintro i m H2 ⟨em, hi, m2, G2, kvs, acc, g2, hx, hn, kx, rx, ha, j⟩
  have e2 := e1.grow g2
  obtain ⟨ih1, ih2⟩ := it m2 G2 H2 g2.ex e2.ok i
  by_cases hlt : i < ds.length
  · right
    have hd : ds[i]? = some ds[i] := by simp [hlt]
    obtain ⟨go, yl⟩ := ih1 _ hd
    refine ⟨go, W (i + 1) (m - 1), fun H' w => ⟨m - 1, by omega, w⟩, fun x H' y => ?_⟩
    obtain ⟨G3, g3, r3⟩ := yl x H' y
    obtain ⟨ρ', dg, ht⟩ := jt i _ m2 acc hd j
    have e3 := (e2.grow g3).wipe vs hw
    refine dg x _ G3 H' e3 r3 _ fun σ' f4 hw' => ⟨hw'.trans (wipe_wipe σ vs), ?_⟩
    have e4 := f4 _ _ _ (Ex.refl _) e3
    dsimp only [tYes]
    rw [if_pos rfl]
    refine ht σ' G3 H' e4 _ fun v s m5 G5 H5 g5 r5 ⟨k, es, hv⟩ => ?_
    subst es
    have ev := rp_keyV (K := c.K) (G := G5) (v := v) (k := k) r5
    refine hv σ' G5 H5 (e4.grow g5) _ fun v2 s2 m6 G6 H6 g6 r6 ⟨d', es2, j'⟩ => ?_
    obtain ⟨G7, g7, r7⟩ := r6.freeze g6
    rw [es2] at r7
    have g37 := (g3.trans g5).trans g7
    have k1 : H6 Dd = some (.dK kvs) := g37.keep _ _ mD hx
    have k2 : G7 Dd = none := g37.fresh _ _ hx rfl hn
    have hlen : kvs.length = acc.length := by simpa using congrArg List.length kx
    obtain ⟨p1, p2⟩ := rpk_put (k := k) kx (rx.mono g37.ex) (show Rp c.K G7 v2 d' from r7)
    refine ⟨kvs, k, ev, k1, szl (by omega), by omega, hlt, m6, G7, _, putD acc k d', (g2.trans g37).mut hD k2 mD, upd_same, k2, p1, p2, ?_, j'⟩
    have := putD_len acc k d'
    omega
  · left
    have hl2 : i = ds.length := by omega
    refine ⟨ih2 hl2, ?_⟩
    subst hl2
    exact q (.ref Dd) (.own (.dK acc)) m2 G2 H2 (g1.trans g2) ⟨Dd, rfl, ⟨g1.back hD, hn, mD⟩, kvs, hx, kx, rx⟩ (jd m2 acc j)
end
end DL
set_option Elab.async false
set_option linter.all false
set_option maxRecDepth 100000
set_option maxHeartbeats 1000000
namespace DL
open PySem PySem.Spec PyProof.Rows L2 Evl PySem.Calls
section
variable {prog : Program} {w : World} {A : Around} {s : Shared} {E : Value → Shared → Prop}
/-- nothing that stood in h is gone in h' -/
def Stays (h h' : Heap) : Prop := ∀ b o, h.get? b = some o → h'.get? b = some o
/-- a list just laid, behind the sort in place -/
theorem laid_sorted {h1 : Heap} {vs out : List Value} : (∃ e, (sortedHeap (h1.push (seqObj "list" vs.toArray 0)) h1.objs.size vs out.toArray).get? h1.objs.size = some (seqObj "list" out.toArray e)) ∧ Stays h1 (sortedHeap (h1.push (seqObj "list" vs.toArray 0)) h1.objs.size vs out.toArray) := by
  constructor
  · exact sortedHeap_at (n := 0) (Heap.get?_push_size h1 rfl)
  · intro b o hb
    have lt := Heap.lt_size hb
    rw [sortedHeap_old (Nat.ne_of_lt lt) (by rw [size_push']; exact Nat.lt_succ_of_lt lt)]
    exact h1.get?_push_of_some _ hb
end
end DL
set_option Elab.async false
set_option linter.all false
set_option maxRecDepth 100000
set_option maxHeartbeats 1000000
namespace DL
open PySem PySem.Spec PyProof.Rows L2 Evl PySem.Calls
end DL
set_option Elab.async false
set_option linter.all false
set_option maxRecDepth 100000
set_option maxHeartbeats 1000000
namespace DL
open PySem PySem.Spec PyProof.Rows L2
/-! ### the head's facts with properties -/
section
variable {K : PySem.W.Frag}
def gAd (K : PySem.W.Frag) (x f : Str) : Addr := match PySem.W.findIn K (.ref (He.ga K x)) f with
  | some (some (.ref q)) => (match PySem.W.recIn K q "property" with
    | some (.ref g :: _) => g
    | _ => 0)
  | _ => 0
/-- the function that lies at a -/
def gotF (K : PySem.W.Frag) (a : Addr) : Option FuncData := (K.lookup a).bind fun o => match o.data with
  | .func fd => some fd
  | _ => none
theorem gotF_at {a : Addr} {fd : FuncData} (h : gotF K a = some fd) : ∃ c d sl, K.lookup a = some ⟨c, d, .func fd, sl⟩ := by
  unfold gotF at h
  cases q : K.lookup a with
  | none => rw [q] at h; cases h
  | some o =>
    rw [q] at h
    rcases o with ⟨c, d, dt, sl⟩
    cases dt <;> first | (cases h; done) | skip
    cases h
    exact ⟨c, d, sl, rfl⟩
def fnA (K : PySem.W.Frag) (a : Addr) : He.FnW := (gotF K a).map fun z => (z.name, z.qualname, z.params, z.body, z.scope, z.globals, z.closure, z.builtins)
def fnB (K : PySem.W.Frag) (a : Addr) (d : He.DefD) : Bool := PySem.W.keepIn K (.ref a) && (gotF K a).any fun z => PySem.W.codeIn K z.code d.qual && (He.dflB K z.defaults (d.dvs K) && He.kwdB K z.kwdefaults (d.kws K))
theorem fnB_ok {a : Addr} {d : He.DefD} (e : fnA K a = d.val) (c : fnB K a d = true) : ∃ fd, FunD K d.name d.qual d.params d.body d.scope (d.dvs K) (d.kws K) a fd := by
  obtain ⟨kept, tests⟩ := He.ba c
  cases g : gotF K a with
  | none => rw [g] at tests; cases tests
  | some z =>
    obtain ⟨cl, dd, sl, at_⟩ := gotF_at g
    rw [g] at tests
    obtain ⟨t1, t23⟩ := He.ba tests
    obtain ⟨t2, t3⟩ := He.ba t23
    unfold fnA He.DefD.val at e
    rw [g, Option.map_some, Option.some.injEq] at e
    rcases z with ⟨f1, f2, f3, f4, f5, f6, f7, dfl, kwd, y1, y2, y3, cod, y4, f8⟩
    simp only [Prod.mk.injEq] at e
    obtain ⟨rfl, rfl, rfl, rfl, rfl, rfl, rfl, rfl⟩ := e
    exact ⟨_, ⟨cl, dd, dfl, kwd, y1, y2, y3, cod, y4, sl, rfl, at_, t1, He.dflB_ok t2, He.kwdB_ok t3⟩, kept⟩
def propB (K : PySem.W.Frag) (x f : Str) : Bool := match PySem.W.findIn K (.ref (He.ga K x)) f with
  | some (some (.ref q)) => He.eqO (PySem.W.specialIn K (.ref q) "__get__") (some (some (.builtin "property.__get__"))) && (decide (PySem.W.takesIn K (.ref q) = some true) && (match PySem.W.recIn K q "property" with
    | some (.ref _ :: _) => true
    | _ => false))
  | _ => false
theorem propB_ok {x f : Str} (h : propB K x f = true) : ∃ p, PropOf K (He.ga K x) f p (gAd K x f) := by
  unfold propB at h
  cases e : PySem.W.findIn K (.ref (He.ga K x)) f with
  | none => rw [e] at h; cases h
  | some o =>
    cases o with
    | none => rw [e] at h; cases h
    | some v =>
      cases v <;> first | (rw [e] at h; cases h; done) | skip
      rename_i q
      rw [e] at h
      obtain ⟨h1, h2⟩ := He.ba h
      obtain ⟨h2, h3⟩ := He.ba h2
      refine ⟨q, e, He.eqO_ok h1, of_decide_eq_true h2, ?_⟩
      unfold gAd
      rw [e]
      cases e2 : PySem.W.recIn K q "property" with
      | none => rw [e2] at h3; cases h3
      | some vs =>
        cases vs with
        | nil => rw [e2] at h3; cases h3
        | cons v r =>
          cases v <;> first | (rw [e2] at h3; cases h3; done) | skip
          exact ⟨r, by dsimp only; rw [e2]⟩
/-! a classmethod -/
def isCm (d : He.DefD) : Bool := match d.params.args with
  | a :: _ => a.arg == ("cls" : Str)
  | [] => false
/-- its record, its def -/
def cmQ (K : PySem.W.Frag) (x f : Str) : Addr := match PySem.W.findCls K (.ref (He.ga K x)) (.type "type") f with
  | some (.get _ (.ref q) _ _) => q
  | _ => 0
def cmG (K : PySem.W.Frag) (x f : Str) : Addr := match PySem.W.recIn K (cmQ K x f) "classmethod" with
  | some (.ref g :: _) => g
  | _ => 0
structure CmF (K : PySem.W.Frag) (C : Addr) (f : Str) (p g : Addr) : Prop where
  rd : PySem.W.readsIn K C (.type "type") = true
  ga : PySem.W.specialIn K (.ref C) "__getattribute__" = some (some (.builtin "type.__getattribute__"))
  at_ : PySem.W.findCls K (.ref C) (.type "type") f = some (.get (.builtin "classmethod.__get__") (.ref p) .none (.ref C))
  rc : ∃ rest, PySem.W.recIn K p "classmethod" = some (.ref g :: rest)
  fi : PySem.W.fnIn K g = true
def cmB (K : PySem.W.Frag) (x f : Str) : Bool := PySem.W.readsIn K (He.ga K x) (.type "type") && (He.eqO (PySem.W.specialIn K (.ref (He.ga K x)) "__getattribute__") (some (some (.builtin "type.__getattribute__"))) && ((match PySem.W.findCls K (.ref (He.ga K x)) (.type "type") f with
    | some (.get (.builtin b) (.ref q) .none (.ref D)) => decide (b = "classmethod.__get__") && (decide (q = cmQ K x f) && decide (D = He.ga K x))
    | _ => false) && ((match PySem.W.recIn K (cmQ K x f) "classmethod" with
    | some (.ref _ :: _) => true
    | _ => false) && PySem.W.fnIn K (cmG K x f))))
theorem cmB_ok {x f : Str} (h : cmB K x f = true) : CmF K (He.ga K x) f (cmQ K x f) (cmG K x f) := by
  obtain ⟨t1, h⟩ := He.ba h
  obtain ⟨t2, h⟩ := He.ba h
  obtain ⟨t3, h⟩ := He.ba h
  obtain ⟨t4, t5⟩ := He.ba h
  refine ⟨t1, He.eqO_ok t2, ?_, ?_, t5⟩
  · clear t4 t5
    generalize hq : cmQ K x f = q0 at t3 ⊢
    split at t3
    · rename_i b q D e
      obtain ⟨k1, k⟩ := He.ba t3
      obtain ⟨k2, k3⟩ := He.ba k
      rw [e, of_decide_eq_true k1, of_decide_eq_true k2, of_decide_eq_true k3]
    · cases t3
  · unfold cmG
    split at t4
    · rename_i g r e
      exact ⟨r, by rw [e]⟩
    · cases t4
end
/-- properties and classmethods: class, name, the def -/
abbrev PrD := Str × Str × He.DefD
def pAd (K : PySem.W.Frag) (d : PrD) : Addr := if isCm d.2.2 then cmG K d.1 d.2.1 else gAd K d.1 d.2.1
def pOk (K : PySem.W.Frag) (d : PrD) : Bool := if isCm d.2.2 then cmB K d.1 d.2.1 else propB K d.1 d.2.1
abbrev AlP : Type := He.AlD × (Bool × List He.FnW)
def obsP (fa : List He.Fa) (fn : List He.DefD) (pr : List PrD) (ex : PySem.W.Frag → Bool) (K : PySem.W.Frag) : AlP := (He.obsD fa fn K, ((pr.all fun d => pOk K d && fnB K (pAd K d) d.2.2) && ex K, pr.map fun d => fnA K (pAd K d)))
def valP (fn : List He.DefD) (pr : List PrD) : AlP := (He.valD fn, (true, pr.map fun d => d.2.2.val))
structure SaysP (fa : List He.Fa) (fn : List He.DefD) (pr : List PrD) (ex : PySem.W.Frag → Bool) (K : PySem.W.Frag) : Prop where
  e : obsP fa fn pr ex K = valP fn pr
section
variable {fa : List He.Fa} {fn : List He.DefD} {pr : List PrD} {ex : PySem.W.Frag → Bool} {K : PySem.W.Frag}
theorem SaysP.d (c : SaysP fa fn pr ex K) : He.SaysD fa fn K := congrArg (fun z : AlP => z.1) c.e
theorem SaysP.more (c : SaysP fa fn pr ex K) : ex K = true := (He.ba (show ((pr.all fun d => pOk K d && fnB K (pAd K d) d.2.2) && ex K) = true from congrArg (fun z : AlP => z.2.1) c.e)).2
theorem SaysP.at_ (c : SaysP fa fn pr ex K) (i : Nat) {d : PrD} (h : pr[i]? = some d) : pOk K d = true ∧ ∃ fd, FunD K d.2.2.name d.2.2.qual d.2.2.params d.2.2.body d.2.2.scope (d.2.2.dvs K) (d.2.2.kws K) (pAd K d) fd := by
  have c1 := (He.ba (show ((pr.all fun d => pOk K d && fnB K (pAd K d) d.2.2) && ex K) = true from congrArg (fun z : AlP => z.2.1) c.e)).1
  obtain ⟨b1, b2⟩ := He.ba (List.all_eq_true.mp c1 d (List.mem_of_getElem? h))
  have e : pr.map (fun d => fnA K (pAd K d)) = pr.map fun d => d.2.2.val := congrArg (fun z : AlP => z.2.2) c.e
  have e2 : (pr.map fun d => fnA K (pAd K d))[i]? = (pr.map fun d => d.2.2.val)[i]? := by rw [e]
  rw [List.getElem?_map, List.getElem?_map, h] at e2
  exact ⟨b1, fnB_ok (Option.some.inj e2) b2⟩
theorem SaysP.prop (c : SaysP fa fn pr ex K) (i : Nat) {d : PrD} (h : pr[i]? = some d := by rfl) (hc : isCm d.2.2 = false := by rfl) : ∃ p fd, PropOf K (He.ga K d.1) d.2.1 p (gAd K d.1 d.2.1) ∧ FunD K d.2.2.name d.2.2.qual d.2.2.params d.2.2.body d.2.2.scope (d.2.2.dvs K) (d.2.2.kws K) (gAd K d.1 d.2.1) fd := by
  obtain ⟨b1, fd, hf⟩ := c.at_ i h
  unfold pOk at b1
  unfold pAd at hf
  rw [hc] at b1 hf
  obtain ⟨p, hp⟩ := propB_ok b1
  exact ⟨p, fd, hp, hf⟩
theorem SaysP.cm (c : SaysP fa fn pr ex K) (i : Nat) {d : PrD} (h : pr[i]? = some d := by rfl) (hc : isCm d.2.2 = true := by rfl) : ∃ p fd, CmF K (He.ga K d.1) d.2.1 p (cmG K d.1 d.2.1) ∧ FunD K d.2.2.name d.2.2.qual d.2.2.params d.2.2.body d.2.2.scope (d.2.2.dvs K) (d.2.2.kws K) (cmG K d.1 d.2.1) fd := by
  obtain ⟨b1, fd, hf⟩ := c.at_ i h
  unfold pOk at b1
  unfold pAd at hf
  rw [hc] at b1 hf
  exact ⟨_, fd, cmB_ok b1, hf⟩
end
end DL
set_option Elab.async false
set_option linter.all false
set_option maxRecDepth 100000
set_option maxHeartbeats 1000000
namespace DL
open PySem PySem.Spec PyProof.Rows L2 Evl
end DL
set_option Elab.async false
set_option linter.all false
set_option maxRecDepth 100000
set_option maxHeartbeats 1000000
namespace DL
open PySem PySem.Spec PyProof.Rows L2 Evl
/-! ### pairs of a dict with tuple keys -/
end DL
set_option Elab.async false
set_option linter.all false
set_option maxRecDepth 100000
set_option maxHeartbeats 1000000
namespace DL
open PySem PySem.Spec PyProof.Rows L2 Evl
/-! ### for k, v in f(..).items(): the dict is locked as it comes, and unlocked behind the loop -/
end DL
set_option Elab.async false
set_option linter.all false
set_option maxRecDepth 100000
set_option maxHeartbeats 1000000
namespace DL
open PySem PySem.Spec PyProof.Rows L2 Evl
/-! ### {k: v for .. in .. if ..} with tuple keys -/
theorem dput_set {X : Cx} {pins : List (Addr × Obj)} {σ : L2.St} {H H' : Hp} {s : Shared} {E : Value → Shared → Prop} {a : Addr} {y v : V} {u r : Value} {Q : Unit → Shared → Prop}
    (hu : X.A.units + 1 < cLine) (I : Inv X pins σ H s) (g : DPut H a y v H') (ry : RelV y u) (rv : RelV v r) (h : ∀ s', Inv X pins σ H' s' → Q () s') : wpAny (model X.prog X.w) X.A (dictSet a u r) Q E s := by
  rcases g with ⟨kvs, k, e, ey, few, eH⟩ | ⟨kvs, k, b, e, ey, eb, few, eH⟩
  · subst ey
    subst eH
    exact d_dictSet I e few ry rv h
  · subst ey
    subst eH
    obtain rfl : u = Value.ref b := ry
    obtain ⟨z, nm, xs, rel, dd⟩ := dt_of I.hok e
    have n1 : xs.length = kvs.length := (Paired.length rel).symm
    have n2 := length_putK kvs k v
    refine wpAny_dictSet_heap (hsz := by rw [n1]; exact z) (show X.A.units < cLine from Nat.lt_of_succ_lt hu) (key_of I.hok eb) dd fun h1 dd1 same => h _ ?_
    obtain ⟨q, es, ep, gq, t1, t2, t3, _, t4⟩ := dd1
    have mu : Mut (H a) := by rw [e]; exact True.intro
    have kp := (rel.put k eb rv).keeps (H' := upd H a (.dT (putK kvs k v))) fun c ys ec => by
      have ne : c ≠ a := fun w => by rw [w, e] at ec; cases ec
      rw [upd_ne ne]; exact ec
    exact d_write I mu same ⟨q, gq⟩ ⟨by omega, nm, _, kp, q, es, ep, gq, t1, t2, t3, t4⟩
def tDct (wi : TI) (g : TG) (tt : TT) (tk tv : TE) (vs : List Nat) : TE := fun σ H Q => wi σ H fun J H1 => ∀ a, H1 a = none → ∃ W : Nat → Nat → Hp → Prop, (∃ n, W 0 n (upd H1 a (.dT []))) ∧ ∀ i n H, W i n H →
  (J.stop i H ∧ Q (.ref a) H) ∨ (J.go i H ∧ ∃ Nx : Hp → Prop, (∀ H', Nx H' → ∃ n', n' < n ∧ W (i + 1) n' H') ∧ ∀ x H', J.yld i H x H' → g x (wipe σ vs) H' fun σ2 H2 => wipe σ2 vs = wipe σ vs ∧ tt σ2 H2 fun b H3 =>
    if b = true then tk σ2 H3 fun y H4 => tv σ2 H4 fun z H5 => ∃ H6, DPut H5 a y z H6 ∧ Nx H6 else Nx H3)
section
variable {X : Cx}
/-- a walk's own places, seen from the block -/
theorem blk_fp {sb : Shared} {Hb : Hp} {scope : Scope} {ce : Env} {fp : List Addr} {σ' : L2.St} {H' : Hp} {s' : Shared} (J : Inv (X.blk sb Hb scope ce fp) [] σ' H' s') (hn : ∀ b ∈ fp, H' b = none) (b : Addr) (hb : b ∈ fp) : FpOk (X.blk sb Hb scope ce fp) [] H' b := by
  refine ⟨hn b hb, (J.ok.exf b hb).1, J.ok.exfs b hb, .inl hb, fun x c z => (J.ok.exf b hb).2 x c z, fun p hp => ?_⟩
  have hp : p ∈ ([] : List (Addr × Obj)) ++ [] := hp
  rw [List.append_nil] at hp
  cases hp
theorem dct_loop {σ : L2.St} {sb s4 : Shared} {Hb : Hp} {Q : VK} {kx vx tg iter : Expr} {ifs : List Expr} {scope : Scope} {ce : Env} {fp : List Addr} {vs : List Nat} {pos : Pos} {g : TG} {tt : TT} {tk tv : TE} {it a : Addr} {tn : Nat → Heap → Prop} {J : L2.It} {W : Nat → Nat → Hp → Prop} {n0 : Nat} {R : Result → Shared → Prop}
    (hc : X.calm = true) (hu : X.A.units + 1 < cLine) (T : Turn X.prog X.w X.K tg J fp it tn) (I4 : Inv (X.blk sb Hb scope ce fp) [] (wipe σ vs) Hb s4) (st4 : tn 0 s4.heap) (nfp : ∀ b ∈ fp, Hb b = none) (w0 : W 0 n0 Hb)
    (pg : PG (X.blk sb Hb scope ce fp) tg g) (pt : PTs (X.blk sb Hb scope ce fp) ifs tt) (pk : PE (X.blk sb Hb scope ce fp) kx tk) (pv : PE (X.blk sb Hb scope ce fp) vx tv)
    (turn : ∀ i n H, W i n H → (J.stop i H ∧ Q (.ref a) H) ∨ (J.go i H ∧ ∃ Nx : Hp → Prop, (∀ H', Nx H' → ∃ n', n' < n ∧ W (i + 1) n' H') ∧ ∀ x H', J.yld i H x H' → g x (wipe σ vs) H' fun σ2 H2 => wipe σ2 vs = wipe σ vs ∧ tt σ2 H2 fun b H3 =>
      if b = true then tk σ2 H3 fun y H4 => tv σ2 H4 fun z Ha => ∃ H6, DPut Ha a y z H6 ∧ Nx H6 else Nx H3))
    (stop : ∀ σ' H' s', Inv (X.blk sb Hb scope ce fp) [] σ' H' s' → Q (.ref a) H' → R (.ok .next) s') :
    codeAny (model X.prog X.w) X.A (.compLoop (.DictComp kx vx [⟨tg, iter, ifs, 0⟩] scope pos) 0 (.ref it) (.ref a) ce) R s4 := by
  refine compLoop_anyD (fun n s' => ∃ i H', Inv (X.blk sb Hb scope ce fp) [] (wipe σ vs) H' s' ∧ tn i s'.heap ∧ (∀ b ∈ fp, H' b = none) ∧ W i n H') ?_ n0 ⟨0, Hb, I4, st4, nfp, w0⟩
  rintro n sa ⟨i, Ha, Ia, sta, na, wa⟩
  rcases turn i n Ha wa with ⟨hstop, hq⟩ | ⟨hgo, Nx, hNx, step⟩
  · refine thnF (T.done (X.blk sb Hb scope ce fp) rfl rfl rfl hc i [] sa _ Ha (fun _ _ => False) Ia (blk_fp Ia na) sta hstop) fun r sc ⟨er, Ic⟩ => ?_
    subst er
    exact stop _ Ha sc Ic hq
  refine thnF (T.item (X.blk sb Hb scope ce fp) rfl rfl rfl hc i [] sa _ Ha (fun _ _ => False) Ia (blk_fp Ia na) sta hgo) fun r sc ⟨u, er, hit⟩ => ?_
  subst er
  refine thnF hit fun _ sd ⟨x, Hd, Id, rd, yd, std, nd⟩ => ?_
  refine thnF (pg.run _ sd _ Hd x u _ (Id.pinned (blk_fp Id nd) (T.obj _ _ std)) rd (step x Hd yd)) fun _ se ⟨σe, He, Ie, hwe, qe⟩ => ?_
  refine thnF (pt.run _ se σe He _ Ie qe) fun b sf ⟨Hf, If, qf⟩ => ?_
  have next : ∀ {s' : Shared} {H' : Hp}, Inv (X.blk sb Hb scope ce fp) ([] ++ pinsAt fp sd.heap) σe H' s' → Nx H' → ∃ n', n' < n ∧ ∃ i H', Inv (X.blk sb Hb scope ce fp) [] (wipe σ vs) H' s' ∧ tn i s'.heap ∧ (∀ b ∈ fp, H' b = none) ∧ W i n' H' := fun {s' H'} J' nx => by
    obtain ⟨n', lt, w'⟩ := hNx H' nx
    have stay : ∀ b ∈ fp, ∀ o, sd.heap.get? b = some o → s'.heap.get? b = some o ∧ H' b = none := fun b hb o e => by
      have z := J'.pin (b, o) (List.mem_append_right _ (List.mem_append_right _ (mem_pinsAt hb e)))
      exact ⟨z.1, z.2.1⟩
    have J2 : Inv (X.blk sb Hb scope ce fp) [] (wipe σ vs) H' s' := (J'.unpinned (pins := [])).weak (by rw [← hwe, wipe_length]) fun j v e => by
      rw [← hwe] at e
      exact (wipe_some e).1
    refine ⟨n', lt, i + 1, H', J2, T.keep _ _ _ std fun b hb o e => (stay b hb o e).1, fun b hb => ?_, w'⟩
    obtain ⟨o, e, _⟩ := T.obj _ _ std b hb
    exact (stay b hb o e).2
  dsimp only at qf
  by_cases hb : b = true
  · subst hb
    rw [if_pos rfl] at qf ⊢
    refine thnF (pk.run _ sf σe Hf _ If qf) fun zk sg ⟨yk, Hg, Ig, rk, qg⟩ => ?_
    refine thnF (pv.run _ sg σe Hg _ Ig qg) fun zv si ⟨yv, Hi, Ii, rw1, Hj, put, nx⟩ => ?_
    exact dput_set (X := X.blk sb Hb scope ce fp) hu Ii put rk rw1 fun sj Ij => next Ij nx
  · rw [if_neg hb] at qf ⊢
    exact next If qf
theorem dct_core {pins : List (Addr × Obj)} {s : Shared} {σ : L2.St} {H : Hp} {Q : VK} {kx vx tg iter : Expr} {ifs : List Expr} {scope : Scope} {own : List (Str × Nat)} {pos pos' : Pos} {wi : TI} {g : TG} {tt : TT} {tk tv : TE} {use : Option (Value → Sem Unit)} {Z : Value → Shared → Prop} (hc : X.calm = true) (hu : X.A.units + 1 < cLine) (hN : X.N.Nodup) (I : Inv X pins σ H s) (hi : PI X tg iter wi) (ok : BlkOk X.N X.env.scope scope own)
    (hg : ∀ s H C cl fp, PG (X.blk s H scope (compEnvC scope cl C X.env) fp) tg g) (ht : ∀ s H C cl fp, PTs (X.blk s H scope (compEnvC scope cl C X.env) fp) ifs tt)
    (hk : ∀ s H C cl fp, PE (X.blk s H scope (compEnvC scope cl C X.env) fp) kx tk) (hv : ∀ s H C cl fp, PE (X.blk s H scope (compEnvC scope cl C X.env) fp) vx tv) (hs : ∀ x, foldedSetIterable iter X.env x = pure x)
    (h : tDct wi g tt tk tv (own.map (·.2)) σ H Q)
    (fin : ∀ D C s' n H', Inv X pins σ H' s' → Q (.ref D) H' → s'.heap.Ns C n → FpOk X pins H' C → compPost (model X.prog X.w) X.A X.xe use Z (.ref D) C (.ok .next) s') :
    wpAny (model X.prog X.w) X.A (comprehension (.DictComp kx vx [⟨tg, iter, ifs, 0⟩] scope pos) scope X.env pos' newDict false (eval iter X.env) use) Z X.xe s := by
  have cells : ∀ y ∈ scope.names, y.2 = .free → ∃ c, X.env.cells.lookup y.1 = some c := fun y hy e => (ok.free y hy e).elim (fun k => I.ok.has _ (.inl k)) fun k => I.ok.has _ (.inr k)
  refine wpAny_comprehension_free rfl hs (closure_ok cells) ok.kind (fun y hy e => by rw [ok.uniq y hy, e]) ?_
  refine thn (hi.run pins s σ H _ I h) fun xv s1 hx => thn hx fun itv s2 ⟨it, fp, tn, J, H2, ei, I2, T, st2, f2, q⟩ => ?_
  subst ei
  refine wpAny_newObj_type (newEnv_comp ?_)
  have fresh : H2 s2.heap.objs.size = none := I2.hok.fresh (Nat.le_refl _)
  obtain ⟨W, ⟨n0, w0⟩, turn⟩ := q _ fresh
  have lts : ∀ b ∈ fp, b < s2.heap.objs.size := fun b hb => by
    obtain ⟨o, e, _⟩ := T.obj _ _ st2 b hb
    exact Heap.lt_size e
  have I3 : Inv X pins σ (upd H2 s2.heap.objs.size (.dT [])) { s2 with heap := s2.heap.push { cls := .type "dict", data := .dict #[] } } :=
    I2.laid (t' := s2.toks) (fun b o e => Heap.get?_push_of_some _ e) (Nat.le_refl _) (dt_empty s2.heap I2.big)
  generalize hs3 : ({ s2 with heap := s2.heap.push { cls := .type "dict", data := .dict #[] } } : Shared) = s3 at I3 ⊢
  show codeAny _ _ (.compStart (.DictComp kx vx [⟨tg, iter, ifs, 0⟩] scope pos) 0 (.ref it) (.ref s2.heap.objs.size)
    (compEnvC scope (cellsFrom (s3.heap.objs.size + 1) scope.names (cloFrom X.env.cells scope.names [])) s3.heap.objs.size X.env))
    (compPost (model X.prog X.w) X.A X.xe use Z (.ref s2.heap.objs.size) s3.heap.objs.size)
    { s3 with heap := pushCells (s3.heap.push { cls := .type "dict", data := .dict #[] }) scope.names }
  have heap3 : s3.heap = s2.heap.push { cls := .type "dict", data := .dict #[] } := by rw [← hs3]
  have f3 : ∀ b ∈ fp, FpOk X pins (upd H2 s2.heap.objs.size (.dT [])) b ∧ b < s3.heap.objs.size := fun b hb => by
    have lt := lts b hb
    obtain ⟨z0, z1⟩ := f2 b hb
    refine ⟨⟨?_, z1⟩, by rw [heap3, Heap.size_push]; exact Nat.lt_succ_of_lt lt⟩
    rw [upd_ne (Nat.ne_of_lt lt)]; exact z0
  have st3 : tn 0 s3.heap := T.keep _ _ _ st2 fun b _ o e => by rw [heap3]; exact Heap.get?_push_of_some _ e
  have I4 := block_start I3 ok hN f3
  generalize hce : compEnvC scope (cellsFrom (s3.heap.objs.size + 1) scope.names (cloFrom X.env.cells scope.names [])) s3.heap.objs.size X.env = ce at I4
  have locs : ce.locals = s3.heap.objs.size := by subst hce; rfl
  generalize hH3 : upd H2 s2.heap.objs.size (.dT []) = H3 at I3 I4 w0 f3
  generalize hs4 : ({ s3 with heap := pushCells (s3.heap.push { cls := .type "dict", data := .dict #[] }) scope.names } : Shared) = s4 at I4
  have st4 : tn 0 s4.heap := by
    refine T.keep _ _ _ st3 fun b _ o e => ?_
    rw [← hs4]
    exact pushCells_keeps _ _ _ _ (Heap.get?_push_of_some _ e)
  have loop : codeAny (model X.prog X.w) X.A (.compLoop (.DictComp kx vx [⟨tg, iter, ifs, 0⟩] scope pos) 0 (.ref it) (.ref s2.heap.objs.size) ce) (compPost (model X.prog X.w) X.A X.xe use Z (.ref s2.heap.objs.size) s3.heap.objs.size) s4 := by
    refine dct_loop hc hu T I4 st4 (fun b hb => (f3 b hb).1.1) w0 ?_ ?_ ?_ ?_ turn fun σ' H' s' J' hq => ?_
    · rw [← hce]; exact hg _ _ _ _ _
    · rw [← hce]; exact ht _ _ _ _ _
    · rw [← hce]; exact hk _ _ _ _ _
    · rw [← hce]; exact hv _ _ _ _ _
    have J7 : Inv X pins σ H' s' := I3.call' (ch := fp) J'.os J'.base J'.hok J'.bare fun b hb => by
      obtain ⟨z0, z1, z2, z3, z4, z5⟩ := (f3 b hb).1
      exact ⟨z3, z1, z4, z5⟩
    have nC : H' s3.heap.objs.size = none := by
      have z : H' ce.locals = none := J'.free
      rw [← locs]; exact z
    obtain ⟨m, ns, _⟩ := J'.loc
    have ns : s'.heap.Ns ce.locals m := ns
    rw [locs] at ns
    exact fin _ _ _ m _ J7 hq ns (I3.fpOk (Nat.le_refl _) nC)
  exact codeAny_compStart_dict loop (T.self X.A 0 _ _ _ st4 loop)
theorem pe_dct {kx vx tg iter : Expr} {ifs : List Expr} {scope : Scope} {own : List (Str × Nat)} {pos : Pos} {wi : TI} {g : TG} {tt : TT} {tk tv : TE} (hc : X.calm = true) (hu : X.A.units + 1 < cLine) (hN : X.N.Nodup) (hi : PI X tg iter wi) (ok : BlkOk X.N X.env.scope scope own)
    (hg : ∀ s H C cl fp, PG (X.blk s H scope (compEnvC scope cl C X.env) fp) tg g) (ht : ∀ s H C cl fp, PTs (X.blk s H scope (compEnvC scope cl C X.env) fp) ifs tt)
    (hk : ∀ s H C cl fp, PE (X.blk s H scope (compEnvC scope cl C X.env) fp) kx tk) (hv : ∀ s H C cl fp, PE (X.blk s H scope (compEnvC scope cl C X.env) fp) vx tv) (hs : ∀ x, foldedSetIterable iter X.env x = pure x := by intro _; rfl) :
    PE X (.DictComp kx vx [⟨tg, iter, ifs, 0⟩] scope pos) (tDct wi g tt tk tv (own.map (·.2))) := ⟨fun pins s σ H Q I h => dct_core (use := none) (Z := EP X pins σ Q) hc hu hN I hi ok hg ht hk hv hs h fun D C s' m H' I' q n f => by
  obtain ⟨z0, z1, _, z3, z4, z5⟩ := f
  exact ⟨m, n, fun h2 sb => ⟨.ref D, H', I'.turned (t' := s'.toks) (fun b o hb e => (sb.2 b hb).trans e) z0 z1 z3 z4 z5, rfl, q⟩⟩⟩
theorem sw_dict {kx vx : Expr} {gs : List Comprehension} {scope : Scope} {pos py : Pos} {y : Str} {l : Nat} {env : Env} (h1 : env.scope.kind = .function) (h2 : env.scope.names.lookup y = some .local) (h3 : (py.line == pos.line) = true)
    (h4 : (scope.names.any fun (n, k) => n == y && (k == .local || k == .cell)) = false) : swapsWith (.DictComp kx vx gs scope pos) (some (.Name y py)) l env = pure true := by
  have b : env.blockKind = .function := by simp [Env.blockKind, h1]
  have k : env.kindOf y = some .local := h2
  simp only [swapsWith, Expr.pos, b, k, h3, h4]
  rfl
end
end DL
set_option Elab.async false
set_option linter.all false
set_option maxRecDepth 100000
set_option maxHeartbeats 1000000
namespace DL
open PySem PySem.Spec PyProof.Rows L2 Evl PySem.Calls
/-! ### sorted(d), d a dict with tuple keys -/
def keyPy : Key → PyData
  | .inl i => .int i
  | .inr x => .str x
section
variable {prog : Program} {w : World} {A : Around} {s : Shared} {E : Value → Shared → Prop}
/-- sorted(v) of data, by what is collected of v -/
theorem sorted_colD {β : Type} {enc : β → PyData} {R : Value → β → Prop} {v : Value} {vs : List Value} {bs : List β} {Q : Value → Shared → Prop} (few : bs.length ≤ sizeLine)
    (each : PySem.W.EachIs R vs bs) (rd : PySem.W.EachIs (fun v b => Reads s.heap v (enc b) []) vs bs) (al : PySem.W.AllAlike (bs.map enc)) (so : PySem.W.Sortable (bs.map enc)) (room : ∀ b, b ∈ bs → A.units + 2 + (enc b).depth < cLine)
    (col : ∀ R : List Value → Shared → Prop, (∀ h1 t1, Stays s.heap h1 → R vs { s with heap := h1, toks := t1 }) → wpAny (model prog w) A.in1 (collect v) R E s)
    (fin : ∀ h1 t1 out h2 e, Stays s.heap h1 → PySem.W.EachIs R out (bs.mergeSort (PySem.W.dataLe false enc)) → h2.get? h1.objs.size = some (seqObj "list" out.toArray e) → Stays h1 h2 → Q (.ref h1.objs.size) { s with heap := h2, toks := t1 }) :
    wpAny (model prog w) A (call (.builtin "sorted") [v]) Q E s := by
  apply Calls.call_function_entry kind_sorted plain_sorted entry_sorted (args_sorted1 v)
  unfold Builtin.«sorted»
  apply wpAny_bind (m := checkCount "sorted" 1 1 _)
  apply wpAny_pure
  apply wpAny_bind
  have len : vs.length = bs.length := each.length
  refine col _ fun h1 t1 k1 => wpAny_bind (wpAny_newList ?_ (by rw [len]; exact few))
  have here : (h1.push (seqObj "list" vs.toArray 0)).get? h1.objs.size = some (seqObj "list" vs.toArray 0) := Heap.get?_push_size h1 rfl
  have old : Stays s.heap (h1.push (seqObj "list" vs.toArray 0)) := fun b o hb => Heap.get?_push_of_some _ (k1 b o hb)
  apply wpAny_bind
  apply wpAny_holding
  refine PySem.W.list_sort_data (A := A.in1) (s := { s with heap := h1.push (seqObj "list" vs.toArray 0), toks := t1 }) here each (rd.mono fun _ _ r => ⟨[], Reads.keeps old r, fun z => by cases z⟩) al so few room fun out _ eo => ?_
  obtain ⟨⟨e, at_⟩, k2⟩ := laid_sorted (h1 := h1) (vs := vs) (out := out)
  exact wpAny_pure ⟨_, rfl, fin h1 t1 out _ e k1 eo at_ k2⟩
end
section
variable {X : Cx} {pins : List (Addr × Obj)} {σ : L2.St} {H : Hp} {s : Shared}
theorem reads_keys {h : Heap} : ∀ {k : List Key} {us : List Value}, Vals (k.map kV) us → ReadsAll h us (k.map keyPy) []
  | [], _, r => by cases r; exact .nil
  | a :: k, _, r => by
    cases r with
    | cons r1 r2 =>
      refine .cons (as := []) (bs := []) ?_ (reads_keys r2)
      cases a with
      | inl i => obtain ⟨t, rfl⟩ := r1; exact .int i t
      | inr x => obtain ⟨t, rfl⟩ := r1; exact .str x t
theorem reads_key {q : Addr} {k : List Key} (I : Inv X pins σ H s) (hq : H q = some (.tup (k.map kV))) : Reads s.heap (.ref q) (.tuple (k.map keyPy)) [] := by
  obtain ⟨its, rv, ⟨o, go, ty, n, dat⟩, _⟩ := I.tuple (SqT.of hq)
  exact .tuple go ty dat (reads_keys rv)
/-- what is in the dict, entry by entry -/
theorem rdT {d : Addr} {l : List (List Key × V)} (I : Inv X pins σ H s) (e : Rd H d (.dT l)) : l.length ≤ sizeLine ∧ (d == sysModules) = false ∧ ∃ (es : Array DictEntry) (ep : Nat), s.heap.DictRaw d es ep ∧ es.size = l.length ∧
    ∀ (i : Nat) (k : List Key) (v : V) (h : i < es.size), l[i]? = some (k, v) → ∃ q, es[i].key = .ref q ∧ H q = some (.tup (k.map kV)) ∧ RelV v es[i].val := by
  obtain ⟨z, nm, xs, prs, o2, es, ep, g2, xd, dt, ent, _⟩ := (show ObjOk X.prog X.w H s.heap d (.dT l) from rd_of I.hok e)
  have n1 : es.size = xs.length := size_of_entries ent
  have n2 : l.length = xs.length := Paired.length prs
  refine ⟨z, nm, es, ep, ⟨o2, g2, xd, dt⟩, by omega, fun i k v hi hk => ?_⟩
  obtain ⟨b, hb, _, q2, q3⟩ := paired_get prs hk
  have y := entry_at ent i
  rw [hb, Array.getElem?_eq_getElem hi] at y
  have y := Option.some.inj y
  exact ⟨b.2.1, by rw [y]; rfl, q2, by rw [y]; exact q3⟩
end
/-- the key tuples, in order -/
def rSortT : List V → Hp → VK → Prop := fun vs H Q => ∃ (a : Addr) (l : List (List Key × V)), vs = [.ref a] ∧ Rd H a (.dT l) ∧ PySem.W.AllAlike (l.map fun p => PyData.tuple (p.1.map keyPy)) ∧ PySem.W.Sortable (l.map fun p => PyData.tuple (p.1.map keyPy)) ∧
  ∀ (xs : List V) (p : Addr), Paired (fun (x : V) (b : List Key × V) => ∃ q, x = .ref q ∧ H q = some (.tup (b.1.map kV))) xs (l.mergeSort (PySem.W.dataLe false fun p => PyData.tuple (p.1.map keyPy))) → H p = none → Q (.ref p) (upd H p (.lst xs))
theorem py_depth (k : List Key) : (PyData.tuple (k.map keyPy)).depth ≤ 1 := by
  have : ∀ k : List Key, PyData.depthAll (k.map keyPy) = 0 := fun k => by
    induction k with
    | nil => rfl
    | cons a k ih =>
      rw [List.map_cons, PyData.depthAll, ih]
      cases a <;> rfl
  show PyData.depthAll (k.map keyPy) + 1 ≤ 1
  rw [this]
  exact Nat.le_refl _
theorem each_of {α β : Type} {R : α → β → Prop} : ∀ {l : List α} {m : List β}, l.length = m.length → (∀ (i : Nat) a b, l[i]? = some a → m[i]? = some b → R a b) → PySem.W.EachIs R l m
  | [], [], _, _ => .nil
  | [], _ :: _, h, _ => by cases h
  | _ :: _, [], h, _ => by cases h
  | a :: l, b :: m, h, f => .cons (f 0 a b rfl rfl) (each_of (by simpa using h) fun i x y hx hy => f (i + 1) x y (by simpa using hx) (by simpa using hy))
theorem cr_sortedT {X : Cx} (hc : X.calm = true) (hu : X.A.units + 64 < cLine) : CallR X (.builtin "sorted") rSortT := fun pins s σ H vs us Q I r ⟨a, l, e, hd, al, so, q⟩ => by
  subst e
  rw [Vals.ref1 r]
  obtain ⟨few, nm, es, ep, raw, len, ent⟩ := rdT I hd
  have keyAt : ∀ i (v : Value) (b : List Key × V), (es.toList.map (·.key))[i]? = some v → l[i]? = some b → ∃ q, v = .ref q ∧ H q = some (.tup (b.1.map kV)) := fun i v b hv hb => by
    rw [List.getElem?_map] at hv
    cases z : es.toList[i]? with
    | none => rw [z] at hv; cases hv
    | some en =>
      rw [z] at hv
      cases hv
      obtain ⟨hi, rfl⟩ := List.getElem?_eq_some_iff.mp z
      obtain ⟨q, hq, ht, _⟩ := ent i b.1 b.2 (by simpa using hi) hb
      exact ⟨q, by simpa using hq, ht⟩
  have n1 : (es.toList.map (·.key)).length = l.length := by rw [List.length_map, Array.length_toList]; exact len
  refine sorted_colD (vs := es.toList.map (·.key)) (bs := l) (enc := fun p => PyData.tuple (p.1.map keyPy)) (R := fun v b => ∃ q, v = .ref q ∧ H q = some (.tup (b.1.map kV))) few (each_of n1 keyAt)
    (each_of n1 fun i v b hv hb => ?_) al so (fun b _ => by have := py_depth b.1; omega) (fun R h => ?_) fun h1 t1 out h2 e k1 eo at_ k2 => ?_
  · obtain ⟨q, rfl, ht⟩ := keyAt i v b hv hb
    exact reads_key I ht
  · refine PySem.W.kdu_collect (PySem.KdlSrc.rawDict (es := es) (ep := ep) nm) (I.ok.hd hc) raw (by rw [len]; exact few) fun h' tk acc k items => ?_
    have ea : acc.toList = es.toList.map (·.key) := by
      apply List.ext_getElem?
      intro i
      by_cases hi : i < es.size
      · have ha : i < acc.size := by rw [items.1]; exact hi
        obtain ⟨_, h2⟩ := items.2 i acc[i] (Array.getElem?_eq_getElem ha)
        rw [List.getElem?_map, List.getElem?_eq_getElem (by simpa using ha), List.getElem?_eq_getElem (by simpa using hi)]
        simp [h2]
      · rw [List.getElem?_eq_none (by rw [Array.length_toList, items.1]; omega), List.getElem?_eq_none (by rw [List.length_map, Array.length_toList]; omega)]
    rw [ea]
    exact h h' tk k
  · have I1 : Inv X pins σ H { s with heap := h1, toks := t1 } := I.kept (t' := t1) k1
    have free : H h1.objs.size = none := I1.hok.fresh (Nat.le_refl _)
    obtain ⟨xs, vals, prs⟩ : ∃ xs, Vals xs out ∧ Paired (fun (x : V) (b : List Key × V) => ∃ q, x = .ref q ∧ H q = some (.tup (b.1.map kV))) xs (l.mergeSort (PySem.W.dataLe false fun p => PyData.tuple (p.1.map keyPy))) := by
      generalize l.mergeSort (PySem.W.dataLe false fun p => PyData.tuple (p.1.map keyPy)) = m at eo
      clear at_
      induction eo with
      | nil => exact ⟨[], .nil, .nil⟩
      | cons h r ih =>
        obtain ⟨q, rfl, ht⟩ := h
        obtain ⟨xs, v1, p1⟩ := ih
        exact ⟨.ref q :: xs, .cons rfl v1, .cons ⟨q, rfl, ht⟩ p1⟩
    have n2 : xs.length = l.length := by rw [Paired.length prs, List.length_mergeSort]
    have I2 := I1.laid (a := h1.objs.size) (o := .lst xs) (h' := h2) (t' := t1) k2 (Nat.le_refl _) ⟨by rw [n2]; exact few, out, e, vals, at_⟩
    exact ⟨.ref h1.objs.size, _, I2, rfl, q xs _ prs free⟩
theorem k_sortedT {X : Cx} (hc : X.calm = true) (hu : X.A.units + 64 < cLine) : CallR X (.builtin "sorted") rSortT := cr_sortedT hc hu
end DL
set_option Elab.async false
set_option linter.all false
set_option maxRecDepth 100000
set_option maxHeartbeats 1000000
namespace DL
open PySem PySem.Spec PyProof.Rows L2 Evl PySem.Calls
/-! ### dict(d), d a dict with tuple keys -/
def hashT (w : World) (k : List Key) : Int := reduceHash (Builtin.Tuple.tupleHashOf (k.map (keyH w)))
def rDictT (w : World) : List V → Hp → VK → Prop := fun xs H Q => ∃ (a : Addr) (l : List (List Key × V)), xs = [.ref a] ∧ Rd H a (.dT l) ∧ (l.map fun p => hashT w p.1).Nodup ∧ ∀ p, H p = none → Q (.ref p) (upd H p (.dT l))
theorem kt_fst {H : Hp} : ∀ {l : List (List Key × V)} {ys : List (List Key × Addr × Value)}, KT H l ys → ys.map (·.1) = l.map (·.1)
  | _, _, .nil => rfl
  | _, _, .cons h r => by rw [List.map_cons, List.map_cons, kt_fst r, h.1]
section
variable {X : Cx}
theorem call_dictT (hu : X.A.units + 64 < cLine) : CallR X (.type "dict") (rDictT X.w) := fun pins s σ H xs us Q I r ⟨a, l, e, hd, ap, q⟩ => by
  subst e
  rw [Vals.ref1 r]
  have free : H s.heap.objs.size = none := I.hok.fresh (Nat.le_refl _)
  have I1 : Inv X pins σ (upd H s.heap.objs.size (.dT [])) { s with heap := s.heap.push { cls := .type "dict", data := .dict #[] } } :=
    I.laid (t' := s.toks) (fun b o e => Heap.get?_push_of_some _ e) (Nat.le_refl _) (dt_empty s.heap I.big)
  have na : a ≠ s.heap.objs.size := fun z => by
    rcases hd with hd | ⟨o, hd⟩ <;> (rw [z, free] at hd; cases hd)
  have hd1 : Rd (upd H s.heap.objs.size (.dT [])) a (.dT l) := by
    unfold Rd
    rw [upd_ne na]
    exact hd
  obtain ⟨few, nm, ys, kt, dd⟩ := dt_rd I1.hok hd1
  obtain ⟨_, nm0, zs, kt0, dd0⟩ := dt_of I1.hok (a := s.heap.objs.size) (kvs := []) upd_same
  cases kt0
  have n1 : ys.length = l.length := (Paired.length kt).symm
  have apart : (ys.map fun x => (tupleKind (mixKind X.prog X.w)).hash x.1).Nodup := by
    have e1 : (ys.map fun x => (tupleKind (mixKind X.prog X.w)).hash x.1) = l.map fun p => hashT X.w p.1 := by
      have := congrArg (List.map (hashT X.w)) (kt_fst kt)
      rw [List.map_map, List.map_map] at this
      exact this
    rw [e1]; exact ap
  have isT : ∀ x ∈ ys, ({ s with heap := s.heap.push { cls := .type "dict", data := .dict #[] } } : Shared).TypeIs (.ref x.2.1) "tuple" := fun x hx => by
    obtain ⟨i, hi⟩ := List.getElem?_of_mem hx
    have il : i < l.length := by rw [← n1]; exact (List.getElem?_eq_some_iff.mp hi).1
    obtain ⟨b, hb, _, ht, _⟩ := paired_get kt (List.getElem?_eq_getElem il)
    obtain rfl : x = b := Option.some.inj (hi.symm.trans hb)
    obtain ⟨its, rv, ⟨o, go, ty, _⟩, _⟩ := I1.tuple (SqT.of ht)
    exact ⟨o, go, ty⟩
  refine callType_codes (Q₁ := fun obj s1 => obj = .ref s.heap.objs.size ∧ s1 = { s with heap := s.heap.push { cls := .type "dict", data := .dict #[] } }) F.kt_called_dict (F.kt_typeCall_dict_1 _) F.entry_dict_init (kt_code_dict_new _ ⟨rfl, rfl⟩) ?_
  intro obj s1 ⟨e1, e2⟩
  subst e1 e2
  refine ⟨dd0.typeIs, F.args_dict_init_2 _ _, ?_⟩
  unfold Builtin.«dict.__init__» Builtin.Dict.selfAndRest
  apply wpAny_bind
  apply wpAny_bind
  refine wpAny_notOrdered_dict dd0.typeIs (wpAny_pure ?_)
  refine updateFrom_dictH (knd := tupleKind (mixKind X.prog X.w)) .none (by show X.A.units + 1 + 1 < cLine; omega) (Ne.symm na) nm dd0 dd (.inr ⟨isT, apart⟩) (by rw [n1]; simpa using few) fun h1 d1 _ same => ⟨rfl, ?_⟩
  rw [storedAllH_nil_of_nodup ys dd.nodup] at d1
  obtain ⟨o, es, ep, go, t1, t2, t3, _, t4⟩ := d1
  have kt2 : KT (upd (upd H s.heap.objs.size (.dT [])) s.heap.objs.size (.dT l)) l ys := kt.keeps fun c ys' ec => by
    have ne : c ≠ s.heap.objs.size := fun z => by rw [z, upd_same] at ec; cases ec
    rw [upd_ne ne]; exact ec
  have mu : Mut (upd H s.heap.objs.size (.dT []) s.heap.objs.size) := by rw [upd_same]; exact True.intro
  have I2 := d_write (t' := s.toks) I1 mu same ⟨o, go⟩ (ob := .dT l) ⟨few, nm0, ys, kt2, o, es, ep, go, t1, t2, t3, t4⟩
  have eu : upd (upd H s.heap.objs.size (.dT [])) s.heap.objs.size (.dT l) = upd H s.heap.objs.size (.dT l) := by
    funext b
    by_cases z : b = s.heap.objs.size
    · rw [z, upd_same, upd_same]
    · rw [upd_ne z, upd_ne z, upd_ne z]
  rw [eu] at I2
  exact ⟨.ref s.heap.objs.size, _, I2, rfl, q _ free⟩
end
end DL
set_option Elab.async false
set_option linter.all false
set_option maxRecDepth 100000
set_option maxHeartbeats 1000000
namespace DL
open PySem PySem.Spec PyProof.Rows L2 Evl PySem.Calls
/-! ### dict([(k, v), ..]), tuple keys, each once -/
end DL
set_option Elab.async false
set_option linter.all false
set_option maxRecDepth 100000
set_option maxHeartbeats 1000000
namespace DL
open PySem PySem.Spec PyProof.Rows L2 Evl PySem.Calls
section
variable {ι : Type} {c : Cc ι} {ρ : List S} {m : ι} {Φ : ι → S → Prop} {tk tv : TE} {tt : TT} {wi : TI} {g : TG} {vs : List Nat}
/-- {k: v for x in .. if ..}, tuples as keys -/
theorem de_dct (h : DI c m wi ρ fun m ds => ds.length < 1000000 ∧ ∃ J : Nat → ι → List (List Key × D) → Prop, J 0 m [] ∧
    (∀ i d m acc, ds[i]? = some d → J i m acc → ∃ ρ', DG c m g vs d (wipeS ρ vs) ρ' ∧ DT c m tt ρ' fun m b => (b = true → De c m tk ρ' fun m s => ∃ k, s = .dat (keyT k) ∧ De c m tv ρ' fun m s2 => ∃ d', s2.frz = .dat d' ∧ J (i + 1) m (putD acc k d')) ∧ (b = false → J (i + 1) m acc)) ∧
    ∀ m acc, J ds.length m acc → Φ m (.own (.dT acc))) (hw : noEls vs ρ = true := by with_unfolding_all rfl) : De c m (tDct wi g tt tk tv vs) ρ Φ := fun σ G H e Q q => h σ G H e _ fun I ds m1 G1 H1 g1 it ⟨hl, J, j0, jt, jd⟩ => fun Dd hD => by
  have e1 := e.grow g1
  have mD : ¬ c.W.M Dd := fun m => c.W.ne e1.ok.inv m hD
  have gD : G1 Dd = none := fresh_back e1.ok.ex hD
  let W : Nat → Nat → Hp → Prop := fun i m H2 => m = ds.length - i ∧ i ≤ ds.length ∧ ∃ m2 G2 kvs acc, Grow c.W G1 H1 m2 G2 H2 ∧ H2 Dd = some (.dT kvs) ∧ G2 Dd = none ∧ kvs.map (·.1) = acc.map (·.1) ∧ RpL c.K G2 (kvs.map (·.2)) (acc.map (·.2)) ∧ acc.length ≤ i ∧ J i m2 acc
  refine ⟨W, ⟨ds.length, by simp, Nat.zero_le _, m1, G1, [], [], (e1.refl).mut hD gD mD, upd_same, gD, rfl, .nil, Nat.le_refl _, j0⟩, ?_⟩
  rintro i m H2 ⟨em, hi, m2, G2, kvs, acc, g2, hx, hn, kx, rx, ha, j⟩
  have e2 := e1.grow g2
  obtain ⟨ih1, ih2⟩ := it m2 G2 H2 g2.ex e2.ok i
  by_cases hlt : i < ds.length
  · right
    have hd : ds[i]? = some ds[i] := by simp [hlt]
    obtain ⟨go, yl⟩ := ih1 _ hd
    refine ⟨go, W (i + 1) (m - 1), fun H' w => ⟨m - 1, by omega, w⟩, fun x H' y => ?_⟩
    obtain ⟨G3, g3, r3⟩ := yl x H' y
    obtain ⟨ρ', dg, ht⟩ := jt i _ m2 acc hd j
    have e3 := (e2.grow g3).wipe vs hw
    refine dg x _ G3 H' e3 r3 _ fun σ' f4 hw' => ⟨hw'.trans (wipe_wipe σ vs), ?_⟩
    have e4 := f4 _ _ _ (Ex.refl _) e3
    refine ht σ' G3 H' e4 _ fun b m4 G4 H4 g4 ⟨hy, hno⟩ => ?_
    cases b with
    | false =>
      rw [if_neg Bool.false_ne_true]
      have g34 := g3.trans g4
      exact ⟨by omega, hlt, m4, G4, kvs, acc, g2.trans g34, g34.keep _ _ mD hx, g34.fresh _ _ hx rfl hn, kx, rx.mono g34.ex, by omega, hno rfl⟩
    | true =>
      rw [if_pos rfl]
      refine hy rfl σ' G4 H4 (e4.grow g4) _ fun v s m5 G5 H5 g5 r5 ⟨k, es, hv⟩ => ?_
      subst es
      refine hv σ' G5 H5 ((e4.grow g4).grow g5) _ fun v2 s2 m6 G6 H6 g6 r6 ⟨d', es2, j'⟩ => ?_
      obtain ⟨G7, g7, r7⟩ := r6.freeze g6
      rw [es2] at r7
      have g37 := ((g3.trans g4).trans g5).trans g7
      have k1 : H6 Dd = some (.dT kvs) := g37.keep _ _ mD hx
      have k2 : G7 Dd = none := g37.fresh _ _ hx rfl hn
      have hlen : kvs.length = acc.length := by simpa using congrArg List.length kx
      obtain ⟨p1, p2⟩ := rpk_put (k := k) kx (rx.mono g37.ex) (show Rp c.K G7 v2 d' from r7)
      obtain ⟨b, rfl, hb⟩ := keyT_inv (K := c.K) (G := G5) (show Rp c.K G5 v (keyT k) from r5)
      have hb6 : H6 b = some (.tup (k.map kV)) := g7.sub _ _ (g7.ex _ _ hb)
      refine ⟨_, DPut.t k1 hb6 (szl (by omega)), by omega, hlt, m6, G7, _, putD acc k d', (g2.trans g37).mut hD k2 mD, upd_same, k2, p1, p2, ?_, j'⟩
      have := putD_len acc k d'
      omega
  · left
    have hl2 : i = ds.length := by omega
    refine ⟨ih2 hl2, ?_⟩
    subst hl2
    exact q (.ref Dd) (.own (.dT acc)) m2 G2 H2 (g1.trans g2) ⟨Dd, rfl, ⟨g1.back hD, hn, mD⟩, kvs, hx, kx, rx⟩ (jd m2 acc j)
end
section
variable {ι : Type} {K : PySem.W.Frag} {W : Wd ι} {m : ι} {Φ : ι → S → Prop} {w : World}
/-- key tuples in order -/
def srtK (ks : List (List Key)) : List (List Key) := ks.mergeSort (PySem.W.dataLe false fun k => PyData.tuple (k.map keyPy))
theorem srtK_perm (ks : List (List Key)) : (srtK ks).Perm ks := List.mergeSort_perm ks _
theorem cb_sortedT {s : S} {ds : List (List Key × D)} (h1 : s.dct? = some (.T ds)) (al : PySem.W.AllAlike (ds.map fun p => PyData.tuple (p.1.map keyPy))) (so : PySem.W.Sortable (ds.map fun p => PyData.tuple (p.1.map keyPy))) (h : Φ m (.own (.lst ((srtK (ds.map (·.1))).map keyT)))) : CbS K W m rSortT [s] Φ := fun H0 G H vs ok rr Q q => by
  obtain ⟨v, rfl, r⟩ := relss1 rr
  obtain ⟨a, rfl, kvs, hd, hk, rv⟩ := r.dct ok h1
  have em : ∀ f : List Key → PyData, (kvs.map fun p => f p.1) = ds.map fun p => f p.1 := fun f => by
    have := congrArg (List.map f) hk
    rw [List.map_map, List.map_map] at this
    exact this
  refine ⟨a, kvs, rfl, hd, by rw [em fun k => PyData.tuple (k.map keyPy)]; exact al, by rw [em fun k => PyData.tuple (k.map keyPy)]; exact so, fun xs p prs hp => ?_⟩
  have ek : (kvs.mergeSort (PySem.W.dataLe false fun p => PyData.tuple (p.1.map keyPy))).map (·.1) = srtK (ds.map (·.1)) := by
    unfold srtK
    rw [← hk]
    exact List.map_mergeSort (r := PySem.W.dataLe false fun p : List Key × V => PyData.tuple (p.1.map keyPy)) (s := PySem.W.dataLe false fun k : List Key => PyData.tuple (k.map keyPy)) (f := fun x : List Key × V => x.1) fun a _ b _ => rfl
  rw [← ek] at h
  generalize kvs.mergeSort (PySem.W.dataLe false fun p => PyData.tuple (p.1.map keyPy)) = l at prs h
  obtain ⟨G2, g2, rx⟩ : ∃ G2, Grow W G H m G2 H ∧ RpL K G2 xs ((l.map (·.1)).map keyT) := by
    clear h
    induction prs with
    | nil => exact ⟨G, ok.refl, .nil⟩
    | cons hx r ih =>
      obtain ⟨b, rfl, hb⟩ := hx
      obtain ⟨G2, g2, rs⟩ := ih
      obtain ⟨G3, g3, hb3, x3⟩ := Grow.tup (g2.ok ok) hb
      exact ⟨G3, g2.trans g3, .cons (Rp.tup hb3 (rp_keys _)) (rs.mono x3)⟩
  have ok2 := g2.ok ok
  exact q (.ref p) (.own (.lst _)) m G2 _ (g2.trans (Grow.new ok2 hp)) ⟨p, rfl, ⟨hp, fresh_back ok2.ex hp, fun z => W.ne ok.inv z hp⟩, xs, upd_same, rx⟩ h
theorem cb_dictT {s : S} {ds : List (List Key × D)} (h1 : s.dct? = some (.T ds)) (hh : (ds.map fun p => hashT w p.1).Nodup) (h : Φ m (.own (.dT ds))) : CbS K W m (rDictT w) [s] Φ := fun H0 G H vs ok rr Q q => by
  obtain ⟨v, rfl, r⟩ := relss1 rr
  obtain ⟨a, rfl, kvs, hd, hk, rv⟩ := r.dct ok h1
  have em : (kvs.map fun p => hashT w p.1) = ds.map fun p => hashT w p.1 := by
    have := congrArg (List.map (hashT w)) hk
    rw [List.map_map, List.map_map] at this
    exact this
  exact ⟨a, kvs, rfl, hd, by rw [em]; exact hh, fun p hp => q (.ref p) (.own (.dT ds)) m G _ (Grow.new ok hp) ⟨p, rfl, ⟨hp, fresh_back ok.ex hp, fun z => W.ne ok.inv z hp⟩, kvs, upd_same, hk, rv⟩ h⟩
end
/-! ### methods -/
structure Me (P : Program) (w : World) (K : PySem.W.Frag) (mg : Str → Option Value) (base : Heap) (CX : CXT) (k : Nat) (C : Addr) (x : Str) (ps : List Str) (F : Fc) : Prop where
  cl : Cls K C
  ex : ∃ (f : Addr) (fd : FuncData), Meth K C x f ∧ FnOk P w K mg base CX k f fd ps (spF K F) ∧ Binds K fd ps []
section
variable {X : Cx} {K : PySem.W.Frag} {C : Addr} {k j : Nat} {x : Str} {ps : List Str} {F : Fc} {e : Expr} {es : List Expr} {ta : TE} {t : TA} {apos pos : Pos} {o : Expr}
theorem k_meth0 {CX : CXT} {E : XK} (c : Me X.prog X.w K X.mg X.base CX k C x ps F) (hK : X.K = K) (hr : Room j X.A) (hx : Passes CX X E) (he : PE X o ta) (hk : k ≤ j := by decide) {pl : Sem Bool}
    (ht : eval (.Call (.Attribute o x apos) [] [] pos) X.env = (do
      let ov ← eval o X.env
      standAt apos.atName
      let (f, first) ← holding [ov] (getMethod ov x pl)
      callWith pos f first (backTo pos (starEach [] X.env)) (backToKw pos (keywordEach [] X.env))) := by rfl) :
    PE X (.Call (.Attribute o x apos) [] [] pos) (tMeth C x (spF K F) [] E ta tNil) := by
  subst hK
  obtain ⟨f, fd, hm, hF, hb⟩ := c.ex
  exact pe_meth0 he c.cl hm hF (hr.mono hk) hb .nil hx ht
end
end DL
set_option Elab.async false
set_option linter.all false
set_option maxRecDepth 100000
set_option maxHeartbeats 1000000
namespace DL
open PySem L2 Evl
/-! ### a cell that is held while a walk lasts -/
end DL
set_option Elab.async false
set_option linter.all false
set_option maxRecDepth 100000
set_option maxHeartbeats 1000000
namespace DL
open PySem PySem.Spec PyProof.Rows L2 Evl
section
variable {X : Cx} {K : PySem.W.Frag} {w : World}
theorem k_notInD (hK : X.K = K) (hu : X.A.units + 65 < cLine) : OpR X (compareOp .NotIn) (rNotInD K) := by subst hK; exact op_notInD hu
theorem k_dictT (hw : X.w = w) (hu : X.A.units + 64 < cLine) : CallR X (.type "dict") (rDictT w) := by subst hw; exact call_dictT hu
end
section
variable {ι : Type} {m : ι} {K : PySem.W.Frag} {W : Wd ι} {Φ : ι → S → Prop}
theorem ops_notInP {s1 s2 : S} {d : D} {ds : List D} (p : Pl 63 d) (q : ∀ e ∈ ds, Pl 63 e) (h1 : s1.view = some d) (h2 : s2.view = some (.lst ds)) (b : Bool)
    (hb : ∀ (x : PyData) (xs : List PyData), d.py = some x → D.pys ds = some xs → (xs.any fun z => PyData.eqv z x) = b) (h : Φ m (.dat (.bl (!b)))) : OpS K W m (rNotInD K) s1 s2 Φ := fun H0 G H v1 v2 ok r1 r2 Q qq => by
  obtain ⟨x, e, k⟩ := p.py
  obtain ⟨y, e2, k2⟩ := (Pl.lst q).py
  have e3 := e2
  unfold D.py at e3
  cases z : D.pys ds with
  | none => rw [z] at e3; cases e3
  | some xs =>
    rw [z] at e3
    cases e3
    refine ⟨x, xs, r1.dp ok h1 e, r2.dp ok h2 e2, k.shaped (by omega), k2.shaped (by omega), qq _ (.dat (.bl _)) m G H ok.refl (Rp.bl _) ?_⟩
    rw [hb x xs e z]
    exact h
end
end DL
namespace Pf
open PySem PySem.Spec PyProof.Rows L2 DL
section
variable {ι : Type} {m : ι} {K : PySem.W.Frag} {W : Wd ι} {Φ : ι → S → Prop}
theorem dN_cast (k : List Nat) : dN k = (k.map fun n : Nat => (n : Int)).map D.int := by simp [dN, List.map_map]
theorem tD_py (k : List Nat) : (tD k).py = some (.tuple ((k.map fun n : Nat => (n : Int)).map PyData.int)) := by
  unfold tD
  rw [dN_cast, D.py, pys_ints]
  rfl
theorem tDs_py : ∀ L : List (List Nat), D.pys (L.map tD) = some (L.map fun k => .tuple ((k.map fun n : Nat => (n : Int)).map PyData.int))
  | [] => by rw [List.map_nil, D.pys]; rfl
  | k :: L => by rw [List.map_cons, D.pys, tD_py, tDs_py L]; rfl
theorem tD_pl {n : Nat} (k : List Nat) : Pl (n + 1) (tD k) := .tup fun x hx => by obtain ⟨n, _, rfl⟩ := dN_mem hx; exact .int _
theorem cast_inj {k j : List Nat} : (k.map fun n : Nat => (n : Int)) = (j.map fun n : Nat => (n : Int)) ↔ k = j := by
  constructor
  · intro h
    have := congrArg (List.map Int.toNat) h
    simpa [List.map_map, Function.comp_def] using this
  · rintro rfl; rfl
theorem mem_any (L : List (List Nat)) (k : List Nat) (x : PyData) (xs : List PyData) (h1 : (tD k).py = some x) (h2 : D.pys (L.map tD) = some xs) : (xs.any fun z => PyData.eqv z x) = decide (k ∈ L) := by
  rw [tD_py] at h1
  rw [tDs_py] at h2
  cases h1
  cases h2
  rw [Bool.eq_iff_iff, List.any_map, List.any_eq_true, decide_eq_true_iff]
  constructor
  · rintro ⟨j, hj, e⟩
    have e : PyData.eqv (.tuple ((j.map fun n : Nat => (n : Int)).map PyData.int)) (.tuple ((k.map fun n : Nat => (n : Int)).map PyData.int)) = true := e
    rw [PyData.eqv, eqv_ints, decide_eq_true_iff, cast_inj] at e
    exact e ▸ hj
  · intro h
    refine ⟨k, h, ?_⟩
    show PyData.eqv (.tuple ((k.map fun n : Nat => (n : Int)).map PyData.int)) (.tuple ((k.map fun n : Nat => (n : Int)).map PyData.int)) = true
    rw [PyData.eqv, eqv_ints, decide_eq_true_iff]
theorem ops_notInK {s1 s2 : S} {L : List (List Nat)} {k : List Nat} (h1 : s1.view = some (tD k)) (h2 : s2.view = some (.lst (L.map tD))) (h : Φ m (.dat (.bl (!decide (k ∈ L))))) : OpS K W m (rNotInD K) s1 s2 Φ :=
  ops_notInP (tD_pl k) (fun e he => by obtain ⟨j, _, rfl⟩ := List.mem_map.mp he; exact tD_pl j) h1 h2 _ (mem_any L k) h
end
end Pf
set_option Elab.async false
set_option linter.all false
set_option maxRecDepth 100000
set_option maxHeartbeats 1000000
namespace DL
open PySem L2 Evl
section
variable {ι : Type} {m : ι} {K : PySem.W.Frag} {W : Wd ι} {Φ : ι → S → Prop}
/-- len of an own list with own items -/
theorem cb_lenN {its : List It} (h : Φ m (.dat (.int its.length))) : CbS K W m (rLenA K) [.vw (.nest its)] Φ := fun H0 G H vs ok rr Q q => by
  obtain ⟨v, rfl, r⟩ := relss1 rr
  obtain ⟨p, rfl, f, xs, e, ri, nd⟩ := r
  exact .inl ⟨p, xs, rfl, .inl (.inl (.inl e)), by rw [ri.length]; exact q _ (.dat (.int _)) m G H ok.refl (Rp.int _) h⟩
def nonD : D → Bool
  | .non => true
  | _ => false
theorem ops_isNo {s : S} {d : D} (hs : s.frz = .dat d) (h : Φ m (.dat (.bl (nonD d)))) : OpS K W m (fun x y H Q => y = V.non ∧ Q (V.bl (decide (x = V.non))) H) s (.dat .non) Φ := fun H0 G H v1 v2 ok r1 r2 Q q => by
  cases r2
  refine ⟨rfl, ?_⟩
  have e : decide (v1 = V.non) = nonD d := by
    cases s with
    | dat d' => cases hs; have r1 : Rp K G v1 d := r1; cases r1 <;> simp [nonD]
    | own o =>
      obtain ⟨p, rfl, ob⟩ := r1
      cases hs
      cases o with
      | one o => cases o <;> simp [nonD, O.frz, O1.frz]
      | nest its => simp [nonD, O.frz]
      | ins C fs => simp [nonD, O.frz]
    | _ => cases hs
  rw [e]
  exact q _ (.dat (.bl _)) m G H ok.refl (Rp.bl _) h
theorem ops_notNo {s : S} {d : D} (hs : s.frz = .dat d) (h : Φ m (.dat (.bl (!nonD d)))) : OpS K W m (fun x y H Q => y = V.non ∧ Q (V.bl (!decide (x = V.non))) H) s (.dat .non) Φ := fun H0 G H v1 v2 ok r1 r2 Q q => by
  cases r2
  refine ⟨rfl, ?_⟩
  have e : decide (v1 = V.non) = nonD d := by
    cases s with
    | dat d' => cases hs; have r1 : Rp K G v1 d := r1; cases r1 <;> simp [nonD]
    | own o =>
      obtain ⟨p, rfl, ob⟩ := r1
      cases hs
      cases o with
      | one o => cases o <;> simp [nonD, O.frz, O1.frz]
      | nest its => simp [nonD, O.frz]
      | ins C fs => simp [nonD, O.frz]
    | _ => cases hs
  rw [e]
  exact q _ (.dat (.bl _)) m G H ok.refl (Rp.bl _) h
end
end DL
set_option Elab.async false
set_option linter.all false
set_option maxRecDepth 100000
set_option maxHeartbeats 1000000
namespace DL
open PySem PySem.Spec PyProof.Rows L2 Evl
/-! ### == and != by an own __eq__, len by an own __len__ -/
section
variable {prog : Program} {w : World} {A : Around} {E : Value → Shared → Prop} {s : Shared} {K : PySem.W.Frag} {x C f : Addr} {ox : Obj} {od : Option Obj} {b tb : Value}
/-- what a class with an own __eq__, and without an own __ne__, must have -/
structure EqC (K : PySem.W.Frag) (C f : Addr) : Prop where
  eq : PySem.W.findIn K (.ref C) "__eq__" = some (some (.ref f))
  fn : PySem.W.isFn K (.ref f) = true
  ne : PySem.W.findIn K (.ref C) "__ne__" = some (some (.builtin "object.__ne__"))
  ob : PySem.W.subIn K (.ref C) (.type "object") = some true
  li : PySem.W.subIn K (.type "list") (.ref C) = some false
def NotB (Q : Value → Shared → Prop) (v : Value) (s' : Shared) : Prop := ∃ r, v = .bool r ∧ Q (.bool (!r)) s'
theorem ne_entry (X : K.In s.heap) (I : PySem.W.InstAt s.heap x ox C od) (c : EqC K C f) (hu : A.units < cLine) {Q : Fin → Shared → Prop}
    (h : wpAny (model prog w) A (call (.ref f) [.ref x, b]) (NotB fun v s' => Q (.done (.ret v)) s') E s) : wpAny (model prog w) A (Builtin.«object.__ne__» ⟨[.ref x, b], []⟩) Q E s := by
  unfold Builtin.«object.__ne__»
  have one : ∀ {R : Option Value → Shared → Prop}, (∀ v s', NotB (fun v s' => Q (.done (.ret v)) s') v s' → R (some v) s') → wpAny (model prog w) A (callSpecialIfBound? (.ref x) (Str.ofString "__eq__") [b]) R E s := fun k =>
    PySem.W.ifBound_K X I c.eq c.fn (wpAny_mono h (fun v s' z => k v s' z) fun _ _ z => z)
  repeat (first
    | with_reducible refine wpAny_cRoomFor hu ?_
    | (refine wpAny_bind (m := callSpecialIfBound? (.ref x) (Str.ofString "__eq__") [b]) (one fun v s' z => ?_); obtain ⟨r, rfl, q⟩ := z)
    | exact q
    | (with_reducible exact wpAny_pure q)
    | (refine wpAny_bind (m := truthy (.bool _)) (wpAny_truthy_bool ?_))
    | wp_step)
theorem ne_check {M : Model} {R : Unit → Shared → Prop} (X : K.In s.heap) (I : PySem.W.InstAt s.heap x ox C od) (c : EqC K C f) (q : R () s) : wpAny M A (checkBuiltinCall "object.__ne__" ⟨[.ref x, b], []⟩) R E s := by
  simp only [checkBuiltinCall, F.cmpKind_ne, F.cmpSplit_ne]
  refine wpAny_bind ?_
  unfold isInstance
  refine wpAny_bind (I.type.here ((PySem.W.looks_subIn X c.ob).here ?_))
  have ok := F.cmpArgs_ne (.ref x) b
  cases sig : Manifest.signature? "object.__ne__" with
  | none => exact wpAny_pure q
  | some z =>
    simp only [argsOk, sig] at ok
    have e : Bind.checkArgs "object.__ne__" z ⟨[.ref x, b], []⟩ = pure () := ok
    show wpAny M A (Bind.checkArgs "object.__ne__" z ⟨[.ref x, b], []⟩) R E s
    rw [e]
    exact wpAny_pure q
theorem ne_try (X : K.In s.heap) (I : PySem.W.InstAt s.heap x ox C od) (c : EqC K C f) (hu : A.in1.units < cLine) {Q : Option Value → Shared → Prop}
    (h : wpAny (model prog w) A.in1 (call (.ref f) [.ref x, b]) (NotB fun v s' => Q (some v) s') E s) : wpAny (model prog w) A (tryCompare (.ref x) "__ne__" b) Q E s := by
  have inner : wpAny (model prog w) A (call (.builtin "object.__ne__") [.ref x, b]) (fun v s' => ∃ r, v = .bool r ∧ Q (some (.bool r)) s') E s := by
    refine wpAny_call (codeAny_call_builtin F.cmp_object.ne.plain F.cmpEntry_ne (ne_check X I c ?_))
    refine wpAny_mono (ne_entry (A := A.in1) (Q := fun z s' => ∃ r, z = .done (.ret (.bool r)) ∧ Q (some (.bool r)) s') X I c hu (wpAny_mono h (fun v s' z => ?_) fun _ _ z => z)) (fun z s' y => ?_) fun _ _ z => z
    · obtain ⟨r, rfl, q⟩ := z
      exact ⟨r, rfl, _, rfl, q⟩
    · obtain ⟨r, rfl, q⟩ := y
      first | exact ⟨r, rfl, q⟩ | exact wpAny_pure ⟨r, rfl, q⟩
  unfold tryCompare
  refine wpAny_bind ?_
  simp only [callSpecialIfBound?, bindSpecialIfBound?]
  refine wpAny_holding (wpAny_bind (wpAny_bind (wpAny_bind (I.type.here ((PySem.W.looks_findIn X c.ne).here ?_)))))
  simp only [F.cmp_object.ne.bind]
  have fin : wpAny (model prog w) A (call (.builtin "object.__ne__") ([.ref x] ++ [b]) >>= fun v => pure (some v)) (fun r s' => ∃ v, r = some v ∧ ∃ r', v = .bool r' ∧ Q (some (.bool r')) s') E s :=
    wpAny_bind (wpAny_mono inner (fun v s' z => wpAny_pure ⟨_, rfl, z⟩) fun _ _ z => z)
  refine wpAny_bind (wpAny_askSetting (wpAny_ite ?_))
  split
  · refine wpAny_bind (wpAny_pure (wpAny_pure ?_))
    refine wpAny_mono fin (fun r s' z => ?_) fun _ _ z => z
    obtain ⟨v, rfl, r', rfl, q⟩ := z
    exact wpAny_pure q
  · refine wpAny_tryCatch (wpAny_bind (wpAny_pure (wpAny_pure ?_)))
    refine wpAny_mono fin (fun r s' z => ?_) fun _ _ z => z
    obtain ⟨v, rfl, r', rfl, q⟩ := z
    exact wpAny_pure q
theorem ne_own (X : K.In s.heap) (I : PySem.W.InstAt s.heap x ox C od) (c : EqC K C f) (hu : A.units + 1 < cLine) (hb : PySem.W.Looks (model prog w) s.heap (typeOf b) tb) (hn : PySem.W.notFirst K C tb = true) {Q : Value → Shared → Prop}
    (h : wpAny (model prog w) A.in1 (call (.ref f) [.ref x, b]) (NotB Q) E s) : wpAny (model prog w) A (richCompare .NotEq (.ref x) b) Q E s := by
  have go : wpAny (model prog w) A (tryCompare (.ref x) "__ne__" b) (fun r s' => ∃ v, r = some v ∧ Q v s') E s := ne_try X I c (by show A.units + 1 < cLine; exact hu) (wpAny_mono h (fun v s' ⟨r, e, q⟩ => ⟨r, e, _, rfl, q⟩) fun _ _ z => z)
  unfold richCompare
  simp only [oneThing_ref]
  refine wpAny_holding (wpAny_bind (wpAny_cRoomFor (by omega) ?_))
  rw [cmpInfo_NotEq]
  dsimp only
  refine wpAny_bind (I.type.here (wpAny_bind (hb.here ?_)))
  have tail : ∀ {k : Option Value → Sem Value}, (∀ v s', Q v s' → wpAny (model prog w) A (k (some v)) Q E s') → wpAny (model prog w) A (tryCompare (.ref x) "__ne__" b >>= k) Q E s := fun hk =>
    wpAny_bind (wpAny_mono go (fun r s' ⟨v, e, q⟩ => by subst e; exact hk v s' q) fun _ _ z => z)
  split
  · rename_i ne
    have no : PySem.W.subIn K tb (.ref C) = some false := by
      rcases Bool.or_eq_true_iff.mp hn with z | z
      · rw [beq_iff_eq.mp z] at ne; simp at ne
      · exact beq_iff_eq.mp z
    refine wpAny_bind ((PySem.W.looks_subIn X no).here ?_)
    simp only [Bool.false_eq_true, if_false]
    exact tail fun v s' q => wpAny_pure q
  · refine wpAny_bind (wpAny_pure ?_)
    simp only [Bool.false_eq_true, if_false]
    exact tail fun v s' q => wpAny_pure q
end
section
variable {X : Cx} {C f : Addr} {fd : FuncData} {k : Nat} {sp : Sp}
/-- the other side of a comparison: of the same class, or a list -/
inductive Side (K : PySem.W.Frag) (C : Addr) (H : Hp) : V → Prop
  | ins {b dx : Addr} {fs : List (Str × V)} : H b = some (.ins C dx fs) → Side K C H (.ref b)
  | lst {b : Addr} {xs : List V} : SqL K H b xs → Side K C H (.ref b)
def rNeI (K : PySem.W.Frag) (C : Addr) (sp : Sp) : R2 := fun x y H Q => ∃ a dx fs, x = .ref a ∧ H a = some (.ins C dx fs) ∧ Side K C H y ∧ sp [x, y] H (fun v H' => ∃ b, v = V.bl b ∧ Q (.bl (!b)) H') E0
theorem side_type {pins : List (Addr × Obj)} {σ : L2.St} {H : Hp} {s : Shared} {y : V} {u : Value} (I : Inv X pins σ H s) (c : EqC X.K C f) (d : Side X.K C H y) (ry : RelV y u) : ∃ tb, PySem.W.Looks (model X.prog X.w) s.heap (typeOf u) tb ∧ PySem.W.notFirst X.K C tb = true := by
  cases d with
  | ins h =>
    cases ry
    obtain ⟨mA, J, _⟩ := ins_get I.hok h
    obtain ⟨od, J, _⟩ := J.look
    exact ⟨_, J.type, by simp [PySem.W.notFirst]⟩
  | @lst b xs h =>
    cases ry
    obtain ⟨its, _, o, h1, h2, _⟩ := seqK_at (k := .l) I h
    exact ⟨.type "list", h2 ▸ (PySem.W.Looks.ld h1).andThen .now, by unfold PySem.W.notFirst; rw [c.li]; simp⟩
/-- the class's own __eq__ as a def that is called -/
structure Oe (P : Program) (w : World) (K : PySem.W.Frag) (mg : Str → Option Value) (base : Heap) (k : Nat) (C : Addr) (F : Fc) : Prop where
  cl : Cls K C
  ex : ∃ (f : Addr) (fd : FuncData), EqC K C f ∧ FnOk P w K mg base CX0 k f fd ["self", "other"] (spF K F) ∧ Binds K fd ["self", "other"] []
variable {K : PySem.W.Frag} {F : Fc} {j : Nat}
/-- a def that raises nothing, called one deeper -/
theorem call_in1 {f : Addr} {fd : FuncData} {ps : List Str} {sp : Sp} {pins : List (Addr × Obj)} {σ : L2.St} {H : Hp} {s : Shared} {Q : VK} {us : List Value} {vs : List V} (fn : FnOk X.prog X.w X.K X.mg X.base CX0 k f fd ps sp) (hr : Room k X.A.in1) (bi : Binds X.K fd ps [])
    (I : Inv X pins σ H s) (r : Vals vs us) (h : sp vs H Q E0) : wpAny (model X.prog X.w) X.A.in1 (call (.ref f) us) (EP X pins σ Q) X.xe s := by
  have e := I.env0
  have e0 : Env0 X.prog X.w X.K X.mg X.base X.A.in1 X.stack s H := ⟨e.frames, e.mod, e.bs, e.bsz, e.funs, e.frf, e.hok, e.bare⟩
  have hl : us.length = ps.length := by rw [← r.length]; exact fn.len _ _ _ _ h
  have b := bi s us I.kIn (by rw [List.append_nil]; exact hl)
  rw [List.append_nil] at b
  refine wpAny_call (codeAny_mono (fn.run X.A.in1 X.stack s H ⟨us, []⟩ us vs Q E0 hr e0 b r h) fun z s' q => ?_)
  cases z with
  | error z => exact (q : False).elim
  | ok fl =>
    cases fl with
    | ret z =>
      obtain ⟨v, H', I', rv, q'⟩ := I.after q
      exact ⟨v, H', I', rv, q'⟩
    | next => exact (q : False).elim
    | brk => exact (q : False).elim
    | cont => exact (q : False).elim
theorem k_neI (c : Oe X.prog X.w K X.mg X.base k C F) (hK : X.K = K) (hr : Room j X.A) (hk : k + 1 ≤ j := by decide) : OpR X (compareOp .NotEq) (rNeI K C (spF K F)) := by
  subst hK
  obtain ⟨f, fd, ec, fn, bi⟩ := c.ex
  intro pins s σ H x y v u Q I rx ry ⟨a, dx, fs, hx, ha, sd, hsp⟩
  subst hx
  cases rx
  obtain ⟨tb, lk, nf⟩ := side_type I ec sd ry
  obtain ⟨mA, J, _⟩ := ins_get I.hok ha
  obtain ⟨od, J, _⟩ := J.look
  have hu := (hr.mono (show 1 ≤ j by omega)).in1.units0
  unfold compareOp
  refine ne_own I.kIn J ec (by exact hu) lk nf ?_
  refine wpAny_mono (call_in1 (vs := [.ref a, y]) (us := [.ref a, u]) (Q := fun v H' => ∃ b, v = V.bl b ∧ Q (.bl (!b)) H') fn (hr.mono hk).in1 bi I (.cons rfl (.cons ry .nil)) hsp) (fun v s' h => ?_) fun _ _ z => z
  obtain ⟨v', H', I', r', b, rfl, q⟩ := h
  cases r'
  exact ⟨b, rfl, .bl (!b), H', I', rfl, q⟩
end
/-! ### the same, of data -/
section
variable {ι : Type} {m : ι} {K : PySem.W.Frag} {W : Wd ι} {Φ : ι → S → Prop} {C : Addr} {F : Fc}
/-- what stands on the other side -/
inductive SideD (C : Addr) : S → Prop
  | ins {s : S} {fs : List (Str × D)} : s = .dat (.ins C fs) → SideD C s
  | lst {s : S} {ds : List D} : s = .dat (.lst ds) → SideD C s
theorem sideD {H0 G H : Hp} {v : V} {s : S} (ok : Ok W m G H) (r : RelS K W H0 G H v s) (d : SideD C s) : Side K C H v := by
  cases d with
  | ins e =>
    subst e
    cases r with
    | ins a b _ _ => exact .ins (ok.ex _ _ a)
  | lst e =>
    subst e
    cases r with
    | lst a _ => exact .lst (.inl (.inl (ok.ex _ _ a)))
theorem ops_neIns {fs : List (Str × D)} {s2 : S} (d : SideD C s2) (h : F ι W m [.dat (.ins C fs), s2] (fun m s => ∃ b, s = .dat (.bl b) ∧ Φ m (.dat (.bl (!b)))) fun _ _ _ => False) : OpS K W m (rNeI K C (spF K F)) (.dat (.ins C fs)) s2 Φ := fun H0 G H v1 v2 ok r1 r2 Q q => by
  have sd := sideD ok r2 d
  have r2 : RelS K W H G H v2 s2 := by cases d <;> (rename_i e; subst e; exact r2)
  have r1 : Rp K G v1 (.ins C fs) := r1
  cases id r1 with
  | @ins a dx _ fv _ e1 e2 e3 e4 =>
    refine ⟨a, dx, fv, rfl, ok.ex _ _ e1, sd, ι, W, m, G, [.dat (.ins C fs), s2], _, _, ok, .cons r1 (.cons r2 .nil), by cases d <;> (rename_i e; subst e; rfl), h, fun v s m' G' H' g r ⟨b, e, p⟩ => ?_, fun _ _ _ _ _ _ _ _ _ _ _ _ _ z => z.elim⟩
    subst e
    cases r
    exact ⟨b, rfl, q _ (.dat (.bl (!b))) m' G' H' g (Rp.bl _) p⟩
end
end DL
set_option Elab.async false
set_option linter.all false
set_option maxRecDepth 100000
set_option maxHeartbeats 1000000
namespace DL
open PySem PySem.Spec PyProof.Rows L2 Evl
/-! ### == and != of dicts of numbers -/
def sameV (ks ls : List (Key × V)) : Bool := ks.length == ls.length && ks.all fun p => decide (valV ls p.1 = some p.2)
def allI (ks : List (Key × V)) : Prop := ∀ p ∈ ks, ∃ i, p.2 = V.int i
def rEqK : R2 := fun x y H Q => ∃ a b ks ls, x = .ref a ∧ y = .ref b ∧ Rd H a (.dK ks) ∧ Rd H b (.dK ls) ∧ allI ks ∧ allI ls ∧ Q (.bl (sameV ks ls)) H
theorem eqAt_int2 {A : Around} {s : Shared} {i j : Int} {t u : Tok} (hu : A.units < cLine) : SeqAt.EqAt A s (.int i t) (.int j u) (decide (i = j)) := by
  have := SeqAt.eqAt_reads (.int i) (.int j) A s (.int i t) (.int j u) [] [] (.int _ _) (.int _ _) rfl rfl (by simpa [PyData.depth] using hu)
  have e : PyData.eqv (.int i) (.int j) = decide (i = j) := by by_cases z : i = j <;> simp [PyData.eqv, z]
  rw [e] at this
  exact this
theorem valV_mem {ls : List (Key × V)} {k : Key} {v : V} (h : valV ls k = some v) : (k, v) ∈ ls := by
  unfold valV at h
  cases e : ls.find? fun kv => decide (kv.1 = k) with
  | none => rw [e] at h; cases h
  | some p =>
    rw [e] at h
    have h1 := List.find?_some e
    have h2 := List.mem_of_find?_eq_some e
    have h : p.2 = v := by simpa using h
    have h1 : p.1 = k := by simpa using h1
    rw [← h, ← h1]
    exact h2
theorem hits_int {A : Around} {s : Shared} {ls : List (Key × V)} {vb : List (Key × Value)} (hu : A.units < cLine) (rb : KV ls vb) (hl : allI ls) : ∀ {ks : List (Key × V)} {va : List (Key × Value)}, KV ks va → allI ks → PySem.W.KeqHits A s vb va (ks.all fun p => decide (valV ls p.1 = some p.2))
  | [], [], _, _ => .nil
  | [], _ :: _, r, _ => by cases r
  | _ :: _, [], r, _ => by cases r
  | (k, v) :: ks, (k', u) :: va, r, h => by
    have r' : (k = k' ∧ RelV v u) ∧ KV ks va := by cases r with | cons a b => exact ⟨a, b⟩
    obtain ⟨⟨rfl, rv⟩, rt⟩ := r'
    have ih := hits_int (s := s) hu rb hl rt fun p hp => h p (List.mem_cons_of_mem _ hp)
    obtain ⟨i, hi⟩ := h (k, v) List.mem_cons_self
    have hi : v = V.int i := hi
    subst hi
    obtain ⟨t, rfl⟩ := rv
    have ro := rb.val k
    rw [List.all_cons]
    cases e : valV ls k with
    | none =>
      rw [e] at ro
      simp only [reduceCtorEq, decide_false, Bool.false_and]
      exact .miss ro.none_of
    | some w =>
      rw [e] at ro
      obtain ⟨y, hy, ry⟩ := ro.some_of
      obtain ⟨j, hj⟩ := hl _ (valV_mem e)
      have hj : w = V.int j := hj
      subst hj
      obtain ⟨u', rfl⟩ := ry
      have : decide (some (V.int j) = some (V.int i)) = decide (i = j) := by
        by_cases z : i = j
        · subst z; simp
        · have : ¬ j = i := fun q => z q.symm
          simp [z, this]
      dsimp only
      rw [this]
      exact .hit hy (eqAt_int2 hu) ih
section
variable {X : Cx}
theorem k_eqK (hu : X.A.units + 64 < cLine) : OpR X (compareOp .Eq) rEqK := by
  intro pins s σ H x y v u Q I rx ry ⟨a, b, ks, ls, hx, hy, ha, hb, ia, ib, q⟩
  subst hx hy
  cases rx
  cases ry
  obtain ⟨_, ya, va, ra, da⟩ := dk_rd I.hok ha
  obtain ⟨_, yb, vb, rb, db⟩ := dk_rd I.hok hb
  have hl : (va.length == vb.length) = (ks.length == ls.length) := by rw [← ra.length, ← rb.length]
  refine PySem.W.keq_eq (knd := mixKind X.prog X.w) ya yb da db (by omega) (fun _ => hits_int (by show X.A.units + 1 < cLine; omega) rb ib ra ia) ?_
  rw [hl]
  exact ⟨.bl _, H, I, rfl, q⟩
end
end DL
namespace Pf
open PySem PySem.Spec PyProof.Rows L2 DL
/-- the same games -/
def sameG (gs hs : List (Nat × Nat)) : Bool := gs.length == hs.length && gs.all fun p => decide (gv hs p.1 = some p.2)
def gV (gs : List (Nat × Nat)) : List (Key × V) := gs.map fun p => (Sum.inl (p.1 : Int), V.int (p.2 : Nat))
theorem gV_of {K : PySem.W.Frag} {G : Hp} : ∀ {gs : List (Nat × Nat)} {kvs : List (Key × V)}, kvs.map (·.1) = (gD gs).map (·.1) → RpL K G (kvs.map (·.2)) ((gD gs).map (·.2)) → kvs = gV gs
  | [], [], _, _ => rfl
  | [], _ :: _, h, _ => by cases h
  | _ :: _, [], h, _ => by cases h
  | g :: gs, (k, v) :: kvs, h, r => by
    have h' : k = Sum.inl (g.1 : Int) ∧ kvs.map (·.1) = (gD gs).map (·.1) := by
      unfold gD at h ⊢
      rw [List.map_cons, List.map_cons, List.map_cons] at h
      exact ⟨(List.cons.inj h).1, (List.cons.inj h).2⟩
    have r' : Rp K G v (.int (g.2 : Nat)) ∧ RpL K G (kvs.map (·.2)) ((gD gs).map (·.2)) := by
      unfold gD at r ⊢
      rw [List.map_cons, List.map_cons, List.map_cons] at r
      cases r with
      | cons a b => exact ⟨a, b⟩
    obtain ⟨rfl, h1⟩ := h'
    obtain ⟨r1, r2⟩ := r'
    cases r1
    rw [gV_of h1 r2]
    rfl
theorem gV_val : ∀ (gs : List (Nat × Nat)) (t : Nat), valV (gV gs) (Sum.inl (t : Int)) = (gv gs t).map fun v => V.int (v : Nat)
  | [], t => rfl
  | g :: gs, t => by
    have ih := gV_val gs t
    unfold valV gv gV at ih ⊢
    rw [List.map_cons, List.find?_cons, List.find?_cons]
    by_cases e : g.1 = t
    · subst e
      simp
    · have : ¬ ((g.1 : Int) = t) := by omega
      simp only [Sum.inl.injEq, this, e, decide_false]
      exact ih
theorem gV_same (gs hs : List (Nat × Nat)) : sameV (gV gs) (gV hs) = sameG gs hs := by
  unfold sameV sameG
  have h1 : ((gV gs).length == (gV hs).length) = (gs.length == hs.length) := by unfold gV; rw [List.length_map, List.length_map]
  rw [h1]
  congr 1
  have e : ∀ p : Nat × Nat, decide (valV (gV hs) (Sum.inl (p.1 : Int)) = some (V.int (p.2 : Nat))) = decide (gv hs p.1 = some p.2) := by
    intro p
    rw [gV_val]
    cases gv hs p.1 with
    | none => simp
    | some v =>
      by_cases z : v = p.2
      · subst z; simp
      · have : ¬ ((v : Int) = p.2) := by omega
        simp [z, this]
  unfold gV
  rw [List.all_map]
  congr 1
  funext p
  exact e p
theorem gV_all (gs : List (Nat × Nat)) : allI (gV gs) := fun p hp => by
  obtain ⟨g, _, rfl⟩ := List.mem_map.mp hp
  exact ⟨_, rfl⟩
section
variable {ι : Type} {m : ι} {K : PySem.W.Frag} {W : Wd ι} {Φ : ι → S → Prop} {gs hs : List (Nat × Nat)} {s1 s2 : S}
theorem ops_eqG (h1 : s1.dct? = some (.K (gD gs))) (h2 : s2.dct? = some (.K (gD hs))) (h : Φ m (.dat (.bl (sameG gs hs)))) : OpS K W m rEqK s1 s2 Φ := fun H0 G H v1 v2 ok r1 r2 Q q => by
  obtain ⟨a, ks, rfl, ha, k1, l1⟩ := r1.dicV ok h1
  obtain ⟨b, ls, rfl, hb, k2, l2⟩ := r2.dicV ok h2
  obtain rfl := gV_of k1 l1
  obtain rfl := gV_of k2 l2
  exact ⟨a, b, _, _, rfl, rfl, ha, hb, gV_all _, gV_all _, by rw [gV_same]; exact q _ (.dat (.bl _)) m G H ok.refl (Rp.bl _) h⟩
end
theorem sameG_refl {gs : List (Nat × Nat)} (nd : (gs.map (·.1)).Nodup) : sameG gs gs = true := by
  unfold sameG
  rw [Bool.and_eq_true]
  refine ⟨by simp, ?_⟩
  rw [List.all_eq_true]
  rintro ⟨t, v⟩ hp
  simp [gv_mem nd hp]
end Pf
set_option Elab.async false
set_option linter.all false
set_option maxRecDepth 100000
set_option maxHeartbeats 1000000
namespace DL
open PySem L2 Evl
/-! ### what is another's, lent to a def as data -/
def atomD : D → Bool
  | .non => true | .bl _ => true | .int _ => true | .str _ => true | _ => false
def flatD : D → Bool
  | .tup ds => ds.all atomD | d => atomD d
def lendS : S → S
  | .vw o => .dat o.frz | .own o => .dat o.frz | s => s
def lendOk : S → Bool
  | .dat _ => true | .vw _ => true | _ => false
def retOk : S → Bool
  | .dat d => atomD d | .own (.one (.lst ds)) => ds.all flatD | .own (.one (.dT ds)) => (ds.map (·.2)).all atomD | _ => false
def plain : HO → Bool
  | .lst _ => true | .dK _ => true | .dT _ => true | .ins _ _ _ => true | .own _ => true | _ => false
section
variable {ι : Type}
/-- the world, sealed -/
def sealW (W : Wd ι) (Hs : Hp) (hs : ∀ a, W.M a → ∃ u, Hs a = some u ∧ noTup u = true) : Wd Unit where
  M := W.M
  L := W.L
  I := fun _ _ H => ∀ a, W.M a → H a = Hs a
  dep := fun _ _ _ _ _ _ k h a ha => (k a ha).trans (h a ha)
  has := fun _ _ _ a h ha => by obtain ⟨u, e, t⟩ := hs a ha; exact ⟨u, (h a ha).trans e, t⟩
  sw := fun _ _ _ _ _ _ _ h => h
  pin := fun _ _ => False
  pinned := fun _ _ _ _ _ _ h => h.elim
open Classical in
noncomputable def lendG (W : Wd ι) (G H : Hp) : Hp := fun a => if G a = none ∧ ¬ W.M a ∧ (∃ u, H a = some u ∧ plain u = true) then H a else G a
def tupG (G G' : Hp) : Hp := fun a => match G a with
  | some o => some o
  | none => match G' a with
    | some (.tup xs) => some (.tup xs)
    | _ => none
variable {W : Wd ι} {K : PySem.W.Frag} {m : ι} {G H G' H' : Hp}
theorem lendG_ex : Ex G (lendG W G H) := fun a o h => by
  unfold lendG
  rw [if_neg]
  · exact h
  · rintro ⟨z, _⟩
    rw [h] at z
    cases z
theorem lendG_at {a : Addr} {u : HO} (f : Fv W G a) (h : H a = some u) (p : plain u = true) : lendG W G H a = some u := by
  unfold lendG
  rw [if_pos ⟨f.1, f.2, u, h, p⟩]
  exact h
theorem lend_ok (ok : Ok W m G H) (hs : ∀ a, W.M a → ∃ u, H a = some u ∧ noTup u = true) : Ok (sealW W H hs) () (lendG W G H) H := by
  refine ⟨fun a o h => ?_, fun a _ => rfl, fun a ha => ?_, fun a o u h n => ?_⟩
  · unfold lendG at h
    split at h
    · exact h
    · exact ok.ex a o h
  · unfold lendG
    rw [if_neg]
    · exact ok.off a ha
    · rintro ⟨_, z, _⟩
      exact z ha
  · unfold lendG at h
    split at h
    · rename_i z
      obtain ⟨_, _, w, e, p⟩ := z
      rw [h] at e
      cases e
      cases p
    · exact ok.lk a o u h n
theorem Ob1.lend {p : Addr} {o : O1} (f : Fv W G p) (h : Ob1 K G H p o) : Rp K (lendG W G H) (.ref p) o.frz := by
  cases o with
  | lst ds => obtain ⟨xs, e, r⟩ := h; exact .lst (lendG_at f e rfl) (r.mono lendG_ex)
  | dK ds => obtain ⟨xs, e, k, r⟩ := h; exact .dic (.inl (lendG_at f e rfl)) k (r.mono lendG_ex)
  | dT ds => obtain ⟨xs, e, k, r⟩ := h; exact .dit (.inl (lendG_at f e rfl)) k (r.mono lendG_ex)
theorem RIts.lend : ∀ {vs : List V} {is : List It}, RIts K (Fv W G) G H vs is → RpL K (lendG W G H) vs (is.map It.frz)
  | _, _, .nil => .nil
  | _, _, .cons (i := .d d) r rs => .cons (Rp.mono lendG_ex r) rs.lend
  | _, _, .cons (i := .o o) r rs => by
    obtain ⟨q, rfl, f, ob⟩ := r
    exact .cons (ob.lend f) rs.lend
theorem OwnAt.lend {p : Addr} {o : O} (h : OwnAt K (Fv W G) G H p o) : Rp K (lendG W G H) (.ref p) o.frz := by
  cases o with
  | one o => exact h.2.lend h.1
  | nest its => obtain ⟨f, vs, e, r, _⟩ := h; exact .lst (lendG_at f e rfl) r.lend
  | ins C fs =>
    obtain ⟨f, dx, fv, fx, e, ex, k, r, _⟩ := h
    obtain ⟨z1, z2⟩ := zip_map_eq (l := fs) (f := fun i : It => i.frz)
    refine .ins (lendG_at f e rfl) (lendG_at fx ex rfl) (by rw [k]; exact z1.symm) ?_
    show RpL K _ _ ((fs.map fun f => (f.1, f.2.frz)).map (·.2))
    rw [z2]
    exact r.lend
theorem atom_rp {v : V} {d : D} (h : atomD d = true) (r : Rp K G v d) : Rp K G' v d := by
  cases r <;> first | exact .non | exact .bl _ | exact .int _ | exact .str _ | cases h
theorem atoms_rp : ∀ {vs : List V} {ds : List D}, ds.all atomD = true → RpL K G vs ds → RpL K G' vs ds
  | _, _, _, .nil => .nil
  | _, _, h, .cons r rs => by
    rw [List.all_cons, Bool.and_eq_true] at h
    exact .cons (atom_rp h.1 r) (atoms_rp h.2 rs)
theorem flat_rp {v : V} {d : D} (ex : Ex G G') (h : flatD d = true) (r : Rp K G' v d) : Rp K (tupG G G') v d := by
  cases r with
  | @tup a xs ds e rs =>
    refine .tup ?_ (atoms_rp h rs)
    unfold tupG
    cases g : G a with
    | some o =>
      have := ex _ _ g
      rw [e] at this
      dsimp only
      exact this.symm
    | none => simp only [e]
  | non => exact .non
  | bl b => exact .bl b
  | int i => exact .int i
  | str x => exact .str x
  | _ => cases h
theorem flats_rp (ex : Ex G G') : ∀ {vs : List V} {ds : List D}, ds.all flatD = true → RpL K G' vs ds → RpL K (tupG G G') vs ds
  | _, _, _, .nil => .nil
  | _, _, h, .cons r rs => by
    rw [List.all_cons, Bool.and_eq_true] at h
    exact .cons (flat_rp ex h.1 r) (flats_rp ex h.2 rs)
theorem tupG_ex : Ex G (tupG G G') := fun a o h => by unfold tupG; rw [h]
theorem tupG_none {a : Addr} (h : G a = none) (h' : ∀ xs, G' a ≠ some (.tup xs)) : tupG G G' a = none := by
  unfold tupG
  rw [h]
  dsimp only
  split
  · rename_i xs e
    exact absurd e (h' xs)
  · rfl
theorem lend_back (ok : Ok W m G H) (hs : ∀ a, W.M a → ∃ u, H a = some u ∧ noTup u = true) (g : Grow (sealW W H hs) (lendG W G H) H () G' H') : Grow W G H m (tupG G G') H' := by
  have ok' := g.ok (lend_ok ok hs)
  have ex : Ex G G' := lendG_ex.trans g.ex
  refine ⟨tupG_ex, fun a o h => ?_, fun a o h t n => tupG_none n fun xs e => ?_, g.keep, W.dep _ _ _ _ _ tupG_ex g.inv ok.inv, fun a o u h n => .inr ?_⟩
  · unfold tupG at h
    split at h
    · rename_i o' e
      cases h
      exact g.sub _ _ (ex _ _ e)
    · split at h
      · rename_i xs e
        cases h
        exact g.sub _ _ e
      · cases h
  · by_cases ma : W.M a
    · have := ok'.off a ma
      rw [e] at this
      cases this
    · have k := g.keep a o ma h
      rw [g.sub _ _ e] at k
      cases k
      cases t
  · unfold tupG at h
    split at h
    · rename_i o' e
      cases h
      exact e
    · split at h <;> cases h
end
section
variable {ι : Type} {c : Cc ι} {m : ι} {ρ : List S} {Φ : ι → S → Prop} {tr : TA} {E : XK} {F : Fc}
theorem lend_args {W : Wd ι} {K : PySem.W.Frag} {G H : Hp} {H0 H1 : Hp} {hs : ∀ a, W.M a → ∃ u, H a = some u ∧ noTup u = true} : ∀ {vs : List V} {ss : List S}, RelSs K W H0 G H vs ss → ss.all lendOk = true → RelSs K (sealW W H hs) H1 (lendG W G H) H vs (ss.map lendS) ∧ (ss.map lendS).all argS = true
  | _, _, .nil, _ => ⟨.nil, rfl⟩
  | _, _, .cons (s := s) r rs, h => by
    rw [List.all_cons, Bool.and_eq_true] at h
    obtain ⟨i1, i2⟩ := lend_args (H1 := H1) (hs := hs) rs h.2
    cases s with
    | dat d => exact ⟨.cons (s := .dat d) (Rp.mono lendG_ex r) i1, by simpa [lendS, argS] using i2⟩
    | vw o =>
      obtain ⟨p, rfl, ob⟩ := r
      exact ⟨.cons (s := .dat o.frz) ob.lend i1, by simpa [lendS, argS] using i2⟩
    | _ => cases h.1
/-- f(..), where what is another's, or one's own, is only looked at -/
theorem de_lend (h : DA c m tr ρ fun m' ss => ss.all lendOk = true ∧ ∀ Hs hs, F Unit (sealW c.W Hs hs) () (ss.map lendS) (fun _ s => retOk s = true ∧ Φ m' s) fun _ _ _ => False) : De c m (tCall (spF c.K F) [] E tr) ρ Φ := fun σ G H e Q q => h σ G H e _ fun vs ss m1 G1 H1 g1 r1 ⟨ha, hf⟩ => by
  rw [List.append_nil]
  have ok := (e.grow g1).ok
  have hs : ∀ a, c.W.M a → ∃ u, H1 a = some u ∧ noTup u = true := fun a ma => c.W.has _ _ _ a ok.inv ma
  obtain ⟨a1, a2⟩ := lend_args (H1 := H1) (hs := hs) r1 ha
  refine ⟨Unit, sealW c.W H1 hs, (), lendG c.W G1 H1, _, _, _, lend_ok ok hs, a1, a2, hf H1 hs, fun v s m' G' H' g r ⟨rt, p⟩ => ?_, fun _ _ _ _ _ _ _ _ _ _ _ _ _ z => z.elim⟩
  have gb := lend_back ok hs g
  have ex : Ex G1 G' := lendG_ex.trans g.ex
  refine q v s m1 (tupG G1 G') H' (g1.trans gb) ?_ p
  cases s with
  | dat d => exact atom_rp (G := G') rt r
  | own o =>
    cases o with
    | one o =>
      cases o with
      | lst ds =>
        obtain ⟨p', rfl, ⟨f1, f2, f3⟩, xs, e1, rr⟩ := r
        have n1 : G1 p' = none := fresh_back ok.ex f1
        exact ⟨p', rfl, ⟨g1.back f1, tupG_none n1 (fun xs z => by rw [f2] at z; cases z), f3⟩, xs, e1, flats_rp ex rt rr⟩
      | dT ds =>
        obtain ⟨p', rfl, ⟨f1, f2, f3⟩, xs, e1, hk, rr⟩ := r
        have n1 : G1 p' = none := fresh_back ok.ex f1
        exact ⟨p', rfl, ⟨g1.back f1, tupG_none n1 (fun xs z => by rw [f2] at z; cases z), f3⟩, xs, e1, hk, atoms_rp rt rr⟩
      | _ => cases rt
    | _ => cases rt
  | _ => cases rt
end
/-! ### walks over what is another's -/
section
variable {ι : Type} {c : Cc ι} {m m2 : ι} {ρ : List S} {G H G2 H2 : Hp} {σ : L2.St}
/-- a view stays a view -/
theorem view_stays {p : Addr} {o : O} (e : EnvOk c m G H σ ρ) (ob : OwnAt c.K (Fv c.W G) G H p o) (old : ∀ a, Ads H p o a → c.H0 a ≠ none) (g2 : Grow c.W c.G0 c.H0 m2 G2 H2) (x : Ex G G2) : OwnAt c.K (Fv c.W G2) G2 H2 p o ∧ (∀ a, Ads H p o a → H2 a = H a) ∧ ∀ a, Ads H2 p o a → c.H0 a ≠ none := by
  have key : ∀ a, Ads H p o a → H2 a = H a ∧ Fv c.W G2 a := fun a ha => by
    obtain ⟨f, u, hu, pl⟩ := ob.ads ha
    have h0 := old a ha
    have k1 := grow_at e.gr f.2 h0
    have k2 := grow_at g2 f.2 h0
    have eq : H2 a = H a := k2.trans k1.symm
    refine ⟨eq, ?_, f.2⟩
    refine g2.fresh a u (by rw [← k1]; exact hu) (pln2_t pl) ?_
    exact fresh_back e.gr.ex f.1
  exact ⟨ob.monoA x key, fun a ha => (key a ha).1, fun a ha => old a (ha.eq (key p (Ads.root o)).1)⟩
theorem EnvOk.setV {i : Nat} {p : Addr} {o : O} (e : EnvOk c m G H σ ρ) (hn : noEl i ρ = true) (ob : OwnAt c.K (Fv c.W G) G H p o) (old : ∀ a, Ads H p o a → c.H0 a ≠ none) : EnvOk c m G H (σ.set i (some (.ref p))) (ρ.set i (.vw o)) := by
  have u := e.unset (i := i) (some (.ref p)) hn
  have here : i < ρ.length → (σ.set i (some (V.ref p)))[i]? = some (some (.ref p)) := fun hl => by rw [List.getElem?_set]; simp only [if_true]; rw [if_pos (by rw [e.len]; exact hl)]
  have back : ∀ {k : Nat} {s : S}, i ≠ k → (ρ.set i (.vw o))[k]? = some s → (ρ.set i .no)[k]? = some s := fun hk h => by
    rw [List.getElem?_set_ne hk] at h ⊢
    exact h
  refine ⟨u.ok0, u.gr, u.exc, by rw [List.length_set, List.length_set]; exact e.len, fun j t ht => ?_, fun j k o1 o2 q1 q2 hjk hj hk pj pk => ?_, fun k a j hk => ?_, fun k w q hk hq a ha => ?_⟩
  · rcases set_get ht with ⟨rfl, rfl, hl⟩ | ⟨ne, _⟩
    · exact .inr ⟨_, here hl, p, rfl, ob⟩
    · exact u.at_ j t (back ne ht)
  · have n1 : i ≠ j := fun z => by
      rcases set_get hj with ⟨_, h2, _⟩ | ⟨h2, _⟩
      · cases h2
      · exact h2 z
    have n2 : i ≠ k := fun z => by
      rcases set_get hk with ⟨_, h2, _⟩ | ⟨h2, _⟩
      · cases h2
      · exact h2 z
    exact u.sep j k o1 o2 q1 q2 hjk (back n1 hj) (back n2 hk) pj pk
  · have n1 : i ≠ k := fun z => by
      rcases set_get hk with ⟨_, h2, _⟩ | ⟨h2, _⟩
      · cases h2
      · exact h2 z
    obtain ⟨its, q, vs, r, w, h1, h2⟩ := u.els k a j (back n1 hk)
    refine ⟨its, q, vs, r, w, ?_, h2⟩
    have na : i ≠ a := fun z => by
      subst z
      rcases set_get h1 with ⟨_, h3, _⟩ | ⟨h3, _⟩
      · cases h3
      · exact h3 rfl
    rw [List.getElem?_set_ne na] at h1 ⊢
    exact h1
  · rcases set_get hk with ⟨rfl, h1, hl⟩ | ⟨ne, _⟩
    · cases h1
      rw [here hl] at hq
      cases hq
      exact old a ha
    · exact u.vws k w q (back ne hk) hq a ha
/-- the items of a list that is another's -/
def S.items? : S → Option (List S)
  | .vw (.one (.lst ds)) => some (ds.map S.dat)
  | .vw (.nest its) => some (its.map fun | .d d => .dat d | .o o => .vw (.one o))
  | _ => none
/-- an item, laid into a slot -/
theorem item_set {k : Nat} {p : Addr} {o : O} {ss : List S} (e0 : EnvOk c m G H σ ρ) (ob : OwnAt c.K (Fv c.W G) G H p o) (old : ∀ a, Ads H p o a → c.H0 a ≠ none) (hs : (S.vw o).items? = some ss) : ∃ vs, H p = some (.lst vs) ∧ vs.length = ss.length ∧ ∀ (j : Nat) (s : S), ss[j]? = some s → ∃ v, vs[j]? = some v ∧
    ∀ (m2 : ι) (G2 H2 : Hp) (σ2 : L2.St) (ρ2 : List S), Ex G G2 → EnvOk c m2 G2 H2 σ2 ρ2 → noEl k ρ2 = true → EnvOk c m2 G2 H2 (σ2.set k (some v)) (ρ2.set k s) := by
  cases o with
  | one o =>
    cases o with
    | lst ds =>
      obtain ⟨f, vs, h1, r⟩ := ob
      obtain rfl : ds.map S.dat = ss := Option.some.inj hs
      refine ⟨vs, h1, by rw [List.length_map]; exact r.length, fun j s hj => ?_⟩
      rw [List.getElem?_map] at hj
      cases hd : ds[j]? with
      | none => rw [hd] at hj; cases hj
      | some d =>
        rw [hd] at hj
        cases hj
        obtain ⟨v, hv, rv⟩ := r.getD hd
        exact ⟨v, hv, fun m2 G2 H2 σ2 ρ2 x e2 hn => e2.setD hn (rv.mono x)⟩
    | _ => cases hs
  | nest its =>
    obtain ⟨f, vs, h1, r, nd⟩ := id ob
    obtain rfl := Option.some.inj hs
    refine ⟨vs, h1, by rw [List.length_map]; exact r.length, fun j s hj => ?_⟩
    rw [List.getElem?_map] at hj
    cases hd : its[j]? with
    | none => rw [hd] at hj; cases hj
    | some it =>
      rw [hd] at hj
      obtain ⟨v, hv, rv⟩ := r.getD hd
      refine ⟨v, hv, fun m2 G2 H2 σ2 ρ2 x e2 hn => ?_⟩
      cases it with
      | d d => cases hj; exact e2.setD hn (Rp.mono x rv)
      | o o =>
        cases hj
        obtain ⟨q, rfl, fq, oq⟩ := rv
        have hk : q ∈ kids vs its := kid_at r hv hd
        have one : OwnAt c.K (Fv c.W G) G H q (.one o) := ⟨fq, oq⟩
        have od : ∀ a, Ads H q (.one o) a → c.H0 a ≠ none := fun a ha => by
          obtain rfl : a = q := ha
          exact old a (.inr ⟨vs, h1, hk⟩)
        obtain ⟨s1, s2, s3⟩ := view_stays e0 one od e2.gr x
        exact e2.setV hn s1 s3
  | ins C fs => cases hs
variable {t : TS} {N B C : ι → List S → Prop} {R : ι → S → Prop} {i k : Nat} {o : O}
variable {te : TE} {Φ : ι → S → Prop}
/-- [f x for x in xs], xs another's -/
theorem de_lcV {ss : List S} (f : Nat → D) (hi : ρ[i]? = some (.vw o)) (hs : (S.vw o).items? = some ss) (hl : ss.length < 1000000)
    (each : ∀ j s, ss[j]? = some s → noEl k (wipeS ρ [k]) = true ∧ De c m te ((wipeS ρ [k]).set k s) fun m' s' => m' = m ∧ s'.frz = .dat (f j)) (hΦ : Φ m (.own (.lst ((List.range ss.length).map f)))) (hw : noEls [k] ρ = true := by with_unfolding_all rfl) :
    De c m (tLc (iList c.K (tVar i)) (gName k) tYes te [k]) ρ Φ := fun σ G H e Q q => by
  rcases e.at_ i _ hi with z | ⟨v, hv, p, rfl, ob⟩
  · cases z
  have old := e.vws i o p hi hv
  obtain ⟨vs, h1, hlen, it⟩ := item_set (k := k) e ob old hs
  have root : ¬ c.W.M p := ob.root.1.2
  have keep : ∀ {m2 : ι} {G2 H2 : Hp}, Grow c.W G H m2 G2 H2 → SqL c.K H2 p vs := fun g => .inl (.inl (g.keep p _ root h1))
  refine ⟨.ref p, hv, p, rfl, ⟨vs, keep e.refl⟩, fun Dd hD => ?_⟩
  have mD : ¬ c.W.M Dd := fun mm => c.W.ne e.ok.inv mm hD
  have up : ∀ {m2 : ι} {G2 H2 : Hp} {ys : List V}, Grow c.W G H m2 G2 H2 → G2 Dd = none → Grow c.W G H m2 G2 (upd H2 Dd (.lst ys)) := fun g n => g.mut hD n mD
  refine ⟨fun j n H2 => n = ss.length - j ∧ j ≤ ss.length ∧ ∃ G2 xs, Grow c.W G H m G2 H2 ∧ H2 Dd = some (.lst xs) ∧ G2 Dd = none ∧ RpL c.K G2 xs ((List.range j).map f), ⟨ss.length, by simp, Nat.zero_le _, G, [], up e.refl (fresh_back e.ok.ex hD), upd_same, fresh_back e.ok.ex hD, .nil⟩, ?_⟩
  rintro j n H2 ⟨hn, hj, G2, xs, g2, hx, nD, rx⟩
  have sq := keep g2
  by_cases lt : j < ss.length
  · right
    have hss : ss[j]? = some ss[j] := List.getElem?_eq_getElem lt
    obtain ⟨w, hw', st⟩ := it j _ hss
    obtain ⟨nk, body⟩ := each j _ hss
    refine ⟨⟨vs, w, sq, hw'⟩, fun H' => ∃ G3 ys, Grow c.W G H m G3 H' ∧ H' Dd = some (.lst ys) ∧ G3 Dd = none ∧ RpL c.K G3 ys ((List.range (j + 1)).map f), fun H' z => ⟨n - 1, by omega, by omega, lt, z⟩, fun y H' ⟨eh, hy⟩ => ?_⟩
    subst H'
    have ey := hy vs sq
    rw [hw'] at ey
    cases ey
    have wp : wipe ((wipe σ [k]).set k (some w)) [k] = wipe σ [k] := by rw [wipe_set (by simp), wipe_wipe]
    refine ⟨wp, ?_⟩
    unfold tYes
    dsimp only
    rw [if_pos rfl]
    have e3 := (e.grow g2).wipe [k] hw
    refine body ((wipe σ [k]).set k (some w)) G2 H2 (st m G2 H2 (wipe σ [k]) (wipeS ρ [k]) g2.ex e3 nk) _ fun u s m5 G5 H5 g5 r5 ⟨em, es⟩ => ?_
    subst em
    obtain ⟨G6, g6, r6⟩ := r5.freeze g5
    rw [es] at r6
    have k1 : H5 Dd = some (.lst xs) := g6.keep _ _ mD hx
    have k2 : G6 Dd = none := g6.fresh _ _ hx rfl nD
    have len : xs.length = j := by rw [rx.length]; simp
    refine ⟨xs, k1, szl (by omega), G6, xs ++ [u], up (g2.trans g6) k2, upd_same, k2, ?_⟩
    rw [List.range_succ, List.map_append]
    exact (rx.mono g6.ex).append (.one r6)
  · left
    have : j = ss.length := by omega
    subst this
    exact ⟨⟨vs, sq, by omega⟩, q (.ref Dd) (.own (.lst ((List.range ss.length).map f))) m G2 H2 g2 ⟨Dd, rfl, ⟨hD, nD, mD⟩, xs, hx, rx⟩ hΦ⟩
theorem iSeq_var {K : PySem.W.Frag} {R : L2.It → Hp → Prop} (h : iList K (tVar i) σ H R) : iSeq K (tVar i) σ H R := by
  obtain ⟨v, hv, a, rfl, ⟨xs, sq⟩, r⟩ := h
  exact ⟨_, hv, a, rfl, .inl ⟨xs, sq, r⟩⟩
theorem de_lcVS {ss : List S} (f : Nat → D) (hi : ρ[i]? = some (.vw o)) (hs : (S.vw o).items? = some ss) (hl : ss.length < 1000000)
    (each : ∀ j s, ss[j]? = some s → noEl k (wipeS ρ [k]) = true ∧ De c m te ((wipeS ρ [k]).set k s) fun m' s' => m' = m ∧ s'.frz = .dat (f j)) (hΦ : Φ m (.own (.lst ((List.range ss.length).map f)))) (hw : noEls [k] ρ = true := by with_unfolding_all rfl) :
    De c m (tLc (iSeq c.K (tVar i)) (gName k) tYes te [k]) ρ Φ := fun σ G H e Q q => iSeq_var (de_lcV f hi hs hl each hΦ hw σ G H e Q q)
end
end DL
set_option Elab.async false
set_option linter.all false
set_option maxRecDepth 100000
set_option maxHeartbeats 1000000
namespace DL
open PySem L2 Evl PySem.Spec PyProof.Rows
section
variable {ι : Type} {c : Cc ι} {m : ι} {ρ : List S} {te ta : TE} {N B C : ι → List S → Prop} {R : ι → S → Prop} {Φ : ι → S → Prop}
/-- isinstance of an own class -/
structure Kc (K : PySem.W.Frag) (C : Addr) : Prop where
  cl : Cls K C
  ha : PySem.W.findIn K (.ref C) "__class__" = some (some (.builtin "object.__class__"))
  hn : PySem.W.specialIn K (.builtin "object.__class__") "__get__" = some (some (.builtin "getset_descriptor.__get__"))
  ht : PySem.W.takesIn K (.builtin "object.__class__") = some true
  hm : PySem.W.mroIn K C (.type "object") = some true
  ki : PySem.W.kitOne K (.ref C) (.ref C) = some true
  kl : PySem.W.kitOne K (.type "list") (.ref C) = some false
theorem de_isiC {D : Addr} (kc : Kc c.K D) (h : De c m te ρ fun m s => (∃ fs, s = .dat (.ins D fs) ∧ Φ m (.dat (.bl true))) ∨ ∃ ds, s = .dat (.lst ds) ∧ Φ m (.dat (.bl false))) : De c m (tCB (rIsiW c.K) (tCons te (tCons (tC (.ref D)) tNil))) ρ Φ := fun σ G H e Q q => h σ G H e _ fun v s m1 G1 H1 g1 r1 z => by
  have ok := (e.grow g1).ok
  rcases z with ⟨fs, es, p⟩ | ⟨ds, es, p⟩
  · subst es
    have r1 : Rp c.K G1 v (.ins D fs) := r1
    cases r1 with
    | ins a _ _ _ => exact .inl ⟨_, .ref D, .ref D, .ref D, true, rfl, .own D, .base (.ins (ok.ex _ _ a) kc.cl kc.ha kc.hn kc.ht kc.hm), kc.ki, q _ (.dat (.bl true)) m1 G1 H1 g1 (Rp.bl _) p⟩
  · subst es
    have r1 : Rp c.K G1 v (.lst ds) := r1
    cases r1 with
    | lst a _ => exact .inl ⟨_, .ref D, .type "list", .ref D, false, rfl, .own D, .base (.lst (ok.ex _ _ a)), kc.kl, q _ (.dat (.bl false)) m1 G1 H1 g1 (Rp.bl _) p⟩
end
/-! ### list.count of data -/
end DL
set_option Elab.async false
set_option linter.all false
set_option maxRecDepth 100000
set_option maxHeartbeats 1000000
namespace DL
open PySem PySem.Spec PyProof.Rows L2
/-! ### the head's facts of a class with its own __eq__, and of isinstance of it -/
section
variable {K : PySem.W.Frag} {C f : Addr}
def kcB (K : PySem.W.Frag) (C : Addr) : Bool := He.eqO (PySem.W.findIn K (.ref C) "__class__") (some (some (.builtin "object.__class__"))) && (He.eqO (PySem.W.specialIn K (.builtin "object.__class__") "__get__") (some (some (.builtin "getset_descriptor.__get__"))) && (decide (PySem.W.takesIn K (.builtin "object.__class__") = some true) && (decide (PySem.W.mroIn K C (.type "object") = some true) && (decide (PySem.W.kitOne K (.ref C) (.ref C) = some true) && decide (PySem.W.kitOne K (.type "list") (.ref C) = some false)))))
theorem kcB_ok (cl : Cls K C) (h : kcB K C = true) : Kc K C := by
  obtain ⟨h1, h⟩ := He.ba h
  obtain ⟨h2, h⟩ := He.ba h
  obtain ⟨h3, h⟩ := He.ba h
  obtain ⟨h4, h⟩ := He.ba h
  obtain ⟨h5, h6⟩ := He.ba h
  exact ⟨cl, He.eqO_ok h1, He.eqO_ok h2, of_decide_eq_true h3, of_decide_eq_true h4, of_decide_eq_true h5, of_decide_eq_true h6⟩
def eqB (K : PySem.W.Frag) (C : Addr) : Bool := He.eqO (PySem.W.findIn K (.ref C) "__ne__") (some (some (.builtin "object.__ne__"))) && (decide (PySem.W.subIn K (.ref C) (.type "object") = some true) && decide (PySem.W.subIn K (.type "list") (.ref C) = some false))
theorem eqB_ok (m : L2.Meth K C "__eq__" f) (h : eqB K C = true) : EqC K C f := by
  obtain ⟨h1, h⟩ := He.ba h
  obtain ⟨h2, h3⟩ := He.ba h
  exact ⟨m.at_, m.fn, He.eqO_ok h1, of_decide_eq_true h2, of_decide_eq_true h3⟩
end
end DL
set_option Elab.async false
set_option linter.all false
set_option maxRecDepth 100000
set_option maxHeartbeats 1000000
namespace DL
open PySem PySem.Spec PyProof.Rows L2
/-! ### a head's run, looked at part by part -/
theorem map_one {σ α : Type} {x : Option σ} {F : σ → α} {a : α} (h : x.map F = some a) : ∃ s, x = some s ∧ F s = a := by
  cases x with
  | none => cases h
  | some s => exact ⟨s, rfl, Option.some.inj h⟩
theorem map_three {σ α β γ : Type} {x : Option σ} {A : σ → α} {B : σ → β} {C : σ → γ} {a : α} {b : β} {c : γ} (hA : x.map A = some a) (hB : x.map B = some b) (hC : x.map C = some c) : x.map (fun s => (A s, B s, C s)) = some (a, b, c) := by
  obtain ⟨s, rfl, rfl⟩ := map_one hA
  cases hB
  cases hC
  rfl
end DL
set_option Elab.async false
set_option linter.all false
set_option maxRecDepth 100000
set_option maxHeartbeats 1000000
namespace DL
open PySem PySem.Spec PyProof.Rows L2
/-! ### what the module's names reach, by a walk that marks what it has seen in the bits of a number -/
def visB : List Addr → Nat → List Addr → Nat × List Addr
  | [], b, acc => (b, acc)
  | a :: r, b, acc => HandSHeadRun.frNat a fun a => match Nat.beq (Nat.land (Nat.shiftRight b a) 1) 0 with
    | true => HandSHeadRun.frNat (Nat.lor b (Nat.shiftLeft 1 a)) fun b' => visB r b' (a :: acc)
    | false => visB r b acc
def asB (g : Addr → Option Obj) : Nat → Nat → List Addr → List Addr → List Addr
  | 0, _, all, _ => all
  | n + 1, b, all, fr => match visB (fr.flatMap fun a => match g a with
      | some o => He.refsD o
      | none => []) b [] with
    | (b', nx) => asB g n b' (all ++ nx) nx
/-- n steps from the module's names -/
def asQ (g : Addr → Option Obj) (n : Nat) : List Addr := cStatics :: asB g n (Nat.shiftLeft 1 mainGlobals) [mainGlobals] [mainGlobals]
def obsQG (n : Nat) (fa : List He.Fa) (fn : List He.DefD) (pr : List PrD) (ex : PySem.W.Frag → Bool) (g : Addr → Option Obj) : AlP := obsP fa fn pr ex (He.frG g (asQ g n))
def hookQ (n : Nat) (fa : List He.Fa) (fn : List He.DefD) (pr : List PrD) (ex : PySem.W.Frag → Bool) : PySem.W.Hook where
  α := AlP
  obs := fun s => obsQG n fa fn pr ex s.heap.get?
  val := fun _ => valP fn pr
  says := fun _ h => ∃ K : PySem.W.Frag, K.In h ∧ SaysP fa fn pr ex K
  of := fun _ _ e => ⟨_, He.frG_in, ⟨e⟩⟩
  keeps := fun _ _ _ ⟨K, inn, said⟩ k => ⟨K, PySem.W.Frag.In.keeps inn k, said⟩
theorem obsQG_eq {n : Nat} {fa : List He.Fa} {fn : List He.DefD} {pr : List PrD} {ex : PySem.W.Frag → Bool} {g : Addr → Option Obj} {s : Shared} (h : ∀ a, g a = s.heap.get? a) : obsQG n fa fn pr ex g = (hookQ n fa fn pr ex).obs s := by
  have e : g = s.heap.get? := funext h
  rw [e] <;> rfl
end DL
set_option Elab.async false
set_option linter.all false
set_option maxRecDepth 100000
set_option maxHeartbeats 0
namespace Pf
open PySem PySem.Spec PyProof.Rows L2 DL
def d_law_source : He.DefD := ⟨("_law_source", none), "_law_source", "_law_source", defArgs (top 44), defBody (top 44), defScope (top 44), [], []⟩
def d_law_draw : He.DefD := ⟨("_law_draw", none), "_law_draw", "_law_draw", defArgs (top 45), defBody (top 45), defScope (top 45), [], []⟩
def d_law_choose : He.DefD := ⟨("_law_choose", none), "_law_choose", "_law_choose", defArgs (top 46), defBody (top 46), defScope (top 46), [], []⟩
def d_law_setting : He.DefD := ⟨("_law_setting", none), "_law_setting", "_law_setting", defArgs (top 50), defBody (top 50), defScope (top 50), [], []⟩
def d_law_tuples : He.DefD := ⟨("_law_tuples", none), "_law_tuples", "_law_tuples", defArgs (top 47), defBody (top 47), defScope (top 47), [], []⟩
def d_law_kinds : He.DefD := ⟨("_law_kinds", none), "_law_kinds", "_law_kinds", defArgs (top 48), defBody (top 48), defScope (top 48), [], []⟩
def d_law_drawn : He.DefD := ⟨("_law_drawn", none), "_law_drawn", "_law_drawn", defArgs (top 55), defBody (top 55), defScope (top 55), [], []⟩
def d_law_line : He.DefD := ⟨("_law_line", none), "_law_line", "_law_line", defArgs (top 51), defBody (top 51), defScope (top 51), [], []⟩
def d_law_games_line : He.DefD := ⟨("_law_games_line", none), "_law_games_line", "_law_games_line", defArgs (top 52), defBody (top 52), defScope (top 52), [], []⟩
def d_law_kind_text : He.DefD := ⟨("_law_kind_text", none), "_law_kind_text", "_law_kind_text", defArgs (top 53), defBody (top 53), defScope (top 53), [], []⟩
def d_law_table_text : He.DefD := ⟨("_law_table_text", none), "_law_table_text", "_law_table_text", defArgs (top 54), defBody (top 54), defScope (top 54), [], []⟩
def d_is_list : He.DefD := ⟨("is_list", none), "is_list", "is_list", defArgs (top 18), defBody (top 18), defScope (top 18), [], []⟩
def d_is_between : He.DefD := ⟨("is_between", none), "is_between", "is_between", defArgs (top 17), defBody (top 17), defScope (top 17), [], []⟩
def d_are_sizes : He.DefD := ⟨("are_sizes", none), "are_sizes", "are_sizes", defArgs (top 20), defBody (top 20), defScope (top 20), [], []⟩
def d_check_sizes : He.DefD := ⟨("check_sizes", none), "check_sizes", "check_sizes", defArgs (top 23), defBody (top 23), defScope (top 23), [], []⟩
def d_are_games : He.DefD := ⟨("are_games", none), "are_games", "are_games", defArgs (top 21), defBody (top 21), defScope (top 21), [], []⟩
def d_choices : He.DefD := ⟨("choices", none), "choices", "choices", defArgs (top 19), defBody (top 19), defScope (top 19), [], []⟩
def d_all_teams : He.DefD := ⟨("all_teams", none), "all_teams", "all_teams", defArgs (top 22), defBody (top 22), defScope (top 22), [], []⟩
def d_check_games : He.DefD := ⟨("check_games", none), "check_games", "check_games", defArgs (top 24), defBody (top 24), defScope (top 24), [], []⟩
def d_check_setting : He.DefD := ⟨("check_setting", none), "check_setting", "check_setting", defArgs (top 25), defBody (top 25), defScope (top 25), [], []⟩
def d_tuples_below : He.DefD := ⟨("tuples_below", none), "tuples_below", "tuples_below", defArgs (top 26), defBody (top 26), defScope (top 26), [], []⟩
def d_all_kinds : He.DefD := ⟨("all_kinds", none), "all_kinds", "all_kinds", defArgs (top 27), defBody (top 27), defScope (top 27), [], []⟩
def d_checked_round : He.DefD := ⟨("checked_round", none), "checked_round", "checked_round", defArgs (top 40), defBody (top 40), defScope (top 40), [], []⟩
def d_Table___init : He.DefD := ⟨("Table", some "__init__"), "__init__", "Table.__init__", defArgs (inClass (top 41) 0), defBody (inClass (top 41) 0), defScope (inClass (top 41) 0), [], []⟩
def d_games_line : He.DefD := ⟨("games_line", none), "games_line", "games_line", defArgs (top 39), defBody (top 39), defScope (top 39), [], []⟩
def d_kind_text : He.DefD := ⟨("kind_text", none), "kind_text", "kind_text", defArgs (top 38), defBody (top 38), defScope (top 38), [], []⟩
def d_Table_text : He.DefD := ⟨("Table", some "text"), "text", "Table.text", defArgs (inClass (top 41) 15), defBody (inClass (top 41) 15), defScope (inClass (top 41) 15), [], []⟩
def d_number_in : He.DefD := ⟨("number_in", none), "number_in", "number_in", defArgs (top 33), defBody (top 33), defScope (top 33), [], []⟩
def d_numbers_in : He.DefD := ⟨("numbers_in", none), "numbers_in", "numbers_in", defArgs (top 34), defBody (top 34), defScope (top 34), [], []⟩
def d_sizes_in : He.DefD := ⟨("sizes_in", none), "sizes_in", "sizes_in", defArgs (top 35), defBody (top 35), defScope (top 35), [], []⟩
def d_games_in : He.DefD := ⟨("games_in", none), "games_in", "games_in", defArgs (top 36), defBody (top 36), defScope (top 36), [], []⟩
def d_round_in : He.DefD := ⟨("round_in", none), "round_in", "round_in", defArgs (top 37), defBody (top 37), defScope (top 37), [], []⟩
def d_Table_read : He.DefD := ⟨("Table", some "read"), "read", "Table.read", defArgs (inClass (top 41) 16), defBody (inClass (top 41) 16), defScope (inClass (top 41) 16), [], []⟩
def d_Table___eq : He.DefD := ⟨("Table", some "__eq__"), "__eq__", "Table.__eq__", defArgs (inClass (top 41) 5), defBody (inClass (top 41) 5), defScope (inClass (top 41) 5), [], []⟩
def d_Table_rounds : He.DefD := ⟨("Table", some "rounds"), "rounds", "Table.rounds", defArgs (inClass (top 41) 3), defBody (inClass (top 41) 3), defScope (inClass (top 41) 3), [], []⟩
def d_Table_sizes : He.DefD := ⟨("Table", some "sizes"), "sizes", "Table.sizes", defArgs (inClass (top 41) 1), defBody (inClass (top 41) 1), defScope (inClass (top 41) 1), [], []⟩
def d_law : He.DefD := ⟨("law", none), "law", "law", defArgs (top 56), defBody (top 56), defScope (top 56), [], []⟩
def d_BadGames___init : He.DefD := ⟨("BadGames", some "__init__"), "__init__", "BadGames.__init__", defArgs (inClass (top 4) 0), defBody (inClass (top 4) 0), defScope (inClass (top 4) 0), [], []⟩
def d_BadKind___init : He.DefD := ⟨("BadKind", some "__init__"), "__init__", "BadKind.__init__", defArgs (inClass (top 6) 0), defBody (inClass (top 6) 0), defScope (inClass (top 6) 0), [], []⟩
def d_BadNumber___init : He.DefD := ⟨("BadNumber", some "__init__"), "__init__", "BadNumber.__init__", defArgs (inClass (top 9) 0), defBody (inClass (top 9) 0), defScope (inClass (top 9) 0), [], []⟩
def d_BadRounds___init : He.DefD := ⟨("BadRounds", some "__init__"), "__init__", "BadRounds.__init__", defArgs (inClass (top 7) 0), defBody (inClass (top 7) 0), defScope (inClass (top 7) 0), [], []⟩
def d_BadSizes___init : He.DefD := ⟨("BadSizes", some "__init__"), "__init__", "BadSizes.__init__", defArgs (inClass (top 3) 0), defBody (inClass (top 3) 0), defScope (inClass (top 3) 0), [], []⟩
def d_BadText___init : He.DefD := ⟨("BadText", some "__init__"), "__init__", "BadText.__init__", defArgs (inClass (top 10) 0), defBody (inClass (top 10) 0), defScope (inClass (top 10) 0), [], []⟩
def d_TooMany___init : He.DefD := ⟨("TooMany", some "__init__"), "__init__", "TooMany.__init__", defArgs (inClass (top 5) 0), defBody (inClass (top 5) 0), defScope (inClass (top 5) 0), [], []⟩
def fn0 : List He.DefD := [d_law_source, d_law_draw, d_law_choose, d_law_setting, d_law_tuples, d_law_kinds, d_law_drawn, d_law_line, d_law_games_line, d_law_kind_text, d_law_table_text, d_is_list, d_is_between, d_are_sizes, d_check_sizes, d_are_games, d_choices, d_all_teams, d_check_games, d_check_setting, d_tuples_below, d_all_kinds, d_checked_round, d_Table___init, d_games_line, d_kind_text, d_Table_text, d_number_in, d_numbers_in, d_sizes_in, d_games_in, d_round_in, d_Table___eq, d_law, d_BadGames___init, d_BadKind___init, d_BadNumber___init, d_BadRounds___init, d_BadSizes___init, d_BadText___init, d_TooMany___init]
abbrev fn : List He.DefD := fn0
def pr0 : List PrD := [("Table", "read", d_Table_read), ("Table", "rounds", d_Table_rounds), ("Table", "sizes", d_Table_sizes)]
abbrev pr : List PrD := pr0
def fa0 : List He.Fa := [.glo "law", .free "len", .free "isinstance", .free "int", .free "bool", .free "list", .free "tuple", .free "dict", .free "range", .free "max", .free "min", .free "sum", .free "all", .free "any", .free "sorted", .free "zip", .free "enumerate", .free "str", .free "set", .free "repr", .free "reversed", .str "FIGURES" "0123456789", .int "MOST_FIGURES" 30, .int "MOST_PEOPLE" 10, .int "MOST_ROUNDS" 130, .int "MOST_SIZE" 4, .int "MOST_TEAMS" 130, .int "MOST_TIMES" 3, .noat "BadGames" "value", .glo "BadGames", .exm "BadGames" "BadGames" true, .meth "BadGames" "__init__", .noat "BadKind" "value", .glo "BadKind", .exm "BadKind" "BadKind" true, .meth "BadKind" "__init__", .noat "BadNumber" "value", .glo "BadNumber", .exm "BadNumber" "BadNumber" true, .meth "BadNumber" "__init__", .noat "BadRounds" "value", .glo "BadRounds", .exm "BadRounds" "BadRounds" true, .meth "BadRounds" "__init__", .noat "BadSizes" "value", .glo "BadSizes", .exm "BadSizes" "BadSizes" true, .meth "BadSizes" "__init__", .noat "BadText" "line", .glo "BadText", .exm "BadText" "BadText" true, .meth "BadText" "__init__", .noat "TooMany" "count", .glo "TooMany", .exm "TooMany" "TooMany" true, .meth "TooMany" "__init__", .cls "Table", .noat "Table" "own_sizes", .noat "Table" "own_games", .noat "Table" "rows", .glo "Table", .glo "_law_source", .glo "_law_draw", .glo "_law_choose", .glo "_law_setting", .glo "_law_tuples", .glo "_law_kinds", .glo "_law_drawn", .glo "_law_line", .glo "_law_games_line", .glo "_law_kind_text", .glo "_law_table_text", .glo "is_list", .glo "is_between", .glo "are_sizes", .glo "check_sizes", .glo "are_games", .glo "choices", .glo "all_teams", .glo "check_games", .glo "check_setting", .glo "tuples_below", .glo "all_kinds", .glo "checked_round", .mkr "Table", .glo "games_line", .glo "kind_text", .meth "Table" "text", .glo "number_in", .glo "numbers_in", .glo "sizes_in", .glo "games_in", .glo "round_in", .meth "Table" "__eq__"]
abbrev fa : List He.Fa := fa0
def exZ (K : PySem.W.Frag) : Bool := oexB K (He.ga K "BadGames") && (oexB K (He.ga K "BadKind") && (oexB K (He.ga K "BadNumber") && (oexB K (He.ga K "BadRounds") && (oexB K (He.ga K "BadSizes") && (oexB K (He.ga K "BadText") && (oexB K (He.ga K "TooMany") && (kcB K (He.ga K "Table") && (eqB K (He.ga K "Table")))))))))
abbrev ex : PySem.W.Frag → Bool := fun K => exZ K
abbrev R : PySem.W.OpenRow := PySem.W.OpenLaw.row PySem.Challenge.rw_allteams_k08_texts_of_tables
abbrev hk : PySem.W.Hook := hookQ 5 fa fn pr ex
def ob (s : PySem.W.SharedT) : AlP := obsQG 5 fa fn pr ex (HandSHeadRun.getT s)
theorem ob_eq (s : PySem.W.SharedT) : ob s = hk.obs s.abs := obsQG_eq (HandSHeadRun.getT_eq s)
def loose0 : List Str := ["_wall", "TeamError", "BadSizes", "BadGames", "TooMany", "BadKind", "BadRounds", "BadRound", "BadNumber", "BadText", "MOST_PEOPLE", "MOST_SIZE", "MOST_TIMES", "MOST_TEAMS", "MOST_ROUNDS", "is_between", "is_list", "choices", "are_sizes", "are_games", "all_teams", "check_sizes", "check_games", "check_setting", "tuples_below", "all_kinds", "is_tuple_below", "is_kind", "FIGURES", "MOST_FIGURES"]
def loose1 : List Str := ["number_in", "numbers_in", "sizes_in", "games_in", "round_in", "kind_text", "games_line", "checked_round", "Table", "_law_cell", "_law_source", "_law_draw", "_law_choose", "_law_tuples", "_law_kinds", "_law_due", "_law_setting", "_law_line", "_law_games_line", "_law_kind_text", "_law_table_text", "_law_drawn"]
abbrev loose : List Str := loose0 ++ loose1
section
open PySem.W PySem.Calls HandSHeadRun
theorem runA (w : World) (os : OsState) : (endF (stepQ (denQ tabQ) R.prog w) 12000 R.prog w os).map (fun s => looksF R.prog (boot_heap w.params) s.abs) = some (true) := by
  kernel_rfl
theorem runB (w : World) (os : OsState) : (endF (stepQ (denQ tabQ) R.prog w) 12000 R.prog w os).map (fun s => seenQ (PySem.W.view R.prog [56]) loose (importedModules R.prog.main.body) (fun s => xlAt (PySem.W.view R.prog [56]) [] s && recOk R.toRowW.records s) s.abs) = some (openGood (PySem.W.view R.prog [56]) loose) := by
  kernel_rfl
theorem run0 (w : World) (os : OsState) : (endF (stepQ (denQ tabQ) R.prog w) 12000 R.prog w os).map (fun s => obsQG 5 fa0 fn0 pr0 (exZ) (getT s)) = some (valP fn0 pr0) := by
  kernel_rfl
theorem run (w : World) : HandSHeadRun.RunEq R (PySem.W.view R.prog [56]) hk ob 12000 loose w := by
  exact fun os => map_three (runA w os) (runB w os) (run0 w os)
end
end Pf
set_option Elab.async false
set_option linter.all false
set_option maxRecDepth 100000
set_option maxHeartbeats 0
section
open PySem PySem.W PySem.Calls PyProof.Rows
theorem Pf.fin (Cl : DL.Fc) (hC : ∀ (ns : List Int), Cl Unit DL.W0 () [.dat (.scr ns)] (fun _ s => s = .dat (.bl true)) fun _ _ _ => False)
    (hf : ∀ (P : Program) (w : World) {K : PySem.W.Frag} {h : Heap} {mg : Str → Option Value} {f : Addr} (X : K.In h) (G : h.Ns mainGlobals mg) (hfa : mg ("law" : Str) = some (.ref f)) (c : DL.SaysP Pf.fa Pf.fn Pf.pr Pf.ex K),
      ∃ fd : FuncData, (∀ (s : Shared) (v : Value), BindsTo s fd ⟨[v], []⟩ [("_law_script", v)]) ∧ ∀ base : Heap, K.In base → base.Ns mainGlobals mg → L2.FnOk P w K mg base L2.CX0 10 f fd ["_law_script"] (DL.spF K Cl)) : PySem.Challenge.rw_allteams_k08_texts_of_tables.Holds := by
  w_on; o_law
  refine HandSHeadRun.head_any (r := OpenLaw.row PySem.Challenge.rw_allteams_k08_texts_of_tables) (q := view (OpenLaw.row PySem.Challenge.rw_allteams_k08_texts_of_tables).prog [56]) (H := Pf.hk) (ob := Pf.ob) (M := 12000) (loose := Pf.loose) (d := HandSHeadRun.topDef (OpenLaw.row PySem.Challenge.rw_allteams_k08_texts_of_tables).prog 56) (kwd := []) Pf.ob_eq
    (by kernel_rfl) (fun s => by kernel_rfl) Pf.run (by kernel_rfl) (by kernel_rfl) (by kernel_rfl) (by rfl) (by first | assumption | decide +kernel) (by decide +kernel) ⟨rfl, rfl, rfl, rfl, rfl, by decide +kernel⟩ ?hw ?hc
  case hw => w_witness2
  case hc =>
    refine L2.walk_ofE (l := PySem.Challenge.rw_allteams_k08_texts_of_tables) (n := 63) (k := 10) (x := "_law_script") (CX := L2.CX0) rfl (by decide) (by kernel_rfl) ⟨rfl, by decide, by decide⟩ ?F (fun _ _ _ _ z => z)
    intro w mg fa h Y G hmg0
    obtain ⟨K, KX, c⟩ := Y
    have hmg : mg ("law" : PySem.Str) = some (.ref fa) := by
      have e : (HandSHeadRun.topDef (OpenLaw.row PySem.Challenge.rw_allteams_k08_texts_of_tables).prog 56).name = ("law" : PySem.Str) := by kernel_rfl
      rw [← e]
      exact hmg0
    obtain ⟨fd, hb, hF⟩ := hf _ w KX G hmg c
    exact ⟨K, fd, DL.spF K Cl, KX, hb, fun H a ns hl _ hS => DL.start_law hS (hC ns), hF⟩
end
set_option Elab.async false
set_option linter.all false
set_option maxRecDepth 100000
set_option maxHeartbeats 1000000
namespace Pf
open PySem PySem.Spec PyProof.Rows L2 DL
local macro_rules | `(tactic| walk_at "len") => `(tactic| with_unfolding_all first | exact Nat.le_of_ble_eq_true rfl | (simp; done) | (simp; omega))
local macro_rules | `(tactic| walk_at "side") => `(tactic| with_unfolding_all first | exact Or.inr ⟨by omega, by omega⟩ | exact Or.inl ⟨by omega, by omega⟩ | exact ⟨by omega, by omega⟩ | exact ⟨by omega, by omega, by omega⟩ | (show (0 : Int) < _; omega) | decide)
local macro_rules | `(tactic| walk_at "d1") => `(tactic| with_reducible first
  | (refine ds_seq ?_; try dsimp only [List.set_cons_zero, List.set_cons_succ, List.cons_append, List.nil_append, O.frz])
  | refine ds_asg ?_
  | refine ds_ret ?_
  | refine ds_retN ?_
  | refine ds_next ?_
  | refine ds_dropC ?_
  | refine ds_drop0 ?_
  | refine ds_dropB ?_
  | refine ds_if ?_
  | refine dt_test ?_
  | refine dt_B ?_
  | refine dt_not ?_
  | refine dt_and ?_
  | refine dt_or ?_
  | refine dt_yes ?_
  | refine de_int ?_
  | refine de_bl ?_
  | refine de_str ?_
  | refine de_non ?_
  | refine de_varD (by with_unfolding_all rfl) ?_
  | refine de_varO (by with_unfolding_all rfl) ?_
  | refine de_varA (by with_unfolding_all rfl) ?_
  | refine de_varV (by with_unfolding_all rfl) ?_
  | refine de_isi ?_
  | refine de_dget ?_
  | refine de_dget2 ?_
  | refine de_dnotin ?_
  | refine de_din ?_
  | refine de_dnew ?_
  | refine de_dnewT ?_
  | refine de_cb ?_
  | refine de_call0G ?_
  | refine de_callG ?_
  | refine de_andB ?_
  | refine de_orB ?_
  | refine de_notV ?_
  | refine de_ifE ?_
  | refine de_chain ?_
  | refine de_op ?_
  | refine de_neg ?_
  | refine de_tupG ?_
  | refine de_lstG ?_
  | refine de_slL ?_
  | refine de_slT ?_
  | refine do_none ?_
  | refine do_some ?_
  | refine daf_cons ?_
  | refine daf_nil ?_
  | refine daf_star ?_
  | refine da_cons ?_
  | refine da_nil ?_
  | refine lk_dat ?_
  | refine lk_nil ?_
  | refine ak_dat ?_
  | refine ak_nil ?_
  | refine ak_at ?_
  | refine ak_lst ?_
  | refine lk_lst ?_
  | refine ak_dK ?_
  | refine ak_dT ?_
  | refine ak_vw ?_
  | refine lk_dT ?_
  | refine lk_dK ?_
  | refine da_star ?_
  | refine de_lstRg1 ?_
  | refine de_lstRg2 ?_
  | refine de_revL ?_
  | refine de_count ?_
  | refine de_index ?_
  | refine di_enum ?_
  | refine dt_tru ?_
  | refine de_fld ?_
  | refine de_prop ?_
  | refine di_rng1 ?_
  | refine di_rng2 ?_
  | refine di_list ?_
  | refine di_tup ?_
  | refine di_seq ?_
  | refine di_zip ?_
  | refine de_split ?_
  | refine de_join ?_
  | refine de_fmt ?_
  | refine de_jnil ?_
  | refine de_jcons ?_
  | refine de_ixS ?_
  | refine de_orT ?_
  | refine di_str ?_
  | refine ops_eqS ?_
  | refine ops_neS ?_
  | refine de_indexD ?_
  | refine ops_int ?_
  | (refine ops_cat (by with_unfolding_all rfl) (by with_unfolding_all rfl) ?side ?_; (case side => walk_at "len"))
  | (refine ops_catA ?side ?_; (case side => walk_at "len"))
  | refine ops_eqI ?_
  | refine ops_neI ?_
  | refine ops_bool ?_
  | (refine ops_intC ?side ?_; (case side => walk_at "side"))
  | refine cb_lenL (by with_unfolding_all rfl) ?_
  | refine cb_lenT (by with_unfolding_all rfl) ?_
  | refine cb_lenK (by with_unfolding_all rfl) ?_
  | refine cb_max2 ?_
  | refine cb_min2 ?_
  | refine cb_int ?_
  | refine ⟨fun _ => ?_, fun z => Bool.noConfusion z⟩
  | refine ⟨fun z => Bool.noConfusion z, fun _ => ?_⟩
  | refine ⟨rfl, ?_⟩
  | refine ⟨_, rfl, ?_⟩
  | refine ⟨_, Or.inl (by with_unfolding_all rfl), ?_⟩
  | (with_unfolding_all refine ⟨_, true, rfl, rfl, (fun _ z => by cases z), rfl, ?_⟩)
  | (with_unfolding_all refine ⟨_, false, rfl, rfl, (fun _ z => by cases z), rfl, ?_⟩))
local macro_rules | `(tactic| walk_at "d") => `(tactic| repeat walk_at "d1")
local macro_rules | `(tactic| walk_at "wk") => `(tactic| repeat first | exact Wk.nil | refine Wk.keep ?_ | refine Wk.drop ?_)
section
variable {P : Program} {w : World} {K : PySem.W.Frag} {mg : Str → Option Value} {base : Heap} {f : Addr} {fd : FuncData}
def btw (d : D) (lo hi : Int) : Bool := match d with
  | .int i => decide (lo ≤ i) && decide (i ≤ hi)
  | _ => false
/-- a value whose type may be asked -/
def ask (d : D) : Prop := d.ty? = true ∧ ∀ ds, d ≠ .dit ds
def C_is_between : Fc := fun _ W m ss Φ Ξ => ∃ d lo hi b, ss = [.dat d, .dat (.int lo), .dat (.int hi)] ∧ ask d ∧ btw d lo hi = b ∧ Φ m (.dat (.bl b))
abbrev s_is_between : Stmt := (top 17)
abbrev N_is_between : List Str := ["value", "least", "most"]
theorem sc_is_between : FnScope N_is_between ["value", "least", "most"] (defScope s_is_between) := ⟨rfl, rfl, rfl, by decide +kernel, rfl, by decide +kernel, by decide +kernel⟩
theorem ok_is_between (F : FnP K "is_between" s_is_between f fd) (b : BI mg) : FnOk P w K mg base CX0 1 f fd ["value", "least", "most"] (spF K C_is_between) := by
  have hlen := spF_len (K := K) (C := C_is_between) (m := 3) fun κ W m ss Φ Ξ ⟨d, lo, hi, b, e, _⟩ => by first | exact e | (rw [e]; rfl)
  refine F.ok sc_is_between hlen ?_
  intro cdv A outer s H vs Q E hr h
  refine ⟨_, PSs.nox (pss_one (ps_ret (pe_and (pe_callB (k_isi (K := K) rfl) rfl b.isinstance boot_isinstance (pa_cons (pv 0) (pa_cons (pe_bltn (v := .ty "int") rfl b.int_ boot_int rfl) pa_nil))) (pe_and (pe_not (pe_callB (k_isi (K := K) rfl) rfl b.isinstance boot_isinstance (pa_cons (pv 0) (pa_cons (pe_bltn (v := .ty "bool") rfl b.bool_ boot_bool rfl) pa_nil)))) (pe_one (pe_chain op_le op_le (pv 1) (pv 0) (pv 2))))))), ?_⟩
  refine DL.run_fnP  [] (Nm := N_is_between) (n := 3) (k := 0) rfl (hlen _ _ _ _ h) rfl h fun κ W m ss Φ Ξ G hc => ?_
  try dsimp only [cxOf, Cx.nox, Cx.wish, Cx.blk]
  obtain ⟨d, lo, hi, b, rfl, hd, rfl, hΦ⟩ := hc
  cases d <;> first | exact absurd rfl (hd.2 _) | exact absurd hd.1 Bool.false_ne_true | skip
  all_goals walk_at "d"
  all_goals try exact hΦ
  rename_i i _ _
  by_cases h1 : lo ≤ i
  · refine ⟨fun _ => ?_, fun z => by simp [h1] at z⟩
    walk_at "d"
    simpa [btw, h1] using hΦ
  · refine ⟨fun z => by simp [h1] at z, fun _ => ⟨rfl, ?_⟩⟩
    simpa [btw, h1] using hΦ
def isL : D → Bool
  | .lst _ => true | .tup _ => true | .scr _ => true | _ => false
def C_is_list : Fc := fun _ W m ss Φ Ξ => ∃ d b, ss = [.dat d] ∧ ask d ∧ isL d = b ∧ Φ m (.dat (.bl b))
abbrev s_is_list : Stmt := (top 18)
abbrev N_is_list : List Str := ["value"]
theorem sc_is_list : FnScope N_is_list ["value"] (defScope s_is_list) := ⟨rfl, rfl, rfl, by decide +kernel, rfl, by decide +kernel, by decide +kernel⟩
theorem ok_is_list (F : FnP K "is_list" s_is_list f fd) (b : BI mg) : FnOk P w K mg base CX0 1 f fd ["value"] (spF K C_is_list) := by
  have hlen := spF_len (K := K) (C := C_is_list) (m := 1) fun κ W m ss Φ Ξ ⟨d, b, e, _⟩ => by first | exact e | (rw [e]; rfl)
  refine F.ok sc_is_list hlen ?_
  intro cdv A outer s H vs Q E hr h
  refine ⟨_, PSs.nox (pss_one (ps_ret (pe_or (pe_callB (k_isi (K := K) rfl) rfl b.isinstance boot_isinstance (pa_cons (pv 0) (pa_cons (pe_bltn (v := .ty "list") rfl b.list_ boot_list rfl) pa_nil))) (pe_one (pe_callB (k_isi (K := K) rfl) rfl b.isinstance boot_isinstance (pa_cons (pv 0) (pa_cons (pe_bltn (v := .ty "tuple") rfl b.tuple_ boot_tuple rfl) pa_nil))))))), ?_⟩
  refine DL.run_fnP  [] (Nm := N_is_list) (n := 1) (k := 0) rfl (hlen _ _ _ _ h) rfl h fun κ W m ss Φ Ξ G hc => ?_
  try dsimp only [cxOf, Cx.nox, Cx.wish, Cx.blk]
  obtain ⟨d, b, rfl, hd, rfl, hΦ⟩ := hc
  cases d <;> first | exact absurd rfl (hd.2 _) | exact absurd hd.1 Bool.false_ne_true | skip
  all_goals walk_at "d"
  all_goals exact hΦ
end
end Pf
set_option Elab.async false
set_option linter.all false
set_option maxRecDepth 100000
set_option maxHeartbeats 1000000
namespace Pf
open PySem PySem.Spec PyProof.Rows L2 DL
/-! ### sizes and games: what is let by -/
def areSz (ns : List Nat) : Bool := decide (1 ≤ ns.length) && decide (ns.length ≤ 10) && (ns.all fun n => decide (1 ≤ n) && decide (n ≤ 10)) && decide (ns.sum ≤ 10)
theorem areSz_iff {ns : List Nat} : areSz ns = true ↔ GSz ns := by
  unfold areSz GSz
  simp only [Bool.and_eq_true, decide_eq_true_eq, List.all_eq_true]
  constructor
  · rintro ⟨⟨⟨a, b⟩, c⟩, d⟩
    exact ⟨a, fun s hs => (c s hs).1, d⟩
  · rintro ⟨a, c, d⟩
    have l := len_le_sum c
    exact ⟨⟨⟨a, by omega⟩, fun s hs => ⟨c s hs, by have := mem_le_sum hs; omega⟩⟩, d⟩
def areGm (n : Nat) (gs : List (Nat × Nat)) : Bool := decide (1 ≤ gs.length) && decide (gs.length ≤ 2) && gs.all fun p => (decide (1 ≤ p.1) && decide (p.1 ≤ min 4 n)) && (decide (1 ≤ p.2) && decide (p.2 ≤ 3))
theorem areGm_iff {n : Nat} {gs : List (Nat × Nat)} (nd : (gs.map (·.1)).Nodup) : areGm n gs = true ↔ GGm n gs := by
  unfold areGm
  simp only [Bool.and_eq_true, decide_eq_true_eq, List.all_eq_true]
  constructor
  · rintro ⟨⟨a, b⟩, c⟩
    exact ⟨a, b, fun t v h => by have := c (t, v) h; simp at this; omega, nd⟩
  · intro h
    have l1 := h.l1
    have l2 := h.l2
    refine ⟨⟨l1, l2⟩, fun p hp => ?_⟩
    have := h.ok p.1 p.2 hp
    omega
end Pf
set_option Elab.async false
set_option linter.all false
set_option maxRecDepth 100000
set_option maxHeartbeats 1000000
namespace DL
open PySem L2 Evl PySem.Spec PyProof.Rows
/-! ### methods with arguments; within a try -/
end DL
set_option Elab.async false
set_option linter.all false
set_option maxRecDepth 100000
set_option maxHeartbeats 1000000
namespace DL
open PySem PySem.Spec PyProof.Rows L2 Evl
open PySem.AutoSeq1 (wpAny_loadPart')
open PySem.MeetsSeq PySem.MeetsSeq2 PySem.MeetsSeq3 PySem.SeqRoads2 PySem.SeqAt
/-! ### != of lists and tuples whose items are compared in this model -/
/-- the pairs, each with what == says -/
inductive Says2 (P : Program) (w : World) (A : Around) (s : Shared) : List (Value × Value) → List Bool → Prop
  | nil : Says2 P w A s [] []
  | cons {x y : Value} {b : Bool} {l : List (Value × Value)} {bs : List Bool} : EqP P w A s x y b → Says2 P w A s l bs → Says2 P w A s ((x, y) :: l) (b :: bs)
section
variable {P : Program} {w : World}
theorem Says2.at_ {A : Around} {s : Shared} : ∀ {l : List (Value × Value)} {bs : List Bool} {i : Nat} {x y : Value}, Says2 P w A s l bs → l[i]? = some (x, y) → ∃ b, bs[i]? = some b ∧ EqP P w A s x y b
  | _, _, 0, _, _, .cons h _, e => by cases e; exact ⟨_, rfl, h⟩
  | _, _, i + 1, _, _, .cons _ t, e => t.at_ (i := i) (by simpa using e)
theorem Says2.len {A : Around} {s : Shared} : ∀ {l : List (Value × Value)} {bs : List Bool}, Says2 P w A s l bs → l.length = bs.length
  | _, _, .nil => rfl
  | _, _, .cons _ t => by simp [t.len]
theorem tup_ne (l b : Addr) (xs ys : Array Value) (n n2 : Nat) (dd dd2 : Option Addr) (sl sl2 : Array (Option Value)) (bs : List Bool) :
    MeetsIn P w (Builtin.«tuple.__ne__» ⟨[.ref l, .ref b], []⟩) (fun A R s => s.heap.get? l = some { cls := .type "tuple", dict := dd, data := .seq xs n, slots := sl } ∧ s.heap.get? b = some { cls := .type "tuple", dict := dd2, data := .seq ys n2, slots := sl2 } ∧
      Says2 P w A.in1 s (xs.toList.zip ys.toList) bs ∧ R (.ok (.ret (.bool (!(bs.all id && xs.size == ys.size))))) s) := .of_wp fun A R s h => by
  obtain ⟨hp, g, d, tk, os⟩ := s
  obtain ⟨hl, hb, he, h⟩ := h
  have f2 := AutoSeq1.sub_tuple_tuple
  wp_walk using wpAny_loadPart' hl, wpAny_loadPart' hb, wpAny_forIn_list _ (fun rest z s' => z.1 = none ∧ s' = ⟨hp, g, d, tk, os⟩ ∧ ∃ cs, Says2 P w A.in1 s' rest cs ∧ R (.ok (.ret (.bool (!(cs.all id && xs.size == ys.size))))) s') _
  case turn =>
    rintro ⟨x, y⟩ rest z s' ⟨_, rfl, cs, hs, q⟩
    cases hs with
    | @cons _ _ c _ cs hx ht =>
      refine wpAny_bind (hx _ _ ?_)
      cases c with
      | true =>
        wp_walk
        exact ⟨rfl, rfl, cs, ht, by simpa using q⟩
      | false =>
        wp_walk
        exact ⟨_, rfl, by simpa using q⟩
  case fin =>
    rintro ⟨z1, z2⟩ s' ⟨hz, rfl, cs, hs, q⟩
    cases hs
    dsimp only at hz
    subst hz
    wp_walk
    exact ⟨_, rfl, by simpa [Builtin.Tuple.tupleCompareSizes, bne] using q⟩
  case h => exact ⟨rfl, rfl, bs, he, h⟩
theorem tup_eq (l b : Addr) (xs ys : Array Value) (n n2 : Nat) (dd dd2 : Option Addr) (sl sl2 : Array (Option Value)) (bs : List Bool) :
    MeetsIn P w (Builtin.«tuple.__eq__» ⟨[.ref l, .ref b], []⟩) (fun A R s => s.heap.get? l = some { cls := .type "tuple", dict := dd, data := .seq xs n, slots := sl } ∧ s.heap.get? b = some { cls := .type "tuple", dict := dd2, data := .seq ys n2, slots := sl2 } ∧
      Says2 P w A.in1 s (xs.toList.zip ys.toList) bs ∧ R (.ok (.ret (.bool (bs.all id && xs.size == ys.size)))) s) := .of_wp fun A R s h => by
  obtain ⟨hp, g, d, tk, os⟩ := s
  obtain ⟨hl, hb, he, h⟩ := h
  have f2 := AutoSeq1.sub_tuple_tuple
  wp_walk using wpAny_loadPart' hl, wpAny_loadPart' hb, wpAny_forIn_list _ (fun rest z s' => z.1 = none ∧ s' = ⟨hp, g, d, tk, os⟩ ∧ ∃ cs, Says2 P w A.in1 s' rest cs ∧ R (.ok (.ret (.bool (cs.all id && xs.size == ys.size)))) s') _
  case turn =>
    rintro ⟨x, y⟩ rest z s' ⟨_, rfl, cs, hs, q⟩
    cases hs with
    | @cons _ _ c _ cs hx ht =>
      refine wpAny_bind (hx _ _ ?_)
      cases c with
      | true =>
        wp_walk
        exact ⟨rfl, rfl, cs, ht, by simpa using q⟩
      | false =>
        wp_walk
        exact ⟨_, rfl, by simpa using q⟩
  case fin =>
    rintro ⟨z1, z2⟩ s' ⟨hz, rfl, cs, hs, q⟩
    cases hs
    dsimp only at hz
    subst hz
    wp_walk
    exact ⟨_, rfl, by simpa [Builtin.Tuple.tupleCompareSizes, bne] using q⟩
  case h => exact ⟨rfl, rfl, bs, he, h⟩
theorem lst_eq_loop (l b : Addr) (xs ys : Array Value) (n n2 : Nat) (dd dd2 : Option Addr) (sl sl2 : Array (Option Value)) (hsz : xs.size = ys.size) : ∀ (cs : List Bool) (i : Nat), i + cs.length = xs.size →
    MeetsIn P w (Builtin.«list.__eq__.loop» ⟨[.ref l, .ref b, rawInt i, rawInt 2], []⟩) (fun A R s => s.heap.get? l = some { cls := .type "list", dict := dd, data := .seq xs n, slots := sl } ∧ s.heap.get? b = some { cls := .type "list", dict := dd2, data := .seq ys n2, slots := sl2 } ∧
      Says2 P w A.in1 s ((xs.toList.zip ys.toList).drop i) cs ∧ R (.ok (.ret (.bool (cs.all id)))) s) := by
  intro cs
  induction cs with
  | nil =>
    intro i hi A R s h
    obtain ⟨hp, g, d, tk, os⟩ := s
    obtain ⟨hl, hb, he, h⟩ := h
    have hi : xs.size = i := by simpa using hi.symm
    wp_walk using wpAny_loadPart' hl, wpAny_loadPart' hb
    have a1 : xs[((i : Nat) : Int).toNat]? = none := by simp; omega
    have a2 : ys[((i : Nat) : Int).toNat]? = none := by simp; omega
    rw [a1, a2]
    wp_walk using wpAny_loadPart' hl, wpAny_loadPart' hb
    show R (.ok (.ret (.bool (xs.size == ys.size)))) _
    rw [hsz]
    simpa using h
  | cons c cs ih =>
    intro i hi A R s h
    obtain ⟨hp, g, d, tk, os⟩ := s
    obtain ⟨hl, hb, he, h⟩ := h
    rw [List.length_cons] at hi
    have lt : i < xs.size := by omega
    have lt2 : i < ys.size := by omega
    have a1 : xs[((i : Nat) : Int).toNat]? = some xs[i] := by simp [lt]
    have a2 : ys[((i : Nat) : Int).toNat]? = some ys[i] := by simp [lt2]
    have hz : (xs.toList.zip ys.toList).drop i = (xs[i], ys[i]) :: (xs.toList.zip ys.toList).drop (i + 1) := by
      rw [List.drop_eq_getElem_cons (by simp; omega)]
      simp
    rw [hz] at he
    cases he with
    | cons hx ht =>
      wp_walk using wpAny_loadPart' hl, wpAny_loadPart' hb
      rw [a1, a2]
      refine wpAny_bind (hx _ _ ?_)
      cases c with
      | true =>
        wp_walk
        rw [show ((i : Int) + 1) = ((i + 1 : Nat) : Int) by push_cast; rfl]
        exact ⟨plainId_quiet plain_eq_loop _, codeAny_builtin entry_eq_loop (by
          rw [Around.under_plainId plain_eq_loop _]
          exact ih (i + 1) (by omega) A R _ ⟨hl, hb, ht, by simpa using h⟩)⟩
      | false =>
        wp_walk using wpAny_loadPart' hl, wpAny_loadPart' hb
        rw [a1, a2]
        wp_walk
        simpa using h
theorem lst_eq (l b : Addr) (xs ys : Array Value) (n n2 : Nat) (dd dd2 : Option Addr) (sl sl2 : Array (Option Value)) (hsz : xs.size = ys.size) (bs : List Bool) :
    MeetsIn P w (Builtin.«list.__eq__» ⟨[.ref l, .ref b], []⟩) (fun A R s => s.heap.get? l = some { cls := .type "list", dict := dd, data := .seq xs n, slots := sl } ∧ s.heap.get? b = some { cls := .type "list", dict := dd2, data := .seq ys n2, slots := sl2 } ∧
      Says2 P w A.in1 s (xs.toList.zip ys.toList) bs ∧ R (.ok (.ret (.bool (bs.all id)))) s) := by
  intro A R s h
  obtain ⟨hp, g, d, tk, os⟩ := s
  obtain ⟨hl, hb, he, h⟩ := h
  have f3 := AutoSeq1.sub_list_list
  have no : ¬ (xs.size != ys.size) = true := by simp [hsz]
  have len := he.len
  wp_walk using wpAny_loadPart' hl, wpAny_loadPart' hb
  exact ⟨plainId_quiet plain_eq_loop _, codeAny_builtin entry_eq_loop (by
    rw [Around.under_plainId plain_eq_loop _]
    exact lst_eq_loop l b xs ys n n2 dd dd2 sl sl2 hsz bs 0 (by rw [← len]; simp; omega) A R _ ⟨hl, hb, by simpa using he, h⟩)⟩
theorem lst_ne_loop (l b : Addr) (xs ys : Array Value) (n n2 : Nat) (dd dd2 : Option Addr) (sl sl2 : Array (Option Value)) (hsz : xs.size = ys.size) : ∀ (cs : List Bool) (i : Nat), i + cs.length = xs.size →
    MeetsIn P w (Builtin.«list.__eq__.loop» ⟨[.ref l, .ref b, rawInt i, rawInt 3], []⟩) (fun A R s => s.heap.get? l = some { cls := .type "list", dict := dd, data := .seq xs n, slots := sl } ∧ s.heap.get? b = some { cls := .type "list", dict := dd2, data := .seq ys n2, slots := sl2 } ∧
      Says2 P w A.in1 s ((xs.toList.zip ys.toList).drop i) cs ∧ R (.ok (.ret (.bool (!cs.all id)))) s) := by
  intro cs
  induction cs with
  | nil =>
    intro i hi A R s h
    obtain ⟨hp, g, d, tk, os⟩ := s
    obtain ⟨hl, hb, he, h⟩ := h
    have hi : xs.size = i := by simpa using hi.symm
    wp_walk using wpAny_loadPart' hl, wpAny_loadPart' hb
    have a1 : xs[((i : Nat) : Int).toNat]? = none := by simp; omega
    have a2 : ys[((i : Nat) : Int).toNat]? = none := by simp; omega
    rw [a1, a2]
    wp_walk using wpAny_loadPart' hl, wpAny_loadPart' hb
    show R (.ok (.ret (.bool (xs.size != ys.size)))) _
    rw [hsz]
    simpa using h
  | cons c cs ih =>
    intro i hi A R s h
    obtain ⟨hp, g, d, tk, os⟩ := s
    obtain ⟨hl, hb, he, h⟩ := h
    rw [List.length_cons] at hi
    have lt : i < xs.size := by omega
    have lt2 : i < ys.size := by omega
    have a1 : xs[((i : Nat) : Int).toNat]? = some xs[i] := by simp [lt]
    have a2 : ys[((i : Nat) : Int).toNat]? = some ys[i] := by simp [lt2]
    have hz : (xs.toList.zip ys.toList).drop i = (xs[i], ys[i]) :: (xs.toList.zip ys.toList).drop (i + 1) := by
      rw [List.drop_eq_getElem_cons (by simp; omega)]
      simp
    rw [hz] at he
    cases he with
    | cons hx ht =>
      wp_walk using wpAny_loadPart' hl, wpAny_loadPart' hb
      rw [a1, a2]
      refine wpAny_bind (hx _ _ ?_)
      cases c with
      | true =>
        wp_walk
        rw [show ((i : Int) + 1) = ((i + 1 : Nat) : Int) by push_cast; rfl]
        exact ⟨plainId_quiet plain_eq_loop _, codeAny_builtin entry_eq_loop (by
          rw [Around.under_plainId plain_eq_loop _]
          exact ih (i + 1) (by omega) A R _ ⟨hl, hb, ht, by simpa using h⟩)⟩
      | false =>
        wp_walk using wpAny_loadPart' hl, wpAny_loadPart' hb
        rw [a1, a2]
        wp_walk
        simpa using h
theorem lst_ne (l b : Addr) (xs ys : Array Value) (n n2 : Nat) (dd dd2 : Option Addr) (sl sl2 : Array (Option Value)) (hsz : xs.size = ys.size) (bs : List Bool) :
    MeetsIn P w (Builtin.«list.__ne__» ⟨[.ref l, .ref b], []⟩) (fun A R s => s.heap.get? l = some { cls := .type "list", dict := dd, data := .seq xs n, slots := sl } ∧ s.heap.get? b = some { cls := .type "list", dict := dd2, data := .seq ys n2, slots := sl2 } ∧
      Says2 P w A.in1 s (xs.toList.zip ys.toList) bs ∧ R (.ok (.ret (.bool (!bs.all id)))) s) := by
  intro A R s h
  obtain ⟨hp, g, d, tk, os⟩ := s
  obtain ⟨hl, hb, he, h⟩ := h
  have f3 := AutoSeq1.sub_list_list
  have no : ¬ (xs.size != ys.size) = true := by simp [hsz]
  have len := he.len
  wp_walk using wpAny_loadPart' hl, wpAny_loadPart' hb
  exact ⟨plainId_quiet plain_eq_loop _, codeAny_builtin entry_eq_loop (by
    rw [Around.under_plainId plain_eq_loop _]
    exact lst_ne_loop l b xs ys n n2 dd dd2 sl sl2 hsz bs 0 (by rw [← len]; simp; omega) A R _ ⟨hl, hb, by simpa using he, h⟩)⟩
end
end DL
set_option Elab.async false
set_option linter.all false
set_option maxRecDepth 100000
set_option maxHeartbeats 1000000
namespace DL
open PySem PySem.Spec PyProof.Rows L2 Evl
section
variable {prog : Program} {w : World} {κ : Type} [DecidableEq κ] {knd : HeapKind prog w κ} {A : Around} {E : Value → Shared → Prop} {s : Shared}
/-- an entry is in the other dict, with an equal value -/
def inOther (xb : List (κ × Addr × Value)) (e : κ → Bool) (x : κ × Addr × Value) : Bool := (xb.any fun y => decide (y.1 = x.1)) && e x.1
theorem range_step {n i x : Nat} {rest : List Nat} (h : x :: rest = List.range' i (n - i)) : i < n ∧ x = i ∧ rest = List.range' (i + 1) (n - (i + 1)) := by
  cases hn : n - i with
  | zero => rw [hn] at h; cases h
  | succ m =>
    rw [hn, List.range'_succ] at h
    injection h with h1 h2
    exact ⟨by omega, h1, by rw [h2, show n - (i + 1) = m by omega]⟩
/-- == of two dicts whose keys lie in the heap, entry by entry -/
theorem pairsH {nm : String} {a b : Addr} {xa xb : List (κ × Addr × Value)} {e : κ → Bool} {Q : Bool → Shared → Prop} (room : knd.room A) (na : (a == sysModules) = false) (nb : (b == sysModules) = false)
    (da : s.heap.DictOfH knd a xa) (db : s.heap.DictOfH knd b xb) (he : ∀ x ∈ xa, ∀ y ∈ xb, y.1 = x.1 → SeqAt.EqP prog w A s x.2.2 y.2.2 (e x.1))
    (h : Q (xa.length == xb.length && xa.all (inOther xb e)) s) : wpAny (model prog w) A (Builtin.Dict.samePairs nm a b) Q E s := by
  obtain ⟨oa, ea, pa, fa, _, ta, la, ka, _⟩ := da
  obtain ⟨ob, eb, pb, fb, _, tb, lb, kb, ob1⟩ := db
  have sa : ea.size = xa.length := size_of_entries la
  have sb : eb.size = xb.length := size_of_entries lb
  unfold Builtin.Dict.samePairs Builtin.Dict.showsAll
  simp only [na, nb, Bool.false_eq_true, if_false]
  refine wpAny_bind (wpAny_pure ?_)
  refine wpAny_bind (wpAny_pure ?_)
  refine wpAny_bind (wpAny_dictEntries fa ta ?_)
  refine wpAny_bind (wpAny_dictEntries fb tb ?_)
  by_cases hl : xa.length = xb.length
  · have hb : (xa.length == xb.length) = true := by simpa using hl
    rw [hb, Bool.true_and] at h
    have hc : ¬ ((ea.size != eb.size) = true) := by rw [sa, sb]; simpa using hl
    simp only [hc, if_false]
    refine wpAny_bind (wpAny_dictEpoch fa ta ?_)
    refine wpAny_bind ?_
    rw [Std.Legacy.Range.forIn_eq_forIn_range']
    simp only [Std.Legacy.Range.size, Nat.sub_zero, Nat.add_sub_cancel, Nat.div_one]
    refine wpAny_forIn_list _ (fun rest q s' => s' = s ∧ q = (none, ()) ∧ ∃ i, rest = List.range' i (ea.size - i) ∧ (xa.take i).all (inOther xb e) = true) _ ?turn ?fin _ _ ⟨rfl, rfl, 0, by simp, by simp⟩
    case fin =>
      rintro q s' ⟨rfl, rfl, i, hr, hi⟩
      have ge : xa.length ≤ i := by
        have := congrArg List.length hr
        simp at this
        omega
      rw [List.take_of_length_le ge] at hi
      rw [hi] at h
      exact wpAny_pure h
    case turn =>
      rintro j rest q s' ⟨rfl, rfl, i, hr, hi⟩
      obtain ⟨lt, rfl, hr2⟩ := range_step hr
      have lt2 : j < xa.length := by omega
      obtain ⟨k, p, v, hx⟩ : ∃ k p v, xa[j] = (k, p, v) := ⟨_, _, _, rfl⟩
      have hat : xa[j]? = some (k, p, v) := by rw [List.getElem?_eq_getElem lt2, hx]
      have hea : ea[j]? = some ⟨knd.hash k, .ref p, v⟩ := by rw [entry_at la, hat]; rfl
      have hm : (k, p, v) ∈ xa := List.mem_of_getElem? hat
      have step : (xa.take (j + 1)).all (inOther xb e) = inOther xb e (k, p, v) := by
        rw [List.take_add_one, hat, List.all_append, hi]
        simp
      have stop : inOther xb e (k, p, v) = false → xa.all (inOther xb e) = false := fun z => by
        rw [List.all_eq_false]
        exact ⟨_, hm, by rw [z]; decide⟩
      refine wpAny_bind (wpAny_dictEntries fa ta ?_)
      rw [hea]
      dsimp only
      refine wpAny_bind (wpAny_holding ?_)
      refine wpAny_bind (wpAny_dictFind_heap room (ka _ hm) fb tb lb kb ob1 (fun no => ?_) fun n y yes => ?_)
      · have z : inOther xb e (k, p, v) = false := by
          have : (xb.any fun y => decide (y.1 = k)) = false := by
            rw [List.any_eq_false]
            rintro ⟨k', y⟩ hy
            obtain ⟨n, hn⟩ := List.getElem?_of_mem hy
            simp only [decide_eq_true_eq]
            intro ek
            subst ek
            exact no n y hn
          unfold inOther
          rw [this, Bool.false_and]
        rw [stop z] at h
        exact wpAny_pure (wpAny_pure (wpAny_pure h))
      · have heb : eb[n]? = some ⟨knd.hash k, .ref y.1, y.2⟩ := by rw [entry_at lb, yes]; rfl
        have ym := List.mem_of_getElem? yes
        have z : inOther xb e (k, p, v) = e k := by
          have : (xb.any fun y => decide (y.1 = k)) = true := List.any_eq_true.mpr ⟨_, ym, by simp⟩
          unfold inOther
          rw [this, Bool.true_and]
        refine wpAny_bind (wpAny_dictEntries fb tb ?_)
        rw [heb]
        dsimp only
        refine wpAny_holding (he _ hm _ ym rfl _ _ ?_)
        cases ek : e k with
        | false =>
          rw [stop (z.trans ek)] at h
          exact wpAny_pure (wpAny_pure h)
        | true =>
          refine wpAny_bind (wpAny_dictEpoch fa ta ?_)
          simp only [bne_self_eq_false, Bool.false_eq_true, if_false]
          exact wpAny_pure ⟨rfl, rfl, j + 1, hr2, by rw [step, z, ek]⟩
  · have hb : (xa.length == xb.length) = false := by simpa using hl
    rw [hb, Bool.false_and] at h
    have hc : (ea.size != eb.size) = true := by rw [sa, sb]; simpa using hl
    simp only [hc, if_true]
    exact wpAny_bind (wpAny_rule (wpAny_pure h))
end
end DL
set_option Elab.async false
set_option linter.all false
set_option maxRecDepth 100000
set_option maxHeartbeats 1000000
namespace DL
open PySem PySem.Spec PyProof.Rows L2 Evl
section
variable {prog : Program} {w : World} {A : Around} {s : Shared}
/-- a dict's own == is the walk over the pairs -/
theorem rc_by_pairs {a b : Addr} {r : Bool} (ta : s.TypeIs (.ref a) "dict") (tb : s.TypeIs (.ref b) "dict") (hu : A.units < cLine)
    (walk : ∀ (A' : Around) (E : Value → Shared → Prop) (R : Bool → Shared → Prop), A' = A.in1 → R r s → wpAny (model prog w) A' (Builtin.Dict.samePairs "dict.__eq__" a b) R E s)
    (E Q : Value → Shared → Prop) (q : Q (.bool r) s) : wpAny (model prog w) A (richCompare .Eq (.ref a) (.ref b)) Q E s := by
  have body : wpAny (model prog w) A.in1 (Builtin.«dict.__eq__» ⟨[.ref a, .ref b], []⟩) (fun f s' => ∃ v, f = .done (.ret v) ∧ v ≠ Value.notImplemented ∧ Q v s') E s := by
    show wpAny _ _ (Builtin.Dict.dictSlotArgs "__eq__" ⟨[.ref a, .ref b], []⟩ >>= _) _ _ s
    refine wpAny_bind ?_
    have st : wpAny (model prog w) A.in1 (Builtin.Dict.dictSlotArgs "__eq__" ⟨[.ref a, .ref b], []⟩) (fun p s' => p = (.ref a, .ref b) ∧ s' = s) E s := by
      unfold Builtin.Dict.dictSlotArgs
      exact wpAny_bind (wpAny_notOrdered_dict ta (wpAny_pure ⟨rfl, rfl⟩))
    refine wpAny_mono st (fun p s' h => ?_) fun _ _ z => z
    obtain ⟨rfl, rfl⟩ := h
    have ib : ∀ {R : Bool → Shared → Prop}, R true s' → wpAny (model prog w) A.in1 (isInstance (.ref b) (.type "dict")) R E s' := fun z => wpAny_isInstance (T := "dict") tb PySem.F.sub_dict_dict z
    refine wpAny_bind (ib ?_)
    simp only [Bool.not_true, Bool.false_eq_true, if_false]
    repeat refine wpAny_bind (wpAny_pure ?_)
    refine wpAny_bind (walk A.in1 E _ rfl ?_)
    exact wpAny_pure ⟨_, rfl, (fun z => nomatch z), by simpa using q⟩
  refine wpAny_richCompare_same_room (op := .Eq) ta tb PySem.F.slot_dict_eq ?_ hu
  refine wpAny_call_entry PySem.F.slot_dict_eq ta PySem.F.entry_dict_eq ?_ (PySem.F.args_dict_eq_2 _ _)
  refine wpAny_mono body (fun f s' h => ?_) fun _ _ z => z
  obtain ⟨v, rfl, n, q⟩ := h
  exact ⟨v, rfl, n, q⟩
theorem rcH_dicts {κ : Type} [DecidableEq κ] {knd : HeapKind prog w κ} {a b : Addr} {xa xb : List (κ × Addr × Value)} {e : κ → Bool} (room : knd.room A.in1) (na : (a == sysModules) = false) (nb : (b == sysModules) = false) (hu : A.units < cLine)
    (da : s.heap.DictOfH knd a xa) (db : s.heap.DictOfH knd b xb) (he : ∀ x ∈ xa, ∀ y ∈ xb, y.1 = x.1 → SeqAt.EqP prog w A.in1 s x.2.2 y.2.2 (e x.1))
    (E Q : Value → Shared → Prop) (q : Q (.bool (xa.length == xb.length && xa.all (inOther xb e))) s) : wpAny (model prog w) A (richCompare .Eq (.ref a) (.ref b)) Q E s :=
  rc_by_pairs da.typeIs db.typeIs hu (fun A' E R hA z => by subst hA; exact pairsH room na nb da db he z) E Q q
end
/-! ### == of data, with dicts -/
theorem rd_one {G : Hp} {a : Addr} {o u : HO} (h1 : Rd G a o) (h2 : Rd G a u) (n1 : ∀ x y, o ≠ .frz x y) (n2 : ∀ x y, u ≠ .frz x y) : o = u := by
  rcases h1 with h1 | ⟨x, h1⟩
  · rcases h2 with h2 | ⟨y, h2⟩
    · rw [h1] at h2; exact Option.some.inj h2
    · rw [h1] at h2; exact absurd (Option.some.inj h2) (n1 y u)
  · rcases h2 with h2 | ⟨y, h2⟩
    · rw [h1] at h2; exact absurd (Option.some.inj h2).symm (n2 x o)
    · rw [h1] at h2; have := Option.some.inj h2; injection this
end DL
set_option Elab.async false
set_option linter.all false
set_option maxRecDepth 100000
set_option maxHeartbeats 1000000
namespace DL
open PySem PySem.Spec PyProof.Rows L2 Evl
open PySem.SeqAt
/-! ### == of values that hold lists, tuples, dicts -/
inductive Leaf : V → PyData → Prop
  | non : Leaf .non .none
  | bl (b : Bool) : Leaf (.bl b) (.bool b)
  | int (i : Int) : Leaf (.int i) (.int i)
  | str (x : Str) : Leaf (.str x) (.str x)
mutual
inductive EqV (K : PySem.W.Frag) (H : Hp) : Nat → V → V → Bool → Prop
  | leaf {n : Nat} {v u : V} {x y : PyData} : Leaf v x → Leaf u y → EqV K H n v u (PyData.eqv x y)
  | lst {n : Nat} {a b : Addr} {xs ys : List V} {bs : List Bool} : SqL K H a xs → SqL K H b ys → EqVs K H n xs ys bs → EqV K H (n + 1) (.ref a) (.ref b) (bs.all id)
  | lstN {n : Nat} {a b : Addr} {xs ys : List V} : SqL K H a xs → SqL K H b ys → xs.length ≠ ys.length → EqV K H (n + 1) (.ref a) (.ref b) false
  | tup {n : Nat} {a b : Addr} {xs ys : List V} {bs : List Bool} : SqT K H a xs → SqT K H b ys → EqVs K H n xs ys bs → EqV K H (n + 1) (.ref a) (.ref b) (bs.all id)
  | dK {n : Nat} {a b : Addr} {ka kb : List (Key × V)} (f : Key → Bool) : Rd H a (.dK ka) → Rd H b (.dK kb) → (∀ k v u, (k, v) ∈ ka → (k, u) ∈ kb → EqV K H n v u (f k)) → EqV K H (n + 1) (.ref a) (.ref b) (ka.length == kb.length && ka.all fun p => (kb.any fun q => decide (q.1 = p.1)) && f p.1)
  | dT {n : Nat} {a b : Addr} {ka kb : List (List Key × V)} (f : List Key → Bool) : Rd H a (.dT ka) → Rd H b (.dT kb) → (∀ k v u, (k, v) ∈ ka → (k, u) ∈ kb → EqV K H n v u (f k)) → EqV K H (n + 1) (.ref a) (.ref b) (ka.length == kb.length && ka.all fun p => (kb.any fun q => decide (q.1 = p.1)) && f p.1)
inductive EqVs (K : PySem.W.Frag) (H : Hp) : Nat → List V → List V → List Bool → Prop
  | nil {n : Nat} : EqVs K H n [] [] []
  | cons {n : Nat} {v u : V} {b : Bool} {vs us : List V} {bs : List Bool} : EqV K H n v u b → EqVs K H n vs us bs → EqVs K H n (v :: vs) (u :: us) (b :: bs)
end
theorem EqVs.len {K : PySem.W.Frag} {H : Hp} {n : Nat} : ∀ {xs ys : List V} {bs : List Bool}, EqVs K H n xs ys bs → xs.length = ys.length
  | _, _, _, .nil => rfl
  | _, _, _, .cons _ t => by simp [t.len]
theorem leaf_one {v : V} {x y : PyData} (a : Leaf v x) (b : Leaf v y) : x = y := by cases a <;> cases b <;> rfl
theorem leaf_refl {v : V} {x : PyData} (a : Leaf v x) : PyData.eqv x x = true := by cases a <;> simp [PyData.eqv]
section
variable {X : Cx} {pins : List (Addr × Obj)} {σ : L2.St} {H : Hp} {s : Shared}
mutual
theorem EqV.same (I : Inv X pins σ H s) : ∀ {n : Nat} {v u : V} {b : Bool}, EqV X.K H n v u b → v = u → b = true
  | _, _, _, _, .leaf a b, e => by subst e; rw [leaf_one a b]; exact leaf_refl b
  | _, _, _, _, .lst h1 h2 t, e => by cases e; have := I.list_inj h1 h2; exact EqVs.same I t this
  | _, _, _, _, .lstN h1 h2 t, e => by cases e; exact absurd (congrArg List.length (I.list_inj h1 h2)) t
  | _, _, _, _, .tup h1 h2 t, e => by cases e; have := I.tuple_inj h1 h2; exact EqVs.same I t this
  | _, _, _, _, .dK (ka := ka) f h1 h2 t, e => by
    cases e
    have := rd_one h1 h2 (fun _ _ z => by cases z) (fun _ _ z => by cases z)
    injection this with this
    subst this
    rw [Bool.and_eq_true]
    refine ⟨by simp, List.all_eq_true.mpr fun p hp => ?_⟩
    rw [Bool.and_eq_true]
    exact ⟨List.any_eq_true.mpr ⟨p, hp, by simp⟩, EqV.same I (t p.1 p.2 p.2 hp hp) rfl⟩
  | _, _, _, _, .dT (ka := ka) f h1 h2 t, e => by
    cases e
    have := rd_one h1 h2 (fun _ _ z => by cases z) (fun _ _ z => by cases z)
    injection this with this
    subst this
    rw [Bool.and_eq_true]
    refine ⟨by simp, List.all_eq_true.mpr fun p hp => ?_⟩
    rw [Bool.and_eq_true]
    exact ⟨List.any_eq_true.mpr ⟨p, hp, by simp⟩, EqV.same I (t p.1 p.2 p.2 hp hp) rfl⟩
theorem EqVs.same (I : Inv X pins σ H s) : ∀ {n : Nat} {vs us : List V} {bs : List Bool}, EqVs X.K H n vs us bs → vs = us → bs.all id = true
  | _, _, _, _, .nil, _ => rfl
  | _, _, _, _, .cons h t, e => by
    injection e with e1 e2
    rw [List.all_cons, Bool.and_eq_true]
    exact ⟨EqV.same I h e1, EqVs.same I t e2⟩
end
end
end DL
set_option Elab.async false
set_option linter.all false
set_option maxRecDepth 100000
set_option maxHeartbeats 1000000
namespace DL
open PySem PySem.Spec PyProof.Rows L2 Evl
open PySem.SeqAt
section
variable {P : Program} {w : World} {A : Around} {s : Shared} {l b : Addr} {xs ys : Array Value} {bs : List Bool}
theorem rcE_lst (hl : s.heap.IsList l xs) (hb : s.heap.IsList b ys) (hsz : xs.size = ys.size) (hu : A.units < cLine) (he : Says2 P w A.in1 s (xs.toList.zip ys.toList) bs) (E Q : Value → Shared → Prop) (q : Q (.bool (bs.all id)) s) : wpAny (model P w) A (richCompare .Eq (.ref l) (.ref b)) Q E s := by
  obtain ⟨⟨_, _, _, _⟩, o1, c1, n1, d1⟩ := hl
  obtain ⟨⟨_, _, _, _⟩, o2, c2, n2, d2⟩ := hb
  cases c1; cases d1; cases c2; cases d2
  exact wpAny_richCompare_same_room (op := .Eq) ⟨_, o1, rfl⟩ ⟨_, o2, rfl⟩ F.slot_list_eq (call_meetsIn F.slot_list_eq ⟨_, o1, rfl⟩ F.entry_list_eq (F.args_list_eq_2 _ _) (lst_eq l b xs ys _ _ _ _ _ _ hsz bs) ⟨o1, o2, he, (fun z => nomatch z), q⟩) hu
theorem rcN_lst (hl : s.heap.IsList l xs) (hb : s.heap.IsList b ys) (hsz : xs.size = ys.size) (hu : A.units < cLine) (he : Says2 P w A.in1 s (xs.toList.zip ys.toList) bs) (E Q : Value → Shared → Prop) (q : Q (.bool (!(bs.all id))) s) : wpAny (model P w) A (richCompare .NotEq (.ref l) (.ref b)) Q E s := by
  obtain ⟨⟨_, _, _, _⟩, o1, c1, n1, d1⟩ := hl
  obtain ⟨⟨_, _, _, _⟩, o2, c2, n2, d2⟩ := hb
  cases c1; cases d1; cases c2; cases d2
  exact wpAny_richCompare_same_room (op := .NotEq) ⟨_, o1, rfl⟩ ⟨_, o2, rfl⟩ F.slot_list_ne (call_meetsIn F.slot_list_ne ⟨_, o1, rfl⟩ F.entry_list_ne (F.args_list_ne_2 _ _) (lst_ne l b xs ys _ _ _ _ _ _ hsz bs) ⟨o1, o2, he, (fun z => nomatch z), q⟩) hu
theorem rcE_tup (hl : s.heap.IsTuple l xs) (hb : s.heap.IsTuple b ys) (hu : A.units < cLine) (he : Says2 P w A.in1 s (xs.toList.zip ys.toList) bs) (E Q : Value → Shared → Prop) (q : Q (.bool (bs.all id && xs.size == ys.size)) s) : wpAny (model P w) A (richCompare .Eq (.ref l) (.ref b)) Q E s := by
  obtain ⟨⟨_, _, _, _⟩, o1, c1, n1, d1⟩ := hl
  obtain ⟨⟨_, _, _, _⟩, o2, c2, n2, d2⟩ := hb
  cases c1; cases d1; cases c2; cases d2
  exact wpAny_richCompare_same_room (op := .Eq) ⟨_, o1, rfl⟩ ⟨_, o2, rfl⟩ F.slot_tuple_eq (call_meetsIn F.slot_tuple_eq ⟨_, o1, rfl⟩ F.entry_tuple_eq (F.args_tuple_eq_2 _ _) (tup_eq l b xs ys _ _ _ _ _ _ bs) ⟨o1, o2, he, (fun z => nomatch z), q⟩) hu
theorem rcN_tup (hl : s.heap.IsTuple l xs) (hb : s.heap.IsTuple b ys) (hu : A.units < cLine) (he : Says2 P w A.in1 s (xs.toList.zip ys.toList) bs) (E Q : Value → Shared → Prop) (q : Q (.bool (!(bs.all id && xs.size == ys.size))) s) : wpAny (model P w) A (richCompare .NotEq (.ref l) (.ref b)) Q E s := by
  obtain ⟨⟨_, _, _, _⟩, o1, c1, n1, d1⟩ := hl
  obtain ⟨⟨_, _, _, _⟩, o2, c2, n2, d2⟩ := hb
  cases c1; cases d1; cases c2; cases d2
  exact wpAny_richCompare_same_room (op := .NotEq) ⟨_, o1, rfl⟩ ⟨_, o2, rfl⟩ F.slot_tuple_ne (call_meetsIn F.slot_tuple_ne ⟨_, o1, rfl⟩ F.entry_tuple_ne (F.args_tuple_ne_2 _ _) (tup_ne l b xs ys _ _ _ _ _ _ bs) ⟨o1, o2, he, (fun z => nomatch z), q⟩) hu
/-- the entries of one dict among those of another -/
theorem hits_of {kb : List (Key × V)} {vb : List (Key × Value)} {f : Key → Bool} (rb : KV kb vb) : ∀ {ka : List (Key × V)} {va : List (Key × Value)}, KV ka va → (∀ k v u v' u', (k, v) ∈ ka → (k, u) ∈ kb → RelV v v' → RelV u u' → EqP P w A s v' u' (f k)) →
    PySem.W.KeqHitsP P w A s vb va (ka.all fun p => (kb.any fun q => decide (q.1 = p.1)) && f p.1)
  | [], [], _, _ => .nil
  | [], _ :: _, r, _ => by cases r
  | _ :: _, [], r, _ => by cases r
  | (k, v) :: ka, (k', u) :: va, r, h => by
    have r' : (k = k' ∧ RelV v u) ∧ KV ka va := by cases r with | cons a b => exact ⟨a, b⟩
    obtain ⟨⟨rfl, rv⟩, rt⟩ := r'
    have ih := hits_of rb rt fun k v u v' u' hp => h k v u v' u' (List.mem_cons_of_mem _ hp)
    have ro := rb.val k
    rw [List.all_cons]
    cases e : valV kb k with
    | none =>
      rw [e] at ro
      have no : (kb.any fun q => decide (q.1 = k)) = false := by
        rw [List.any_eq_false]
        intro q hq z
        have z : q.1 = k := by simpa using z
        unfold valV at e
        rw [Option.map_eq_none_iff, List.find?_eq_none] at e
        exact e q hq (by simpa using z)
      dsimp only
      rw [no, Bool.false_and, Bool.false_and]
      exact .miss ro.none_of
    | some x =>
      rw [e] at ro
      obtain ⟨y, hy, ry⟩ := ro.some_of
      have mem := valV_mem e
      have yes : (kb.any fun q => decide (q.1 = k)) = true := List.any_eq_true.mpr ⟨_, mem, by simp⟩
      dsimp only
      rw [yes, Bool.true_and]
      exact .hit hy (h k v x u y List.mem_cons_self mem rv ry) ih
end
section
variable {X : Cx} {pins : List (Addr × Obj)} {σ : L2.St} {H : Hp} {s : Shared}
theorem kt_mem {ka : List (List Key × V)} {xa : List (List Key × Addr × Value)} (r : KT H ka xa) : ∀ {x : List Key × Addr × Value}, x ∈ xa → ∃ v, (x.1, v) ∈ ka ∧ RelV v x.2.2 := by
  induction r with
  | nil => intro x h; cases h
  | @cons p q ps qs h t ih =>
    intro x hx
    rcases List.mem_cons.mp hx with rfl | hx
    · obtain ⟨p1, p2⟩ := p
      have h1 : p1 = x.1 := h.1
      subst h1
      exact ⟨p2, List.mem_cons_self, h.2.2⟩
    · obtain ⟨v, m, rv⟩ := ih hx
      exact ⟨v, List.mem_cons_of_mem _ m, rv⟩
theorem kt_any {ka : List (List Key × V)} {xa : List (List Key × Addr × Value)} (r : KT H ka xa) (k : List Key) : (xa.any fun y => decide (y.1 = k)) = ka.any fun q => decide (q.1 = k) := by
  induction r with
  | nil => rfl
  | @cons p q ps qs h t ih => rw [List.any_cons, List.any_cons, ih, h.1]
theorem kt_all {ka : List (List Key × V)} {xa : List (List Key × Addr × Value)} (r : KT H ka xa) (g : List Key → Bool) : (xa.all fun y => g y.1) = ka.all fun q => g q.1 := by
  induction r with
  | nil => rfl
  | @cons p q ps qs h t ih => rw [List.all_cons, List.all_cons, ih, h.1]
theorem kt_len {ka : List (List Key × V)} {xa : List (List Key × Addr × Value)} (r : KT H ka xa) : ka.length = xa.length := by
  induction r with
  | nil => rfl
  | cons h t ih => simp [ih]
/-- the items, as values of the heap -/
def SaysL (X : Cx) (s : Shared) (A : Around) (xs ys : List V) (bs : List Bool) : Prop := ∀ its its' : List Value, Vals xs its → Vals ys its' → Says2 X.prog X.w A s (its.zip its') bs
theorem go_lst (I : Inv X pins σ H s) {a b : Addr} {xs ys : List V} {bs : List Bool} (h1 : SqL X.K H a xs) (h2 : SqL X.K H b ys) (hl : xs.length = ys.length) {A : Around} (hu : A.units < cLine) (he : SaysL X s A.in1 xs ys bs) (E Q : Value → Shared → Prop) :
    (Q (.bool (bs.all id)) s → wpAny (model X.prog X.w) A (richCompare .Eq (.ref a) (.ref b)) Q E s) ∧ (Q (.bool (!(bs.all id))) s → wpAny (model X.prog X.w) A (richCompare .NotEq (.ref a) (.ref b)) Q E s) := by
  obtain ⟨is, r1, p1, _⟩ := I.list h1
  obtain ⟨js, r2, p2, _⟩ := I.list h2
  have sz : is.toArray.size = js.toArray.size := by have a := r1.length; have b := r2.length; simp; omega
  have e : Says2 X.prog X.w A.in1 s (is.toArray.toList.zip js.toArray.toList) bs := by simpa using he is js r1 r2
  exact ⟨fun q => rcE_lst p1.isList p2.isList sz hu e E Q q, fun q => rcN_lst p1.isList p2.isList sz hu e E Q q⟩
theorem go_lstN (I : Inv X pins σ H s) {a b : Addr} {xs ys : List V} (h1 : SqL X.K H a xs) (h2 : SqL X.K H b ys) (hl : xs.length ≠ ys.length) {A : Around} (hu : A.units < cLine) (E Q : Value → Shared → Prop) :
    (Q (.bool false) s → wpAny (model X.prog X.w) A (richCompare .Eq (.ref a) (.ref b)) Q E s) ∧ (Q (.bool true) s → wpAny (model X.prog X.w) A (richCompare .NotEq (.ref a) (.ref b)) Q E s) := by
  obtain ⟨is, r1, p1, _⟩ := I.list h1
  obtain ⟨js, r2, p2, _⟩ := I.list h2
  have sz : (is.toArray.size != js.toArray.size) = true := by have a := r1.length; have b := r2.length; simp; omega
  exact ⟨fun q => RcAt.lists_lengths p1.isList p2.isList sz hu _ _ E Q q, fun q => RcNeAt.lists_lengths p1.isList p2.isList sz hu _ _ E Q q⟩
theorem go_tup (I : Inv X pins σ H s) {a b : Addr} {xs ys : List V} {bs : List Bool} (h1 : SqT X.K H a xs) (h2 : SqT X.K H b ys) (hl : xs.length = ys.length) {A : Around} (hu : A.units < cLine) (he : SaysL X s A.in1 xs ys bs) (E Q : Value → Shared → Prop) :
    (Q (.bool (bs.all id)) s → wpAny (model X.prog X.w) A (richCompare .Eq (.ref a) (.ref b)) Q E s) ∧ (Q (.bool (!(bs.all id))) s → wpAny (model X.prog X.w) A (richCompare .NotEq (.ref a) (.ref b)) Q E s) := by
  obtain ⟨is, r1, p1, _⟩ := I.tuple h1
  obtain ⟨js, r2, p2, _⟩ := I.tuple h2
  have sz : (is.toArray.size == js.toArray.size) = true := by have a := r1.length; have b := r2.length; simp; omega
  have e : Says2 X.prog X.w A.in1 s (is.toArray.toList.zip js.toArray.toList) bs := by simpa using he is js r1 r2
  exact ⟨fun q => rcE_tup p1 p2 hu e E Q (by rw [sz, Bool.and_true]; exact q), fun q => rcN_tup p1 p2 hu e E Q (by rw [sz, Bool.and_true]; exact q)⟩
theorem go_dK (I : Inv X pins σ H s) {a b : Addr} {ka kb : List (Key × V)} {f : Key → Bool} (h1 : Rd H a (.dK ka)) (h2 : Rd H b (.dK kb)) {A : Around} (hu : A.units < cLine)
    (he : ∀ k v u v' u', (k, v) ∈ ka → (k, u) ∈ kb → RelV v v' → RelV u u' → EqP X.prog X.w A.in1 s v' u' (f k)) (E Q : Value → Shared → Prop) (q : Q (.bool (ka.length == kb.length && ka.all fun p => (kb.any fun q => decide (q.1 = p.1)) && f p.1)) s) : wpAny (model X.prog X.w) A (richCompare .Eq (.ref a) (.ref b)) Q E s := by
  obtain ⟨_, ya, va, ra, da⟩ := dk_rd I.hok h1
  obtain ⟨_, yb, vb, rb, db⟩ := dk_rd I.hok h2
  refine PySem.W.rcP_dicts ya yb da db hu (fun _ => hits_of rb ra he) E Q ?_
  rw [← ra.length, ← rb.length]
  exact q
theorem go_dT (I : Inv X pins σ H s) {a b : Addr} {ka kb : List (List Key × V)} {f : List Key → Bool} (h1 : Rd H a (.dT ka)) (h2 : Rd H b (.dT kb)) {A : Around} (hu : A.units + 1 < cLine)
    (he : ∀ k v u v' u', (k, v) ∈ ka → (k, u) ∈ kb → RelV v v' → RelV u u' → EqP X.prog X.w A.in1 s v' u' (f k)) (E Q : Value → Shared → Prop) (q : Q (.bool (ka.length == kb.length && ka.all fun p => (kb.any fun q => decide (q.1 = p.1)) && f p.1)) s) : wpAny (model X.prog X.w) A (richCompare .Eq (.ref a) (.ref b)) Q E s := by
  obtain ⟨_, ya, xa, ra, da⟩ := dt_rd I.hok h1
  obtain ⟨_, yb, xb, rb, db⟩ := dt_rd I.hok h2
  refine rcH_dicts (tupleKind_room_in1 hu) ya yb (by omega) da db (e := f) (fun x hx y hy e => ?_) E Q ?_
  · obtain ⟨v, m1, r1⟩ := kt_mem ra hx
    obtain ⟨u, m2, r2⟩ := kt_mem rb hy
    rw [e] at m2
    exact he x.1 v u x.2.2 y.2.2 m1 m2 r1 r2
  · have e1 : xa.all (inOther xb f) = ka.all fun p => (kb.any fun q => decide (q.1 = p.1)) && f p.1 := by
      rw [← kt_all ra fun k => (kb.any fun q => decide (q.1 = k)) && f k]
      congr 1
      funext x
      unfold inOther
      rw [kt_any rb]
    rw [e1, ← kt_len ra, ← kt_len rb]
    exact q
mutual
theorem EqV.eqp (I : Inv X pins σ H s) : ∀ {n : Nat} {v u : V} {b : Bool}, EqV X.K H n v u b → ∀ {v' u' : Value}, RelV v v' → RelV u u' → ∀ A : Around, A.units + n + 2 < cLine → EqP X.prog X.w A s v' u' b
  | _, _, _, _, .leaf l1 l2, v', u', r1, r2, A, hu => by
    have rd : ∀ {v : V} {x : PyData} {v' : Value}, Leaf v x → RelV v v' → Reads s.heap v' x [] ∧ x.plain = true ∧ x.depth ≤ 1 := by
      intro v x v' l r
      cases l <;> first | (cases r; exact ⟨by constructor, rfl, by simp [PyData.depth]⟩) | (obtain ⟨t, rfl⟩ := r; exact ⟨by constructor, rfl, by simp [PyData.depth]⟩)
    obtain ⟨a1, a2, a3⟩ := rd l1 r1
    obtain ⟨b1, b2, b3⟩ := rd l2 r2
    exact (eqAt_plain _ _ A s _ _ _ _ a1 b1 a2 b2 (by omega)).eqP
  | _, _, _, _, .lst (a := a) (b := b) h1 h2 t, _, _, r1, r2, A, hu => by
    cases r1; cases r2
    by_cases e : a = b
    · have e2 := EqV.same I (.lst h1 h2 t) (by rw [e])
      rw [e2, e]
      exact (EqAt.same _).eqP
    · exact eqP_refs e fun E Q q => (go_lst I h1 h2 t.len (by omega) (EqVs.says I t A.in1 (by show A.units + 1 + _ + 2 < cLine; omega)) E Q).1 q
  | _, _, _, _, .lstN (a := a) (b := b) h1 h2 t, _, _, r1, r2, A, hu => by
    cases r1; cases r2
    by_cases e : a = b
    · have e2 := EqV.same (n := 1) I (.lstN h1 h2 t) (by rw [e])
      cases e2
    · exact eqP_refs e fun E Q q => (go_lstN I h1 h2 t (by omega) E Q).1 q
  | _, _, _, _, .tup (a := a) (b := b) h1 h2 t, _, _, r1, r2, A, hu => by
    cases r1; cases r2
    by_cases e : a = b
    · have e2 := EqV.same I (.tup h1 h2 t) (by rw [e])
      rw [e2, e]
      exact (EqAt.same _).eqP
    · exact eqP_refs e fun E Q q => (go_tup I h1 h2 t.len (by omega) (EqVs.says I t A.in1 (by show A.units + 1 + _ + 2 < cLine; omega)) E Q).1 q
  | _, _, _, _, .dK (a := a) (b := b) f h1 h2 t, _, _, r1, r2, A, hu => by
    cases r1; cases r2
    by_cases e : a = b
    · have e2 := EqV.same I (.dK f h1 h2 t) (by rw [e])
      rw [e2, e]
      exact (EqAt.same _).eqP
    · exact eqP_refs e fun E Q q => go_dK I h1 h2 (by omega) (fun k v u v' u' m1 m2 x1 x2 => EqV.eqp I (t k v u m1 m2) x1 x2 A.in1 (by show A.units + 1 + _ + 2 < cLine; omega)) E Q q
  | _, _, _, _, .dT (a := a) (b := b) f h1 h2 t, _, _, r1, r2, A, hu => by
    cases r1; cases r2
    by_cases e : a = b
    · have e2 := EqV.same I (.dT f h1 h2 t) (by rw [e])
      rw [e2, e]
      exact (EqAt.same _).eqP
    · exact eqP_refs e fun E Q q => go_dT I h1 h2 (by omega) (fun k v u v' u' m1 m2 x1 x2 => EqV.eqp I (t k v u m1 m2) x1 x2 A.in1 (by show A.units + 1 + _ + 2 < cLine; omega)) E Q q
theorem EqVs.says (I : Inv X pins σ H s) : ∀ {n : Nat} {xs ys : List V} {bs : List Bool}, EqVs X.K H n xs ys bs → ∀ A : Around, A.units + n + 2 < cLine → SaysL X s A xs ys bs
  | _, _, _, _, .nil, A, hu, is, js, r1, r2 => by
    cases r1; cases r2
    exact .nil
  | _, _, _, _, .cons h t, A, hu, is, js, r1, r2 => by
    cases r1 with
    | cons a1 b1 =>
      cases r2 with
      | cons a2 b2 => exact .cons (EqV.eqp I h a1 a2 A hu) (EqVs.says I t A hu _ _ b1 b2)
end
end
end DL
set_option Elab.async false
set_option linter.all false
set_option maxRecDepth 100000
set_option maxHeartbeats 1000000
namespace DL
open PySem PySem.Spec PyProof.Rows L2 Evl
open PySem.SeqAt
section
variable {prog : Program} {w : World} {A : Around} {s : Shared}
/-- a dict's own != is the walk over the pairs, turned -/
theorem rcN_by_pairs {a b : Addr} {r : Bool} (ta : s.TypeIs (.ref a) "dict") (tb : s.TypeIs (.ref b) "dict") (hu : A.units < cLine)
    (walk : ∀ (A' : Around) (E : Value → Shared → Prop) (R : Bool → Shared → Prop), A' = A.in1 → R r s → wpAny (model prog w) A' (Builtin.Dict.samePairs "dict.__ne__" a b) R E s)
    (E Q : Value → Shared → Prop) (q : Q (.bool (!r)) s) : wpAny (model prog w) A (richCompare .NotEq (.ref a) (.ref b)) Q E s := by
  have body : wpAny (model prog w) A.in1 (Builtin.«dict.__ne__» ⟨[.ref a, .ref b], []⟩) (fun f s' => ∃ v, f = .done (.ret v) ∧ v ≠ Value.notImplemented ∧ Q v s') E s := by
    show wpAny _ _ (Builtin.Dict.dictSlotArgs "__ne__" ⟨[.ref a, .ref b], []⟩ >>= _) _ _ s
    refine wpAny_bind ?_
    have st : wpAny (model prog w) A.in1 (Builtin.Dict.dictSlotArgs "__ne__" ⟨[.ref a, .ref b], []⟩) (fun p s' => p = (.ref a, .ref b) ∧ s' = s) E s := by
      unfold Builtin.Dict.dictSlotArgs
      exact wpAny_bind (wpAny_notOrdered_dict ta (wpAny_pure ⟨rfl, rfl⟩))
    refine wpAny_mono st (fun p s' h => ?_) fun _ _ z => z
    obtain ⟨rfl, rfl⟩ := h
    have ib : ∀ {R : Bool → Shared → Prop}, R true s' → wpAny (model prog w) A.in1 (isInstance (.ref b) (.type "dict")) R E s' := fun z => wpAny_isInstance (T := "dict") tb PySem.F.sub_dict_dict z
    refine wpAny_bind (ib ?_)
    simp only [Bool.not_true, Bool.false_eq_true, if_false]
    repeat refine wpAny_bind (wpAny_pure ?_)
    refine wpAny_bind (walk A.in1 E _ rfl ?_)
    exact wpAny_pure ⟨_, rfl, (fun z => nomatch z), by cases r <;> simpa using q⟩
  refine wpAny_richCompare_same_room (op := .NotEq) ta tb PySem.F.slot_dict_ne ?_ hu
  refine wpAny_call_entry PySem.F.slot_dict_ne ta PySem.F.entry_dict_ne ?_ (PySem.F.args_dict_ne_2 _ _)
  refine wpAny_mono body (fun f s' h => ?_) fun _ _ z => z
  obtain ⟨v, rfl, n, q⟩ := h
  exact ⟨v, rfl, n, q⟩
end
section
variable {X : Cx} {pins : List (Addr × Obj)} {σ : L2.St} {H : Hp} {s : Shared}
theorem go_dKN (I : Inv X pins σ H s) {a b : Addr} {ka kb : List (Key × V)} {f : Key → Bool} (h1 : Rd H a (.dK ka)) (h2 : Rd H b (.dK kb)) {A : Around} (hu : A.units < cLine)
    (he : ∀ k v u v' u', (k, v) ∈ ka → (k, u) ∈ kb → RelV v v' → RelV u u' → EqP X.prog X.w A.in1 s v' u' (f k)) (E Q : Value → Shared → Prop) (q : Q (.bool (!(ka.length == kb.length && ka.all fun p => (kb.any fun q => decide (q.1 = p.1)) && f p.1))) s) : wpAny (model X.prog X.w) A (richCompare .NotEq (.ref a) (.ref b)) Q E s := by
  obtain ⟨_, ya, va, ra, da⟩ := dk_rd I.hok h1
  obtain ⟨_, yb, vb, rb, db⟩ := dk_rd I.hok h2
  refine rcN_by_pairs (r := ka.length == kb.length && ka.all fun p => (kb.any fun q => decide (q.1 = p.1)) && f p.1) da.typeIs db.typeIs hu (fun A' E R hA z => ?_) E Q q
  subst hA
  refine PySem.W.samePairsP ya yb da db (fun _ => hits_of rb ra he) ?_
  rw [← ra.length, ← rb.length]
  exact z
theorem go_dTN (I : Inv X pins σ H s) {a b : Addr} {ka kb : List (List Key × V)} {f : List Key → Bool} (h1 : Rd H a (.dT ka)) (h2 : Rd H b (.dT kb)) {A : Around} (hu : A.units + 1 < cLine)
    (he : ∀ k v u v' u', (k, v) ∈ ka → (k, u) ∈ kb → RelV v v' → RelV u u' → EqP X.prog X.w A.in1 s v' u' (f k)) (E Q : Value → Shared → Prop) (q : Q (.bool (!(ka.length == kb.length && ka.all fun p => (kb.any fun q => decide (q.1 = p.1)) && f p.1))) s) : wpAny (model X.prog X.w) A (richCompare .NotEq (.ref a) (.ref b)) Q E s := by
  obtain ⟨_, ya, xa, ra, da⟩ := dt_rd I.hok h1
  obtain ⟨_, yb, xb, rb, db⟩ := dt_rd I.hok h2
  refine rcN_by_pairs (r := ka.length == kb.length && ka.all fun p => (kb.any fun q => decide (q.1 = p.1)) && f p.1) da.typeIs db.typeIs (by omega) (fun A' E R hA z => ?_) E Q q
  subst hA
  refine pairsH (tupleKind_room_in1 hu) ya yb da db (e := f) (fun x hx y hy e => ?_) ?_
  · obtain ⟨v, m1, r1⟩ := kt_mem ra hx
    obtain ⟨u, m2, r2⟩ := kt_mem rb hy
    rw [e] at m2
    exact he x.1 v u x.2.2 y.2.2 m1 m2 r1 r2
  · have e1 : xa.all (inOther xb f) = ka.all fun p => (kb.any fun q => decide (q.1 = p.1)) && f p.1 := by
      rw [← kt_all ra fun k => (kb.any fun q => decide (q.1 = k)) && f k]
      congr 1
      funext x
      unfold inOther
      rw [kt_any rb]
    rw [e1, ← kt_len ra, ← kt_len rb]
    exact z
/-- == and != as the program asks them -/
theorem EqV.rc (I : Inv X pins σ H s) {n : Nat} {v u : V} {b : Bool} (h : EqV X.K H n v u b) {v' u' : Value} (r1 : RelV v v') (r2 : RelV u u') (A : Around) (hu : A.units + n + 2 < cLine) (E Q : Value → Shared → Prop) :
    (Q (.bool b) s → wpAny (model X.prog X.w) A (richCompare .Eq v' u') Q E s) ∧ (Q (.bool (!b)) s → wpAny (model X.prog X.w) A (richCompare .NotEq v' u') Q E s) := by
  cases h with
  | leaf l1 l2 =>
    have rd : ∀ {v : V} {x : PyData} {v' : Value}, Leaf v x → RelV v v' → Reads s.heap v' x [] ∧ x.plain = true ∧ x.depth ≤ 1 := by
      intro v x v' l r
      cases l <;> first | (cases r; exact ⟨by constructor, rfl, by simp [PyData.depth]⟩) | (obtain ⟨t, rfl⟩ := r; exact ⟨by constructor, rfl, by simp [PyData.depth]⟩)
    obtain ⟨a1, a2, a3⟩ := rd l1 r1
    obtain ⟨b1, b2, b3⟩ := rd l2 r2
    exact ⟨fun q => rcAt_plain a1 b1 a2 b2 (by omega) _ _ E Q q, fun q => rcNe_plain a1 b1 a2 b2 (by omega) _ _ E Q q⟩
  | lst h1 h2 t => cases r1; cases r2; exact go_lst I h1 h2 t.len (by omega) (EqVs.says I t A.in1 (by show A.units + 1 + _ + 2 < cLine; omega)) E Q
  | lstN h1 h2 t => cases r1; cases r2; exact go_lstN I h1 h2 t (by omega) E Q
  | tup h1 h2 t => cases r1; cases r2; exact go_tup I h1 h2 t.len (by omega) (EqVs.says I t A.in1 (by show A.units + 1 + _ + 2 < cLine; omega)) E Q
  | dK f h1 h2 t => cases r1; cases r2; exact ⟨fun q => go_dK I h1 h2 (by omega) (fun k v u v' u' m1 m2 x1 x2 => EqV.eqp I (t k v u m1 m2) x1 x2 A.in1 (by show A.units + 1 + _ + 2 < cLine; omega)) E Q q, fun q => go_dKN I h1 h2 (by omega) (fun k v u v' u' m1 m2 x1 x2 => EqV.eqp I (t k v u m1 m2) x1 x2 A.in1 (by show A.units + 1 + _ + 2 < cLine; omega)) E Q q⟩
  | dT f h1 h2 t => cases r1; cases r2; exact ⟨fun q => go_dT I h1 h2 (by omega) (fun k v u v' u' m1 m2 x1 x2 => EqV.eqp I (t k v u m1 m2) x1 x2 A.in1 (by show A.units + 1 + _ + 2 < cLine; omega)) E Q q, fun q => go_dTN I h1 h2 (by omega) (fun k v u v' u' m1 m2 x1 x2 => EqV.eqp I (t k v u m1 m2) x1 x2 A.in1 (by show A.units + 1 + _ + 2 < cLine; omega)) E Q q⟩
def rEqV (K : PySem.W.Frag) : R2 := fun x y H Q => ∃ n b, n ≤ 40 ∧ EqV K H n x y b ∧ Q (.bl b) H
def rNeV (K : PySem.W.Frag) : R2 := fun x y H Q => ∃ n b, n ≤ 40 ∧ EqV K H n x y b ∧ Q (.bl (!b)) H
theorem k_eqV (hu : X.A.units + 64 < cLine) : OpR X (compareOp .Eq) (rEqV X.K) := by
  intro pins s σ H x y v u Q I rx ry ⟨n, b, hn, h, q⟩
  unfold compareOp
  exact (h.rc I rx ry X.A (by omega) X.xe _).1 ⟨.bl b, H, I, rfl, q⟩
theorem k_neV (hu : X.A.units + 64 < cLine) : OpR X (compareOp .NotEq) (rNeV X.K) := by
  intro pins s σ H x y v u Q I rx ry ⟨n, b, hn, h, q⟩
  unfold compareOp
  exact (h.rc I rx ry X.A (by omega) X.xe _).2 ⟨.bl (!b), H, I, rfl, q⟩
end
end DL
set_option Elab.async false
set_option linter.all false
set_option maxRecDepth 100000
set_option maxHeartbeats 1000000
namespace DL
open PySem PySem.Spec PyProof.Rows L2 Evl
/-! ### == of data with dicts, of data -/
inductive LeafD : D → PyData → Prop
  | non : LeafD .non .none
  | bl (b : Bool) : LeafD (.bl b) (.bool b)
  | int (i : Int) : LeafD (.int i) (.int i)
  | str (x : Str) : LeafD (.str x) (.str x)
mutual
inductive EqD : Nat → D → D → Bool → Prop
  | leaf {n : Nat} {d e : D} {x y : PyData} : LeafD d x → LeafD e y → EqD n d e (PyData.eqv x y)
  | lst {n : Nat} {ds es : List D} {bs : List Bool} : EqDs n ds es bs → EqD (n + 1) (.lst ds) (.lst es) (bs.all id)
  | lstN {n : Nat} {ds es : List D} : ds.length ≠ es.length → EqD (n + 1) (.lst ds) (.lst es) false
  | tup {n : Nat} {ds es : List D} {bs : List Bool} : EqDs n ds es bs → EqD (n + 1) (.tup ds) (.tup es) (bs.all id)
  | dic {n : Nat} {ds es : List (Key × D)} (f : Key → Bool) : (∀ k d e, (k, d) ∈ ds → (k, e) ∈ es → EqD n d e (f k)) → EqD (n + 1) (.dic ds) (.dic es) (ds.length == es.length && ds.all fun p => (es.any fun q => decide (q.1 = p.1)) && f p.1)
  | dit {n : Nat} {ds es : List (List Key × D)} (f : List Key → Bool) : (∀ k d e, (k, d) ∈ ds → (k, e) ∈ es → EqD n d e (f k)) → EqD (n + 1) (.dit ds) (.dit es) (ds.length == es.length && ds.all fun p => (es.any fun q => decide (q.1 = p.1)) && f p.1)
inductive EqDs : Nat → List D → List D → List Bool → Prop
  | nil {n : Nat} : EqDs n [] [] []
  | cons {n : Nat} {d e : D} {b : Bool} {ds es : List D} {bs : List Bool} : EqD n d e b → EqDs n ds es bs → EqDs n (d :: ds) (e :: es) (b :: bs)
end
theorem leaf_rp {K : PySem.W.Frag} {G : Hp} {v : V} {d : D} {x : PyData} (l : LeafD d x) (r : Rp K G v d) : Leaf v x := by
  cases l <;> cases r <;> constructor
section
variable {K : PySem.W.Frag} {H : Hp}
/-- the entry that stands for one -/
theorem rp_entry {κ : Type} : ∀ {kvs : List (κ × V)} {ds : List (κ × D)}, kvs.map (·.1) = ds.map (·.1) → RpL K H (kvs.map (·.2)) (ds.map (·.2)) → ∀ {k : κ} {v : V}, (k, v) ∈ kvs → ∃ d, (k, d) ∈ ds ∧ Rp K H v d
  | [], _, _, _, _, _, h => by cases h
  | _ :: _, [], e, _, _, _, _ => by cases e
  | (k1, v1) :: kvs, (k2, d2) :: ds, e, r, k, v, h => by
    have e' : k1 = k2 ∧ kvs.map (·.1) = ds.map (·.1) := by simpa using e
    obtain ⟨rfl, e2⟩ := e'
    have r' : Rp K H v1 d2 ∧ RpL K H (kvs.map (·.2)) (ds.map (·.2)) := by
      have r : RpL K H (v1 :: kvs.map (·.2)) (d2 :: ds.map (·.2)) := r
      cases r with | cons a b => exact ⟨a, b⟩
    rcases List.mem_cons.mp h with h | h
    · cases h
      exact ⟨d2, List.mem_cons_self, r'.1⟩
    · obtain ⟨d, m, q⟩ := rp_entry e2 r'.2 h
      exact ⟨d, List.mem_cons_of_mem _ m, q⟩
theorem keys_any {κ α β : Type} [DecidableEq κ] {xs : List (κ × α)} {ys : List (κ × β)} (e : xs.map (·.1) = ys.map (·.1)) (k : κ) : (xs.any fun q => decide (q.1 = k)) = ys.any fun q => decide (q.1 = k) := by
  have h : ∀ {γ : Type} (l : List (κ × γ)), (l.any fun q => decide (q.1 = k)) = (l.map (·.1)).any fun z => decide (z = k) := fun l => by rw [List.any_map]; rfl
  rw [h, h, e]
theorem keys_all {κ α β : Type} {xs : List (κ × α)} {ys : List (κ × β)} (e : xs.map (·.1) = ys.map (·.1)) (g : κ → Bool) : (xs.all fun q => g q.1) = ys.all fun q => g q.1 := by
  have h : ∀ {γ : Type} (l : List (κ × γ)), (l.all fun q => g q.1) = (l.map (·.1)).all g := fun l => by rw [List.all_map]; rfl
  rw [h, h, e]
theorem keys_len {κ α β : Type} {xs : List (κ × α)} {ys : List (κ × β)} (e : xs.map (·.1) = ys.map (·.1)) : xs.length = ys.length := by simpa using congrArg List.length e
mutual
theorem EqD.toV : ∀ {n : Nat} {d e : D} {b : Bool}, EqD n d e b → ∀ {v u : V}, Rp K H v d → Rp K H u e → EqV K H n v u b
  | _, _, _, _, .leaf l1 l2, _, _, r1, r2 => .leaf (leaf_rp l1 r1) (leaf_rp l2 r2)
  | _, _, _, _, .lst t, _, _, .lst a1 r1, .lst a2 r2 => .lst (SqL.of a1) (SqL.of a2) (EqDs.toV t r1 r2)
  | _, _, _, _, .lstN t, _, _, .lst a1 r1, .lst a2 r2 => .lstN (SqL.of a1) (SqL.of a2) (by rw [r1.length, r2.length]; exact t)
  | _, _, _, _, .tup t, _, _, .tup a1 r1, .tup a2 r2 => .tup (SqT.of a1) (SqT.of a2) (EqDs.toV t r1 r2)
  | _, _, _, _, .dic (ds := ds) (es := es) f t, _, _, .dic (kvs := ka) a1 k1 r1, .dic (kvs := kb) a2 k2 r2 => by
    rw [← keys_len k1, ← keys_len k2, ← keys_all k1 fun k => (es.any fun z => decide (z.1 = k)) && f k]
    have e : (fun q : Key × V => (es.any fun z => decide (z.1 = q.1)) && f q.1) = fun q : Key × V => (kb.any fun z => decide (z.1 = q.1)) && f q.1 := by
      funext q
      rw [keys_any k2]
    rw [e]
    exact .dK f a1 a2 fun k v u m1 m2 => by
      obtain ⟨d, n1, q1⟩ := rp_entry k1 r1 m1
      obtain ⟨e, n2, q2⟩ := rp_entry k2 r2 m2
      exact EqD.toV (t k d e n1 n2) q1 q2
  | _, _, _, _, .dit (ds := ds) (es := es) f t, _, _, .dit (kvs := ka) a1 k1 r1, .dit (kvs := kb) a2 k2 r2 => by
    rw [← keys_len k1, ← keys_len k2, ← keys_all k1 fun k => (es.any fun z => decide (z.1 = k)) && f k]
    have e : (fun q : List Key × V => (es.any fun z => decide (z.1 = q.1)) && f q.1) = fun q : List Key × V => (kb.any fun z => decide (z.1 = q.1)) && f q.1 := by
      funext q
      rw [keys_any k2]
    rw [e]
    exact .dT f a1 a2 fun k v u m1 m2 => by
      obtain ⟨d, n1, q1⟩ := rp_entry k1 r1 m1
      obtain ⟨e, n2, q2⟩ := rp_entry k2 r2 m2
      exact EqD.toV (t k d e n1 n2) q1 q2
theorem EqDs.toV : ∀ {n : Nat} {ds es : List D} {bs : List Bool}, EqDs n ds es bs → ∀ {vs us : List V}, RpL K H vs ds → RpL K H us es → EqVs K H n vs us bs
  | _, _, _, _, .nil, _, _, .nil, .nil => .nil
  | _, _, _, _, .cons h t, _, _, .cons a1 r1, .cons a2 r2 => .cons (EqD.toV h a1 a2) (EqDs.toV t r1 r2)
end
end
/-! ### data that equal themselves -/
inductive Wf : Nat → D → Prop
  | leaf {n : Nat} {d : D} {x : PyData} : LeafD d x → Wf n d
  | lst {n : Nat} {ds : List D} : (∀ d ∈ ds, Wf n d) → Wf (n + 1) (.lst ds)
  | tup {n : Nat} {ds : List D} : (∀ d ∈ ds, Wf n d) → Wf (n + 1) (.tup ds)
  | dic {n : Nat} {ds : List (Key × D)} : (ds.map (·.1)).Nodup → (∀ p ∈ ds, Wf n p.2) → Wf (n + 1) (.dic ds)
  | dit {n : Nat} {ds : List (List Key × D)} : (ds.map (·.1)).Nodup → (∀ p ∈ ds, Wf n p.2) → Wf (n + 1) (.dit ds)
theorem eqds_self {n : Nat} : ∀ {ds : List D}, (∀ d ∈ ds, EqD n d d true) → EqDs n ds ds (ds.map fun _ => true)
  | [], _ => .nil
  | d :: ds, h => .cons (h d (by simp)) (eqds_self fun e he => h e (by simp [he]))
theorem nodup_one {κ : Type} : ∀ {ds : List (κ × D)}, (ds.map (·.1)).Nodup → ∀ {k : κ} {d e : D}, (k, d) ∈ ds → (k, e) ∈ ds → d = e
  | p :: ds, nd, k, d, e, h1, h2 => by
    rw [List.map_cons, List.nodup_cons] at nd
    have out : ∀ {x : D}, (k, x) ∈ ds → k ∈ ds.map (·.1) := fun {x} m => List.mem_map.mpr ⟨(k, x), m, rfl⟩
    rcases List.mem_cons.mp h1 with g1 | g1
    · subst g1
      rcases List.mem_cons.mp h2 with g2 | g2
      · cases g2; rfl
      · exact absurd (out g2) nd.1
    · rcases List.mem_cons.mp h2 with g2 | g2
      · subst g2
        exact absurd (out g1) nd.1
      · exact nodup_one nd.2 g1 g2
theorem Wf.self : ∀ {n : Nat} {d : D}, Wf n d → EqD n d d true := by
  intro n d h
  induction h with
  | @leaf n d x l =>
    have := EqD.leaf (n := n) l l
    have e : PyData.eqv x x = true := by cases l <;> simp [PyData.eqv]
    rw [e] at this
    exact this
  | @lst n ds _ ih =>
    have := EqD.lst (eqds_self ih)
    rw [show (ds.map fun _ => true).all id = true by simp] at this
    exact this
  | @tup n ds _ ih =>
    have := EqD.tup (eqds_self ih)
    rw [show (ds.map fun _ => true).all id = true by simp] at this
    exact this
  | @dic n ds nd _ ih =>
    have := EqD.dic (n := n) (ds := ds) (es := ds) (fun _ => true) fun k d e h1 h2 => by
      have := nodup_one nd h1 h2
      subst this
      exact ih (k, d) h1
    have e : (ds.length == ds.length && ds.all fun p => (ds.any fun q => decide (q.1 = p.1)) && true) = true := by
      rw [Bool.and_eq_true]
      refine ⟨by simp, List.all_eq_true.mpr fun p hp => ?_⟩
      rw [Bool.and_true]
      exact List.any_eq_true.mpr ⟨p, hp, by simp⟩
    rw [e] at this
    exact this
  | @dit n ds nd _ ih =>
    have := EqD.dit (n := n) (ds := ds) (es := ds) (fun _ => true) fun k d e h1 h2 => by
      have := nodup_one nd h1 h2
      subst this
      exact ih (k, d) h1
    have e : (ds.length == ds.length && ds.all fun p => (ds.any fun q => decide (q.1 = p.1)) && true) = true := by
      rw [Bool.and_eq_true]
      refine ⟨by simp, List.all_eq_true.mpr fun p hp => ?_⟩
      rw [Bool.and_true]
      exact List.any_eq_true.mpr ⟨p, hp, by simp⟩
    rw [e] at this
    exact this
section
variable {ι : Type} {m : ι} {K : PySem.W.Frag} {W : Wd ι} {Φ : ι → S → Prop}
theorem ops_eqV {s1 s2 : S} {n : Nat} {d e : D} {b : Bool} (h1 : s1.view = some d) (h2 : s2.view = some e) (hn : n ≤ 40) (he : EqD n d e b) (h : Φ m (.dat (.bl b))) : OpS K W m (rEqV K) s1 s2 Φ := fun H0 G H v1 v2 ok r1 r2 Q q =>
  ⟨n, b, hn, he.toV (r1.rd ok h1) (r2.rd ok h2), q _ (.dat (.bl b)) m G H ok.refl (Rp.bl b) h⟩
theorem ops_neV {s1 s2 : S} {n : Nat} {d e : D} {b : Bool} (h1 : s1.view = some d) (h2 : s2.view = some e) (hn : n ≤ 40) (he : EqD n d e b) (h : Φ m (.dat (.bl (!b)))) : OpS K W m (rNeV K) s1 s2 Φ := fun H0 G H v1 v2 ok r1 r2 Q q =>
  ⟨n, b, hn, he.toV (r1.rd ok h1) (r2.rd ok h2), q _ (.dat (.bl (!b))) m G H ok.refl (Rp.bl _) h⟩
end
end DL
set_option Elab.async false
set_option linter.all false
set_option maxRecDepth 100000
set_option maxHeartbeats 1000000
namespace DL
open PySem L2 Evl PySem.Spec PyProof.Rows
/-! ### several clauses, each with a name or with none -/
/-- an exception that has come down to the try of this frame -/
structure Down (X : Cx) (pins : List (Addr × Obj)) (σ : L2.St) (H : Hp) (a : Addr) (cls : Value) (d : Option Addr) (B : Heap) (s0 s : Shared) : Prop where
  ok : X.Ok
  hs : X.stack = X.env :: X.outer
  hf : X.env.frame = some X.env.locals
  was : Inv X pins σ H s0
  nb : ∀ b o, s0.heap.get? b = some o → b ∉ frs X.stack → B.get? b = some o
  up : s0.heap.UpToSlots s.heap
  fl : HandSPX.FlyingZ B (X.env :: X.outer) a (Zc cls d) s.heap
  na : H a = none
  os : s.os = s0.os
  ag : AllBare s.gens
section
variable {X : Cx} {pins : List (Addr × Obj)} {σ : L2.St} {H : Hp} {a : Addr} {cls : Value} {d : Option Addr} {B : Heap} {s0 s : Shared} {D : Ends} {Wout : WX}
theorem Down.inv (w : Down X pins σ H a cls d B s0 s) : Inv X pins σ H s := w.was.landed w.nb w.fl.1 w.up w.os w.ag
/-- seen from a clause -/
theorem Down.view (w : Down X pins σ H a cls d B s0 s) : ∃ oe, s.heap.get? a = some oe ∧ Zc cls d oe ∧ (∃ vs, oe.data = .fields vs) ∧ Inv (X.suite a ((a, oe) :: (X.pn ++ pins))) [] σ H s := by
  obtain ⟨oe, vs, ha, hz, hd⟩ := w.fl.there
  have away : ∀ b, b ∈ frs (X.env :: X.outer) → a ≠ b := by
    rintro b hb rfl
    obtain ⟨_, o, e, no⟩ := w.fl.2.2.1.mem hb
    rw [ha] at e
    exact no _ (by rw [← Option.some.inj e]; exact hd)
  refine ⟨oe, ha, hz, ⟨vs, hd⟩, w.inv.suite ha hd w.na (away _ ?_) fun m => ?_⟩
  · exact List.mem_filterMap.mpr ⟨X.env, .head _, w.hf⟩
  · obtain ⟨e, he, q⟩ := List.mem_filterMap.mp m
    exact away a (List.mem_filterMap.mpr ⟨e, .tail _ he, q⟩) rfl
/-- no clause is left -/
theorem Down.out (w : Down X pins σ H a cls d B s0 s) (tk : Takes X Wout) (q : Wout cls d σ H) {Q : Flow → Shared → Prop} : wpAny (model X.prog X.w) X.A (handleBy (.ref a) X.env []) Q X.xe s := by
  have fly : wpAny (model X.prog X.w) X.A (setFlight (.ref a) X.env.frame) (fun _ s1 => wpAny (model X.prog X.w) X.A (throw (.ref a) : Sem Flow) Q X.xe s1) X.xe s := by
    rw [w.hf]
    exact HandSPX.setFlight_upZ w.fl fun h hh up => wpAny_throw (tk _ _ ⟨a, B, s0, pins, σ, H, cls, d, rfl, w.was, w.nb, w.up.trans up, .inr (.inr (by rw [w.hs]; exact hh)), w.na, w.os, w.ag, q⟩)
  obtain ⟨_, _, _, oe, vs, T, _, _, ha, _, hd, h1, _⟩ := id w.fl
  refine wpAny_handleBy_nil ?_
  unfold PySem.passOn
  refine wpAny_bind (wpAny_field ha hd h1 ?_)
  rw [if_neg (by simp)]
  first
    | exact wpAny_bind fly
    | exact wpAny_bind (wpAny_pure (wpAny_bind fly))
end
end DL
set_option Elab.async false
set_option linter.all false
set_option maxRecDepth 100000
set_option maxHeartbeats 1000000
namespace DL
open PySem L2 Evl PySem.Spec PyProof.Rows
/-! ### a new instance made within a try -/
end DL
set_option Elab.async false
set_option linter.all false
set_option maxRecDepth 100000
set_option maxHeartbeats 1000000
namespace DL
open PySem L2 Evl PySem.Spec PyProof.Rows
/-! ### try with several clauses, of data -/
end DL
set_option Elab.async false
set_option linter.all false
set_option maxRecDepth 100000
set_option maxHeartbeats 1000000
namespace DL
open PySem PySem.Spec PyProof.Rows L2 Evl
section
variable {X : Cx} {K : PySem.W.Frag}
theorem k_eqVK (hK : X.K = K) (hu : X.A.units + 64 < cLine) : OpR X (compareOp .Eq) (rEqV K) := by subst hK; exact k_eqV hu
theorem k_neVK (hK : X.K = K) (hu : X.A.units + 64 < cLine) : OpR X (compareOp .NotEq) (rNeV K) := by subst hK; exact k_neV hu
/-! ### a method whose last argument is left to its default None -/
variable {C : Addr} {k j : Nat} {x : Str} {ps : List Str} {F : Fc} {e : Expr} {es : List Expr} {ta : TE} {t : TA} {apos pos : Pos} {o : Expr}
end
end DL
set_option Elab.async false
set_option linter.all false
set_option maxRecDepth 100000
set_option maxHeartbeats 1000000
namespace DL
open PySem L2 Evl
end DL
set_option Elab.async false
set_option linter.all false
set_option maxRecDepth 100000
set_option maxHeartbeats 1000000
namespace DL
open PySem PySem.Spec PyProof.Rows L2 Evl
/-! ### two derivations of one expression, of one statement -/
section
variable {X : Cx} {e : Expr} {s : Stmt} {t1 t2 : TE} {u1 u2 : TS}
theorem pe_or2 (h1 : PE X e t1) (h2 : PE X e t2) : PE X e (fun σ H Q => t1 σ H Q ∨ t2 σ H Q) := ⟨fun pins st σ H Q I h => h.elim (h1.run pins st σ H Q I) (h2.run pins st σ H Q I)⟩
end
end DL
set_option Elab.async false
set_option linter.all false
set_option maxRecDepth 100000
set_option maxHeartbeats 1000000
namespace DL
open PySem L2 Evl
section
variable {ι : Type} {c : Cc ι} {m : ι} {G H : Hp} {σ : L2.St} {ρ : List S}
/-- a dict that is read is locked, or it may be locked -/
theorem dict_state {dd : D} {v : V} (e : EnvOk c m G H σ ρ) (r : Rp c.K G v dd) (hd : (∃ ds, dd = .dic ds) ∨ ∃ ds, dd = .dit ds) :
    (∃ d u, v = .ref d ∧ Lkb c G H d u ∧ G d = some u ∧ RpU c.K G u dd ∧ Mut (some u)) ∨ ∃ d od u, v = .ref d ∧ G d = some (.frz od u) ∧ H d = some (.frz od u) ∧ RpU c.K G u dd := by
  have mk : ∀ {d u}, isDct u = true → Rd G d u → (Lkb c G H d u ∧ G d = some u) ∨ ∃ od, G d = some (.frz od u) ∧ H d = some (.frz od u) := fun {d u} hu hr => by
    rcases hr with h | ⟨o, h⟩
    · exact .inl ⟨⟨hu, (fun z => by rw [e.ok.off d z] at h; cases h), e.ok.ex _ _ h, .inl h⟩, h⟩
    · exact .inr ⟨o, h, e.ok.ex _ _ h⟩
  rcases hd with ⟨ds, rfl⟩ | ⟨ds, rfl⟩
  · cases r with
    | dic h k rv =>
      rcases mk (u := .dK _) rfl h with ⟨a, b⟩ | ⟨od, a, b⟩
      · exact .inl ⟨_, _, rfl, a, b, ⟨_, rfl, k, rv⟩, trivial⟩
      · exact .inr ⟨_, od, _, rfl, a, b, ⟨_, rfl, k, rv⟩⟩
  · cases r with
    | dit h k rv =>
      rcases mk (u := .dT _) rfl h with ⟨a, b⟩ | ⟨od, a, b⟩
      · exact .inl ⟨_, _, rfl, a, b, ⟨_, rfl, k, rv⟩, trivial⟩
      · exact .inr ⟨_, od, _, rfl, a, b, ⟨_, rfl, k, rv⟩⟩
variable {Φ : ι → S → Prop} {td te : TE} {tt : TT} {wi : TI} {g : TG} {vs : List Nat}
/-- [e for .. in d ..], whether d is locked or not -/
theorem de_lcD {dd : D} {ds : List D} (hp : DP c m td ρ dd) (hd : (∃ ds, dd = .dic ds) ∨ ∃ ds, dd = .dit ds) (hwk : Walks wi td dd ds) (hl : ds.length < 1000000) (J : Nat → ι → List D → Prop) (j0 : J 0 m [])
    (jt : ∀ c' : Cc ι, (c' = c ∨ ∃ d F, c' = lockC c d F) → ∀ i x m acc, ds[i]? = some x → J i m acc → ∃ ρ', DG c' m g vs x (wipeS ρ vs) ρ' ∧ DT c' m tt ρ' fun m b => (b = true → De c' m te ρ' fun m s => ∃ d', s.frz = .dat d' ∧ J (i + 1) m (acc ++ [d'])) ∧ (b = false → J (i + 1) m acc))
    (jd : ∀ m acc, J ds.length m acc → Φ m (.own (.lst acc))) (hw : noEls vs ρ = true := by with_unfolding_all rfl) : De c m (fun σ H Q => tLockE (tLc wi g tt te vs) σ H Q ∨ tLc wi g tt te vs σ H Q) ρ Φ := fun σ G H e Q q => by
  obtain ⟨v, kp, rv⟩ := hp σ G H e
  rcases dict_state e rv hd with ⟨d, u, rfl, k, hg, ru, mu⟩ | ⟨d, od, u, rfl, hg, hh, ru⟩
  · left
    refine ⟨d, u, k.hd, mu, fun od => ?_⟩
    have e1 := e.lockD (od := od) k hg
    have hh : upd H d (.frz od u) = lkH H d (.frz od u) := (lkH_some (by rw [k.hd]; exact fun z => by cases z)).symm
    rw [hh]
    have gd : lkH G d (.frz od u) d = some (.frz od u) := by rw [lkH_some (by rw [hg]; exact fun z => by cases z), upd_same]
    refine hwk (W := lockW c.W d) (G := lkH G d (.frz od u)) (fun m G' H' x ok => ok.ex _ _ (x _ _ gd)) (e1.ok.ex _ _ gd) (ru.up (up_lk k.hu (.inl hg))) (fun Q q => kp _ (fun b o hb ho => ?_) Q q) _ fun I it => fun Dd hD =>
      lc_run (c := lockC c d (.frz od u)) (Φ := Φ) (Q := fun v H' => H' d = some (.frz od u) ∧ Q v (upd H' d u)) e1 e1.refl it (fun v s m' G' H' g' r p => ?_) hw hl J j0 (jt _ (.inr ⟨_, _, rfl⟩)) jd Dd hD
    · have z : b ≠ d := fun z => by rw [z, hg] at hb; cases hb; rw [k.hu] at ho; cases ho
      rw [lkH_ne z]; exact e.ok.ex _ _ hb
    · obtain ⟨f1, f2⟩ := frzG k hg g'
      have ug := unlock_grow k.hu k.md (.inl hg) (.inl k.hd) (fun _ => k.hd) g' f1 (.inl f2)
      exact ⟨f1, q v s m' _ _ ug (r.unlock k.hu f1 (.inl f2)) p⟩
  · right
    exact hwk (W := c.W) (G := G) (fun m G' H' x ok => ok.ex _ _ (x _ _ hg)) hh ru (fun Q q => kp _ (fun b o hb ho => e.ok.ex _ _ hb) Q q) _ fun I it => fun Dd hD =>
      lc_run (c := c) (Φ := Φ) (Q := Q) e e.refl it q hw hl J j0 (jt c (.inl rfl)) jd Dd hD
/-- [f x for x in d], whether d is locked or not -/
theorem de_lcDM {dd : D} {ds : List D} (f : D → D) (hp : DP c m td ρ dd) (hd : (∃ ds, dd = .dic ds) ∨ ∃ ds, dd = .dit ds) (hwk : Walks wi td dd ds) (hl : ds.length < 1000000)
    (h : ∀ c' : Cc ι, (c' = c ∨ ∃ d F, c' = lockC c d F) → ∀ x, x ∈ ds → ∃ ρ', DG c' m g vs x (wipeS ρ vs) ρ' ∧ De c' m te ρ' fun m' s => m' = m ∧ s.frz = .dat (f x))
    (hΦ : Φ m (.own (.lst (ds.map f)))) (hw : noEls vs ρ = true := by with_unfolding_all rfl) : De c m (fun σ H Q => tLockE (tLc wi g tYes te vs) σ H Q ∨ tLc wi g tYes te vs σ H Q) ρ Φ :=
  de_lcD hp hd hwk hl (fun i m2 acc => m2 = m ∧ acc = (ds.take i).map f) (by simp)
    (fun c' hc i x m2 acc hx ⟨em, ha⟩ => by
      subst em
      obtain ⟨ρ', h3, h4⟩ := h c' hc x (List.mem_of_getElem? hx)
      refine ⟨ρ', h3, dt_yes ⟨fun _ => h4.imp fun m3 s ⟨em, hs⟩ => ⟨f x, hs, em, ?_⟩, fun z => by cases z⟩⟩
      rw [ha, List.take_add_one, hx]
      simp)
    (fun m2 acc ⟨em, ha⟩ => by
      subst em
      rw [ha, List.take_length]
      exact hΦ) hw
end
end DL
set_option Elab.async false
set_option linter.all false
set_option maxRecDepth 100000
set_option maxHeartbeats 1000000
namespace Pf
open PySem PySem.Spec PyProof.Rows L2 DL
local macro_rules | `(tactic| walk_at "len") => `(tactic| with_unfolding_all first | exact Nat.le_of_ble_eq_true rfl | (simp; done) | (simp; omega))
local macro_rules | `(tactic| walk_at "side") => `(tactic| with_unfolding_all first | exact Or.inr ⟨by omega, by omega⟩ | exact Or.inl ⟨by omega, by omega⟩ | exact ⟨by omega, by omega⟩ | exact ⟨by omega, by omega, by omega⟩ | (show (0 : Int) < _; omega) | decide)
local macro_rules | `(tactic| walk_at "d1") => `(tactic| with_reducible first
  | (refine ds_seq ?_; try dsimp only [List.set_cons_zero, List.set_cons_succ, List.cons_append, List.nil_append, O.frz])
  | refine ds_asg ?_
  | refine ds_ret ?_
  | refine ds_retN ?_
  | refine ds_next ?_
  | refine ds_dropC ?_
  | refine ds_drop0 ?_
  | refine ds_dropB ?_
  | refine ds_if ?_
  | refine dt_test ?_
  | refine dt_B ?_
  | refine dt_not ?_
  | refine dt_and ?_
  | refine dt_or ?_
  | refine dt_yes ?_
  | refine de_int ?_
  | refine de_bl ?_
  | refine de_str ?_
  | refine de_non ?_
  | refine de_varD (by with_unfolding_all rfl) ?_
  | refine de_varO (by with_unfolding_all rfl) ?_
  | refine de_varA (by with_unfolding_all rfl) ?_
  | refine de_varV (by with_unfolding_all rfl) ?_
  | refine de_isi ?_
  | refine de_dget ?_
  | refine de_dget2 ?_
  | refine de_dnotin ?_
  | refine de_din ?_
  | refine de_dnew ?_
  | refine de_dnewT ?_
  | refine de_cb ?_
  | refine de_call0G ?_
  | refine de_callG ?_
  | refine de_andB ?_
  | refine de_orB ?_
  | refine de_notV ?_
  | refine de_ifE ?_
  | refine de_chain ?_
  | refine de_op ?_
  | refine de_neg ?_
  | refine de_tupG ?_
  | refine de_lstG ?_
  | refine de_slL ?_
  | refine de_slT ?_
  | refine do_none ?_
  | refine do_some ?_
  | refine daf_cons ?_
  | refine daf_nil ?_
  | refine daf_star ?_
  | refine da_cons ?_
  | refine da_nil ?_
  | refine lk_dat ?_
  | refine lk_nil ?_
  | refine ak_dat ?_
  | refine ak_nil ?_
  | refine ak_at ?_
  | refine ak_lst ?_
  | refine lk_lst ?_
  | refine ak_dK ?_
  | refine ak_dT ?_
  | refine ak_vw ?_
  | refine lk_dT ?_
  | refine lk_dK ?_
  | refine da_star ?_
  | refine de_lstRg1 ?_
  | refine de_lstRg2 ?_
  | refine de_revL ?_
  | refine de_count ?_
  | refine de_index ?_
  | refine di_enum ?_
  | refine dt_tru ?_
  | refine de_fld ?_
  | refine de_prop ?_
  | refine di_rng1 ?_
  | refine di_rng2 ?_
  | refine di_list ?_
  | refine di_tup ?_
  | refine di_seq ?_
  | refine di_zip ?_
  | refine de_split ?_
  | refine de_join ?_
  | refine de_fmt ?_
  | refine de_jnil ?_
  | refine de_jcons ?_
  | refine de_ixS ?_
  | refine de_orT ?_
  | refine di_str ?_
  | refine ops_eqS ?_
  | refine ops_neS ?_
  | refine de_indexD ?_
  | refine ops_int ?_
  | (refine ops_cat (by with_unfolding_all rfl) (by with_unfolding_all rfl) ?side ?_; (case side => walk_at "len"))
  | (refine ops_catA ?side ?_; (case side => walk_at "len"))
  | refine ops_eqI ?_
  | refine ops_neI ?_
  | refine ops_bool ?_
  | (refine ops_intC ?side ?_; (case side => walk_at "side"))
  | refine cb_lenL (by with_unfolding_all rfl) ?_
  | refine cb_lenT (by with_unfolding_all rfl) ?_
  | refine cb_lenK (by with_unfolding_all rfl) ?_
  | refine cb_max2 ?_
  | refine cb_min2 ?_
  | refine cb_int ?_
  | refine ⟨fun _ => ?_, fun z => Bool.noConfusion z⟩
  | refine ⟨fun z => Bool.noConfusion z, fun _ => ?_⟩
  | refine ⟨rfl, ?_⟩
  | refine ⟨_, rfl, ?_⟩
  | refine ⟨_, Or.inl (by with_unfolding_all rfl), ?_⟩
  | (with_unfolding_all refine ⟨_, true, rfl, rfl, (fun _ z => by cases z), rfl, ?_⟩)
  | (with_unfolding_all refine ⟨_, false, rfl, rfl, (fun _ z => by cases z), rfl, ?_⟩))
local macro_rules | `(tactic| walk_at "d") => `(tactic| repeat walk_at "d1")
local macro_rules | `(tactic| walk_at "wk") => `(tactic| repeat first | exact Wk.nil | refine Wk.keep ?_ | refine Wk.drop ?_)
section
variable {P : Program} {w : World} {K : PySem.W.Frag} {mg : Str → Option Value} {base : Heap} {f : Addr} {fd : FuncData} {a_BadGames a_TooMany a_BadPeople : Addr}
theorem look_g {gs : List (Nat × Nat)} (nd : (gs.map (·.1)).Nodup) {t v : Nat} (h : (t, v) ∈ gs) : Look (.K (gD gs)) (.int (t : Int)) (some (.int (v : Nat))) := by
  have := Look.k (ds := gD gs) (Sum.inl (t : Int))
  rw [gD_val, gv_mem nd h] at this
  exact this
theorem ask_int (i : Int) : ask (.int i) := ⟨rfl, fun _ z => by cases z⟩
def C_choices : Fc := fun _ W m ss Φ Ξ => ∃ n k : Nat, ss = [.dat (.int n), .dat (.int k)] ∧ n ≤ 1000 ∧ k ≤ 1000 ∧ Φ m (.dat (.int (KM.ch n k)))
abbrev s_choices : Stmt := (top 19)
abbrev N_choices : List Str := ["many", "few", "found", "turn"]
theorem sc_choices : FnScope N_choices ["many", "few"] (defScope s_choices) := ⟨rfl, rfl, rfl, by decide +kernel, rfl, by decide +kernel, by decide +kernel⟩
theorem ok_choices (F : FnP K "choices" s_choices f fd) (b : BI mg) : FnOk P w K mg base CX0 1 f fd ["many", "few"] (spF K C_choices) := by
  have hlen := spF_len (K := K) (C := C_choices) (m := 2) fun κ W m ss Φ Ξ ⟨n, k, e, _⟩ => by first | exact e | (rw [e]; rfl)
  refine F.ok sc_choices hlen ?_
  intro cdv A outer s H vs Q E hr h
  refine ⟨_, PSs.nox (pss_cons (ps_set (i := 2) sc_choices.nd rfl (by first | exact Or.inl rfl | exact Or.inr rfl) pe_int)
      (pss_cons (ps_for PassesOwn.never rfl (pi_range1 rfl b.range (pa_cons (pv 1) pa_nil)) (pg_name (i := 3) sc_choices.nd rfl (by first | exact Or.inl rfl | exact Or.inr rfl))
      (pss_one (ps_set (i := 2) sc_choices.nd rfl (by first | exact Or.inl rfl | exact Or.inr rfl) (pe_op op_fdiv (pe_op op_mul (pv 2) (pe_callB (call_max2 rfl) rfl b.max boot_max (pa_cons pe_int (pa_cons (pe_op op_sub (pv 0) (pv 3)) pa_nil)))) (pe_op op_add (pv 3) pe_int)))))
      (pss_one (ps_ret (pv 2))))), ?_⟩
  refine DL.run_fnP  [.no, .no] (Nm := N_choices) (n := 2) (k := 2) rfl (hlen _ _ _ _ h) rfl h fun κ W m ss Φ Ξ G hc => ?_
  try dsimp only [cxOf, Cx.nox, Cx.wish, Cx.blk]
  obtain ⟨n, k, rfl, hn, hk, hΦ⟩ := hc
  walk_at "d"
  refine ds_forW (vs := [3]) ?_
  walk_at "d"
  refine ⟨by omega, by omega, fun i m' ρ => m' = m ∧ ρ = [.dat (.int n), .dat (.int k), .dat (.int (KM.ch n i)), .no], ⟨_, Wk.refl _, rfl, rfl, by rw [KM.ch_zero]; rfl⟩, ?_, ?_⟩
  · rintro i d m' ρ hd ⟨rfl, rfl⟩
    obtain ⟨hi, rfl⟩ := rng_at hd
    refine ⟨_, dg_name (by simp), ?_⟩
    walk_at "d"
    rw [Int.zero_add, KM.ch_divI]
    exact ⟨_, by walk_at "wk", rfl, rfl, rfl⟩
  · rintro m' ρ ⟨rfl, rfl⟩
    walk_at "d"
    rw [rng_len]
    exact hΦ
def C_are_games : Fc := fun _ W m ss Φ Ξ => ∃ n gs, ss = [.dat (.int (n : Nat)), .dat (.dic (gD gs))] ∧ n ≤ 10 ∧ (gs.map (·.1)).Nodup ∧ gs.length ≤ 900000 ∧ Φ m (.dat (.bl (areGm n gs)))
abbrev s_are_games : Stmt := (top 21)
abbrev N_are_games : List Str := ["people", "value", "most", "size"]
theorem sc_are_games : FnScope N_are_games ["people", "value"] (defScope s_are_games) := ⟨rfl, rfl, rfl, by decide +kernel, rfl, by decide +kernel, by decide +kernel⟩
theorem ok_are_games (F : FnP K "are_games" s_are_games f fd) (b : BI mg) (k_MOST_SIZE : ∃ u, mg "MOST_SIZE" = some u ∧ RelV (.int 4) u) (k_MOST_TIMES : ∃ u, mg "MOST_TIMES" = some u ∧ RelV (.int 3) u) (c_is_between : Cl P w K mg base CX0 1 "is_between" ["value", "least", "most"] C_is_between) : FnOk P w K mg base CX0 2 f fd ["people", "value"] (spF K C_are_games) := by
  have hlen := spF_len (K := K) (C := C_are_games) (m := 2) fun κ W m ss Φ Ξ ⟨n, gs, e, _⟩ => by first | exact e | (rw [e]; rfl)
  refine F.ok sc_are_games hlen ?_
  intro cdv A outer s H vs Q E hr h
  refine ⟨_, PSs.nox (pss_cons (ps_if (PW.pt (pw_or (pt_not (pt_val (pe_callB (k_isi (K := K) rfl) rfl b.isinstance boot_isinstance (pa_cons (pv 1) (pa_cons (pe_bltn (v := .ty "dict") rfl b.dict_ boot_dict rfl) pa_nil))))) (pw_or1 (pt_not (pt_chain op_le op_le pe_int (pe_callB (k_len (K := K) rfl) rfl b.len boot_len (pa_cons (pv 1) pa_nil)) pe_int))))) (pss_one (ps_ret pe_bl)) pss_nil)
      (pss_cons (ps_set (i := 2) sc_are_games.nd rfl (by first | exact Or.inl rfl | exact Or.inr rfl) (pe_callB (call_min2 rfl) rfl b.min boot_min (pa_cons (C8.pe_gc rfl k_MOST_SIZE) (pa_cons (pv 0) pa_nil))))
      (pss_one (ps_ret (pe_callB (k_all (K := K) rfl rfl) rfl b.all boot_all (pa_cons (pe_or2 (pe_lock (pe_lc (own := [("size", 3)]) rfl sc_are_games.nd (pi_keys (pv 1)) (blkOk_by (own := [("size", 3)]) (N := N_are_games) (sc := (defScope s_are_games)) (by decide +kernel)) (fun _ _ _ _ _ => (pg_name (i := 3) sc_are_games.nd rfl (by first | exact Or.inl rfl | exact Or.inr rfl))) (fun _ _ _ _ _ => pts_nil) (fun _ _ _ _ _ => (pe_and (k_cl0 c_is_between rfl hr (pa_cons (pv 3) (pa_cons pe_int (pa_cons (pv 2) pa_nil)))) (pe_one (k_cl0 c_is_between rfl hr (pa_cons (pe_dget (hu_of hr) (pv 1) (pv 3) (fun _ _ => rfl)) (pa_cons pe_int (pa_cons (C8.pe_gc rfl k_MOST_TIMES) pa_nil))))))))) (pe_lc (own := [("size", 3)]) rfl sc_are_games.nd (pi_keys (pv 1)) (blkOk_by (own := [("size", 3)]) (N := N_are_games) (sc := (defScope s_are_games)) (by decide +kernel)) (fun _ _ _ _ _ => (pg_name (i := 3) sc_are_games.nd rfl (by first | exact Or.inl rfl | exact Or.inr rfl))) (fun _ _ _ _ _ => pts_nil) (fun _ _ _ _ _ => (pe_and (k_cl0 c_is_between rfl hr (pa_cons (pv 3) (pa_cons pe_int (pa_cons (pv 2) pa_nil)))) (pe_one (k_cl0 c_is_between rfl hr (pa_cons (pe_dget (hu_of hr) (pv 1) (pv 3) (fun _ _ => rfl)) (pa_cons pe_int (pa_cons (C8.pe_gc rfl k_MOST_TIMES) pa_nil))))))))) pa_nil)))))), ?_⟩
  refine DL.run_fnP  [.no, .no] (Nm := N_are_games) (n := 2) (k := 2) rfl (hlen _ _ _ _ h) rfl h fun κ W m ss Φ Ξ G hc => ?_
  try dsimp only [cxOf, Cx.nox, Cx.wish, Cx.blk]
  obtain ⟨n, gs, rfl, hn, nd, hl, hΦ⟩ := hc
  walk_at "d"
  rw [gD_len]
  by_cases l1 : 1 ≤ gs.length
  case neg =>
    rw [show decide ((1 : Int) ≤ (gs.length : Nat)) = false by simp; omega]
    walk_at "d"
    rw [show areGm n gs = false by unfold areGm; simp [l1]] at hΦ
    exact hΦ
  rw [show decide ((1 : Int) ≤ (gs.length : Nat)) = true by simp; omega]
  walk_at "d"
  by_cases l2 : gs.length ≤ 2
  case neg =>
    rw [show decide (((gs.length : Nat) : Int) ≤ 2) = false by simp; omega]
    walk_at "d"
    rw [show areGm n gs = false by unfold areGm; simp [l2]] at hΦ
    exact hΦ
  rw [show decide (((gs.length : Nat) : Int) ≤ 2) = true by simp; omega]
  walk_at "d"
  refine de_lcDM (fun d => .bl (btw d 1 (min 4 (n : Int)) && btw (.int ((gv gs (match d with | .int t => t.toNat | _ => 0)).getD 0 : Nat)) 1 3)) (dp_var rfl) (.inl ⟨_, rfl⟩) walks_keysK (by rw [List.length_map, gD_len]; omega) ?_ ?_
  · rintro c2 (rfl | ⟨d, F, rfl⟩) x hx
    all_goals
      refine ⟨_, dg_name (by simp), ?_⟩
      obtain ⟨p, hp, rfl⟩ := List.mem_map.mp hx
      obtain ⟨t, v, htv, rfl⟩ := gD_mem hp
      have gvt : gv gs t = some v := gv_mem nd htv
      walk_at "d"
      refine ⟨_, _, _, _, rfl, ask_int _, rfl, ?_⟩
      refine ⟨_, rfl, fun hb => ?_, fun hb => ?_⟩
      · walk_at "d"
        refine ⟨_, _, _, rfl, rfl, look_g nd htv, ?_⟩
        walk_at "d"
        refine ⟨_, _, _, _, rfl, ask_int _, rfl, rfl, ?_⟩
        show DL.S.dat (.bl (btw (.int (v : Nat)) 1 3)) = .dat (.bl (btw (.int (t : Nat)) 1 (min 4 (n : Int)) && btw (.int ((gv gs ((t : Nat) : Int).toNat).getD 0 : Nat)) 1 3))
        rw [Int.toNat_natCast, gvt, show btw (.int (t : Nat)) 1 (min 4 (n : Int)) = true from hb, Bool.true_and]
        rfl
      · refine ⟨rfl, ?_⟩
        show DL.S.dat (.bl false) = .dat (.bl (btw (.int (t : Nat)) 1 (min 4 (n : Int)) && btw (.int ((gv gs ((t : Nat) : Int).toNat).getD 0 : Nat)) 1 3))
        rw [show btw (.int (t : Nat)) 1 (min 4 (n : Int)) = false from hb, Bool.false_and]
  · walk_at "d"
    refine cb_allM ?_
    walk_at "d"
    have e : (((gD gs).map fun p => keyD p.1).all fun d => btw d 1 (min 4 (n : Int)) && btw (.int ((gv gs (match d with | .int t => t.toNat | _ => 0)).getD 0 : Nat)) 1 3) = areGm n gs := by
      unfold areGm
      rw [decide_eq_true l1, decide_eq_true l2, Bool.true_and, Bool.true_and]
      unfold gD
      rw [List.map_map, List.all_map, Bool.eq_iff_iff, List.all_eq_true, List.all_eq_true]
      refine forall_congr' fun p => forall_congr' fun hp => ?_
      have gvt : gv gs p.1 = some p.2 := gv_mem nd hp
      simp [keyD, gvt, btw]
      omega
    rw [e]
    exact hΦ
def C_all_teams : Fc := fun _ W m ss Φ Ξ => ∃ n gs, ss = [.dat (.int (n : Nat)), .dat (.dic (gD gs))] ∧ n ≤ 10 ∧ GGm n gs ∧ Φ m (.dat (.int (tot n gs : Nat)))
def atF (n : Nat) (gs : List (Nat × Nat)) (d : D) : D := match d with
  | .int t => .int (((gv gs t.toNat).getD 0 * KM.ch n t.toNat : Nat) : Int)
  | _ => .non
theorem atF_eq {n : Nat} {gs : List (Nat × Nat)} (nd : (gs.map (·.1)).Nodup) : (((gD gs).map fun p => keyD p.1).map (atF n gs)) = dN (gs.map fun p => p.2 * KM.ch n p.1) := by
  unfold gD dN
  rw [List.map_map, List.map_map, List.map_map]
  apply List.map_congr_left
  rintro ⟨t, v⟩ h
  simp [atF, keyD, gv_mem nd h]
abbrev s_all_teams : Stmt := (top 22)
abbrev N_all_teams : List Str := ["people", "games", "size"]
theorem sc_all_teams : FnScope N_all_teams ["people", "games"] (defScope s_all_teams) := ⟨rfl, rfl, rfl, by decide +kernel, rfl, by decide +kernel, by decide +kernel⟩
theorem ok_all_teams (F : FnP K "all_teams" s_all_teams f fd) (b : BI mg) (c_choices : Cl P w K mg base CX0 1 "choices" ["many", "few"] C_choices) : FnOk P w K mg base CX0 2 f fd ["people", "games"] (spF K C_all_teams) := by
  have hlen := spF_len (K := K) (C := C_all_teams) (m := 2) fun κ W m ss Φ Ξ ⟨n, gs, e, _⟩ => by first | exact e | (rw [e]; rfl)
  refine F.ok sc_all_teams hlen ?_
  intro cdv A outer s H vs Q E hr h
  refine ⟨_, PSs.nox (pss_one (ps_ret (pe_callB (k_sum (K := K) rfl rfl) rfl b.sum boot_sum (pa_cons (pe_or2 (pe_lock (pe_lc (own := [("size", 2)]) rfl sc_all_teams.nd (pi_keys (pv 1)) (blkOk_by (own := [("size", 2)]) (N := N_all_teams) (sc := (defScope s_all_teams)) (by decide +kernel)) (fun _ _ _ _ _ => (pg_name (i := 2) sc_all_teams.nd rfl (by first | exact Or.inl rfl | exact Or.inr rfl))) (fun _ _ _ _ _ => pts_nil) (fun _ _ _ _ _ => (pe_op op_mul (pe_dget (hu_of hr) (pv 1) (pv 2) (fun _ _ => rfl)) (k_cl0 c_choices rfl hr (pa_cons (pv 0) (pa_cons (pv 2) pa_nil))))))) (pe_lc (own := [("size", 2)]) rfl sc_all_teams.nd (pi_keys (pv 1)) (blkOk_by (own := [("size", 2)]) (N := N_all_teams) (sc := (defScope s_all_teams)) (by decide +kernel)) (fun _ _ _ _ _ => (pg_name (i := 2) sc_all_teams.nd rfl (by first | exact Or.inl rfl | exact Or.inr rfl))) (fun _ _ _ _ _ => pts_nil) (fun _ _ _ _ _ => (pe_op op_mul (pe_dget (hu_of hr) (pv 1) (pv 2) (fun _ _ => rfl)) (k_cl0 c_choices rfl hr (pa_cons (pv 0) (pa_cons (pv 2) pa_nil))))))) pa_nil)))), ?_⟩
  refine DL.run_fnP  [.no] (Nm := N_all_teams) (n := 2) (k := 1) rfl (hlen _ _ _ _ h) rfl h fun κ W m ss Φ Ξ G hc => ?_
  try dsimp only [cxOf, Cx.nox, Cx.wish, Cx.blk]
  obtain ⟨n, gs, rfl, hn, hg, hΦ⟩ := hc
  have l1 := hg.l1
  have l2 := hg.l2
  walk_at "d"
  refine de_lcDM (atF n gs) (dp_var rfl) (.inl ⟨_, rfl⟩) walks_keysK (by rw [List.length_map, gD_len]; omega) ?_ ?_
  · rintro c2 (rfl | ⟨d, F, rfl⟩) x hx
    all_goals
      refine ⟨_, dg_name (by simp), ?_⟩
      obtain ⟨p, hp, rfl⟩ := List.mem_map.mp hx
      obtain ⟨t, v, htv, rfl⟩ := gD_mem hp
      obtain ⟨o1, o2, o3, o4, o5⟩ := hg.ok t v htv
      walk_at "d"
      refine ⟨_, _, _, rfl, rfl, look_g hg.nd htv, ?_⟩
      walk_at "d"
      refine ⟨n, t, rfl, by omega, by omega, ?_⟩
      walk_at "d"
      simp [atF, keyD, gv_mem hg.nd htv, S.frz]
  · walk_at "d"
    rw [atF_eq hg.nd]
    refine cb_sumN (.inl rfl) ?_
    walk_at "d"
    exact hΦ
def C_check_games : Fc := fun _ W m ss Φ Ξ => ∃ n gs, ss = [.dat (.int (n : Nat)), .dat (.dic (gD gs))] ∧ n ≤ 10 ∧ GGm n gs ∧ tot n gs ≤ 130 ∧ Φ m (.dat .non)
abbrev s_check_games : Stmt := (top 24)
abbrev N_check_games : List Str := ["people", "games", "count"]
theorem sc_check_games : FnScope N_check_games ["people", "games"] (defScope s_check_games) := ⟨rfl, rfl, rfl, by decide +kernel, rfl, by decide +kernel, by decide +kernel⟩
theorem ok_check_games (F : FnP K "check_games" s_check_games f fd) (b : BI mg) (k_MOST_TEAMS : ∃ u, mg "MOST_TEAMS" = some u ∧ RelV (.int 130) u) (x_BadGames : Xc P w K mg base "BadGames" a_BadGames ["value"]) (x_TooMany : Xc P w K mg base "TooMany" a_TooMany ["count"]) (c_are_games : Cl P w K mg base CX0 2 "are_games" ["people", "value"] C_are_games) (c_all_teams : Cl P w K mg base CX0 2 "all_teams" ["people", "games"] C_all_teams) : FnOk P w K mg base (L2.CX P w) 3 f fd ["people", "games"] (spF K C_check_games) := by
  have hlen := spF_len (K := K) (C := C_check_games) (m := 2) fun κ W m ss Φ Ξ ⟨n, gs, e, _⟩ => by first | exact e | (rw [e]; rfl)
  refine F.ok sc_check_games hlen ?_
  intro cdv A outer s H vs Q E hr h
  refine ⟨_, (pss_cons (ps_if (pt_not (pt_val (k_cl0 c_are_games rfl hr (pa_cons (pv 0) (pa_cons (pv 1) pa_nil))))) (pss_one (raiseX x_BadGames hr (takes_of rfl rfl rfl rfl) (pa_cons (pv 1) pa_nil))) pss_nil)
      (pss_cons (ps_set (i := 2) sc_check_games.nd rfl (by first | exact Or.inl rfl | exact Or.inr rfl) (k_cl0 c_all_teams rfl hr (pa_cons (pv 0) (pa_cons (pv 1) pa_nil))))
      (pss_one (ps_if (pt_cmpR op_gt (pv 2) (C8.pe_gc rfl k_MOST_TEAMS) (nomark _)) (pss_one (raiseX x_TooMany hr (takes_of rfl rfl rfl rfl) (pa_cons (pv 2) pa_nil))) pss_nil)))), ?_⟩
  refine DL.run_fnP  [.no] (Nm := N_check_games) (n := 2) (k := 1) rfl (hlen _ _ _ _ h) rfl h fun κ W m ss Φ Ξ G hc => ?_
  try dsimp only [cxOf, Cx.nox, Cx.wish, Cx.blk]
  obtain ⟨n, gs, rfl, hn, hg, ht, hΦ⟩ := hc
  walk_at "d"
  refine ⟨n, gs, rfl, hn, hg.nd, by have := hg.l2; omega, ?_⟩
  rw [(areGm_iff hg.nd).mpr hg]
  walk_at "d"
  refine ⟨n, gs, rfl, hn, hg, ?_⟩
  walk_at "d"
  rw [show decide (((tot n gs : Nat) : Int) > 130) = false by simp; omega]
  walk_at "d"
  exact hΦ
end
end Pf
set_option Elab.async false
set_option linter.all false
set_option maxRecDepth 100000
set_option maxHeartbeats 1000000
namespace Pf
open PySem PySem.Spec PyProof.Rows L2 DL
local macro_rules | `(tactic| walk_at "len") => `(tactic| with_unfolding_all first | exact Nat.le_of_ble_eq_true rfl | (simp; done) | (simp; omega))
local macro_rules | `(tactic| walk_at "side") => `(tactic| with_unfolding_all first | exact Or.inr ⟨by omega, by omega⟩ | exact Or.inl ⟨by omega, by omega⟩ | exact ⟨by omega, by omega⟩ | exact ⟨by omega, by omega, by omega⟩ | (show (0 : Int) < _; omega) | decide)
local macro_rules | `(tactic| walk_at "d1") => `(tactic| with_reducible first
  | (refine ds_seq ?_; try dsimp only [List.set_cons_zero, List.set_cons_succ, List.cons_append, List.nil_append, O.frz])
  | refine ds_asg ?_
  | refine ds_ret ?_
  | refine ds_retN ?_
  | refine ds_next ?_
  | refine ds_dropC ?_
  | refine ds_drop0 ?_
  | refine ds_dropB ?_
  | refine ds_if ?_
  | refine dt_test ?_
  | refine dt_B ?_
  | refine dt_not ?_
  | refine dt_and ?_
  | refine dt_or ?_
  | refine dt_yes ?_
  | refine de_int ?_
  | refine de_bl ?_
  | refine de_str ?_
  | refine de_non ?_
  | refine de_varD (by with_unfolding_all rfl) ?_
  | refine de_varO (by with_unfolding_all rfl) ?_
  | refine de_varA (by with_unfolding_all rfl) ?_
  | refine de_varV (by with_unfolding_all rfl) ?_
  | refine de_isi ?_
  | refine de_dget ?_
  | refine de_dget2 ?_
  | refine de_dnotin ?_
  | refine de_din ?_
  | refine de_dnew ?_
  | refine de_dnewT ?_
  | refine de_cb ?_
  | refine de_call0G ?_
  | refine de_callG ?_
  | refine de_andB ?_
  | refine de_orB ?_
  | refine de_notV ?_
  | refine de_ifE ?_
  | refine de_chain ?_
  | refine de_op ?_
  | refine de_neg ?_
  | refine de_tupG ?_
  | refine de_lstG ?_
  | refine de_slL ?_
  | refine de_slT ?_
  | refine do_none ?_
  | refine do_some ?_
  | refine daf_cons ?_
  | refine daf_nil ?_
  | refine daf_star ?_
  | refine da_cons ?_
  | refine da_nil ?_
  | refine lk_dat ?_
  | refine lk_nil ?_
  | refine ak_dat ?_
  | refine ak_nil ?_
  | refine ak_at ?_
  | refine ak_lst ?_
  | refine lk_lst ?_
  | refine ak_dK ?_
  | refine ak_dT ?_
  | refine ak_vw ?_
  | refine lk_dT ?_
  | refine lk_dK ?_
  | refine da_star ?_
  | refine de_lstRg1 ?_
  | refine de_lstRg2 ?_
  | refine de_revL ?_
  | refine de_count ?_
  | refine de_index ?_
  | refine di_enum ?_
  | refine dt_tru ?_
  | refine de_fld ?_
  | refine de_prop ?_
  | refine di_rng1 ?_
  | refine di_rng2 ?_
  | refine di_list ?_
  | refine di_tup ?_
  | refine di_seq ?_
  | refine di_zip ?_
  | refine de_split ?_
  | refine de_join ?_
  | refine de_fmt ?_
  | refine de_jnil ?_
  | refine de_jcons ?_
  | refine de_ixS ?_
  | refine de_orT ?_
  | refine di_str ?_
  | refine ops_eqS ?_
  | refine ops_neS ?_
  | refine de_indexD ?_
  | refine ops_int ?_
  | (refine ops_cat (by with_unfolding_all rfl) (by with_unfolding_all rfl) ?side ?_; (case side => walk_at "len"))
  | (refine ops_catA ?side ?_; (case side => walk_at "len"))
  | refine ops_eqI ?_
  | refine ops_neI ?_
  | refine ops_bool ?_
  | (refine ops_intC ?side ?_; (case side => walk_at "side"))
  | refine cb_lenL (by with_unfolding_all rfl) ?_
  | refine cb_lenT (by with_unfolding_all rfl) ?_
  | refine cb_lenK (by with_unfolding_all rfl) ?_
  | refine cb_max2 ?_
  | refine cb_min2 ?_
  | refine cb_int ?_
  | refine ⟨fun _ => ?_, fun z => Bool.noConfusion z⟩
  | refine ⟨fun z => Bool.noConfusion z, fun _ => ?_⟩
  | refine ⟨rfl, ?_⟩
  | refine ⟨_, rfl, ?_⟩
  | refine ⟨_, Or.inl (by with_unfolding_all rfl), ?_⟩
  | (with_unfolding_all refine ⟨_, true, rfl, rfl, (fun _ z => by cases z), rfl, ?_⟩)
  | (with_unfolding_all refine ⟨_, false, rfl, rfl, (fun _ z => by cases z), rfl, ?_⟩))
local macro_rules | `(tactic| walk_at "d") => `(tactic| repeat walk_at "d1")
local macro_rules | `(tactic| walk_at "wk") => `(tactic| repeat first | exact Wk.nil | refine Wk.keep ?_ | refine Wk.drop ?_)
section
variable {P : Program} {w : World} {K : PySem.W.Frag} {mg : Str → Option Value} {base : Heap} {f : Addr} {fd : FuncData} {a_BadSizes a_BadGames a_TooMany a_BadKind : Addr}
def adD (d e : D) : D := match d with
  | .tup xs => .tup (xs ++ [e])
  | _ => .non
theorem adD_eq (L : List (List Nat)) (s : Nat) : ((L.map tD).flatMap fun d => ((rngD 0 (s + 1)).filter fun _ => true).map (adD d)) = (stepT L s).map tD := by
  have e : (rngD 0 (s + 1)).filter (fun _ => true) = (List.range (s + 1)).map fun n => D.int (n : Nat) := by
    rw [List.filter_eq_self.mpr (by simp)]
    unfold rngD
    apply List.map_congr_left
    intro i _
    simp
  unfold stepT
  rw [List.map_flatMap, List.flatMap_map]
  congr 1
  funext one
  rw [e, List.map_map, List.map_map]
  apply List.map_congr_left
  intro n _
  simp [adD, tD, dN]
def C_are_sizes : Fc := fun _ W m ss Φ Ξ => ∃ s sz, ss = [s] ∧ isSeq s sz ∧ sz.length ≤ 900000 ∧ Φ m (.dat (.bl (areSz sz)))
abbrev s_are_sizes : Stmt := (top 20)
abbrev N_are_sizes : List Str := ["value", "size"]
theorem sc_are_sizes : FnScope N_are_sizes ["value"] (defScope s_are_sizes) := ⟨rfl, rfl, rfl, by decide +kernel, rfl, by decide +kernel, by decide +kernel⟩
theorem ok_are_sizes (F : FnP K "are_sizes" s_are_sizes f fd) (b : BI mg) (k_MOST_PEOPLE : ∃ u, mg "MOST_PEOPLE" = some u ∧ RelV (.int 10) u) (c_is_list : Cl P w K mg base CX0 1 "is_list" ["value"] C_is_list) (c_is_between : Cl P w K mg base CX0 1 "is_between" ["value", "least", "most"] C_is_between) : FnOk P w K mg base CX0 2 f fd ["value"] (spF K C_are_sizes) := by
  have hlen := spF_len (K := K) (C := C_are_sizes) (m := 1) fun κ W m ss Φ Ξ ⟨s, sz, e, _⟩ => by first | exact e | (rw [e]; rfl)
  refine F.ok sc_are_sizes hlen ?_
  intro cdv A outer s H vs Q E hr h
  refine ⟨_, PSs.nox (pss_cons (ps_if (PW.pt (pw_or (pt_not (pt_val (k_cl0 c_is_list rfl hr (pa_cons (pv 0) pa_nil)))) (pw_or1 (pt_not (pt_chain op_le op_le pe_int (pe_callB (k_len (K := K) rfl) rfl b.len boot_len (pa_cons (pv 0) pa_nil)) (C8.pe_gc rfl k_MOST_PEOPLE)))))) (pss_one (ps_ret pe_bl)) pss_nil)
      (pss_one (ps_ret (pe_and (pe_callB (k_all (K := K) rfl rfl) rfl b.all boot_all (pa_cons (pe_lc (own := [("size", 1)]) rfl sc_are_sizes.nd (k_piS (K := K) rfl (pv 0)) (blkOk_by (own := [("size", 1)]) (N := N_are_sizes) (sc := (defScope s_are_sizes)) (by decide +kernel)) (fun _ _ _ _ _ => (pg_name (i := 1) sc_are_sizes.nd rfl (by first | exact Or.inl rfl | exact Or.inr rfl))) (fun _ _ _ _ _ => pts_nil) (fun _ _ _ _ _ => (k_cl0 c_is_between rfl hr (pa_cons (pv 1) (pa_cons pe_int (pa_cons (C8.pe_gc rfl k_MOST_PEOPLE) pa_nil)))))) pa_nil)) (pe_one (pe_cmpR op_le (pe_callB (k_sum (K := K) rfl rfl) rfl b.sum boot_sum (pa_cons (pv 0) pa_nil)) (C8.pe_gc rfl k_MOST_PEOPLE) (nomark _))))))), ?_⟩
  refine DL.run_fnP  [.no] (Nm := N_are_sizes) (n := 1) (k := 1) rfl (hlen _ _ _ _ h) rfl h fun κ W m ss Φ Ξ G hc => ?_
  try dsimp only [cxOf, Cx.nox, Cx.wish, Cx.blk]
  obtain ⟨s, sz, rfl, hs, hl, hΦ⟩ := hc
  have hall : (dN sz).all (fun d => btw d 1 10) = sz.all fun n => decide (1 ≤ n) && decide (n ≤ 10) := by
    unfold dN
    rw [List.all_map, Bool.eq_iff_iff, List.all_eq_true, List.all_eq_true]
    refine forall_congr' fun n => forall_congr' fun hn => ?_
    simp [btw]
    omega
  rcases hs with rfl | rfl
  all_goals
    walk_at "d"
    refine ⟨_, true, rfl, ⟨rfl, fun _ z => by cases z⟩, rfl, ?_⟩
    walk_at "d"
    rw [dN_len]
    by_cases l1 : 1 ≤ sz.length
    case neg =>
      rw [show decide ((1 : Int) ≤ (sz.length : Nat)) = false by simp; omega]
      walk_at "d"
      rw [show areSz sz = false by unfold areSz; simp [l1]] at hΦ
      exact hΦ
    rw [show decide ((1 : Int) ≤ (sz.length : Nat)) = true by simp; omega]
    walk_at "d"
    by_cases l2 : sz.length ≤ 10
    case neg =>
      rw [show decide (((sz.length : Nat) : Int) ≤ 10) = false by simp; omega]
      walk_at "d"
      rw [show areSz sz = false by unfold areSz; simp [l2]] at hΦ
      exact hΦ
    rw [show decide (((sz.length : Nat) : Int) ≤ 10) = true by simp; omega]
    walk_at "d"
    refine de_lcMap (f := fun d => .bl (btw d 1 10)) ?_
    walk_at "d"
    refine ⟨by rw [dN_len]; omega, fun d hd => ⟨_, dg_name (by simp), ?_⟩, ?_⟩
    · obtain ⟨n, hn, rfl⟩ := dN_mem hd
      walk_at "d"
      exact ⟨_, _, _, _, rfl, ask_int _, rfl, rfl, rfl⟩
    · walk_at "d"
      refine cb_allM ?_
      rw [hall]
      refine ⟨_, rfl, fun hb => ?_, fun hb => ?_⟩
      · walk_at "d"
        refine cb_sumN (by first | exact .inl rfl | exact .inr rfl) ?_
        walk_at "d"
        rw [show areSz sz = decide (((sz.sum : Nat) : Int) ≤ 10) by unfold areSz; rw [hb, decide_eq_true l1, decide_eq_true l2, Bool.true_and, Bool.true_and, Bool.true_and]; by_cases h : sz.sum ≤ 10 <;> simp [h] <;> omega] at hΦ
        exact hΦ
      · rw [show areSz sz = false by unfold areSz; rw [hb]; simp] at hΦ
        exact ⟨rfl, hΦ⟩
def C_check_sizes : Fc := fun _ W m ss Φ Ξ => ∃ s sz, ss = [s] ∧ isSeq s sz ∧ GSz sz ∧ Φ m (.dat .non)
abbrev s_check_sizes : Stmt := (top 23)
abbrev N_check_sizes : List Str := ["sizes"]
theorem sc_check_sizes : FnScope N_check_sizes ["sizes"] (defScope s_check_sizes) := ⟨rfl, rfl, rfl, by decide +kernel, rfl, by decide +kernel, by decide +kernel⟩
theorem ok_check_sizes (F : FnP K "check_sizes" s_check_sizes f fd) (b : BI mg) (x_BadSizes : Xc P w K mg base "BadSizes" a_BadSizes ["value"]) (c_are_sizes : Cl P w K mg base CX0 2 "are_sizes" ["value"] C_are_sizes) : FnOk P w K mg base (L2.CX P w) 3 f fd ["sizes"] (spF K C_check_sizes) := by
  have hlen := spF_len (K := K) (C := C_check_sizes) (m := 1) fun κ W m ss Φ Ξ ⟨s, sz, e, _⟩ => by first | exact e | (rw [e]; rfl)
  refine F.ok sc_check_sizes hlen ?_
  intro cdv A outer s H vs Q E hr h
  refine ⟨_, (pss_one (ps_if (pt_not (pt_val (k_cl0 c_are_sizes rfl hr (pa_cons (pv 0) pa_nil)))) (pss_one (raiseX x_BadSizes hr (takes_of rfl rfl rfl rfl) (pa_cons (pv 0) pa_nil))) pss_nil)), ?_⟩
  refine DL.run_fnP  [] (Nm := N_check_sizes) (n := 1) (k := 0) rfl (hlen _ _ _ _ h) rfl h fun κ W m ss Φ Ξ G hc => ?_
  try dsimp only [cxOf, Cx.nox, Cx.wish, Cx.blk]
  obtain ⟨s, sz, rfl, hs, hz, hΦ⟩ := hc
  rcases hs with rfl | rfl
  · walk_at "d"
    refine ⟨_, sz, rfl, .inl rfl, by have := (len_le_sum hz.2.1); have := hz.2.2; omega, ?_⟩
    rw [areSz_iff.mpr hz]
    walk_at "d"
    exact hΦ
  · walk_at "d"
    refine ⟨_, sz, rfl, .inr rfl, by have := (len_le_sum hz.2.1); have := hz.2.2; omega, ?_⟩
    rw [areSz_iff.mpr hz]
    walk_at "d"
    exact hΦ
def C_check_setting : Fc := fun _ W m ss Φ Ξ => ∃ s sz gs, ss = [s, .dat (.dic (gD gs))] ∧ isSeq s sz ∧ Good sz gs ∧ Φ m (.dat .non)
abbrev s_check_setting : Stmt := (top 25)
abbrev N_check_setting : List Str := ["sizes", "games"]
theorem sc_check_setting : FnScope N_check_setting ["sizes", "games"] (defScope s_check_setting) := ⟨rfl, rfl, rfl, by decide +kernel, rfl, by decide +kernel, by decide +kernel⟩
theorem ok_check_setting (F : FnP K "check_setting" s_check_setting f fd) (b : BI mg) (c_check_sizes : Cl P w K mg base (L2.CX P w) 3 "check_sizes" ["sizes"] C_check_sizes) (c_check_games : Cl P w K mg base (L2.CX P w) 3 "check_games" ["people", "games"] C_check_games) : FnOk P w K mg base (L2.CX P w) 4 f fd ["sizes", "games"] (spF K C_check_setting) := by
  have hlen := spF_len (K := K) (C := C_check_setting) (m := 2) fun κ W m ss Φ Ξ ⟨s, sz, gs, e, _⟩ => by first | exact e | (rw [e]; rfl)
  refine F.ok sc_check_setting hlen ?_
  intro cdv A outer s H vs Q E hr h
  refine ⟨_, (pss_cons (ps_expr (k_cl c_check_sizes rfl hr (passes_call (takes_of rfl rfl rfl rfl) (fun _ _ _ _ h => h)) (pa_cons (pv 0) pa_nil)))
      (pss_one (ps_expr (k_cl c_check_games rfl hr (passes_call (takes_of rfl rfl rfl rfl) (fun _ _ _ _ h => h)) (pa_cons (pe_callB (k_sum (K := K) rfl rfl) rfl b.sum boot_sum (pa_cons (pv 0) pa_nil)) (pa_cons (pv 1) pa_nil)))))), ?_⟩
  refine DL.run_fnP  [] (Nm := N_check_setting) (n := 2) (k := 0) rfl (hlen _ _ _ _ h) rfl h fun κ W m ss Φ Ξ G hc => ?_
  try dsimp only [cxOf, Cx.nox, Cx.wish, Cx.blk]
  obtain ⟨s, sz, gs, rfl, hs, ⟨hz, hg, ht⟩, hΦ⟩ := hc
  rcases hs with rfl | rfl
  all_goals
    walk_at "d"
    refine ⟨_, sz, rfl, by first | exact .inl rfl | exact .inr rfl, hz, ?_⟩
    walk_at "d"
    refine cb_sumN (by first | exact .inl rfl | exact .inr rfl) ?_
    walk_at "d"
    refine ⟨_, gs, rfl, hz.2.2, hg, ht, ?_⟩
    walk_at "d"
    exact hΦ
def C_tuples_below : Fc := fun _ W m ss Φ Ξ => ∃ s sz, ss = [s] ∧ isSeq s sz ∧ GSz sz ∧ Φ m (.own (.lst ((TB sz).map tD)))
abbrev s_tuples_below : Stmt := (top 26)
abbrev N_tuples_below : List Str := ["sizes", "found", "size", "one", "number"]
theorem sc_tuples_below : FnScope N_tuples_below ["sizes"] (defScope s_tuples_below) := ⟨rfl, rfl, rfl, by decide +kernel, rfl, by decide +kernel, by decide +kernel⟩
theorem ok_tuples_below (F : FnP K "tuples_below" s_tuples_below f fd) (b : BI mg) : FnOk P w K mg base CX0 1 f fd ["sizes"] (spF K C_tuples_below) := by
  have hlen := spF_len (K := K) (C := C_tuples_below) (m := 1) fun κ W m ss Φ Ξ ⟨s, sz, e, _⟩ => by first | exact e | (rw [e]; rfl)
  refine F.ok sc_tuples_below hlen ?_
  intro cdv A outer s H vs Q E hr h
  refine ⟨_, PSs.nox (pss_cons (ps_set (i := 1) sc_tuples_below.nd rfl (by first | exact Or.inl rfl | exact Or.inr rfl) (pe_lst (pa_cons (pe_tup pa_nil) pa_nil)))
      (pss_cons (ps_for PassesOwn.never rfl (k_piS (K := K) rfl (pv 0)) (pg_name (i := 2) sc_tuples_below.nd rfl (by first | exact Or.inl rfl | exact Or.inr rfl))
      (pss_one (ps_setLc2 (i := 1) (own := [("one", 3), ("number", 4)]) rfl sc_tuples_below.nd rfl rfl (sw_true rfl rfl rfl (by decide +kernel)) (k_piL (K := K) rfl (pv 1)) (blkOk_by (own := [("one", 3), ("number", 4)]) (N := N_tuples_below) (sc := (defScope s_tuples_below)) (by decide +kernel)) (vs1 := [4]) (by decide) (fun _ _ _ _ _ => (pg_name (i := 3) sc_tuples_below.nd rfl (by first | exact Or.inl rfl | exact Or.inr rfl))) (fun _ _ _ _ _ => pts_nil) (fun _ _ _ _ _ => (pi_range1 rfl b.range (pa_cons (pe_op op_add (pv 2) pe_int) pa_nil))) (fun _ _ _ _ _ => (pg_name (i := 4) sc_tuples_below.nd rfl (by first | exact Or.inl rfl | exact Or.inr rfl))) (fun _ _ _ _ _ => pts_nil) (fun _ _ _ _ _ => (pe_tup (k_star (K := K) rfl (pv 3) (pa_cons (pv 4) pa_nil)))))))
      (pss_one (ps_ret (pv 1))))), ?_⟩
  refine DL.run_fnP  [.no, .no, .no, .no] (Nm := N_tuples_below) (n := 1) (k := 4) rfl (hlen _ _ _ _ h) rfl h fun κ W m ss Φ Ξ G hc => ?_
  try dsimp only [cxOf, Cx.nox, Cx.wish, Cx.blk]
  obtain ⟨s, sz, rfl, hs, ⟨_, hpos, hsum⟩, hΦ⟩ := hc
  have hle := len_le_sum hpos
  have hsz : ∀ n ∈ sz, n ≤ 10 := fun n hn => Nat.le_trans (mem_le_sum hn) hsum
  rcases hs with rfl | rfl
  all_goals
    walk_at "d"
    refine ds_forW (vs := [2]) ?_
    walk_at "d"
    refine ⟨fun i m' ρ => m' = m ∧ ρ = [_, .own (.lst ((TB (sz.take i)).map tD)), .no, .no, .no], ⟨_, Wk.refl _, rfl, rfl, rfl⟩, ?_, ?_⟩
    · rintro i d m' ρ hd ⟨rfl, rfl⟩
      rw [dN_get] at hd
      cases hz : sz[i]? with
      | none => rw [hz] at hd; cases hd
      | some n =>
        rw [hz] at hd
        cases hd
        have hn := hsz n (List.mem_of_getElem? hz)
        refine ⟨_, dg_name (by simp), ds_frz (i := 1) rfl ?_⟩
        walk_at "d"
        refine de_lc2M (fun _ => rngD 0 (n + 1)) (fun _ _ => true) adD ?_
        walk_at "d"
        rw [adD_eq]
        refine ⟨?_, ?_, ?_⟩
        · rw [← TB_succ hz, List.length_map]
          have := TB_len (sz := sz.take (i + 1)) (Nat.le_trans (sum_take_le _ _) hsum)
          omega
        · intro d hd
          obtain ⟨k, hk, rfl⟩ := List.mem_map.mp hd
          refine ⟨_, dg_name (by simp), ?_⟩
          walk_at "d"
          refine ⟨by omega, by omega, ?_⟩
          walk_at "d"
          intro e he
          refine ⟨_, dg_name (by simp), ?_⟩
          walk_at "d"
          refine fun _ => ?_
          walk_at "d"
          refine lk_app (n := 900) (k := 100) ?_ (lk_dat (lk_nil ⟨rfl, rfl⟩))
          have h1 := (TB_mem.mp hk).1
          rw [dN_len, h1]
          have h2 : (sz.take i).length ≤ sz.length := by rw [List.length_take]; omega
          omega
        · walk_at "d"
          rw [← TB_succ hz]
          dsimp only [List.set_cons_zero, List.set_cons_succ]
          exact ⟨_, by walk_at "wk", rfl, rfl, rfl⟩
    · rintro m' ρ ⟨rfl, rfl⟩
      rw [dN_len, List.take_length]
      exact ds_retVar rfl hΦ
theorem AKD_eq (sz : List Nat) (gs : List (Nat × Nat)) : (((srt (gs.map fun p => (p.1 : Int))).map D.int).flatMap fun d => (((TB sz).map tD).filter (tS d)).map fun e => e) = (AK sz gs).map tD := by
  rw [ks_int, AK, List.map_flatMap, List.map_map, List.flatMap_map]
  congr 1
  funext t
  rw [List.map_id', List.filter_map]
  congr 1
  apply List.filter_congr
  intro k _
  show tS (.int (t : Nat)) (tD k) = decide (k.sum = t)
  unfold tS
  rw [dsum_tD]
  simp
  omega
def C_all_kinds : Fc := fun _ W m ss Φ Ξ => ∃ s sz gs, ss = [s, .dat (.dic (gD gs))] ∧ isSeq s sz ∧ Good sz gs ∧ Φ m (.own (.lst ((AK sz gs).map tD)))
abbrev s_all_kinds : Stmt := (top 27)
abbrev N_all_kinds : List Str := ["sizes", "games", "found", "size", "kind"]
theorem sc_all_kinds : FnScope N_all_kinds ["sizes", "games"] (defScope s_all_kinds) := ⟨rfl, rfl, rfl, by decide +kernel, rfl, by decide +kernel, by decide +kernel⟩
theorem ok_all_kinds (F : FnP K "all_kinds" s_all_kinds f fd) (b : BI mg) (c_check_setting : Cl P w K mg base (L2.CX P w) 4 "check_setting" ["sizes", "games"] C_check_setting) (c_tuples_below : Cl P w K mg base CX0 1 "tuples_below" ["sizes"] C_tuples_below) : FnOk P w K mg base (L2.CX P w) 5 f fd ["sizes", "games"] (spF K C_all_kinds) := by
  have hlen := spF_len (K := K) (C := C_all_kinds) (m := 2) fun κ W m ss Φ Ξ ⟨s, sz, gs, e, _⟩ => by first | exact e | (rw [e]; rfl)
  refine F.ok sc_all_kinds hlen ?_
  intro cdv A outer s H vs Q E hr h
  refine ⟨_, (pss_cons (ps_expr (k_cl c_check_setting rfl hr (passes_call (takes_of rfl rfl rfl rfl) (fun _ _ _ _ h => h)) (pa_cons (pv 0) (pa_cons (pv 1) pa_nil))))
      (pss_cons (ps_set (i := 2) sc_all_kinds.nd rfl (by first | exact Or.inl rfl | exact Or.inr rfl) (k_cl0 c_tuples_below rfl hr (pa_cons (pv 0) pa_nil)))
      (pss_one (ps_ret (pe_lc2 (own := [("size", 3), ("kind", 4)]) rfl sc_all_kinds.nd (k_piL (K := K) rfl (pe_callB (call_sortedDI rfl) rfl b.sorted boot_sorted (pa_cons (pv 1) pa_nil))) (blkOk_by (own := [("size", 3), ("kind", 4)]) (N := N_all_kinds) (sc := (defScope s_all_kinds)) (by decide +kernel)) (vs1 := [4]) (by decide) (fun _ _ _ _ _ => (pg_name (i := 3) sc_all_kinds.nd rfl (by first | exact Or.inl rfl | exact Or.inr rfl))) (fun _ _ _ _ _ => pts_nil) (fun _ _ _ _ _ => (k_piL (K := K) rfl (pv 2))) (fun _ _ _ _ _ => (pg_name (i := 4) sc_all_kinds.nd rfl (by first | exact Or.inl rfl | exact Or.inr rfl))) (fun _ _ _ _ _ => pts_one (pt_cmpR (k_eqD (K := K) rfl hr.units) (pe_callB (k_sum (K := K) rfl rfl) rfl b.sum boot_sum (pa_cons (pv 4) pa_nil)) (pv 3) (nomark _))) (fun _ _ _ _ _ => (pv 4))))))), ?_⟩
  refine DL.run_fnP  [.no, .no, .no] (Nm := N_all_kinds) (n := 2) (k := 3) rfl (hlen _ _ _ _ h) rfl h fun κ W m ss Φ Ξ G hc => ?_
  try dsimp only [cxOf, Cx.nox, Cx.wish, Cx.blk]
  obtain ⟨s, sz, gs, rfl, hs, hgd, hΦ⟩ := hc
  obtain ⟨hz, hg, ht⟩ := id hgd
  have l2 := hg.l2
  rcases hs with rfl | rfl
  all_goals
    walk_at "d"
    refine ⟨_, sz, gs, rfl, by first | exact .inl rfl | exact .inr rfl, hgd, ?_⟩
    walk_at "d"
    refine ⟨_, sz, rfl, by first | exact .inl rfl | exact .inr rfl, hz, rfl, ds_frz (i := 2) rfl ?_⟩
    walk_at "d"
    refine de_lc2M (fun _ => (TB sz).map tD) tS (fun _ e => e) ?_
    walk_at "d"
    refine cb_sortedK (ks := gs.map fun p => (p.1 : Int)) rfl (gD_keys gs) (by simp; omega) ?_
    walk_at "d"
    rw [AKD_eq]
    refine ⟨?_, ?_, ?_⟩
    · have := AK_len hz.2.2 hg.l2
      simp
      omega
    · intro d hd
      obtain ⟨t, ht, rfl⟩ := List.mem_map.mp hd
      refine ⟨_, dg_name (by simp), ?_⟩
      walk_at "d"
      intro e he
      obtain ⟨k, hk, rfl⟩ := List.mem_map.mp he
      refine ⟨_, dg_name (by simp), ?_⟩
      walk_at "d"
      refine cb_sumN (sz := k) (.inr rfl) ?_
      walk_at "d"
      refine ⟨?_, fun _ => ?_⟩
      · unfold tS; rw [dsum_tD]
      · walk_at "d"
        rfl
    · walk_at "d"
      exact hΦ
end
end Pf
set_option Elab.async false
set_option linter.all false
set_option maxRecDepth 100000
set_option maxHeartbeats 1000000
namespace Pf
open PySem PySem.Spec PyProof.Rows L2 DL
/-! ### teams: increasing tuples -/
theorem flatMap_nodup {α β : Type} {f : α → List β} : ∀ {l : List α}, l.Nodup → (∀ a ∈ l, (f a).Nodup) → (∀ a ∈ l, ∀ a' ∈ l, ∀ x, x ∈ f a → x ∈ f a' → a = a') → (l.flatMap f).Nodup
  | [], _, _, _ => by simp
  | a :: l, nd, h1, h2 => by
    rw [List.flatMap_cons, List.nodup_append]
    obtain ⟨n1, n2⟩ := List.nodup_cons.mp nd
    refine ⟨h1 a (by simp), flatMap_nodup n2 (fun b hb => h1 b (by simp [hb])) (fun b hb c hc => h2 b (by simp [hb]) c (by simp [hc])), fun x hx y hy z => ?_⟩
    subst z
    obtain ⟨c, hc, hxc⟩ := List.mem_flatMap.mp hy
    have := h2 a (by simp) c (by simp [hc]) x hx hxc
    exact n1 (by rw [this]; exact hc)
end Pf
set_option Elab.async false
set_option linter.all false
set_option maxRecDepth 100000
set_option maxHeartbeats 4000000
namespace Pf
open PySem PySem.Spec PyProof.Rows L2 DL
/-! ### rows of a table: a number for each of some kinds -/
def keyN (t : List Nat) : List Key := t.map fun n : Nat => Sum.inl (n : Int)
theorem keyN_D (t : List Nat) : keyT (keyN t) = tD t := by simp [keyT, keyN, tD, dN, keyD, List.map_map]
theorem keyN_inj : ∀ {t u : List Nat}, keyN t = keyN u → t = u
  | [], [], _ => rfl
  | [], _ :: _, h => by cases h
  | _ :: _, [], h => by cases h
  | a :: t, b :: u, h => by
    unfold keyN at h
    rw [List.map_cons, List.map_cons, List.cons.injEq] at h
    have h1 : a = b := by have := h.1; simp at this; omega
    rw [h1, keyN_inj (t := t) (u := u) h.2]
abbrev Rw := List (List Nat × Nat)
def rT (r : Rw) : List (List Key × D) := r.map fun p => (keyN p.1, .int (p.2 : Nat))
def rg (r : Rw) (k : List Nat) : Option Nat := (r.find? fun p => decide (p.1 = k)).map (·.2)
def rn (r : Rw) (k : List Nat) : Nat := (rg r k).getD 0
theorem rT_len (r : Rw) : (rT r).length = r.length := by simp [rT]
theorem rg_cons (a : List Nat) (x : Nat) (r : Rw) (k : List Nat) : rg ((a, x) :: r) k = if a = k then some x else rg r k := by
  unfold rg
  rw [List.find?_cons]
  by_cases e : a = k
  · simp [e]
  · simp [e]
theorem rT_val : ∀ (r : Rw) (k : List Nat), valD (rT r) (keyN k) = (rg r k).map fun n : Nat => D.int (n : Nat)
  | [], k => rfl
  | (a, x) :: r, k => by
    rw [rg_cons]
    have ih := rT_val r k
    unfold valD at ih ⊢
    unfold rT at ih ⊢
    rw [List.map_cons, List.find?_cons]
    by_cases e : a = k
    · subst e; simp
    · have e2 : keyN a ≠ keyN k := fun z => e (keyN_inj z)
      simp only [e2, decide_false, if_neg e]
      exact ih
theorem rT_get (r : Rw) (k : List Nat) : (valD (rT r) (keyN k)).getD (.int 0) = .int (rn r k : Nat) := by
  rw [rT_val]
  unfold rn
  cases rg r k <;> rfl
def rput (r : Rw) (k : List Nat) (n : Nat) : Rw := if (r.any fun p => decide (p.1 = k)) = true then r.map (fun p => if p.1 = k then (p.1, n) else p) else r ++ [(k, n)]
theorem rT_put (r : Rw) (k : List Nat) (n : Nat) : putD (rT r) (keyN k) (.int (n : Nat)) = rT (rput r k n) := by
  have e : ((rT r).any fun kv => decide (kv.1 = keyN k)) = (r.any fun p => decide (p.1 = k)) := by
    unfold rT
    rw [List.any_map]
    congr 1
    funext p
    by_cases h : p.1 = k
    · simp [h]
    · have : keyN p.1 ≠ keyN k := fun z => h (keyN_inj z)
      simp [h, this]
  unfold putD rput
  rw [e]
  split
  · unfold rT
    rw [List.map_map, List.map_map]
    apply List.map_congr_left
    intro p _
    by_cases h : p.1 = k
    · simp [h]
    · have : keyN p.1 ≠ keyN k := fun z => h (keyN_inj z)
      simp [h, this]
  · simp [rT]
theorem any_key (r : Rw) (k : List Nat) : (r.any fun p => decide (p.1 = k)) = decide (k ∈ r.map (·.1)) := by
  rw [Bool.eq_iff_iff, List.any_eq_true, decide_eq_true_iff, List.mem_map]
  simp
theorem rg_none {r : Rw} {k : List Nat} (h : k ∉ r.map (·.1)) : rg r k = none := by
  unfold rg
  rw [List.find?_eq_none.mpr]
  · rfl
  · intro p hp
    simp
    exact fun z => h (List.mem_map.mpr ⟨p, hp, z⟩)
theorem rput_keys (r : Rw) (k : List Nat) (n : Nat) : (rput r k n).map (·.1) = if k ∈ r.map (·.1) then r.map (·.1) else r.map (·.1) ++ [k] := by
  unfold rput
  rw [any_key]
  by_cases h : k ∈ r.map (·.1)
  · rw [if_pos (by simpa using h), if_pos h, List.map_map]
    apply List.map_congr_left
    intro p _
    show (if p.1 = k then (p.1, n) else p).1 = p.1
    split <;> rfl
  · rw [if_neg (by simpa using h), if_neg h]
    simp
/-- a row over the kinds ks -/
structure RwOk (ks : List (List Nat)) (r : Rw) : Prop where
  nd : (r.map (·.1)).Nodup
  sub : ∀ k ∈ r.map (·.1), k ∈ ks
theorem RwOk.nil (ks : List (List Nat)) : RwOk ks [] := ⟨by simp, by simp⟩
theorem RwOk.put {ks : List (List Nat)} {r : Rw} (h : RwOk ks r) {k : List Nat} (hk : k ∈ ks) (n : Nat) : RwOk ks (rput r k n) := by
  refine ⟨?_, ?_⟩
  · rw [rput_keys]
    split
    · exact h.nd
    · rename_i hn
      rw [List.nodup_append]
      exact ⟨h.nd, by simp, by intro a ha b hb z; simp at hb; subst hb; subst z; exact hn ha⟩
  · rw [rput_keys]
    split
    · exact h.sub
    · intro j hj
      rcases List.mem_append.mp hj with hj | hj
      · exact h.sub j hj
      · simp at hj; exact hj ▸ hk
theorem nodup_len {α : Type} [DecidableEq α] : ∀ {l m : List α}, l.Nodup → (∀ a ∈ l, a ∈ m) → l.length ≤ m.length
  | [], m, _, _ => by simp
  | a :: l, m, nd, h => by
    obtain ⟨n1, n2⟩ := List.nodup_cons.mp nd
    have ha := h a (by simp)
    have ih := nodup_len (l := l) (m := m.erase a) n2 fun b hb => by
      have hb2 := h b (by simp [hb])
      have : b ≠ a := fun z => n1 (z ▸ hb)
      exact (List.mem_erase_of_ne this).mpr hb2
    rw [List.length_erase_of_mem ha] at ih
    have := List.length_pos_of_mem ha
    simp
    omega
theorem RwOk.len {ks : List (List Nat)} {r : Rw} (h : RwOk ks r) : r.length ≤ ks.length := by
  have := nodup_len h.nd h.sub
  simpa using this
/-- what a table keeps of a row -/
def ck (ks : List (List Nat)) (r : Rw) : Rw := (ks.filter fun k => decide (0 < rn r k)).map fun k => (k, rn r k)
theorem ck_keys (ks : List (List Nat)) (r : Rw) : (ck ks r).map (·.1) = ks.filter fun k => decide (0 < rn r k) := by
  unfold ck
  rw [List.map_map]
  conv => rhs; rw [← List.map_id (ks.filter fun k => decide (0 < rn r k))]
  apply List.map_congr_left
  intro k _
  rfl
/-! ### hashes of kinds are different -/
def hashI (k : List Nat) : Int := reduceHash (Builtin.Tuple.tupleHashOf (k.map fun n : Nat => hashInt (n : Int)))
theorem hashT_keyN (w : World) (k : List Nat) : hashT w (keyN k) = hashI k := by
  unfold hashT hashI keyN
  rw [List.map_map]
  rfl
def allK : Nat → Nat → List (List Nat)
  | 0, _ => [[]]
  | n + 1, s => (List.range (s + 1)).flatMap fun a => (allK n (s - a)).map fun k => a :: k
theorem mem_allK : ∀ {n s : Nat} {k : List Nat}, k.length = n → k.sum ≤ s → k ∈ allK n s
  | 0, s, [], _, _ => by simp [allK]
  | 0, s, _ :: _, h, _ => by simp at h
  | n + 1, s, [], h, _ => by simp at h
  | n + 1, s, a :: k, h, h2 => by
    rw [List.sum_cons] at h2
    rw [allK, List.mem_flatMap]
    exact ⟨a, by simp; omega, List.mem_map.mpr ⟨k, mem_allK (by simpa using h) (by omega), rfl⟩⟩
def offN (i : Int) : Nat := (i + 9223372036854775808).toNat
def apart : List Nat → Bool
  | [] => true
  | a :: l => l.all (fun b => !Nat.beq a b) && apart l
theorem apart_inj {α : Type} (f : α → Nat) : ∀ {l : List α}, apart (l.map f) = true → ∀ {a b : α}, a ∈ l → b ∈ l → f a = f b → a = b
  | [], _, a, b, ha, _, _ => by simp at ha
  | c :: l, h, a, b, ha, hb, e => by
    rw [List.map_cons, apart, Bool.and_eq_true] at h
    have key : ∀ x, x ∈ l → f c ≠ f x := fun x hx z => by
      have := List.all_eq_true.mp h.1 (f x) (List.mem_map.mpr ⟨x, hx, rfl⟩)
      rw [z] at this
      simp at this
    rcases List.mem_cons.mp ha with ea | ha'
    · rcases List.mem_cons.mp hb with eb | hb'
      · rw [ea, eb]
      · exact absurd (ea ▸ e) (key b hb')
    · rcases List.mem_cons.mp hb with eb | hb'
      · exact absurd (eb ▸ e.symm) (key a ha')
      · exact apart_inj f h.2 ha' hb' e
def apartB (m : Nat) (l : List Nat) : Bool := (List.range m).all fun i => apart (l.filter fun x => Nat.beq (x % m) i)
theorem apartB_inj {α : Type} (f : α → Nat) {m : Nat} (hm : 0 < m) {l : List α} (h : apartB m (l.map f) = true) {a b : α} (ha : a ∈ l) (hb : b ∈ l) (e : f a = f b) : a = b := by
  have h1 := List.all_eq_true.mp h (f a % m) (by simpa using Nat.mod_lt _ hm)
  rw [List.filter_map] at h1
  exact apart_inj f h1 (List.mem_filter.mpr ⟨ha, by simp⟩) (List.mem_filter.mpr ⟨hb, by simp [e]⟩) e
theorem hash_apart : ∀ n : Fin 11, apartB 61 ((allK n.1 4).map fun k => offN (hashI k)) = true := by decide +kernel
theorem hash_inj {k j : List Nat} (h : k.length = j.length) (h8 : k.length ≤ 10) (h1 : k.sum ≤ 4) (h2 : j.sum ≤ 4) (e : hashI k = hashI j) : k = j :=
  apartB_inj (fun k => offN (hashI k)) (by decide) (hash_apart ⟨k.length, by omega⟩) (mem_allK rfl h1) (mem_allK h.symm h2) (by rw [e])
theorem hash_nodup (w : World) {n : Nat} (hn : n ≤ 10) {r : Rw} (nd : (r.map (·.1)).Nodup) (h : ∀ k ∈ r.map (·.1), k.length = n ∧ k.sum ≤ 4) : ((rT r).map fun p => hashT w p.1).Nodup := by
  have e : (rT r).map (fun p => hashT w p.1) = (r.map (·.1)).map hashI := by
    unfold rT
    rw [List.map_map, List.map_map]
    apply List.map_congr_left
    intro p _
    exact hashT_keyN w p.1
  rw [e, List.Nodup, List.pairwise_map]
  refine List.Pairwise.imp_of_mem (fun {a b} ha hb hne z => hne ?_) nd
  obtain ⟨a1, a2⟩ := h a ha
  obtain ⟨b1, b2⟩ := h b hb
  exact hash_inj (by omega) (by omega) a2 b2 z
/-! ### kinds are named once -/
theorem stepT_nodup {acc : List (List Nat)} (h : acc.Nodup) (s : Nat) (hl : ∃ n, ∀ k ∈ acc, k.length = n) : (stepT acc s).Nodup := by
  unfold stepT
  obtain ⟨n, hl⟩ := hl
  refine flatMap_nodup h (fun a _ => ?_) fun a ha b hb x hx hy => ?_
  · rw [List.Nodup, List.pairwise_map]
    exact List.Pairwise.imp (fun {x y} h z => h (by simpa using z)) (List.nodup_range (n := s + 1))
  · obtain ⟨i, _, rfl⟩ := List.mem_map.mp hx
    obtain ⟨j, _, e⟩ := List.mem_map.mp hy
    exact (List.append_inj e (by rw [hl a ha, hl b hb])).1.symm
theorem TB_nodup (sz : List Nat) : (TB sz).Nodup := by
  have key : ∀ i, (TB (sz.take i)).Nodup ∧ i ≤ i := by
    intro i
    refine ⟨?_, Nat.le_refl _⟩
    induction i with
    | zero => simp [TB]
    | succ i ih =>
      cases h : sz[i]? with
      | none =>
        have hl : sz.length ≤ i := by simpa using h
        rw [List.take_of_length_le (by omega)]
        rw [List.take_of_length_le hl] at ih
        exact ih
      | some s =>
        rw [TB_succ h]
        exact stepT_nodup ih s ⟨_, fun k hk => (TB_mem.mp hk).1⟩
  have := (key sz.length).1
  rwa [List.take_length] at this
theorem ks_nodup {gs : List (Nat × Nat)} (nd : (gs.map (·.1)).Nodup) : (ks gs).Nodup := by
  have p := srt_perm (gs.map fun p => (p.1 : Int))
  have h2 : (gs.map fun p => (p.1 : Int)).Nodup := by
    have e : (gs.map fun p => (p.1 : Int)) = (gs.map (·.1)).map fun n : Nat => (n : Int) := by rw [List.map_map]; rfl
    rw [e, List.Nodup, List.pairwise_map]
    exact List.Pairwise.imp (fun {a b} h z => h (by omega)) nd
  have h3 : (srt (gs.map fun p => (p.1 : Int))).Nodup := p.nodup_iff.mpr h2
  rw [ks_int, List.Nodup, List.pairwise_map] at h3
  exact List.Pairwise.imp (fun {a b} h z => h (by rw [z])) h3
theorem AK_nodup {sz : List Nat} {gs : List (Nat × Nat)} (nd : (gs.map (·.1)).Nodup) : (AK sz gs).Nodup := by
  unfold AK
  refine flatMap_nodup (ks_nodup nd) (fun a _ => (TB_nodup sz).filter _) fun a ha b hb x hx hy => ?_
  have h1 := (List.mem_filter.mp hx).2
  have h2 := (List.mem_filter.mp hy).2
  simp at h1 h2
  omega
theorem AK_small {sz : List Nat} {gs : List (Nat × Nat)} (hg : GGm sz.sum gs) {k : List Nat} (h : k ∈ AK sz gs) : k.length = sz.length ∧ k.sum ≤ 4 := by
  obtain ⟨hb, v, hv⟩ := AK_mem.mp h
  have := hg.ok _ _ hv
  exact ⟨hb.1, this.2.1⟩
theorem rw_hash (w : World) {sz : List Nat} {gs : List (Nat × Nat)} (hg : Good sz gs) (h8 : sz.sum ≤ 10) {r : Rw} (h : RwOk (AK sz gs) r) : ((rT r).map fun p => hashT w p.1).Nodup :=
  hash_nodup w (n := sz.length) (Nat.le_trans (len_le_sum hg.1.2.1) h8) h.nd fun k hk => AK_small hg.2.1 (h.sub k hk)
end Pf
set_option Elab.async false
set_option linter.all false
set_option maxRecDepth 100000
set_option maxHeartbeats 1000000
namespace Pf
open PySem PySem.Spec PyProof.Rows L2 DL
local macro_rules | `(tactic| walk_at "len") => `(tactic| with_unfolding_all first | exact Nat.le_of_ble_eq_true rfl | (simp; done) | (simp; omega))
local macro_rules | `(tactic| walk_at "side") => `(tactic| with_unfolding_all first | exact Or.inr ⟨by omega, by omega⟩ | exact Or.inl ⟨by omega, by omega⟩ | exact ⟨by omega, by omega⟩ | exact ⟨by omega, by omega, by omega⟩ | (show (0 : Int) < _; omega) | decide)
local macro_rules | `(tactic| walk_at "d1") => `(tactic| with_reducible first
  | (refine ds_seq ?_; try dsimp only [List.set_cons_zero, List.set_cons_succ, List.cons_append, List.nil_append, O.frz])
  | refine ds_asg ?_
  | refine ds_ret ?_
  | refine ds_retN ?_
  | refine ds_next ?_
  | refine ds_dropC ?_
  | refine ds_drop0 ?_
  | refine ds_dropB ?_
  | refine ds_if ?_
  | refine dt_test ?_
  | refine dt_B ?_
  | refine dt_not ?_
  | refine dt_and ?_
  | refine dt_or ?_
  | refine dt_yes ?_
  | refine de_int ?_
  | refine de_bl ?_
  | refine de_str ?_
  | refine de_non ?_
  | refine de_varD (by with_unfolding_all rfl) ?_
  | refine de_varO (by with_unfolding_all rfl) ?_
  | refine de_varA (by with_unfolding_all rfl) ?_
  | refine de_varV (by with_unfolding_all rfl) ?_
  | refine de_isi ?_
  | refine de_dget ?_
  | refine de_dget2 ?_
  | refine de_dnotin ?_
  | refine de_din ?_
  | refine de_dnew ?_
  | refine de_dnewT ?_
  | refine de_cb ?_
  | refine de_call0G ?_
  | refine de_callG ?_
  | refine de_andB ?_
  | refine de_orB ?_
  | refine de_notV ?_
  | refine de_ifE ?_
  | refine de_chain ?_
  | refine de_op ?_
  | refine de_neg ?_
  | refine de_tupG ?_
  | refine de_lstG ?_
  | refine de_slL ?_
  | refine de_slT ?_
  | refine do_none ?_
  | refine do_some ?_
  | refine daf_cons ?_
  | refine daf_nil ?_
  | refine daf_star ?_
  | refine da_cons ?_
  | refine da_nil ?_
  | refine lk_dat ?_
  | refine lk_nil ?_
  | refine ak_dat ?_
  | refine ak_nil ?_
  | refine ak_at ?_
  | refine ak_lst ?_
  | refine lk_lst ?_
  | refine ak_dK ?_
  | refine ak_dT ?_
  | refine ak_vw ?_
  | refine lk_dT ?_
  | refine lk_dK ?_
  | refine da_star ?_
  | refine de_lstRg1 ?_
  | refine de_lstRg2 ?_
  | refine de_revL ?_
  | refine de_count ?_
  | refine de_index ?_
  | refine di_enum ?_
  | refine dt_tru ?_
  | refine de_fld ?_
  | refine de_prop ?_
  | refine di_rng1 ?_
  | refine di_rng2 ?_
  | refine di_list ?_
  | refine di_tup ?_
  | refine di_seq ?_
  | refine di_zip ?_
  | refine de_split ?_
  | refine de_join ?_
  | refine de_fmt ?_
  | refine de_jnil ?_
  | refine de_jcons ?_
  | refine de_ixS ?_
  | refine de_orT ?_
  | refine di_str ?_
  | refine ops_eqS ?_
  | refine ops_neS ?_
  | refine de_indexD ?_
  | refine ops_int ?_
  | (refine ops_cat (by with_unfolding_all rfl) (by with_unfolding_all rfl) ?side ?_; (case side => walk_at "len"))
  | (refine ops_catA ?side ?_; (case side => walk_at "len"))
  | refine ops_eqI ?_
  | refine ops_neI ?_
  | refine ops_bool ?_
  | (refine ops_intC ?side ?_; (case side => walk_at "side"))
  | refine cb_lenL (by with_unfolding_all rfl) ?_
  | refine cb_lenT (by with_unfolding_all rfl) ?_
  | refine cb_lenK (by with_unfolding_all rfl) ?_
  | refine cb_max2 ?_
  | refine cb_min2 ?_
  | refine cb_int ?_
  | refine ⟨fun _ => ?_, fun z => Bool.noConfusion z⟩
  | refine ⟨fun z => Bool.noConfusion z, fun _ => ?_⟩
  | refine ⟨rfl, ?_⟩
  | refine ⟨_, rfl, ?_⟩
  | refine ⟨_, Or.inl (by with_unfolding_all rfl), ?_⟩
  | (with_unfolding_all refine ⟨_, true, rfl, rfl, (fun _ z => by cases z), rfl, ?_⟩)
  | (with_unfolding_all refine ⟨_, false, rfl, rfl, (fun _ z => by cases z), rfl, ?_⟩))
local macro_rules | `(tactic| walk_at "d") => `(tactic| repeat walk_at "d1")
local macro_rules | `(tactic| walk_at "wk") => `(tactic| repeat first | exact Wk.nil | refine Wk.keep ?_ | refine Wk.drop ?_)
section
variable {P : Program} {w : World} {K : PySem.W.Frag} {mg : Str → Option Value} {base : Heap} {f : Addr} {fd : FuncData} {a_BadSizes a_BadGames a_TooMany a_BadKind a_BadNumber a_BadRounds : Addr}
theorem alike_ints : ∀ t u : List Nat, PySem.W.alikeAll (t.map fun n : Nat => PyData.int n) (u.map fun n : Nat => PyData.int n) = true
  | [], _ => by rw [List.map_nil, PySem.W.alikeAll]
  | _ :: _, [] => by rw [List.map_nil, List.map_cons, PySem.W.alikeAll]
  | a :: t, b :: u => by rw [List.map_cons, List.map_cons, PySem.W.alikeAll, alike_ints t u, PySem.W.alike]; rfl
def kPy (k : List Nat) : PyData := .tuple (k.map fun n : Nat => PyData.int n)
theorem rT_py (r : Rw) : ((rT r).map fun p => PyData.tuple (p.1.map keyPy)) = r.map fun p => kPy p.1 := by
  unfold rT kPy keyN
  rw [List.map_map]
  apply List.map_congr_left
  intro p _
  simp [List.map_map, Function.comp_def, keyPy]
theorem rT_alike (r : Rw) : PySem.W.AllAlike ((rT r).map fun p => PyData.tuple (p.1.map keyPy)) := by
  rw [rT_py]
  refine PySem.W.AllAlike.of (enc := fun p : List Nat × Nat => kPy p.1) fun a b => ?_
  show PySem.W.alike (kPy a.1) (kPy b.1) = true
  unfold kPy
  rw [PySem.W.alike, alike_ints]
theorem rT_sortable {r : Rw} (h : ∀ k ∈ r.map (·.1), k ≠ []) : PySem.W.Sortable ((rT r).map fun p => PyData.tuple (p.1.map keyPy)) := by
  rw [rT_py]
  refine .inl fun d hd => ?_
  obtain ⟨⟨k, n⟩, hp, rfl⟩ := List.mem_map.mp hd
  have := h k (List.mem_map.mpr ⟨_, hp, rfl⟩)
  obtain ⟨a, l, rfl⟩ := List.exists_cons_of_ne_nil this
  exact ⟨_, _, rfl⟩
theorem rT_keys (r : Rw) : (rT r).map (·.1) = (r.map (·.1)).map keyN := by
  unfold rT
  rw [List.map_map, List.map_map]
  rfl
/-- a key of a row in order is a kind -/
theorem srtK_mem {r : Rw} {k : List Key} (h : k ∈ srtK ((rT r).map (·.1))) : ∃ t ∈ r.map (·.1), k = keyN t := by
  rw [(srtK_perm _).mem_iff, rT_keys] at h
  obtain ⟨t, ht, rfl⟩ := List.mem_map.mp h
  exact ⟨t, ht, rfl⟩
theorem rg_some {r : Rw} {k : List Nat} (h : k ∈ r.map (·.1)) : ∃ n : Nat, rg r k = some n := by
  have : (rg r k).isSome = true := by
    unfold rg
    rw [Option.isSome_map, List.find?_isSome]
    obtain ⟨p, hp, e⟩ := List.mem_map.mp h
    exact ⟨p, hp, by simp [e]⟩
  exact Option.isSome_iff_exists.mp this
theorem ck_new {ks : List (List Nat)} {r : Rw} {i : Nat} {k : List Nat} (nd : ks.Nodup) (hk : ks[i]? = some k) (hp : 0 < rn r k) : putD (rT (ck (ks.take i) r)) (keyN k) (.int (rn r k : Nat)) = rT (ck (ks.take (i + 1)) r) := by
  rw [rT_put]
  have nin : k ∉ (ck (ks.take i) r).map (·.1) := by
    rw [ck_keys]
    intro z
    have z := (List.mem_filter.mp z).1
    rw [← List.take_append_drop i ks, List.nodup_append] at nd
    refine nd.2.2 k z k ?_ rfl
    rw [List.mem_iff_getElem?]
    exact ⟨0, by rw [List.getElem?_drop]; exact hk⟩
  unfold rput
  rw [any_key, if_neg (by simpa using nin)]
  unfold ck
  rw [List.take_add_one, hk]
  simp [hp]
theorem ck_old {ks : List (List Nat)} {r : Rw} {i : Nat} {k : List Nat} (hk : ks[i]? = some k) (hp : ¬ 0 < rn r k) : ck (ks.take (i + 1)) r = ck (ks.take i) r := by
  unfold ck
  rw [List.take_add_one, hk]
  have : rn r k = 0 := by omega
  simp [this]
def C_checked_round : Fc := fun _ W m ss Φ Ξ => ∃ (ks : List (List Nat)) (r : Rw), ss = [.dat (.lst (ks.map tD)), .dat (.dit (rT r))] ∧ RwOk ks r ∧ ks.Nodup ∧ (∀ k ∈ ks, k ≠ []) ∧ ks.length ≤ 5000 ∧ Φ m (.own (.dT (rT (ck ks r))))
abbrev s_checked_round : Stmt := (top 40)
abbrev N_checked_round : List Str := ["kinds", "row", "kind"]
theorem sc_checked_round : FnScope N_checked_round ["kinds", "row"] (defScope s_checked_round) := ⟨rfl, rfl, rfl, by decide +kernel, rfl, by decide +kernel, by decide +kernel⟩
theorem ok_checked_round (F : FnP K "checked_round" s_checked_round f fd) (b : BI mg) (x_BadKind : Xc P w K mg base "BadKind" a_BadKind ["value"]) (x_BadNumber : Xc P w K mg base "BadNumber" a_BadNumber ["value"]) : FnOk P w K mg base (L2.CX P w) 3 f fd ["kinds", "row"] (spF K C_checked_round) := by
  have hlen := spF_len (K := K) (C := C_checked_round) (m := 2) fun κ W m ss Φ Ξ ⟨ks, r, e, _⟩ => by first | exact e | (rw [e]; rfl)
  refine F.ok sc_checked_round hlen ?_
  intro cdv A outer s H vs Q E hr h
  refine ⟨_, (pss_cons (ps_for (passes_of rfl) rfl (k_piL (K := K) rfl (pe_callB (k_sortedT rfl hr.units) rfl b.sorted boot_sorted (pa_cons (pv 1) pa_nil))) (pg_name (i := 2) sc_checked_round.nd rfl (by first | exact Or.inl rfl | exact Or.inr rfl))
      (pss_cons (ps_if (pt_cmpR (k_notInD (K := K) rfl (hu65 hr)) (pv 2) (pv 0) rfl) (pss_one (raiseX x_BadKind hr (takes_of rfl rfl rfl rfl) (pa_cons (pv 2) pa_nil))) pss_nil)
      (pss_one (ps_if (PW.pt (pw_or (pt_not (pt_val (pe_callB (k_isi (K := K) rfl) rfl b.isinstance boot_isinstance (pa_cons (pe_dget (hu_of hr) (pv 1) (pv 2) (fun _ _ => rfl)) (pa_cons (pe_bltn (v := .ty "int") rfl b.int_ boot_int rfl) pa_nil))))) (pw_or (pt_val (pe_callB (k_isi (K := K) rfl) rfl b.isinstance boot_isinstance (pa_cons (pe_dget (hu_of hr) (pv 1) (pv 2) (fun _ _ => rfl)) (pa_cons (pe_bltn (v := .ty "bool") rfl b.bool_ boot_bool rfl) pa_nil)))) (pw_or1 (pt_cmpR op_lt (pe_dget (hu_of hr) (pv 1) (pv 2) (fun _ _ => rfl)) pe_int (nomark _)))))) (pss_one (raiseX x_BadNumber hr (takes_of rfl rfl rfl rfl) (pa_cons (pe_dget (hu_of hr) (pv 1) (pv 2) (fun _ _ => rfl)) pa_nil))) pss_nil))))
      (pss_one (ps_ret (pe_dct (own := [("kind", 2)]) rfl (hu_of hr) sc_checked_round.nd (k_piL (K := K) rfl (pv 0)) (blkOk_by (own := [("kind", 2)]) (N := N_checked_round) (sc := (defScope s_checked_round)) (by decide +kernel)) (fun _ _ _ _ _ => (pg_name (i := 2) sc_checked_round.nd rfl (by first | exact Or.inl rfl | exact Or.inr rfl))) (fun _ _ _ _ _ => pts_one (pt_cmpR op_gt (pe_dget2 (hu_of hr) (pv 1) (pv 2) pe_int ⟨rfl, rfl, rfl, rfl⟩) pe_int (nomark _))) (fun _ _ _ _ _ => (pv 2)) (fun _ _ _ _ _ => (pe_dget (hu_of hr) (pv 1) (pv 2) (fun _ _ => rfl))))))), ?_⟩
  refine DL.run_fnP  [.no] (Nm := N_checked_round) (n := 2) (k := 1) rfl (hlen _ _ _ _ h) rfl h fun κ W m ss Φ Ξ G hc => ?_
  try dsimp only [cxOf, Cx.nox, Cx.wish, Cx.blk]
  obtain ⟨ks, r, rfl, hr, nd, hne, hl, hΦ⟩ := hc
  have rl := hr.len
  walk_at "d"
  refine ds_forW (vs := [2]) ?_
  walk_at "d"
  refine cb_sortedT (ds := rT r) rfl (rT_alike r) (rT_sortable fun k hk => hne k (hr.sub k hk)) ?_
  walk_at "d"
  refine ⟨fun i m' ρ => m' = m ∧ ρ = [.dat (.lst (ks.map tD)), .dat (.dit (rT r)), .no], ⟨_, Wk.refl _, rfl, rfl, rfl⟩, ?_, ?_⟩
  · rintro i d m' ρ hd ⟨rfl, rfl⟩
    obtain ⟨kk, hk0, rfl⟩ := List.mem_map.mp (List.mem_of_getElem? hd)
    obtain ⟨k, hk, rfl⟩ := srtK_mem hk0
    obtain ⟨n, hn⟩ := rg_some hk
    have lk : Look (.T (rT r)) (keyT (keyN k)) (some (.int (n : Nat))) := by
      have := Look.t (ds := rT r) (keyN k)
      rw [rT_val, hn] at this
      exact this
    rw [keyN_D] at lk ⊢
    refine ⟨_, dg_name (by simp), ?_⟩
    walk_at "d"
    refine ops_notInK (L := ks) rfl rfl ?_
    rw [show (!decide (k ∈ ks)) = false by simp [hr.sub k hk]]
    walk_at "d"
    refine ⟨_, _, _, rfl, rfl, lk, ?_⟩
    walk_at "d"
    refine ⟨_, _, _, rfl, rfl, lk, ?_⟩
    walk_at "d"
    refine ⟨_, _, _, rfl, rfl, lk, ?_⟩
    walk_at "d"
    exact ⟨_, by walk_at "wk", rfl, rfl, rfl⟩
  · rintro m' ρ ⟨rfl, rfl⟩
    walk_at "d"
    refine de_dct ?_
    walk_at "d"
    refine ⟨by rw [List.length_map]; omega, fun i m2 acc => m2 = m' ∧ acc = rT (ck (ks.take i) r), ⟨rfl, rfl⟩, ?_, ?_⟩
    · rintro i d m2 acc hd ⟨rfl, rfl⟩
      rw [List.getElem?_map] at hd
      cases hk : ks[i]? with
      | none => rw [hk] at hd; cases hd
      | some k =>
        rw [hk] at hd
        cases hd
        refine ⟨_, dg_name (by simp), ?_⟩
        walk_at "d"
        refine ⟨_, _, _, rfl, rfl, keyN_D k ▸ Look.t (ds := rT r) (keyN k), ?_⟩
        rw [rT_get]
        walk_at "d"
        by_cases hp : 0 < rn r k
        · rw [show decide ((0 : Int) < (rn r k : Nat)) = true by simp; omega]
          walk_at "d"
          refine ⟨keyN k, by rw [keyN_D], ?_⟩
          walk_at "d"
          have lk : Look (.T (rT r)) (tD k) (some (.int (rn r k : Nat))) := by
            have := Look.t (ds := rT r) (keyN k)
            rw [rT_val, keyN_D] at this
            have e : rg r k = some (rn r k) := by
              unfold rn at hp ⊢
              cases h : rg r k with
              | none => rw [h] at hp; simp at hp
              | some x => rfl
            rw [e] at this
            exact this
          refine ⟨_, _, _, rfl, rfl, lk, ?_⟩
          refine ⟨_, rfl, rfl, ?_⟩
          exact ck_new nd hk hp
        · rw [show decide ((0 : Int) < (rn r k : Nat)) = false by simp; omega]
          walk_at "d"
          rw [ck_old hk hp]
    · rintro m2 acc ⟨rfl, rfl⟩
      rw [List.length_map, List.take_length]
      exact ⟨rfl, hΦ⟩
end
end Pf
set_option Elab.async false
set_option linter.all false
set_option maxRecDepth 100000
set_option maxHeartbeats 1000000
namespace Pf
open PySem PySem.Spec PyProof.Rows L2 DL
local macro_rules | `(tactic| walk_at "len") => `(tactic| with_unfolding_all first | exact Nat.le_of_ble_eq_true rfl | (simp; done) | (simp; omega))
local macro_rules | `(tactic| walk_at "side") => `(tactic| with_unfolding_all first | exact Or.inr ⟨by omega, by omega⟩ | exact Or.inl ⟨by omega, by omega⟩ | exact ⟨by omega, by omega⟩ | exact ⟨by omega, by omega, by omega⟩ | (show (0 : Int) < _; omega) | decide)
local macro_rules | `(tactic| walk_at "d1") => `(tactic| with_reducible first
  | (refine ds_seq ?_; try dsimp only [List.set_cons_zero, List.set_cons_succ, List.cons_append, List.nil_append, O.frz])
  | refine ds_asg ?_
  | refine ds_ret ?_
  | refine ds_retN ?_
  | refine ds_next ?_
  | refine ds_dropC ?_
  | refine ds_drop0 ?_
  | refine ds_dropB ?_
  | refine ds_if ?_
  | refine dt_test ?_
  | refine dt_B ?_
  | refine dt_not ?_
  | refine dt_and ?_
  | refine dt_or ?_
  | refine dt_yes ?_
  | refine de_int ?_
  | refine de_bl ?_
  | refine de_str ?_
  | refine de_non ?_
  | refine de_varD (by with_unfolding_all rfl) ?_
  | refine de_varO (by with_unfolding_all rfl) ?_
  | refine de_varA (by with_unfolding_all rfl) ?_
  | refine de_varV (by with_unfolding_all rfl) ?_
  | refine de_isi ?_
  | refine de_dget ?_
  | refine de_dget2 ?_
  | refine de_dnotin ?_
  | refine de_din ?_
  | refine de_dnew ?_
  | refine de_dnewT ?_
  | refine de_cb ?_
  | refine de_call0G ?_
  | refine de_callG ?_
  | refine de_andB ?_
  | refine de_orB ?_
  | refine de_notV ?_
  | refine de_ifE ?_
  | refine de_chain ?_
  | refine de_op ?_
  | refine de_neg ?_
  | refine de_tupG ?_
  | refine de_lstG ?_
  | refine de_slL ?_
  | refine de_slT ?_
  | refine do_none ?_
  | refine do_some ?_
  | refine daf_cons ?_
  | refine daf_nil ?_
  | refine daf_star ?_
  | refine da_cons ?_
  | refine da_nil ?_
  | refine lk_dat ?_
  | refine lk_nil ?_
  | refine ak_dat ?_
  | refine ak_nil ?_
  | refine ak_at ?_
  | refine ak_lst ?_
  | refine lk_lst ?_
  | refine ak_dK ?_
  | refine ak_dT ?_
  | refine ak_vw ?_
  | refine lk_dT ?_
  | refine lk_dK ?_
  | refine da_star ?_
  | refine de_lstRg1 ?_
  | refine de_lstRg2 ?_
  | refine de_revL ?_
  | refine de_count ?_
  | refine de_index ?_
  | refine di_enum ?_
  | refine dt_tru ?_
  | refine de_fld ?_
  | refine de_prop ?_
  | refine di_rng1 ?_
  | refine di_rng2 ?_
  | refine di_list ?_
  | refine di_tup ?_
  | refine di_seq ?_
  | refine di_zip ?_
  | refine de_split ?_
  | refine de_join ?_
  | refine de_fmt ?_
  | refine de_jnil ?_
  | refine de_jcons ?_
  | refine de_ixS ?_
  | refine de_orT ?_
  | refine di_str ?_
  | refine ops_eqS ?_
  | refine ops_neS ?_
  | refine de_indexD ?_
  | refine ops_int ?_
  | (refine ops_cat (by with_unfolding_all rfl) (by with_unfolding_all rfl) ?side ?_; (case side => walk_at "len"))
  | (refine ops_catA ?side ?_; (case side => walk_at "len"))
  | refine ops_eqI ?_
  | refine ops_neI ?_
  | refine ops_bool ?_
  | (refine ops_intC ?side ?_; (case side => walk_at "side"))
  | refine cb_lenL (by with_unfolding_all rfl) ?_
  | refine cb_lenT (by with_unfolding_all rfl) ?_
  | refine cb_lenK (by with_unfolding_all rfl) ?_
  | refine cb_max2 ?_
  | refine cb_min2 ?_
  | refine cb_int ?_
  | refine ⟨fun _ => ?_, fun z => Bool.noConfusion z⟩
  | refine ⟨fun z => Bool.noConfusion z, fun _ => ?_⟩
  | refine ⟨rfl, ?_⟩
  | refine ⟨_, rfl, ?_⟩
  | refine ⟨_, Or.inl (by with_unfolding_all rfl), ?_⟩
  | (with_unfolding_all refine ⟨_, true, rfl, rfl, (fun _ z => by cases z), rfl, ?_⟩)
  | (with_unfolding_all refine ⟨_, false, rfl, rfl, (fun _ z => by cases z), rfl, ?_⟩))
local macro_rules | `(tactic| walk_at "d") => `(tactic| repeat walk_at "d1")
local macro_rules | `(tactic| walk_at "wk") => `(tactic| repeat first | exact Wk.nil | refine Wk.keep ?_ | refine Wk.drop ?_)
local macro_rules | `(tactic| walk_at "l1") => `(tactic| with_reducible first
  | (refine ds_seq ?_; try dsimp only [List.set_cons_zero, List.set_cons_succ, List.cons_append, List.nil_append, O.frz])
  | refine ds_asg ?_
  | refine ds_ret ?_
  | refine ds_retN ?_
  | refine ds_next ?_
  | refine ds_dropC ?_
  | refine ds_drop0 ?_
  | refine ds_dropB ?_
  | refine ds_if ?_
  | refine dt_test ?_
  | refine dt_B ?_
  | refine dt_not ?_
  | refine dt_and ?_
  | refine dt_or ?_
  | refine dt_yes ?_
  | refine de_int ?_
  | refine de_bl ?_
  | refine de_str ?_
  | refine de_non ?_
  | refine de_varD (by with_unfolding_all rfl) ?_
  | refine de_varO (by with_unfolding_all rfl) ?_
  | refine de_varA (by with_unfolding_all rfl) ?_
  | refine de_varV (by with_unfolding_all rfl) ?_
  | refine de_isi ?_
  | refine de_dget ?_
  | refine de_dget2 ?_
  | refine de_dnotin ?_
  | refine de_din ?_
  | refine de_dnew ?_
  | refine de_dnewT ?_
  | refine de_cb ?_
  | refine de_lend ?_
  | refine de_andB ?_
  | refine de_orB ?_
  | refine de_notV ?_
  | refine de_ifE ?_
  | refine de_chain ?_
  | refine de_op ?_
  | refine de_neg ?_
  | refine de_tupG ?_
  | refine de_lstG ?_
  | refine de_slL ?_
  | refine de_slT ?_
  | refine do_none ?_
  | refine do_some ?_
  | refine daf_cons ?_
  | refine daf_nil ?_
  | refine daf_star ?_
  | refine da_cons ?_
  | refine da_nil ?_
  | refine lk_dat ?_
  | refine lk_nil ?_
  | refine ak_dat ?_
  | refine ak_nil ?_
  | refine ak_at ?_
  | refine ak_lst ?_
  | refine lk_lst ?_
  | refine ak_dK ?_
  | refine ak_dT ?_
  | refine ak_vw ?_
  | refine lk_dT ?_
  | refine lk_dK ?_
  | refine da_star ?_
  | refine de_lstRg1 ?_
  | refine de_lstRg2 ?_
  | refine de_revL ?_
  | refine de_count ?_
  | refine de_index ?_
  | refine di_enum ?_
  | refine dt_tru ?_
  | refine de_fld ?_
  | refine de_prop ?_
  | refine di_rng1 ?_
  | refine di_rng2 ?_
  | refine di_list ?_
  | refine di_tup ?_
  | refine di_seq ?_
  | refine di_zip ?_
  | refine ops_int ?_
  | (refine ops_cat (by with_unfolding_all rfl) (by with_unfolding_all rfl) ?side ?_; (case side => walk_at "len"))
  | (refine ops_catA ?side ?_; (case side => walk_at "len"))
  | refine ops_eqI ?_
  | refine ops_neI ?_
  | refine ops_bool ?_
  | (refine ops_intC ?side ?_; (case side => walk_at "side"))
  | refine cb_lenL (by with_unfolding_all rfl) ?_
  | refine cb_lenT (by with_unfolding_all rfl) ?_
  | refine cb_lenK (by with_unfolding_all rfl) ?_
  | refine cb_max2 ?_
  | refine cb_min2 ?_
  | refine cb_int ?_
  | refine ⟨fun _ => ?_, fun z => Bool.noConfusion z⟩
  | refine ⟨fun z => Bool.noConfusion z, fun _ => ?_⟩
  | refine ⟨rfl, ?_⟩
  | refine ⟨_, rfl, ?_⟩
  | refine ⟨_, Or.inl (by with_unfolding_all rfl), ?_⟩
  | (with_unfolding_all refine ⟨_, true, rfl, rfl, (fun _ z => by cases z), rfl, ?_⟩)
  | (with_unfolding_all refine ⟨_, false, rfl, rfl, (fun _ z => by cases z), rfl, ?_⟩))
local macro_rules | `(tactic| walk_at "l") => `(tactic| repeat walk_at "l1")
section
variable {P : Program} {w : World} {K : PySem.W.Frag} {mg : Str → Option Value} {base : Heap} {f : Addr} {fd : FuncData} {a_Table a_BadSizes a_BadGames a_TooMany a_BadKind a_BadNumber a_BadRounds : Addr}
def rD (r : Rw) : D := .dit (rT r)
/-- a table: sizes, games, rows -/
def tabF (sz : List Nat) (gs : List (Nat × Nat)) (rows : List Rw) : List (Str × D) := [("own_sizes", .tup (dN sz)), ("own_games", .dic (gD gs)), ("rows", .lst (rows.map rD))]
theorem te1 : (("own_games" : Str) == "own_sizes") = false := by decide +kernel
theorem te2 : (("rows" : Str) == "own_sizes") = false := by decide +kernel
theorem te3 : (("rows" : Str) == "own_games") = false := by decide +kernel
theorem te4 : ¬ (("own_sizes" : Str) = "own_games") := by decide +kernel
theorem te5 : ¬ (("own_sizes" : Str) = "rows") := by decide +kernel
theorem te6 : ¬ (("own_games" : Str) = "rows") := by decide +kernel
section
variable (sz : List Nat) (gs : List (Nat × Nat)) (rows : List Rw)
theorem tb_sizes : (tabF sz gs rows).lookup ("own_sizes" : Str) = some (.tup (dN sz)) := by
  unfold tabF
  rw [List.lookup_cons, beq_self_eq_true]
theorem tb_games : (tabF sz gs rows).lookup ("own_games" : Str) = some (.dic (gD gs)) := by
  unfold tabF
  rw [List.lookup_cons, te1]
  show List.lookup _ _ = _
  rw [List.lookup_cons, beq_self_eq_true]
theorem tb_rows : (tabF sz gs rows).lookup ("rows" : Str) = some (.lst (rows.map rD)) := by
  unfold tabF
  rw [List.lookup_cons, te2]
  show List.lookup _ _ = _
  rw [List.lookup_cons, te3]
  show List.lookup _ _ = _
  rw [List.lookup_cons, beq_self_eq_true]
theorem tb_two (d e : D) : putD' "own_games" e (putD' "own_sizes" d []) = [(("own_sizes" : Str), d), (("own_games" : Str), e)] := by
  show (if ("own_sizes" : Str) = "own_games" then _ else (("own_sizes" : Str), d) :: putD' "own_games" e []) = _
  rw [if_neg te4]
  rfl
theorem tb_make : putD' "rows" (.lst (rows.map rD)) [(("own_sizes" : Str), D.tup (dN sz)), (("own_games" : Str), D.dic (gD gs))] = tabF sz gs rows := by
  show (if ("own_sizes" : Str) = "rows" then _ else (("own_sizes" : Str), D.tup (dN sz)) :: (if ("own_games" : Str) = "rows" then _ else (("own_games" : Str), D.dic (gD gs)) :: putD' "rows" (.lst (rows.map rD)) [])) = _
  rw [if_neg te5, if_neg te6]
  rfl
end
/-- the games in order of their sizes -/
def srG (gs : List (Nat × Nat)) : List (Nat × Nat) := (ks gs).map fun k => (k, (gv gs k).getD 0)
def intOf : D → Int
  | .int i => i
  | _ => 0
def keyNat : Key → Nat
  | .inl i => i.toNat
  | .inr _ => 0
def decRw : D → Rw
  | .dit ds => ds.map fun p => (p.1.map keyNat, (intOf p.2).toNat)
  | _ => []
theorem decRw_eq (r : Rw) : decRw (rD r) = r := by
  show (rT r).map (fun p => (p.1.map keyNat, (intOf p.2).toNat)) = r
  unfold rT
  rw [List.map_map]
  conv => rhs; rw [← List.map_id r]
  apply List.map_congr_left
  rintro ⟨k, n⟩ _
  have : (keyN k).map keyNat = k := by
    unfold keyN
    rw [List.map_map]
    conv => rhs; rw [← List.map_id k]
    apply List.map_congr_left
    intro x _
    simp [keyNat]
  simp [this, intOf]
theorem AK_ne {sz : List Nat} {gs : List (Nat × Nat)} (hz : GSz sz) {k : List Nat} (h : k ∈ AK sz gs) : k ≠ [] := by
  have h1 := (AK_mem.mp h).1.1
  have h2 := hz.1
  intro z
  rw [z] at h1
  simp at h1
  omega
theorem flat_tDs (ks : List (List Nat)) : retOk (.own (.lst (ks.map tD))) = true := by
  show (ks.map tD).all flatD = true
  rw [List.all_eq_true]
  intro d hd
  obtain ⟨t, _, rfl⟩ := List.mem_map.mp hd
  show (dN t).all atomD = true
  rw [List.all_eq_true]
  intro x hx
  obtain ⟨n, _, rfl⟩ := dN_mem hx
  rfl
theorem flat_AK (sz : List Nat) (gs : List (Nat × Nat)) : retOk (.own (.lst ((AK sz gs).map tD))) = true := flat_tDs _
theorem flat_rT (r : Rw) : retOk (.own (.dT (rT r))) = true := by
  show ((rT r).map (·.2)).all atomD = true
  rw [List.all_eq_true]
  intro x hx
  obtain ⟨p, hp, rfl⟩ := List.mem_map.mp hx
  obtain ⟨q, _, rfl⟩ := List.mem_map.mp hp
  rfl
def rI (r : Rw) : DL.It := .o (.dT (rT r))
theorem putD_new {ks : List (Nat × Nat)} {k v : Nat} (h : k ∉ ks.map (·.1)) : putD (gD ks) (Sum.inl (k : Int)) (.int (v : Nat)) = gD (ks ++ [(k, v)]) := by
  unfold putD
  rw [if_neg]
  · simp [gD]
  · rw [List.any_eq_true]
    rintro ⟨p, hp, e⟩
    obtain ⟨a, b, hab, rfl⟩ := gD_mem hp
    simp at e
    have : a = k := by omega
    exact h (by rw [← this]; exact List.mem_map.mpr ⟨_, hab, rfl⟩)
/-- what may be passed as sizes, games, rounds -/
inductive PassT (sz : List Nat) (gs : List (Nat × Nat)) (rows : List Rw) : S → S → S → Prop
  | l : PassT sz gs rows (.dat (.lst (dN sz))) (.dat (.dic (gD gs))) (.dat (.lst (rows.map rD)))
  | t : PassT sz gs rows (.dat (.tup (dN sz))) (.dat (.dic (gD gs))) (.dat (.tup (rows.map rD)))
  | m : PassT sz gs rows (.dat (.tup (dN sz))) (.dat (.dic (gD gs))) (.dat (.lst (rows.map rD)))
  | v : PassT sz gs rows (.vw (.one (.lst (dN sz)))) (.vw (.one (.dK (gD gs)))) (.vw (.nest (rows.map rI)))
def C_Table___init (K : PySem.W.Frag) (C : Addr) : Fc := fun _ W m ss Φ Ξ => ∃ (a : Addr) (L : Ins K W a C) (sz : List Nat) (gs : List (Nat × Nat)) (rows : List Rw) (s1 s2 s3 : S), ss = [.at_ a, s1, s2, s3] ∧ PassT sz gs rows s1 s2 s3 ∧ L.get m = [] ∧ Good sz gs ∧ 1 ≤ rows.length ∧ rows.length ≤ 130 ∧ (∀ r ∈ rows, RwOk (AK sz gs) r) ∧ Φ (L.put m (tabF sz (srG gs) (rows.map (ck (AK sz gs))))) (.dat .non)
abbrev s_Table___init : Stmt := (inClass (top 41) 0)
abbrev N_Table___init : List Str := ["self", "sizes", "games", "rounds", "kinds", "size", "row"]
theorem sc_Table___init : FnScope N_Table___init ["self", "sizes", "games", "rounds"] (defScope s_Table___init) := ⟨rfl, rfl, rfl, by decide +kernel, rfl, by decide +kernel, by decide +kernel⟩
theorem ok_Table___init (F : FunD K "__init__" "Table.__init__" (defArgs s_Table___init) (defBody s_Table___init) (defScope s_Table___init) [] [] f fd) (b : BI mg) (i_Table : Ci K a_Table ["own_sizes", "own_games", "rows"]) (k_MOST_ROUNDS : ∃ u, mg "MOST_ROUNDS" = some u ∧ RelV (.int 130) u) (x_BadRounds : Xc P w K mg base "BadRounds" a_BadRounds ["value"]) (c_check_setting : Cl P w K mg base (L2.CX P w) 4 "check_setting" ["sizes", "games"] C_check_setting) (c_is_list : Cl P w K mg base CX0 1 "is_list" ["value"] C_is_list) (c_all_kinds : Cl P w K mg base (L2.CX P w) 5 "all_kinds" ["sizes", "games"] C_all_kinds) (c_checked_round : Cl P w K mg base (L2.CX P w) 3 "checked_round" ["kinds", "row"] C_checked_round) : FnOk P w K mg base (L2.CX P w) 6 f fd ["self", "sizes", "games", "rounds"] (spF K (C_Table___init K a_Table)) := by
  have hlen := spF_len (K := K) (C := (C_Table___init K a_Table)) (m := 4) fun κ W m ss Φ Ξ ⟨a, L, sz, gs, rows, s1, s2, s3, e, _⟩ => by first | exact e | (rw [e]; rfl)
  refine F.ok sc_Table___init hlen ?_
  intro cdv A outer s H vs Q E hr h
  refine ⟨_, (pss_cons (ps_expr (k_cl c_check_setting rfl hr (passes_call (takes_of rfl rfl rfl rfl) (fun _ _ _ _ h => h)) (pa_cons (pv 1) (pa_cons (pv 2) pa_nil))))
      (pss_cons (ps_if (PW.pt (pw_or (pt_not (pt_val (k_cl0 c_is_list rfl hr (pa_cons (pv 3) pa_nil)))) (pw_or1 (pt_not (pt_chain op_le op_le pe_int (pe_callB (k_len (K := K) rfl) rfl b.len boot_len (pa_cons (pv 3) pa_nil)) (C8.pe_gc rfl k_MOST_ROUNDS)))))) (pss_one (raiseX x_BadRounds hr (takes_of rfl rfl rfl rfl) (pa_cons (pv 3) pa_nil))) pss_nil)
      (pss_cons (ps_if (pt_not (pt_val (pe_callB (k_all (K := K) rfl rfl) rfl b.all boot_all (pa_cons (pe_lc (own := [("row", 6)]) rfl sc_Table___init.nd (k_piS (K := K) rfl (pv 3)) (blkOk_by (own := [("row", 6)]) (N := N_Table___init) (sc := (defScope s_Table___init)) (by decide +kernel)) (fun _ _ _ _ _ => (pg_name (i := 6) sc_Table___init.nd rfl (by first | exact Or.inl rfl | exact Or.inr rfl))) (fun _ _ _ _ _ => pts_nil) (fun _ _ _ _ _ => (pe_callB (k_isi (K := K) rfl) rfl b.isinstance boot_isinstance (pa_cons (pv 6) (pa_cons (pe_bltn (v := .ty "dict") rfl b.dict_ boot_dict rfl) pa_nil))))) pa_nil)))) (pss_one (raiseX x_BadRounds hr (takes_of rfl rfl rfl rfl) (pa_cons (pv 3) pa_nil))) pss_nil)
      (pss_cons (ps_set (i := 4) sc_Table___init.nd rfl (by first | exact Or.inl rfl | exact Or.inr rfl) (k_cl c_all_kinds rfl hr (passes_call (takes_of rfl rfl rfl rfl) (fun _ _ _ _ h => h)) (pa_cons (pv 1) (pa_cons (pv 2) pa_nil))))
      (pss_cons (k_sfld (K := K) rfl (pv 0) (pe_callTy (k_tupleOf (K := K) rfl) rfl b.tuple_ boot_tuple (pa_cons (pv 1) pa_nil)))
      (pss_cons (k_sfld (K := K) rfl (pv 0) (pe_dc (own := [("size", 5)]) rfl sc_Table___init.nd (k_piL (K := K) rfl (pe_callB (call_sortedDI rfl) rfl b.sorted boot_sorted (pa_cons (pv 2) pa_nil))) (blkOk_by (own := [("size", 5)]) (N := N_Table___init) (sc := (defScope s_Table___init)) (by decide +kernel)) (fun _ _ _ _ _ => (pg_name (i := 5) sc_Table___init.nd rfl (by first | exact Or.inl rfl | exact Or.inr rfl))) (fun _ _ _ _ _ => pts_nil) (fun _ _ _ _ _ => (pv 5)) (fun _ _ _ _ _ => (pe_dget (hu_of hr) (pv 2) (pv 5) (fun _ _ => rfl)))))
      (pss_one (k_sfld (K := K) rfl (pv 0) (pe_lc (own := [("row", 6)]) rfl sc_Table___init.nd (k_piS (K := K) rfl (pv 3)) (blkOk_by (own := [("row", 6)]) (N := N_Table___init) (sc := (defScope s_Table___init)) (by decide +kernel)) (fun _ _ _ _ _ => (pg_name (i := 6) sc_Table___init.nd rfl (by first | exact Or.inl rfl | exact Or.inr rfl))) (fun _ _ _ _ _ => pts_nil) (fun _ _ _ _ _ => (k_clL c_checked_round rfl hr (pa_cons (pv 4) (pa_cons (pv 6) pa_nil))))))))))))), ?_⟩
  refine DL.run_fnP  [.no, .no, .no] (Nm := N_Table___init) (n := 4) (k := 3) rfl (hlen _ _ _ _ h) rfl h fun κ W m ss Φ Ξ G hc => ?_
  try dsimp only [cxOf, Cx.nox, Cx.wish, Cx.blk]
  obtain ⟨a, L, sz, gs, rows, s1, s2, s3, rfl, hp, h0, hgd, r1, r2, hrw, hΦ⟩ := hc
  obtain ⟨hz, hg, ht⟩ := id hgd
  cases hp
  · walk_at "l"
    refine fun Hs hs => ⟨_, sz, gs, rfl, .inl rfl, hgd, rfl, ?_⟩
    walk_at "l"
    refine fun Hs hs => ⟨_, true, rfl, ⟨rfl, fun _ z => by cases z⟩, rfl, rfl, ?_⟩
    walk_at "l"
    rw [List.length_map]
    rw [show decide ((1 : Int) ≤ (rows.length : Nat)) = true by simp; omega]
    walk_at "l"
    rw [show decide (((rows.length : Nat) : Int) ≤ 130) = true by simp; omega]
    walk_at "l"
    refine de_lcMap (f := fun _ => .bl true) ?_
    walk_at "l"
    refine ⟨by rw [List.length_map]; omega, fun d hd => ⟨_, dg_name (by simp), ?_⟩, ?_⟩
    · obtain ⟨r, _, rfl⟩ := List.mem_map.mp hd
      exact de_isiD (de_varD (by with_unfolding_all rfl) ⟨_, true, rfl, rfl, rfl, rfl, rfl⟩)
    walk_at "l"
    refine cb_allT ?_
    walk_at "l"
    refine fun Hs hs => ⟨_, sz, gs, rfl, .inl rfl, hgd, flat_AK sz gs, ?_⟩
    refine ⟨rfl, ?_⟩
    refine ds_frz (i := 4) rfl ?_
    refine ds_seq ?_
    refine ds_fld L rfl i_Table.cl (i_Table.no _ (by simp)) ?_
    walk_at "l"
    refine cb_tuple (.inl rfl) ?_
    walk_at "l"
    rw [h0]
    refine ⟨by decide, ?_⟩
    refine ds_seq ?_
    refine ds_fld L rfl i_Table.cl (i_Table.no _ (by simp)) ?_
    refine de_dc ?_
    walk_at "l"
    have l2 := hg.l2
    refine cb_sortedK (ks := gs.map fun p => (p.1 : Int)) rfl (gD_keys gs) (by simp; omega) ?_
    walk_at "l"
    rw [ks_int, List.map_map]
    refine ⟨by rw [List.length_map, ks_len]; omega, fun i m2 acc => m2 = L.put m (putD' "own_sizes" (.tup (dN sz)) []) ∧ acc = gD (((ks gs).take i).map fun k => (k, (gv gs k).getD 0)), ⟨rfl, rfl⟩, ?_, ?_⟩
    · rintro i d m2 acc hd ⟨rfl, rfl⟩
      rw [List.getElem?_map] at hd
      cases hk : (ks gs)[i]? with
      | none => rw [hk] at hd; cases hd
      | some k =>
        rw [hk] at hd
        obtain rfl : D.int (k : Nat) = d := by simpa using hd
        obtain ⟨v, htv⟩ := ks_mem.mp (List.mem_of_getElem? hk)
        have gk := gv_mem hg.nd htv
        refine ⟨_, dg_name (by simp), ?_⟩
        walk_at "l"
        refine ⟨Sum.inl (k : Int), rfl, ?_⟩
        walk_at "l"
        refine ⟨_, _, _, rfl, rfl, look_g hg.nd htv, ?_⟩
        refine ⟨_, rfl, rfl, ?_⟩
        have nd := ks_nodup hg.nd
        have nin : k ∉ (((ks gs).take i).map fun k => (k, (gv gs k).getD 0)).map (·.1) := by
          rw [List.map_map]
          intro z
          obtain ⟨j, hj, e⟩ := List.mem_map.mp z
          have e : j = k := e
          subst e
          rw [← List.take_append_drop i (ks gs), List.nodup_append] at nd
          refine nd.2.2 j hj j ?_ rfl
          rw [List.mem_iff_getElem?]
          exact ⟨0, by rw [List.getElem?_drop]; exact hk⟩
        rw [putD_new nin, List.take_add_one, hk]
        simp [gk]
    · rintro m2 acc ⟨rfl, rfl⟩
      rw [List.length_map, List.take_length, L.gp]
      refine ⟨_, rfl, by show 1 < 1000; decide, ?_⟩
      rw [L.pp, show O.frz (.dK (gD ((ks gs).map fun k => (k, (gv gs k).getD 0)))) = .dic (gD (srG gs)) from rfl, tb_two]
      dsimp only [List.set_cons_zero, List.set_cons_succ]
      refine ds_fld L rfl i_Table.cl (i_Table.no _ (by simp)) ?_
      refine de_lcMap (f := fun d => rD (ck (AK sz gs) (decRw d))) ?_
      walk_at "l"
      refine ⟨by rw [List.length_map]; omega, fun d hd => ⟨_, dg_name (by simp), ?_⟩, ?_⟩
      · obtain ⟨r, hr2, rfl⟩ := List.mem_map.mp hd
        walk_at "l"
        refine fun Hs hs => ⟨AK sz gs, r, rfl, hrw r hr2, AK_nodup hg.nd, fun k hk => AK_ne hz hk, Nat.le_trans (AK_len hz.2.2 hg.l2) (by decide), flat_rT _, ?_⟩
        rw [decRw_eq]
        exact ⟨rfl, rfl⟩
      · rw [L.gp]
        have e : ((rows.map rD).map fun d => rD (ck (AK sz gs) (decRw d))) = (rows.map (ck (AK sz gs))).map rD := by
          rw [List.map_map, List.map_map]
          apply List.map_congr_left
          intro r _
          show rD (ck (AK sz gs) (decRw (rD r))) = rD (ck (AK sz gs) r)
          rw [decRw_eq]
        rw [e]
        refine ⟨_, rfl, by show 2 < 1000; decide, ?_⟩
        rw [L.pp]
        have hm : Φ (L.put m (putD' "rows" (.lst ((rows.map (ck (AK sz gs))).map rD)) [(("own_sizes" : Str), D.tup (dN sz)), (("own_games" : Str), D.dic (gD (srG gs)))])) (.dat .non) := by
          rw [tb_make]; exact hΦ
        exact hm
  · walk_at "l"
    refine fun Hs hs => ⟨_, sz, gs, rfl, .inr rfl, hgd, rfl, ?_⟩
    walk_at "l"
    refine fun Hs hs => ⟨_, true, rfl, ⟨rfl, fun _ z => by cases z⟩, rfl, rfl, ?_⟩
    walk_at "l"
    rw [List.length_map]
    rw [show decide ((1 : Int) ≤ (rows.length : Nat)) = true by simp; omega]
    walk_at "l"
    rw [show decide (((rows.length : Nat) : Int) ≤ 130) = true by simp; omega]
    walk_at "l"
    refine de_lcMap (f := fun _ => .bl true) ?_
    walk_at "l"
    refine ⟨by rw [List.length_map]; omega, fun d hd => ⟨_, dg_name (by simp), ?_⟩, ?_⟩
    · obtain ⟨r, _, rfl⟩ := List.mem_map.mp hd
      exact de_isiD (de_varD (by with_unfolding_all rfl) ⟨_, true, rfl, rfl, rfl, rfl, rfl⟩)
    walk_at "l"
    refine cb_allT ?_
    walk_at "l"
    refine fun Hs hs => ⟨_, sz, gs, rfl, .inr rfl, hgd, flat_AK sz gs, ?_⟩
    refine ⟨rfl, ?_⟩
    refine ds_frz (i := 4) rfl ?_
    refine ds_seq ?_
    refine ds_fld L rfl i_Table.cl (i_Table.no _ (by simp)) ?_
    walk_at "l"
    refine cb_tuple (.inr rfl) ?_
    walk_at "l"
    rw [h0]
    refine ⟨by decide, ?_⟩
    refine ds_seq ?_
    refine ds_fld L rfl i_Table.cl (i_Table.no _ (by simp)) ?_
    refine de_dc ?_
    walk_at "l"
    have l2 := hg.l2
    refine cb_sortedK (ks := gs.map fun p => (p.1 : Int)) rfl (gD_keys gs) (by simp; omega) ?_
    walk_at "l"
    rw [ks_int, List.map_map]
    refine ⟨by rw [List.length_map, ks_len]; omega, fun i m2 acc => m2 = L.put m (putD' "own_sizes" (.tup (dN sz)) []) ∧ acc = gD (((ks gs).take i).map fun k => (k, (gv gs k).getD 0)), ⟨rfl, rfl⟩, ?_, ?_⟩
    · rintro i d m2 acc hd ⟨rfl, rfl⟩
      rw [List.getElem?_map] at hd
      cases hk : (ks gs)[i]? with
      | none => rw [hk] at hd; cases hd
      | some k =>
        rw [hk] at hd
        obtain rfl : D.int (k : Nat) = d := by simpa using hd
        obtain ⟨v, htv⟩ := ks_mem.mp (List.mem_of_getElem? hk)
        have gk := gv_mem hg.nd htv
        refine ⟨_, dg_name (by simp), ?_⟩
        walk_at "l"
        refine ⟨Sum.inl (k : Int), rfl, ?_⟩
        walk_at "l"
        refine ⟨_, _, _, rfl, rfl, look_g hg.nd htv, ?_⟩
        refine ⟨_, rfl, rfl, ?_⟩
        have nd := ks_nodup hg.nd
        have nin : k ∉ (((ks gs).take i).map fun k => (k, (gv gs k).getD 0)).map (·.1) := by
          rw [List.map_map]
          intro z
          obtain ⟨j, hj, e⟩ := List.mem_map.mp z
          have e : j = k := e
          subst e
          rw [← List.take_append_drop i (ks gs), List.nodup_append] at nd
          refine nd.2.2 j hj j ?_ rfl
          rw [List.mem_iff_getElem?]
          exact ⟨0, by rw [List.getElem?_drop]; exact hk⟩
        rw [putD_new nin, List.take_add_one, hk]
        simp [gk]
    · rintro m2 acc ⟨rfl, rfl⟩
      rw [List.length_map, List.take_length, L.gp]
      refine ⟨_, rfl, by show 1 < 1000; decide, ?_⟩
      rw [L.pp, show O.frz (.dK (gD ((ks gs).map fun k => (k, (gv gs k).getD 0)))) = .dic (gD (srG gs)) from rfl, tb_two]
      dsimp only [List.set_cons_zero, List.set_cons_succ]
      refine ds_fld L rfl i_Table.cl (i_Table.no _ (by simp)) ?_
      refine de_lcMap (f := fun d => rD (ck (AK sz gs) (decRw d))) ?_
      walk_at "l"
      refine ⟨by rw [List.length_map]; omega, fun d hd => ⟨_, dg_name (by simp), ?_⟩, ?_⟩
      · obtain ⟨r, hr2, rfl⟩ := List.mem_map.mp hd
        walk_at "l"
        refine fun Hs hs => ⟨AK sz gs, r, rfl, hrw r hr2, AK_nodup hg.nd, fun k hk => AK_ne hz hk, Nat.le_trans (AK_len hz.2.2 hg.l2) (by decide), flat_rT _, ?_⟩
        rw [decRw_eq]
        exact ⟨rfl, rfl⟩
      · rw [L.gp]
        have e : ((rows.map rD).map fun d => rD (ck (AK sz gs) (decRw d))) = (rows.map (ck (AK sz gs))).map rD := by
          rw [List.map_map, List.map_map]
          apply List.map_congr_left
          intro r _
          show rD (ck (AK sz gs) (decRw (rD r))) = rD (ck (AK sz gs) r)
          rw [decRw_eq]
        rw [e]
        refine ⟨_, rfl, by show 2 < 1000; decide, ?_⟩
        rw [L.pp]
        have hm : Φ (L.put m (putD' "rows" (.lst ((rows.map (ck (AK sz gs))).map rD)) [(("own_sizes" : Str), D.tup (dN sz)), (("own_games" : Str), D.dic (gD (srG gs)))])) (.dat .non) := by
          rw [tb_make]; exact hΦ
        exact hm
  · walk_at "l"
    refine fun Hs hs => ⟨_, sz, gs, rfl, .inr rfl, hgd, rfl, ?_⟩
    walk_at "l"
    refine fun Hs hs => ⟨_, true, rfl, ⟨rfl, fun _ z => by cases z⟩, rfl, rfl, ?_⟩
    walk_at "l"
    rw [List.length_map]
    rw [show decide ((1 : Int) ≤ (rows.length : Nat)) = true by simp; omega]
    walk_at "l"
    rw [show decide (((rows.length : Nat) : Int) ≤ 130) = true by simp; omega]
    walk_at "l"
    refine de_lcMap (f := fun _ => .bl true) ?_
    walk_at "l"
    refine ⟨by rw [List.length_map]; omega, fun d hd => ⟨_, dg_name (by simp), ?_⟩, ?_⟩
    · obtain ⟨r, _, rfl⟩ := List.mem_map.mp hd
      exact de_isiD (de_varD (by with_unfolding_all rfl) ⟨_, true, rfl, rfl, rfl, rfl, rfl⟩)
    walk_at "l"
    refine cb_allT ?_
    walk_at "l"
    refine fun Hs hs => ⟨_, sz, gs, rfl, .inr rfl, hgd, flat_AK sz gs, ?_⟩
    refine ⟨rfl, ?_⟩
    refine ds_frz (i := 4) rfl ?_
    refine ds_seq ?_
    refine ds_fld L rfl i_Table.cl (i_Table.no _ (by simp)) ?_
    walk_at "l"
    refine cb_tuple (.inr rfl) ?_
    walk_at "l"
    rw [h0]
    refine ⟨by decide, ?_⟩
    refine ds_seq ?_
    refine ds_fld L rfl i_Table.cl (i_Table.no _ (by simp)) ?_
    refine de_dc ?_
    walk_at "l"
    have l2 := hg.l2
    refine cb_sortedK (ks := gs.map fun p => (p.1 : Int)) rfl (gD_keys gs) (by simp; omega) ?_
    walk_at "l"
    rw [ks_int, List.map_map]
    refine ⟨by rw [List.length_map, ks_len]; omega, fun i m2 acc => m2 = L.put m (putD' "own_sizes" (.tup (dN sz)) []) ∧ acc = gD (((ks gs).take i).map fun k => (k, (gv gs k).getD 0)), ⟨rfl, rfl⟩, ?_, ?_⟩
    · rintro i d m2 acc hd ⟨rfl, rfl⟩
      rw [List.getElem?_map] at hd
      cases hk : (ks gs)[i]? with
      | none => rw [hk] at hd; cases hd
      | some k =>
        rw [hk] at hd
        obtain rfl : D.int (k : Nat) = d := by simpa using hd
        obtain ⟨v, htv⟩ := ks_mem.mp (List.mem_of_getElem? hk)
        have gk := gv_mem hg.nd htv
        refine ⟨_, dg_name (by simp), ?_⟩
        walk_at "l"
        refine ⟨Sum.inl (k : Int), rfl, ?_⟩
        walk_at "l"
        refine ⟨_, _, _, rfl, rfl, look_g hg.nd htv, ?_⟩
        refine ⟨_, rfl, rfl, ?_⟩
        have nd := ks_nodup hg.nd
        have nin : k ∉ (((ks gs).take i).map fun k => (k, (gv gs k).getD 0)).map (·.1) := by
          rw [List.map_map]
          intro z
          obtain ⟨j, hj, e⟩ := List.mem_map.mp z
          have e : j = k := e
          subst e
          rw [← List.take_append_drop i (ks gs), List.nodup_append] at nd
          refine nd.2.2 j hj j ?_ rfl
          rw [List.mem_iff_getElem?]
          exact ⟨0, by rw [List.getElem?_drop]; exact hk⟩
        rw [putD_new nin, List.take_add_one, hk]
        simp [gk]
    · rintro m2 acc ⟨rfl, rfl⟩
      rw [List.length_map, List.take_length, L.gp]
      refine ⟨_, rfl, by show 1 < 1000; decide, ?_⟩
      rw [L.pp, show O.frz (.dK (gD ((ks gs).map fun k => (k, (gv gs k).getD 0)))) = .dic (gD (srG gs)) from rfl, tb_two]
      dsimp only [List.set_cons_zero, List.set_cons_succ]
      refine ds_fld L rfl i_Table.cl (i_Table.no _ (by simp)) ?_
      refine de_lcMap (f := fun d => rD (ck (AK sz gs) (decRw d))) ?_
      walk_at "l"
      refine ⟨by rw [List.length_map]; omega, fun d hd => ⟨_, dg_name (by simp), ?_⟩, ?_⟩
      · obtain ⟨r, hr2, rfl⟩ := List.mem_map.mp hd
        walk_at "l"
        refine fun Hs hs => ⟨AK sz gs, r, rfl, hrw r hr2, AK_nodup hg.nd, fun k hk => AK_ne hz hk, Nat.le_trans (AK_len hz.2.2 hg.l2) (by decide), flat_rT _, ?_⟩
        rw [decRw_eq]
        exact ⟨rfl, rfl⟩
      · rw [L.gp]
        have e : ((rows.map rD).map fun d => rD (ck (AK sz gs) (decRw d))) = (rows.map (ck (AK sz gs))).map rD := by
          rw [List.map_map, List.map_map]
          apply List.map_congr_left
          intro r _
          show rD (ck (AK sz gs) (decRw (rD r))) = rD (ck (AK sz gs) r)
          rw [decRw_eq]
        rw [e]
        refine ⟨_, rfl, by show 2 < 1000; decide, ?_⟩
        rw [L.pp]
        have hm : Φ (L.put m (putD' "rows" (.lst ((rows.map (ck (AK sz gs))).map rD)) [(("own_sizes" : Str), D.tup (dN sz)), (("own_games" : Str), D.dic (gD (srG gs)))])) (.dat .non) := by
          rw [tb_make]; exact hΦ
        exact hm
  · walk_at "l"
    refine fun Hs hs => ⟨_, sz, gs, rfl, .inl rfl, hgd, rfl, ?_⟩
    walk_at "l"
    refine fun Hs hs => ⟨_, true, rfl, ⟨rfl, fun _ z => by cases z⟩, rfl, rfl, ?_⟩
    walk_at "l"
    refine cb_lenN ?_
    walk_at "l"
    rw [List.length_map]
    rw [show decide ((1 : Int) ≤ (rows.length : Nat)) = true by simp; omega]
    walk_at "l"
    rw [show decide (((rows.length : Nat) : Int) ≤ 130) = true by simp; omega]
    walk_at "l"
    refine de_lcVS (ss := rows.map fun r => S.vw (.one (.dT (rT r)))) (fun _ => .bl true) rfl (by simp [S.items?, rI, List.map_map, Function.comp_def]) (by rw [List.length_map]; omega) (fun j s hj => ⟨rfl, ?_⟩) ?_
    · rw [List.getElem?_map] at hj
      cases hr : rows[j]? with
      | none => rw [hr] at hj; cases hj
      | some r =>
        rw [hr] at hj
        cases hj
        exact de_isiV (de_varV (by with_unfolding_all rfl) ⟨_, true, rfl, rfl, rfl, rfl⟩)
    walk_at "l"
    refine cb_allT ?_
    walk_at "l"
    refine fun Hs hs => ⟨_, sz, gs, rfl, .inl rfl, hgd, flat_AK sz gs, ?_⟩
    refine ⟨rfl, ?_⟩
    refine ds_frz (i := 4) rfl ?_
    refine ds_seq ?_
    refine ds_fld L rfl i_Table.cl (i_Table.no _ (by simp)) ?_
    walk_at "l"
    refine cb_tuple (.inl rfl) ?_
    walk_at "l"
    rw [h0]
    refine ⟨by decide, ?_⟩
    refine ds_seq ?_
    refine ds_fld L rfl i_Table.cl (i_Table.no _ (by simp)) ?_
    refine de_dc ?_
    walk_at "l"
    have l2 := hg.l2
    refine cb_sortedK (ks := gs.map fun p => (p.1 : Int)) rfl (gD_keys gs) (by simp; omega) ?_
    walk_at "l"
    rw [ks_int, List.map_map]
    refine ⟨by rw [List.length_map, ks_len]; omega, fun i m2 acc => m2 = L.put m (putD' "own_sizes" (.tup (dN sz)) []) ∧ acc = gD (((ks gs).take i).map fun k => (k, (gv gs k).getD 0)), ⟨rfl, rfl⟩, ?_, ?_⟩
    · rintro i d m2 acc hd ⟨rfl, rfl⟩
      rw [List.getElem?_map] at hd
      cases hk : (ks gs)[i]? with
      | none => rw [hk] at hd; cases hd
      | some k =>
        rw [hk] at hd
        obtain rfl : D.int (k : Nat) = d := by simpa using hd
        obtain ⟨v, htv⟩ := ks_mem.mp (List.mem_of_getElem? hk)
        have gk := gv_mem hg.nd htv
        refine ⟨_, dg_name (by simp), ?_⟩
        walk_at "l"
        refine ⟨Sum.inl (k : Int), rfl, ?_⟩
        walk_at "l"
        refine ⟨_, _, _, rfl, rfl, look_g hg.nd htv, ?_⟩
        refine ⟨_, rfl, rfl, ?_⟩
        have nd := ks_nodup hg.nd
        have nin : k ∉ (((ks gs).take i).map fun k => (k, (gv gs k).getD 0)).map (·.1) := by
          rw [List.map_map]
          intro z
          obtain ⟨j, hj, e⟩ := List.mem_map.mp z
          have e : j = k := e
          subst e
          rw [← List.take_append_drop i (ks gs), List.nodup_append] at nd
          refine nd.2.2 j hj j ?_ rfl
          rw [List.mem_iff_getElem?]
          exact ⟨0, by rw [List.getElem?_drop]; exact hk⟩
        rw [putD_new nin, List.take_add_one, hk]
        simp [gk]
    · rintro m2 acc ⟨rfl, rfl⟩
      rw [List.length_map, List.take_length, L.gp]
      refine ⟨_, rfl, by show 1 < 1000; decide, ?_⟩
      rw [L.pp, show O.frz (.dK (gD ((ks gs).map fun k => (k, (gv gs k).getD 0)))) = .dic (gD (srG gs)) from rfl, tb_two]
      dsimp only [List.set_cons_zero, List.set_cons_succ]
      refine ds_fld L rfl i_Table.cl (i_Table.no _ (by simp)) ?_
      refine de_lcVS (ss := rows.map fun r => S.vw (.one (.dT (rT r)))) (fun j => rD (ck (AK sz gs) (rows.getD j []))) rfl (by simp [S.items?, rI, List.map_map, Function.comp_def]) (by rw [List.length_map]; omega) (fun j s hj => ⟨rfl, ?_⟩) ?_
      · rw [List.getElem?_map] at hj
        cases hr : rows[j]? with
        | none => rw [hr] at hj; cases hj
        | some r =>
          rw [hr] at hj
          cases hj
          have hr2 := List.mem_of_getElem? hr
          walk_at "l"
          refine fun Hs hs => ⟨AK sz gs, r, rfl, hrw r hr2, AK_nodup hg.nd, fun k hk => AK_ne hz hk, Nat.le_trans (AK_len hz.2.2 hg.l2) (by decide), flat_rT _, ?_⟩
          rw [List.getD_eq_getElem?_getD, hr]
          exact ⟨rfl, rfl⟩
      · rw [L.gp]
        have e : ((List.range (rows.map fun r => S.vw (.one (.dT (rT r)))).length).map fun j => rD (ck (AK sz gs) (rows.getD j []))) = (rows.map (ck (AK sz gs))).map rD := by
          rw [List.length_map, List.map_map]
          apply List.ext_getElem
          · simp
          · intro j h1 h2
            simp at h1
            simp [h1]
        rw [e]
        refine ⟨_, rfl, by show 2 < 1000; decide, ?_⟩
        rw [L.pp]
        have hm : Φ (L.put m (putD' "rows" (.lst ((rows.map (ck (AK sz gs))).map rD)) [(("own_sizes" : Str), D.tup (dN sz)), (("own_games" : Str), D.dic (gD (srG gs)))])) (.dat .non) := by
          rw [tb_make]; exact hΦ
        exact hm
end
end Pf
set_option Elab.async false
set_option linter.all false
set_option maxRecDepth 100000
set_option maxHeartbeats 1000000
namespace Pf
open PySem PySem.Spec PyProof.Rows L2 DL
local macro_rules | `(tactic| walk_at "len") => `(tactic| with_unfolding_all first | exact Nat.le_of_ble_eq_true rfl | (simp; done) | (simp; omega))
local macro_rules | `(tactic| walk_at "side") => `(tactic| with_unfolding_all first | exact Or.inr ⟨by omega, by omega⟩ | exact Or.inl ⟨by omega, by omega⟩ | exact ⟨by omega, by omega⟩ | exact ⟨by omega, by omega, by omega⟩ | (show (0 : Int) < _; omega) | decide)
local macro_rules | `(tactic| walk_at "d1") => `(tactic| with_reducible first
  | (refine ds_seq ?_; try dsimp only [List.set_cons_zero, List.set_cons_succ, List.cons_append, List.nil_append, O.frz])
  | refine ds_asg ?_
  | refine ds_ret ?_
  | refine ds_retN ?_
  | refine ds_next ?_
  | refine ds_dropC ?_
  | refine ds_drop0 ?_
  | refine ds_dropB ?_
  | refine ds_if ?_
  | refine dt_test ?_
  | refine dt_B ?_
  | refine dt_not ?_
  | refine dt_and ?_
  | refine dt_or ?_
  | refine dt_yes ?_
  | refine de_int ?_
  | refine de_bl ?_
  | refine de_str ?_
  | refine de_non ?_
  | refine de_varD (by with_unfolding_all rfl) ?_
  | refine de_varO (by with_unfolding_all rfl) ?_
  | refine de_varA (by with_unfolding_all rfl) ?_
  | refine de_varV (by with_unfolding_all rfl) ?_
  | refine de_isi ?_
  | refine de_dget ?_
  | refine de_dget2 ?_
  | refine de_dnotin ?_
  | refine de_din ?_
  | refine de_dnew ?_
  | refine de_dnewT ?_
  | refine de_cb ?_
  | refine de_call0G ?_
  | refine de_callG ?_
  | refine de_andB ?_
  | refine de_orB ?_
  | refine de_notV ?_
  | refine de_ifE ?_
  | refine de_chain ?_
  | refine de_op ?_
  | refine de_neg ?_
  | refine de_tupG ?_
  | refine de_lstG ?_
  | refine de_slL ?_
  | refine de_slT ?_
  | refine do_none ?_
  | refine do_some ?_
  | refine daf_cons ?_
  | refine daf_nil ?_
  | refine daf_star ?_
  | refine da_cons ?_
  | refine da_nil ?_
  | refine lk_dat ?_
  | refine lk_nil ?_
  | refine ak_dat ?_
  | refine ak_nil ?_
  | refine ak_at ?_
  | refine ak_lst ?_
  | refine lk_lst ?_
  | refine ak_dK ?_
  | refine ak_dT ?_
  | refine ak_vw ?_
  | refine lk_dT ?_
  | refine lk_dK ?_
  | refine da_star ?_
  | refine de_lstRg1 ?_
  | refine de_lstRg2 ?_
  | refine de_revL ?_
  | refine de_count ?_
  | refine de_index ?_
  | refine di_enum ?_
  | refine dt_tru ?_
  | refine de_fld ?_
  | refine de_prop ?_
  | refine di_rng1 ?_
  | refine di_rng2 ?_
  | refine di_list ?_
  | refine di_tup ?_
  | refine di_seq ?_
  | refine di_zip ?_
  | refine de_split ?_
  | refine de_join ?_
  | refine de_fmt ?_
  | refine de_jnil ?_
  | refine de_jcons ?_
  | refine de_ixS ?_
  | refine de_orT ?_
  | refine di_str ?_
  | refine ops_eqS ?_
  | refine ops_neS ?_
  | refine de_indexD ?_
  | refine ops_int ?_
  | (refine ops_cat (by with_unfolding_all rfl) (by with_unfolding_all rfl) ?side ?_; (case side => walk_at "len"))
  | (refine ops_catA ?side ?_; (case side => walk_at "len"))
  | refine ops_eqI ?_
  | refine ops_neI ?_
  | refine ops_bool ?_
  | (refine ops_intC ?side ?_; (case side => walk_at "side"))
  | refine cb_lenL (by with_unfolding_all rfl) ?_
  | refine cb_lenT (by with_unfolding_all rfl) ?_
  | refine cb_lenK (by with_unfolding_all rfl) ?_
  | refine cb_max2 ?_
  | refine cb_min2 ?_
  | refine cb_int ?_
  | refine ⟨fun _ => ?_, fun z => Bool.noConfusion z⟩
  | refine ⟨fun z => Bool.noConfusion z, fun _ => ?_⟩
  | refine ⟨rfl, ?_⟩
  | refine ⟨_, rfl, ?_⟩
  | refine ⟨_, Or.inl (by with_unfolding_all rfl), ?_⟩
  | (with_unfolding_all refine ⟨_, true, rfl, rfl, (fun _ z => by cases z), rfl, ?_⟩)
  | (with_unfolding_all refine ⟨_, false, rfl, rfl, (fun _ z => by cases z), rfl, ?_⟩))
local macro_rules | `(tactic| walk_at "d") => `(tactic| repeat walk_at "d1")
local macro_rules | `(tactic| walk_at "wk") => `(tactic| repeat first | exact Wk.nil | refine Wk.keep ?_ | refine Wk.drop ?_)
section
variable {P : Program} {w : World} {K : PySem.W.Frag} {mg : Str → Option Value} {base : Heap} {f : Addr} {fd : FuncData} {a_Table a_BadRound a_BadIndex a_BadKind a_BadNumber : Addr}
theorem atI_row {ds : List D} {i : Nat} {d : D} (h : ds[i]? = some d) : atI ds (i : Nat) = some d := by
  obtain ⟨h1, _⟩ := List.getElem?_eq_some_iff.mp h
  unfold atI
  rw [show ixN ds.length ((i : Nat) : Int) = some i by unfold ixN; simp [h1]]
  exact h
def C_Table_sizes (C : Addr) : Fc := fun _ W m ss Φ Ξ => ∃ sz gs rows, ss = [.dat (.ins C (tabF sz gs rows))] ∧ Φ m (.dat (.tup (dN sz)))
abbrev s_Table_sizes : Stmt := (inClass (top 41) 1)
abbrev N_Table_sizes : List Str := ["self"]
theorem sc_Table_sizes : FnScope N_Table_sizes ["self"] (defScope s_Table_sizes) := ⟨rfl, rfl, rfl, by decide +kernel, rfl, by decide +kernel, by decide +kernel⟩
theorem ok_Table_sizes (F : FunD K "sizes" "Table.sizes" (defArgs s_Table_sizes) (defBody s_Table_sizes) (defScope s_Table_sizes) [] [] f fd) (b : BI mg) (i_Table : Ci K a_Table ["own_sizes", "own_games", "rows"]) : FnOk P w K mg base CX0 1 f fd ["self"] (spF K (C_Table_sizes a_Table)) := by
  have hlen := spF_len (K := K) (C := (C_Table_sizes a_Table)) (m := 1) fun κ W m ss Φ Ξ ⟨sz, gs, rows, e, _⟩ => by first | exact e | (rw [e]; rfl)
  refine F.ok sc_Table_sizes hlen ?_
  intro cdv A outer s H vs Q E hr h
  refine ⟨_, PSs.nox (pss_one (ps_ret (k_fld (K := K) rfl (pv 0)))), ?_⟩
  refine DL.run_fnP  [] (Nm := N_Table_sizes) (n := 1) (k := 0) rfl (hlen _ _ _ _ h) rfl h fun κ W m ss Φ Ξ G hc => ?_
  try dsimp only [cxOf, Cx.nox, Cx.wish, Cx.blk]
  obtain ⟨sz, gs, rows, rfl, hΦ⟩ := hc
  walk_at "d"
  exact ⟨_, _, _, rfl, i_Table.cl, i_Table.no _ (by simp), tb_sizes sz gs rows, rfl, hΦ⟩
end
end Pf
set_option Elab.async false
set_option linter.all false
set_option maxRecDepth 100000
set_option maxHeartbeats 1000000
namespace Pf
open PySem PySem.Spec PyProof.Rows L2 DL
local macro_rules | `(tactic| walk_at "len") => `(tactic| with_unfolding_all first | exact Nat.le_of_ble_eq_true rfl | (simp; done) | (simp; omega))
local macro_rules | `(tactic| walk_at "side") => `(tactic| with_unfolding_all first | exact Or.inr ⟨by omega, by omega⟩ | exact Or.inl ⟨by omega, by omega⟩ | exact ⟨by omega, by omega⟩ | exact ⟨by omega, by omega, by omega⟩ | (show (0 : Int) < _; omega) | decide)
local macro_rules | `(tactic| walk_at "d1") => `(tactic| with_reducible first
  | (refine ds_seq ?_; try dsimp only [List.set_cons_zero, List.set_cons_succ, List.cons_append, List.nil_append, O.frz])
  | refine ds_asg ?_
  | refine ds_ret ?_
  | refine ds_retN ?_
  | refine ds_next ?_
  | refine ds_dropC ?_
  | refine ds_drop0 ?_
  | refine ds_dropB ?_
  | refine ds_if ?_
  | refine dt_test ?_
  | refine dt_B ?_
  | refine dt_not ?_
  | refine dt_and ?_
  | refine dt_or ?_
  | refine dt_yes ?_
  | refine de_int ?_
  | refine de_bl ?_
  | refine de_str ?_
  | refine de_non ?_
  | refine de_varD (by with_unfolding_all rfl) ?_
  | refine de_varO (by with_unfolding_all rfl) ?_
  | refine de_varA (by with_unfolding_all rfl) ?_
  | refine de_varV (by with_unfolding_all rfl) ?_
  | refine de_isi ?_
  | refine de_dget ?_
  | refine de_dget2 ?_
  | refine de_dnotin ?_
  | refine de_din ?_
  | refine de_dnew ?_
  | refine de_dnewT ?_
  | refine de_cb ?_
  | refine de_call0G ?_
  | refine de_callG ?_
  | refine de_andB ?_
  | refine de_orB ?_
  | refine de_notV ?_
  | refine de_ifE ?_
  | refine de_chain ?_
  | refine de_op ?_
  | refine de_neg ?_
  | refine de_tupG ?_
  | refine de_lstG ?_
  | refine de_slL ?_
  | refine de_slT ?_
  | refine do_none ?_
  | refine do_some ?_
  | refine daf_cons ?_
  | refine daf_nil ?_
  | refine daf_star ?_
  | refine da_cons ?_
  | refine da_nil ?_
  | refine lk_dat ?_
  | refine lk_nil ?_
  | refine ak_dat ?_
  | refine ak_nil ?_
  | refine ak_at ?_
  | refine ak_lst ?_
  | refine lk_lst ?_
  | refine ak_dK ?_
  | refine ak_dT ?_
  | refine ak_vw ?_
  | refine lk_dT ?_
  | refine lk_dK ?_
  | refine da_star ?_
  | refine de_lstRg1 ?_
  | refine de_lstRg2 ?_
  | refine de_revL ?_
  | refine de_count ?_
  | refine de_index ?_
  | refine di_enum ?_
  | refine dt_tru ?_
  | refine de_fld ?_
  | refine de_prop ?_
  | refine di_rng1 ?_
  | refine di_rng2 ?_
  | refine di_list ?_
  | refine di_tup ?_
  | refine di_seq ?_
  | refine di_zip ?_
  | refine de_split ?_
  | refine de_join ?_
  | refine de_fmt ?_
  | refine de_jnil ?_
  | refine de_jcons ?_
  | refine de_ixS ?_
  | refine de_orT ?_
  | refine di_str ?_
  | refine ops_eqS ?_
  | refine ops_neS ?_
  | refine de_indexD ?_
  | refine ops_int ?_
  | (refine ops_cat (by with_unfolding_all rfl) (by with_unfolding_all rfl) ?side ?_; (case side => walk_at "len"))
  | (refine ops_catA ?side ?_; (case side => walk_at "len"))
  | refine ops_eqI ?_
  | refine ops_neI ?_
  | refine ops_bool ?_
  | (refine ops_intC ?side ?_; (case side => walk_at "side"))
  | refine cb_lenL (by with_unfolding_all rfl) ?_
  | refine cb_lenT (by with_unfolding_all rfl) ?_
  | refine cb_lenK (by with_unfolding_all rfl) ?_
  | refine cb_max2 ?_
  | refine cb_min2 ?_
  | refine cb_int ?_
  | refine ⟨fun _ => ?_, fun z => Bool.noConfusion z⟩
  | refine ⟨fun z => Bool.noConfusion z, fun _ => ?_⟩
  | refine ⟨rfl, ?_⟩
  | refine ⟨_, rfl, ?_⟩
  | refine ⟨_, Or.inl (by with_unfolding_all rfl), ?_⟩
  | (with_unfolding_all refine ⟨_, true, rfl, rfl, (fun _ z => by cases z), rfl, ?_⟩)
  | (with_unfolding_all refine ⟨_, false, rfl, rfl, (fun _ z => by cases z), rfl, ?_⟩))
local macro_rules | `(tactic| walk_at "d") => `(tactic| repeat walk_at "d1")
local macro_rules | `(tactic| walk_at "wk") => `(tactic| repeat first | exact Wk.nil | refine Wk.keep ?_ | refine Wk.drop ?_)
section
variable {P : Program} {w : World} {K : PySem.W.Frag} {mg : Str → Option Value} {base : Heap} {f : Addr} {fd : FuncData} {a_Table a_BadRound a_BadIndex a_BadKind a_BadNumber : Addr}
/-! ### == of rows of numbers -/
def eqK (r q : Rw) (k : List Key) : Bool := decide (rg r (k.map keyNat) = rg q (k.map keyNat))
def sameRw (r q : Rw) : Bool := (rT r).length == (rT q).length && (rT r).all fun p => ((rT q).any fun z => decide (z.1 = p.1)) && eqK r q p.1
def sameRows (rs qs : List Rw) : Bool := rs.length == qs.length && (List.zipWith sameRw rs qs).all id
theorem keyN_nat (k : List Nat) : (keyN k).map keyNat = k := by
  unfold keyN
  rw [List.map_map]
  conv => rhs; rw [← List.map_id k]
  apply List.map_congr_left
  intro x _
  simp [keyNat]
theorem rg_mem {r : Rw} (nd : (r.map (·.1)).Nodup) {k : List Nat} {n : Nat} (h : (k, n) ∈ r) : rg r k = some n := by
  unfold rg
  induction r with
  | nil => cases h
  | cons p r ih =>
    rw [List.map_cons, List.nodup_cons] at nd
    rw [List.find?_cons]
    rcases List.mem_cons.mp h with h | h
    · subst h
      simp
    · have : ¬ p.1 = k := fun z => nd.1 (by rw [z]; exact List.mem_map.mpr ⟨_, h, rfl⟩)
      simp only [this, decide_false]
      exact ih nd.2 h
theorem rT_mem {r : Rw} {k : List Key} {d : D} (h : (k, d) ∈ rT r) : ∃ t n, (t, n) ∈ r ∧ k = keyN t ∧ d = .int (n : Nat) := by
  obtain ⟨⟨t, n⟩, hp, e⟩ := List.mem_map.mp h
  cases e
  exact ⟨t, n, hp, rfl, rfl⟩
theorem eqd_rw {r q : Rw} (n1 : (r.map (·.1)).Nodup) (n2 : (q.map (·.1)).Nodup) : EqD 2 (rD r) (rD q) (sameRw r q) := by
  refine EqD.dit (eqK r q) fun k d e h1 h2 => ?_
  obtain ⟨t, n, m1, e1, rfl⟩ := rT_mem h1
  obtain ⟨u, j, m2, e2, rfl⟩ := rT_mem h2
  have tu : t = u := by rw [← keyN_nat t, ← e1, e2, keyN_nat]
  subst tu
  have := EqD.leaf (n := 1) (LeafD.int (n : Nat)) (LeafD.int (j : Nat))
  have e : PyData.eqv (.int (n : Nat)) (.int (j : Nat)) = eqK r q k := by
    unfold eqK
    rw [e1, keyN_nat, rg_mem n1 m1, rg_mem n2 m2]
    by_cases z : n = j
    · subst z; simp [PyData.eqv]
    · have z2 : ¬ ((n : Nat) : Int) = (j : Nat) := by omega
      simp [PyData.eqv, z, z2]
  rw [e] at this
  exact this
theorem eqd_rowsL {rs qs : List Rw} (n1 : ∀ r ∈ rs, (r.map (·.1)).Nodup) (n2 : ∀ r ∈ qs, (r.map (·.1)).Nodup) : EqD 3 (.lst (rs.map rD)) (.lst (qs.map rD)) (sameRows rs qs) := by
  have go : ∀ {rs qs : List Rw}, (∀ r ∈ rs, (r.map (·.1)).Nodup) → (∀ r ∈ qs, (r.map (·.1)).Nodup) → rs.length = qs.length → EqDs 2 (rs.map rD) (qs.map rD) (List.zipWith sameRw rs qs) := by
    intro rs
    induction rs with
    | nil => intro qs _ _ h; cases qs with
      | nil => exact .nil
      | cons _ _ => cases h
    | cons r rs ih => intro qs h1 h2 h; cases qs with
      | nil => cases h
      | cons q qs => exact .cons (eqd_rw (h1 r (by simp)) (h2 q (by simp))) (ih (fun x hx => h1 x (by simp [hx])) (fun x hx => h2 x (by simp [hx])) (by simpa using h))
  unfold sameRows
  by_cases h : rs.length = qs.length
  · rw [show (rs.length == qs.length) = true by simpa using h, Bool.true_and]
    exact .lst (go n1 n2 h)
  · rw [show (rs.length == qs.length) = false by simpa using h, Bool.false_and]
    exact .lstN (by rw [List.length_map, List.length_map]; exact h)
theorem sameRw_self (r : Rw) : sameRw r r = true := by
  unfold sameRw
  rw [Bool.and_eq_true]
  refine ⟨by simp, List.all_eq_true.mpr fun p hp => ?_⟩
  rw [Bool.and_eq_true]
  exact ⟨List.any_eq_true.mpr ⟨p, hp, by simp⟩, by simp [eqK]⟩
theorem sameRows_self (rs : List Rw) : sameRows rs rs = true := by
  unfold sameRows
  rw [Bool.and_eq_true]
  refine ⟨by simp, ?_⟩
  induction rs with
  | nil => rfl
  | cons r rs ih => rw [List.zipWith_cons_cons, List.all_cons, ih, sameRw_self]; rfl
theorem eqv_tD (u t : List Nat) : PyData.eqv (.tuple ((u.map fun n : Nat => (n : Int)).map PyData.int)) (.tuple ((t.map fun n : Nat => (n : Int)).map PyData.int)) = decide (u = t) := by
  unfold PyData.eqv
  rw [eqv_ints]
  by_cases e : u = t
  · subst e; simp
  · have : ¬ (u.map fun n : Nat => (n : Int)) = (t.map fun n : Nat => (n : Int)) := fun z => e (cast_inj.mp z)
    simp [e, this]
section
variable {ι : Type} {m : ι} {W : Wd ι} {Φ : ι → S → Prop}
theorem tD_shaped (t : List Nat) : SeqAt.shaped (.tuple ((t.map fun n : Nat => (n : Int)).map PyData.int)) = true := by
  obtain ⟨x, h1, h2⟩ := (tD_pl (n := 60) t).py
  rw [tD_py] at h1
  cases h1
  exact h2.shaped (by decide)
theorem ops_neT {s1 s2 : S} {u t : List Nat} (h1 : s1.view = some (tD u)) (h2 : s2.view = some (tD t)) (h : Φ m (.dat (.bl (!decide (u = t))))) : OpS K W m (rNeD K) s1 s2 Φ :=
  ops_neD h1 h2 (tD_py u) (tD_py t) (tD_shaped u) (tD_shaped t) (by rw [eqv_tD]; exact h)
end
def C_Table_rounds (C : Addr) : Fc := fun _ W m ss Φ Ξ => ∃ sz gs rows, ss = [.dat (.ins C (tabF sz gs rows))] ∧ rows.length ≤ 1000 ∧ (∀ r ∈ rows, ∀ w : World, ((rT r).map fun p => hashT w p.1).Nodup) ∧ Φ m (.own (.nest (rows.map rI)))
abbrev s_Table_rounds : Stmt := (inClass (top 41) 3)
abbrev N_Table_rounds : List Str := ["self", "row"]
theorem sc_Table_rounds : FnScope N_Table_rounds ["self"] (defScope s_Table_rounds) := ⟨rfl, rfl, rfl, by decide +kernel, rfl, by decide +kernel, by decide +kernel⟩
theorem ok_Table_rounds (F : FunD K "rounds" "Table.rounds" (defArgs s_Table_rounds) (defBody s_Table_rounds) (defScope s_Table_rounds) [] [] f fd) (b : BI mg) (i_Table : Ci K a_Table ["own_sizes", "own_games", "rows"]) : FnOk P w K mg base CX0 1 f fd ["self"] (spF K (C_Table_rounds a_Table)) := by
  have hlen := spF_len (K := K) (C := (C_Table_rounds a_Table)) (m := 1) fun κ W m ss Φ Ξ ⟨sz, gs, rows, e, _⟩ => by first | exact e | (rw [e]; rfl)
  refine F.ok sc_Table_rounds hlen ?_
  intro cdv A outer s H vs Q E hr h
  refine ⟨_, PSs.nox (pss_one (ps_ret (pe_lc (own := [("row", 1)]) rfl sc_Table_rounds.nd (k_piL (K := K) rfl (k_fld (K := K) rfl (pv 0))) (blkOk_by (own := [("row", 1)]) (N := N_Table_rounds) (sc := (defScope s_Table_rounds)) (by decide +kernel)) (fun _ _ _ _ _ => (pg_name (i := 1) sc_Table_rounds.nd rfl (by first | exact Or.inl rfl | exact Or.inr rfl))) (fun _ _ _ _ _ => pts_nil) (fun _ _ _ _ _ => (pe_callTy (k_dictT (w := w) rfl hr.units) rfl b.dict_ boot_dict (pa_cons (pv 1) pa_nil)))))), ?_⟩
  refine DL.run_fnP  [.no] (Nm := N_Table_rounds) (n := 1) (k := 1) rfl (hlen _ _ _ _ h) rfl h fun κ W m ss Φ Ξ G hc => ?_
  try dsimp only [cxOf, Cx.nox, Cx.wish, Cx.blk]
  obtain ⟨sz, gs, rows, rfl, hl, hh, hΦ⟩ := hc
  walk_at "d"
  refine de_lcNM (f := fun d => .dT (rT (decRw d))) ?_
  walk_at "d"
  refine ⟨_, _, _, rfl, i_Table.cl, i_Table.no _ (by simp), tb_rows sz gs rows, ?_⟩
  walk_at "d"
  refine ⟨by rw [List.length_map]; omega, fun d hd => ⟨_, dg_name (by simp), ?_⟩, ?_⟩
  · obtain ⟨r, hr, rfl⟩ := List.mem_map.mp hd
    walk_at "d"
    refine cb_dictT (ds := rT r) rfl (hh r hr _) ?_
    rw [decRw_eq]
    exact ⟨rfl, rfl⟩
  · have e : ((rows.map rD).map fun d => DL.It.o (.dT (rT (decRw d)))) = rows.map rI := by
      rw [List.map_map]
      apply List.map_congr_left
      intro r _
      show DL.It.o (.dT (rT (decRw (rD r)))) = _
      rw [decRw_eq]
      rfl
    rw [e]
    exact ⟨rfl, hΦ⟩
/-- the same table -/
def sameTb (sz : List Nat) (gs : List (Nat × Nat)) (rows : List Rw) (sy : List Nat) (hs : List (Nat × Nat)) (qs : List Rw) : Bool := decide (sz = sy) && (sameG gs hs && sameRows rows qs)
def C_Table___eq (C : Addr) : Fc := fun _ W m ss Φ Ξ => ∃ sz gs rows s2, ss = [.dat (.ins C (tabF sz gs rows)), s2] ∧ (∀ r ∈ rows, (r.map (·.1)).Nodup) ∧ ((∃ sy hs qs, s2 = .dat (.ins C (tabF sy hs qs)) ∧ (∀ r ∈ qs, (r.map (·.1)).Nodup) ∧ Φ m (.dat (.bl (sameTb sz gs rows sy hs qs)))) ∨ ∃ ds, s2 = .dat (.lst ds) ∧ Φ m (.dat (.bl false)))
abbrev s_Table___eq : Stmt := (inClass (top 41) 5)
abbrev N_Table___eq : List Str := ["self", "other"]
theorem sc_Table___eq : FnScope N_Table___eq ["self", "other"] (defScope s_Table___eq) := ⟨rfl, rfl, rfl, by decide +kernel, rfl, by decide +kernel, by decide +kernel⟩
theorem ok_Table___eq (F : FunD K "__eq__" "Table.__eq__" (defArgs s_Table___eq) (defBody s_Table___eq) (defScope s_Table___eq) [] [] f fd) (b : BI mg) (i_Table : Ci K a_Table ["own_sizes", "own_games", "rows"]) (g_Table : mg "Table" = some (.ref a_Table)) (kc_Table : Kc K a_Table) : FnOk P w K mg base CX0 1 f fd ["self", "other"] (spF K (C_Table___eq a_Table)) := by
  have hlen := spF_len (K := K) (C := (C_Table___eq a_Table)) (m := 2) fun κ W m ss Φ Ξ ⟨sz, gs, rows, s2, e, _⟩ => by first | exact e | (rw [e]; rfl)
  refine F.ok sc_Table___eq hlen ?_
  intro cdv A outer s H vs Q E hr h
  refine ⟨_, PSs.nox (pss_cons (ps_if (PW.pt (pw_or (pt_not (pt_val (pe_callB (k_isi (K := K) rfl) rfl b.isinstance boot_isinstance (pa_cons (pv 1) (pa_cons (pe_glob (v := .ref a_Table) rfl g_Table rfl) pa_nil))))) (pw_or1 (pt_cmpR (k_neD (K := K) rfl hr.units) (k_fld (K := K) rfl (pv 0)) (k_fld (K := K) rfl (pv 1)) (nomark _))))) (pss_one (ps_ret pe_bl)) pss_nil)
      (pss_one (ps_ret (pe_and (pe_cmpR (k_eqK hr.units) (k_fld (K := K) rfl (pv 0)) (k_fld (K := K) rfl (pv 1)) (nomark _)) (pe_one (pe_cmpR (k_eqVK (K := K) rfl hr.units) (k_fld (K := K) rfl (pv 0)) (k_fld (K := K) rfl (pv 1)) (nomark _))))))), ?_⟩
  refine DL.run_fnP  [] (Nm := N_Table___eq) (n := 2) (k := 0) rfl (hlen _ _ _ _ h) rfl h fun κ W m ss Φ Ξ G hc => ?_
  try dsimp only [cxOf, Cx.nox, Cx.wish, Cx.blk]
  obtain ⟨sz, gs, rows, s2, rfl, n1, hs⟩ := hc
  rcases hs with ⟨sy, hs, qs, rfl, n2, hΦ⟩ | ⟨ds, rfl, hΦ⟩
  · refine ds_seq ?_
    dsimp only [List.cons_append, List.nil_append]
    refine ds_if (dt_or (dt_not (dt_B (de_isiC kc_Table (de_varD (by with_unfolding_all rfl) (.inl ⟨_, rfl, _, rfl, ?_⟩))))))
    refine ⟨fun _ => ?_, fun z => Bool.noConfusion z⟩
    walk_at "d"
    refine ⟨_, _, _, rfl, i_Table.cl, i_Table.no _ (by simp), tb_sizes sz gs rows, ?_⟩
    walk_at "d"
    refine ⟨_, _, _, rfl, i_Table.cl, i_Table.no _ (by simp), tb_sizes sy hs qs, ?_⟩
    refine ops_neT rfl rfl ?_
    walk_at "d"
    refine ⟨fun hb => ?_, fun hb => ?_⟩
    · have ne : ¬ sz = sy := by simpa using hb
      walk_at "d"
      have : sameTb sz gs rows sy hs qs = false := by unfold sameTb; simp [ne]
      rw [this] at hΦ
      exact hΦ
    · have e : sz = sy := by simpa using hb
      walk_at "d"
      refine ⟨_, _, _, rfl, i_Table.cl, i_Table.no _ (by simp), tb_games sz gs rows, ?_⟩
      walk_at "d"
      refine ⟨_, _, _, rfl, i_Table.cl, i_Table.no _ (by simp), tb_games sy hs qs, ?_⟩
      refine ops_eqG rfl rfl ?_
      refine ⟨_, rfl, fun hb => ?_, fun hb => ?_⟩
      · walk_at "d"
        refine ⟨_, _, _, rfl, i_Table.cl, i_Table.no _ (by simp), tb_rows sz gs rows, ?_⟩
        walk_at "d"
        refine ⟨_, _, _, rfl, i_Table.cl, i_Table.no _ (by simp), tb_rows sy hs qs, ?_⟩
        refine ops_eqV rfl rfl (by decide) (eqd_rowsL n1 n2) ?_
        have : sameTb sz gs rows sy hs qs = sameRows rows qs := by unfold sameTb; simp [e, hb]
        rw [this] at hΦ
        exact ⟨rfl, hΦ⟩
      · have : sameTb sz gs rows sy hs qs = false := by unfold sameTb; simp [hb]
        rw [this] at hΦ
        exact ⟨rfl, hΦ⟩
  · refine ds_seq ?_
    dsimp only [List.cons_append, List.nil_append]
    refine ds_if (dt_or (dt_not (dt_B (de_isiC kc_Table (de_varD (by with_unfolding_all rfl) (.inr ⟨_, rfl, _, rfl, ?_⟩))))))
    refine ⟨fun z => Bool.noConfusion z, fun _ => ?_⟩
    walk_at "d"
    exact hΦ
end
end Pf
set_option Elab.async false
set_option linter.all false
set_option maxRecDepth 100000
set_option maxHeartbeats 1000000
namespace DL
open PySem PySem.Spec PyProof.Rows L2 Evl
end DL
set_option Elab.async false
set_option linter.all false
set_option maxRecDepth 100000
set_option maxHeartbeats 1000000
namespace DL
open PySem PySem.Spec PyProof.Rows L2 Evl
variable {ι : Type} {m m' m1 m2 : ι}
/-! ### texts: split, join, f-strings, str, int, one sign -/
def rSplit : V → List V → Hp → VK → Prop := fun x xs H Q => ∃ a b, x = .str a ∧ xs = [.str b] ∧ (b.length == 0) = false ∧ a.length + 2 ≤ sizeLine ∧ rNewStrs (Txt.split a b) H Q
def rJoin (K : PySem.W.Frag) : V → List V → Hp → VK → Prop := fun x xs H Q => ∃ a p, ∃ ys : List Str, x = .str a ∧ xs = [.ref p] ∧ (SqL K H p (ys.map V.str) ∨ SqT K H p (ys.map V.str)) ∧
      (ys.map (·.length)).sum + ys.length * a.length ≤ 16777216 ∧ Q (.str (Txt.join a ys)) H
theorem k_split {X : Cx} {o e : Expr} {to te : TE} {apos pos : Pos} (ho : PE X o to) (he : PE X e te) (hs : starEach [e] X.env = [(false, eval e X.env)] := by rfl) (hbase : attributeBase o "split" X.env (eval o X.env) = eval o X.env := by rfl) (hline : (apos.endLine == pos.line) = true := by rfl) :
    PE X (.Call (.Attribute o "split" apos) [e] [] pos) (tM1 rSplit to te) := pe_split ho he hs hbase hline
theorem k_join {K : PySem.W.Frag} {X : Cx} {o e : Expr} {to te : TE} {apos pos : Pos} (hK : X.K = K) (ho : PE X o to) (he : PE X e te) (hs : starEach [e] X.env = [(false, eval e X.env)] := by rfl) (hbase : attributeBase o "join" X.env (eval o X.env) = eval o X.env := by rfl) (hline : (apos.endLine == pos.line) = true := by rfl) :
    PE X (.Call (.Attribute o "join" apos) [e] [] pos) (tM1 (rJoin K) to te) := by subst hK; exact pe_join ho he hs hbase hline
def rStrI : List V → Hp → VK → Prop := fun xs H Q => ∃ i, xs = [.int i] ∧ i.natAbs.log2 < 1920 ∧ Q (.str (toString i)) H
theorem k_strI {X : Cx} : CallR X (.type "str") rStrI := call_str_int
def rIntS : List V → Hp → VK → Prop := fun xs H Q => ∃ a n, xs = [.str a] ∧ PySem.intText? a = some n ∧ a.length ≤ 640 ∧ Q (.int n) H
theorem k_intS {X : Cx} : CallR X (.type "int") rIntS := call_int_str
def rLenS : List V → Hp → VK → Prop := fun xs H Q => ∃ z, xs = [.str z] ∧ z.length ≤ sizeLine ∧ Q (.int z.length) H
theorem k_lenS {X : Cx} : CallR X (.builtin "len") rLenS := call_len_str
def rIxS : V → V → Hp → VK → Prop := fun x y H Q => ∃ z i c, x = .str z ∧ y = .int i ∧ 0 ≤ i ∧ i < 2 ^ 63 ∧ i < z.length ∧ z.cps[i.toNat]? = some c ∧ Q (.str ⟨#[c]⟩) H
theorem k_ixS {X : Cx} {a b : Expr} {ta tb : TE} {pos : Pos} (ha : PE X a ta) (hb : PE X b tb) (hs : PlainIxT b) : PE X (.Subscript a b pos) (tOp rIxS ta tb) := pe_item_str ha hb hs
section
variable {c : Cc ι} {ρ : List S} {Φ : ι → S → Prop} {to te ta tb : TE}
theorem de_split (h : De c m to ρ fun m s => ∃ a, s = .dat (.str a) ∧ De c m te ρ fun m s2 => ∃ b, s2 = .dat (.str b) ∧ (b.length == 0) = false ∧ a.length + 2 ≤ sizeLine ∧ Φ m (.own (.lst ((Txt.split a b).map D.str)))) : De c m (tM1 rSplit to te) ρ Φ := fun σ G H e Q q => h σ G H e _ fun v s m1 G1 H1 g1 r1 ⟨a, es, h2⟩ => by
  subst es
  cases r1
  refine ⟨⟨a, rfl⟩, h2 σ G1 H1 (e.grow g1) _ fun v2 s2 m2 G2 H2 g2 r2 ⟨b, e2, hb, hz, p⟩ => ?_⟩
  subst e2
  cases r2
  exact ⟨a, b, rfl, rfl, hb, hz, fun l hl => new_lst (H0 := H) ((e.grow g1).grow g2).ok ((by rw [show ((Txt.split a b).map V.str) = ((Txt.split a b).map V.str) from rfl]; exact RpL.ofStrs _)) p (fun v s m' G' H' g r p => q v s m' G' H' ((g1.trans g2).trans g) ((r.back g2).back g1) p) l hl⟩
theorem de_join (h : De c m to ρ fun m s => ∃ a, s = .dat (.str a) ∧ De c m te ρ fun m s2 => ∃ ys : List Str, s2.lst? = some (ys.map D.str) ∧ (ys.map (·.length)).sum + ys.length * a.length ≤ 16777216 ∧ Φ m (.dat (.str (Txt.join a ys)))) : De c m (tM1 (rJoin c.K) to te) ρ Φ := fun σ G H e Q q => h σ G H e _ fun v s m1 G1 H1 g1 r1 ⟨a, es, h2⟩ => by
  subst es
  cases r1
  refine ⟨⟨a, rfl⟩, h2 σ G1 H1 (e.grow g1) _ fun v2 s2 m2 G2 H2 g2 r2 ⟨ys, e2, hz, p⟩ => ?_⟩
  have e3 := (e.grow g1).grow g2
  obtain ⟨l, xs, rfl, h3, h4⟩ := r2.lstV e3.ok e2
  exact ⟨a, l, ys, rfl, rfl, .inl (by rw [← h4.strs]; exact h3), hz, q _ (.dat (.str _)) m2 G2 H2 (g1.trans g2) (Rp.str _) p⟩
theorem de_ixS (h : De c m ta ρ fun m s => ∃ z, s = .dat (.str z) ∧ De c m tb ρ fun m s2 => ∃ (j : Nat) (x : Nat), s2 = .dat (.int (j : Int)) ∧ j < 2 ^ 60 ∧ z.cps[j]? = some x ∧ Φ m (.dat (.str ⟨#[x]⟩))) : De c m (tOp rIxS ta tb) ρ Φ := fun σ G H e Q q => h σ G H e _ fun v s m1 G1 H1 g1 r1 ⟨z, es, h2⟩ => by
  subst es
  cases r1
  refine h2 σ G1 H1 (e.grow g1) _ fun v2 s2 m2 G2 H2 g2 r2 ⟨j, x, e2, hj, hx, p⟩ => ?_
  subst e2
  cases r2
  have hl : j < z.cps.size := by
    rcases Nat.lt_or_ge j z.cps.size with h | h
    · exact h
    · rw [Array.getElem?_eq_none h] at hx; cases hx
  exact ⟨z, j, x, rfl, rfl, by omega, by omega, by show (j : Int) < ((z.cps.size : Nat) : Int); omega, by simpa using hx, q _ (.dat (.str _)) m2 G2 H2 (g1.trans g2) (Rp.str _) p⟩
/-- {x} in a text -/
theorem de_fmt (h : De c m te ρ fun m s => (∃ y, s = .dat (.str y) ∧ y.length ≤ sizeLine ∧ Φ m (.dat (.str y))) ∨ ∃ i : Int, s = .dat (.int i) ∧ i.natAbs.log2 < 1920 ∧ Φ m (.dat (.str (toString i)))) : De c m (tFmt te) ρ Φ := fun σ G H e Q q => h σ G H e _ fun v s m1 G1 H1 g1 r1 h => by
  rcases h with ⟨y, es, hz, p⟩ | ⟨i, es, hz, p⟩
  · subst es
    cases r1
    exact .inl ⟨y, rfl, hz, q _ (.dat (.str _)) m1 G1 H1 g1 (Rp.str _) p⟩
  · subst es
    cases r1
    exact .inr ⟨i, rfl, hz, q _ (.dat (.str _)) m1 G1 H1 g1 (Rp.str _) p⟩
def tJ (ts : List TE) (acc : Str) : TE := fun σ H Q => tJs ts acc σ H fun out H1 => Q (.str out) H1
theorem k_joined {X : Cx} {v1 v2 : Expr} {rest : List Expr} {ts : List TE} {pos : Pos} (h : PJ X (v1 :: v2 :: rest) ts) : PE X (.JoinedStr (v1 :: v2 :: rest) pos) (tJ ts Str.empty) := pe_joined h
theorem de_jnil {acc : Str} (h : Φ m (.dat (.str acc))) : De c m (tJ [] acc) ρ Φ := fun σ G H e Q q => q _ (.dat (.str acc)) m G H e.refl (Rp.str acc) h
theorem de_jcons {acc : Str} {t : TE} {ts : List TE} (h : De c m t ρ fun m s => ∃ y, s = .dat (.str y) ∧ (acc ++ y).length ≤ sizeLine ∧ De c m (tJ ts (acc ++ y)) ρ Φ) : De c m (tJ (t :: ts) acc) ρ Φ := fun σ G H e Q q => h σ G H e _ fun v s m1 G1 H1 g1 r1 ⟨y, es, hz, p⟩ => by
  subst es
  cases r1
  exact ⟨y, rfl, hz, p σ G1 H1 (e.grow g1) _ fun v s m2 G2 H2 g2 r2 p => q v s m2 G2 H2 (g1.trans g2) (r2.back g1) p⟩
end
section
variable {K : PySem.W.Frag} {W : Wd ι} {Φ : ι → S → Prop}
theorem cb_strI {i : Int} (hz : i.natAbs.log2 < 1920) (h : Φ m (.dat (.str (toString i)))) : CbS K W m rStrI [.dat (.int i)] Φ := fun H0 G H vs ok rr Q q => by
  obtain ⟨v, rfl, r⟩ := relss1 rr
  cases r
  exact ⟨i, rfl, hz, q _ (.dat (.str _)) m G H ok.refl (Rp.str _) h⟩
theorem cb_intS {a : Str} {n : Int} (hn : PySem.intText? a = some n) (hl : a.length ≤ 640) (h : Φ m (.dat (.int n))) : CbS K W m rIntS [.dat (.str a)] Φ := fun H0 G H vs ok rr Q q => by
  obtain ⟨v, rfl, r⟩ := relss1 rr
  cases r
  exact ⟨a, n, rfl, hn, hl, q _ (.dat (.int _)) m G H ok.refl (Rp.int _) h⟩
theorem cb_lenS {z : Str} (hz : z.length ≤ sizeLine) (h : Φ m (.dat (.int z.length))) : CbS K W m rLenS [.dat (.str z)] Φ := fun H0 G H vs ok rr Q q => by
  obtain ⟨v, rfl, r⟩ := relss1 rr
  cases r
  exact ⟨z, rfl, hz, q _ (.dat (.int _)) m G H ok.refl (Rp.int _) h⟩
theorem ops_inS {x : Nat} {z : Str} (h : Φ m (.dat (.bl (decide (x ∈ z.cps.toList))))) : OpS K W m rInS (.dat (.str ⟨#[x]⟩)) (.dat (.str z)) Φ := fun H0 G H v1 v2 ok r1 r2 Q q => by
  cases r1
  cases r2
  exact ⟨x, z, rfl, rfl, q _ (.dat (.bl _)) m G H ok.refl (Rp.bl _) h⟩
theorem ops_addS {x z : Str} (hz : x.length + z.length ≤ sizeLine) (h : Φ m (.dat (.str (x ++ z)))) : OpS K W m (fun x y H Q => ∃ i j, x = .str i ∧ y = .str j ∧ i.length + j.length ≤ sizeLine ∧ Q (.str (i ++ j)) H) (.dat (.str x)) (.dat (.str z)) Φ := fun H0 G H v1 v2 ok r1 r2 Q q => by
  cases r1
  cases r2
  exact ⟨x, z, rfl, rfl, hz, q _ (.dat (.str _)) m G H ok.refl (Rp.str _) h⟩
end
end DL
set_option Elab.async false
set_option linter.all false
set_option maxRecDepth 100000
set_option maxHeartbeats 1000000
namespace DL
open PySem PySem.Spec PyProof.Rows L2 Evl
variable {ι : Type} {m m' m1 m2 : ι}
/-! ### a text, sign by sign; x or y; index of data; a class's name held by a local -/
def sgnD (z : Str) : List D := z.cps.toList.map fun x => .str ⟨#[x]⟩
theorem itd_str {K : PySem.W.Frag} {W : Wd ι} {G1 : Hp} {z : Str} : ItD K W G1 (Its z) (sgnD z) := fun m G H e ok i => by
  have hl : (sgnD z).length = z.cps.size := by simp [sgnD]
  refine ⟨fun d hd => ?_, fun h => by
    have h' : z.cps.size ≤ i := by rw [h, hl]; exact Nat.le_refl _
    exact h'⟩
  have hi : i < z.cps.size := by rw [← hl]; exact (List.getElem?_eq_some_iff.mp hd).1
  refine ⟨hi, fun x H' y => ?_⟩
  obtain ⟨eh, x', hx, ex⟩ := y
  subst eh ex
  have : d = .str ⟨#[x']⟩ := by
    unfold sgnD at hd
    rw [List.getElem?_map, Array.getElem?_toList, hx] at hd
    exact (Option.some.inj hd).symm
  subst this
  exact ⟨G, ok.refl, .str _⟩
section
variable {c : Cc ι} {ρ : List S} {te ta tb : TE}
theorem di_str {Φ : ι → List D → Prop} (h : De c m te ρ fun m s => ∃ z, s = .dat (.str z) ∧ Φ m (sgnD z)) : DI c m (iStr te) ρ Φ := fun σ G H e R q => h σ G H e _ fun v s m1 G1 H1 g1 r1 ⟨z, es, p⟩ => by
  subst es
  cases r1
  exact ⟨z, rfl, q _ _ m1 G1 H1 g1 itd_str p⟩
def S.tru2 : S → Option Bool
  | .dat .non => some false
  | s => s.tru?
theorem RelS.tru2 {K : PySem.W.Frag} {W : Wd ι} {H0 G H : Hp} {v : V} {s : S} {b : Bool} (ok : Ok W m G H) (r : RelS K W H0 G H v s) (h : s.tru2 = some b) : TruV K v H b := by
  by_cases z : s = .dat .non
  · subst z
    cases r
    cases h
    exact rfl
  · have h' : s.tru? = some b := by
      unfold S.tru2 at h
      split at h
      · exact absurd rfl z
      · exact h
    exact r.tru ok h'
theorem de_orT {Φ : ι → S → Prop} (h : De c m ta ρ fun m s => ∃ b, s.tru2 = some b ∧ (b = true → Φ m s) ∧ (b = false → De c m tb ρ Φ)) : De c m (tOrT c.K ta tb) ρ Φ := fun σ G H e Q q => h σ G H e _ fun v s m1 G1 H1 g1 r1 ⟨b, hb, p1, p2⟩ => by
  refine ⟨b, r1.tru2 (e.grow g1).ok hb, ?_⟩
  cases b
  · rw [if_neg (by simp)]
    exact p2 rfl σ G1 H1 (e.grow g1) _ fun v s m2 G2 H2 g2 r2 p => q v s m2 G2 H2 (g1.trans g2) (r2.back g1) p
  · rw [if_pos rfl]
    exact q v s m1 G1 H1 g1 r1 (p1 rfl)
end
theorem k_orT {K : PySem.W.Frag} {X : Cx} {a b : Expr} {ta tb : TE} {rest : List Expr} {pos : Pos} (hK : X.K = K) (ha : PE X a ta) (hb : PE X (.BoolOp .Or (b :: rest) pos) tb) : PE X (.BoolOp .Or (a :: b :: rest) pos) (tOrT K ta tb) := by subst hK; exact pe_orT ha hb
/-! ### list.index of data -/
def rIndexD (K : PySem.W.Frag) : V → List V → Hp → VK → Prop := fun x xs H Q => ∃ (a : Addr) (y : V) (ys : List V) (d : PyData) (es : List PyData) (j : Nat), x = V.ref a ∧ xs = [y] ∧ SqL K H a ys ∧ DpAll K H ys es ∧ Dp K H y d ∧ PyData.plainAll es = true ∧ d.plain = true ∧ d.depth ≤ 60 ∧ PySem.SeqAt.dataPlace es d = some j ∧ Q (.int (j : Nat)) H
theorem mt_indexD {X : Cx} (hu : X.A.units + 64 < cLine) : MtR X "list.index" (rIndexD X.K) := by
  intro pins s σ H x xs v us Q I rx rxs ⟨a, y, ys, d, es, j, hx, hxs, hs, da, dy, pa, pd, dd, hp, q⟩
  subst hx hxs
  cases rx
  obtain ⟨u, rfl, ru⟩ := rxs.one
  obtain ⟨its, rv, p, hz⟩ := I.list hs
  obtain ⟨as, r1⟩ := Dp.readsAll I es ys its da rv
  obtain ⟨bs, r2⟩ := Dp.reads I d y u dy ru
  have rs := r1
  rw [← List.toList_toArray (as := its)] at rs
  obtain ⟨⟨cls, dx, data, sl⟩, ho, hc, n, hd⟩ := id p.isList
  simp only at hc hd
  subst hc hd
  obtain ⟨hj, hit, hno⟩ := PySem.SeqAt.hit_at rs pa hp
  have hz' : its.length ≤ sizeLine := by rw [← rv.length]; exact hz
  have hj' : j < its.length := by rw [← List.size_toArray (as := its)]; exact hj
  have hl63 : sizeLine = 16777216 := sizeLine_eq
  exact call_meets F.slot_list_index ⟨_, ho, rfl⟩ F.entry_list_index (F.args_list_index_2 _ _) (PySem.SeqAt.list_indexAt _ its.toArray n dx sl u _ j hj (by omega) hit hno)
    ⟨ho, PySem.SeqAt.items_plain rs r2 pa pd (by omega), ⟨.int (j : Nat), H, I.tok _, ⟨_, rfl⟩, q⟩⟩
section
variable {X : Cx} {K : PySem.W.Frag} {o e : Expr} {es : List Expr} {t : TA} {to : TE} {apos cpos : Pos}
theorem k_indexD (hK : X.K = K) (hu : X.A.units + 64 < cLine) (ho : PE X o to) (ha : PA X (e :: es) t)
    (hbase : attributeBase o "index" X.env (eval o X.env) = eval o X.env := by rfl)
    (hfew : ((backTo cpos (starEach (e :: es) X.env)).all (fun x => !x.1) && (backToKw cpos (keywordEach [] X.env)).all (fun x => x.1.isSome)
      && decide ((e :: es).length + ([] : List Keyword).length + (if ([] : List Keyword).isEmpty then 0 else 1) < 30)) = true := by rfl)
    (hline : (apos.endLine == cpos.line) = true := by rfl) (hs : starEach (e :: es) X.env = (false, eval e X.env) :: starEach es X.env := by rfl) (hplain : (backTo cpos (starEach es X.env)).any (·.1) = false := by rfl) :
    PE X (.Call (.Attribute o "index" apos) (e :: es) [] cpos) (tBM K "list" (rIndexD K) to t) := by subst hK; exact pe_bm PySem.F.plainAttrs_list PySem.F.slot_list_index PySem.F.type_list_index (mt_indexD hu) ho ha hbase hfew hline hs hplain
end
section
variable {c : Cc ι} {ρ : List S} {Φ : ι → S → Prop} {te ta : TE}
theorem de_indexD (h : De c m te ρ fun m s => ∃ (ds : List D) (es : List PyData), s.lst? = some ds ∧ D.pys ds = some es ∧ PyData.plainAll es = true ∧ De c m ta ρ fun m s2 => ∃ (d : D) (x : PyData) (j : Nat), s2.view = some d ∧ d.py = some x ∧ x.plain = true ∧ x.depth ≤ 60 ∧ PySem.SeqAt.dataPlace es x = some j ∧ Φ m (.dat (.int (j : Nat)))) : De c m (tBM c.K "list" (rIndexD c.K) te (tCons ta tNil)) ρ Φ := fun σ G H e Q q => h σ G H e _ fun v s m1 G1 H1 g1 r1 ⟨ds, es, hs, hp, hpl, h2⟩ => by
  refine ⟨tyL (e.grow g1).ok r1 hs, h2 σ G1 H1 (e.grow g1) _ fun v2 s2 m2 G2 H2 g2 r2 ⟨d, x, j, e2, hx, hxp, hxd, hj, p⟩ => ?_⟩
  have e3 := (e.grow g1).grow g2
  obtain ⟨a, xs, rfl, h3, h4⟩ := (r1.grow g2).lstV e3.ok hs
  exact ⟨a, v2, xs, x, es, j, rfl, rfl, h3, h4.dp e3.ok.ex hp, r2.dp e3.ok e2 hx, hpl, hxp, hxd, hj, q _ (.dat (.int _)) m2 G2 H2 (g1.trans g2) (Rp.int _) p⟩
end
/-! ### a new instance of the class that a local name holds -/
def tMakeL (i : Nat) (C : Addr) (sp : Sp) (E : XK) (t : TA) : TE := fun σ H Q => σ[i]? = some (some (.ref C)) ∧ tMake C sp [] E t σ H Q
section
variable {X : Cx} {K : PySem.W.Frag} {C : Addr} {k j i : Nat} {x y : Str} {ps : List Str} {F : Fc} {e : Expr} {es : List Expr} {t : TA} {p pos : Pos}
theorem k_makeL {CX : CXT} {E : XK} (c : Mi X.prog X.w K X.mg X.base CX k C y ps F) (hK : X.K = K) (hr : Room j X.A) (hx : Passes CX X E) (hN : X.N[i]? = some x) (hv : Vis X.env.scope x) (ha : PA X (e :: es) t) (hk : k + 1 ≤ j := by decide) (hdb : (x == ("__debug__" : Str)) = false := by decide) (hcd : (x == ("__classdict__" : Str)) = false := by decide)
    (he : starEach (e :: es) X.env = (false, eval e X.env) :: starEach es X.env := by rfl) (hpl : (backTo pos (starEach es X.env)).any (·.1) = false := by rfl) :
    PE X (.Call (.Name x p) (e :: es) [] pos) (tMakeL i C (spF K F) E t) := by
  subst hK
  obtain ⟨g, fd, M, hF, hm, hb⟩ := c.ex
  refine ⟨fun pins s σ H Q I h => ?_⟩
  obtain ⟨hs, ht⟩ := h
  refine wpAny_Call_Name_kw (thn ((pe_var (pos := p) hN hv hdb hcd).run pins s σ H (fun v H1 => v = .ref C ∧ H1 = H) I ⟨.ref C, hs, rfl, rfl⟩) fun u s1 ⟨v, H1, I1, r1, q1⟩ => ?_)
  obtain ⟨rfl, rfl⟩ := q1
  cases r1
  refine PySem.W.callWith_K (h₀ := X.base) I.ok.mod.kin M.kp (thn (ha.run pos pins s1 σ _ _ I1 ht) fun us s2 ⟨vs, H2, I2, r, q⟩ => ⟨I2.kIn, ?_⟩) he hpl
  exact run_make M hF (hr.mono hk) hb .nil hx I2 r q
end
theorem de_makeL {c : Cc ι} {ρ : List S} {Φ : ι → S → Prop} {i : Nat} {C : Addr} {F : Fc} {tr : TA} {E : XK} (hi : ρ[i]? = some (.at_ C)) (h : De c m (tMake C (spF c.K F) [] E tr) ρ Φ) : De c m (tMakeL i C (spF c.K F) E tr) ρ Φ := fun σ G H e Q q => by
  rcases e.at_ i _ hi with z | ⟨v, hv, r⟩
  · cases z
  · have r : v = .ref C := r
    exact ⟨by rw [hv, r], h σ G H e Q q⟩
end DL
set_option Elab.async false
set_option linter.all false
set_option maxRecDepth 100000
set_option maxHeartbeats 1000000
namespace DL
open PySem PySem.Spec PyProof.Rows L2 Evl
/-! ### classmethods, asked of the class -/
theorem CmF.read {K : PySem.W.Frag} {C p g : Addr} {x : Str} (h : CmF K C x p g) : ClX.CRead K C (.type "type") := ⟨h.rd, h.ga⟩
theorem CmF.met {K : PySem.W.Frag} {C p g : Addr} {x : Str} (h : CmF K C x p g) : ClX.CMet K C (.type "type") x p g := ⟨h.at_, h.rc, h.fi⟩
structure Cm (P : Program) (w : World) (K : PySem.W.Frag) (mg : Str → Option Value) (base : Heap) (CX : CXT) (k : Nat) (C : Addr) (x : Str) (ps : List Str) (F : Fc) : Prop where
  ex : ∃ (p g : Addr) (fd : FuncData), CmF K C x p g ∧ FnOk P w K mg base CX k g fd ps (spF K F) ∧ Binds K fd ps []
section
variable {X : Cx} {K : PySem.W.Frag} {C : Addr} {k j : Nat} {x : Str} {ps : List Str} {F : Fc} {e : Expr} {es : List Expr} {ta : TE} {t : TA} {apos pos : Pos} {o : Expr}
theorem k_cm {CX : CXT} {E : XK} (c : Cm X.prog X.w K X.mg X.base CX k C x ps F) (hK : X.K = K) (hr : Room j X.A) (hx : Passes CX X E) (he : PE X o ta) (ha : PA X (e :: es) t) (hk : k ≤ j := by decide)
    (hst : starEach (e :: es) X.env = (false, eval e X.env) :: starEach es X.env := by rfl) (hpl : (backTo pos (starEach es X.env)).any (·.1) = false := by rfl) {pl : Sem Bool}
    (ht : eval (.Call (.Attribute o x apos) (e :: es) [] pos) X.env = (do
      let ov ← eval o X.env
      standAt apos.atName
      let (f, first) ← holding [ov] (getMethod ov x pl)
      callWith pos f first (backTo pos (starEach (e :: es) X.env)) (backToKw pos (keywordEach [] X.env))) := by rfl) :
    PE X (.Call (.Attribute o x apos) (e :: es) [] pos) (ClX.tCMeth C (spF K F) E ta t) := by
  subst hK
  obtain ⟨p, g, fd, hm, hF, hb⟩ := c.ex
  exact ClX.pe_cmeth he hm.read hm.met ((hF.raw hb .nil).imp fun vs H Q E h => by rw [List.append_nil]; exact h) (hr.mono hk) hx ha hst hpl ht
end
section
variable {ι : Type} {c : Cc ι} {m : ι} {ρ : List S} {Φ : ι → S → Prop} {ta : TE} {tr : TA} {C : Addr}
theorem de_cls (h : Φ m (.at_ C)) : De c m (tC (.ref C)) ρ Φ := fun σ G H e Q q => q (.ref C) (.at_ C) m G H e.refl rfl h
theorem de_cm {F : Fc} {E : XK} {Ξ : Xp ι} (hE : ∀ σ G H m, EnvOk c m G H σ ρ → ExcQ c.K c.W G H Ξ E)
    (h : De c m ta ρ fun m' s => s = .at_ C ∧ DA c m' tr ρ fun m2 ss => ss.all argS = true ∧ F ι c.W m2 (.at_ C :: ss) Φ Ξ) : De c m (ClX.tCMeth C (spF c.K F) E ta tr) ρ Φ := fun σ G H e Q q =>
  h σ G H e _ fun v s m1 G1 H1 g1 r1 ⟨es, hA⟩ => by
    subst es
    have r1 : v = .ref C := r1
    refine ⟨r1, hA σ G1 H1 (e.grow g1) _ fun vs ss m3 G3 H3 g3 r4 ⟨ha, hF⟩ => ?_⟩
    have g23 := g1.trans g3
    exact ⟨ι, c.W, m3, G3, _, Φ, Ξ, (e.grow g23).ok, .cons (s := .at_ C) rfl (relss_arg r4 ha), by simp [argS, ha], hF, fun v s m' G' H' g r p => q v s m' G' H' (g23.trans g) (r.back g23) p, hE σ _ _ _ (e.grow g23)⟩
end
end DL
set_option Elab.async false
set_option linter.all false
set_option maxRecDepth 100000
set_option maxHeartbeats 1000000
namespace Pf
open PySem PySem.Spec PyProof.Rows L2 DL
/-! ### texts cut in words -/
theorem spl_ne (S : List Nat) : ∀ (k : Nat) (acc l : List Nat), TL.spl S k acc l ≠ []
  | 0, _, [] => by simp [TL.spl]
  | k + 1, _, [] => by simp [TL.spl]
  | 0, acc, c :: r => by
    rw [TL.spl]
    split
    · simp
    · exact spl_ne S 0 _ r
  | k + 1, acc, c :: r => by
    rw [TL.spl]
    exact spl_ne S k acc r
theorem spl_cnt (S : List Nat) : ∀ (k : Nat) (acc l : List Nat), (TL.spl S k acc l).length ≤ l.length + 1
  | 0, _, [] => by simp [TL.spl]
  | k + 1, _, [] => by simp [TL.spl]
  | 0, acc, c :: r => by
    rw [TL.spl]
    split
    · have := spl_cnt S (S.length - 1) [] r
      simp
      omega
    · have := spl_cnt S 0 (acc ++ [c]) r
      simp
      omega
  | k + 1, acc, c :: r => by
    rw [TL.spl]
    have := spl_cnt S k acc r
    simp
    omega
theorem spl_in (S : List Nat) : ∀ (k : Nat) (acc l p : List Nat), p ∈ TL.spl S k acc l → p.length ≤ acc.length + l.length
  | 0, _, [], p, h => by simp [TL.spl] at h; subst h; simp
  | k + 1, _, [], p, h => by simp [TL.spl] at h; subst h; simp
  | 0, acc, c :: r, p, h => by
    rw [TL.spl] at h
    split at h
    · rcases List.mem_cons.mp h with h | h
      · subst h; simp
      · have := spl_in S (S.length - 1) [] r p h
        simp at this ⊢
        omega
    · have := spl_in S 0 (acc ++ [c]) r p h
      simp at this ⊢
      omega
  | k + 1, acc, c :: r, p, h => by
    rw [TL.spl] at h
    have := spl_in S k acc r p h
    simp
    omega
/-- a sign that parts words -/
def Sep (y : Str) (s : Nat) : Prop := TL.tl y = [s] ∧ y.cps.all (· < 256) = true
theorem sepSp : Sep (" " : Str) 32 := by constructor <;> decide +kernel
theorem sepCm : Sep ("," : Str) 44 := by constructor <;> decide +kernel
theorem sepCl : Sep (":" : Str) 58 := by constructor <;> decide +kernel
theorem sepNl : Sep ("\n" : Str) 10 := by constructor <;> decide +kernel
section
variable {y : Str} {s : Nat} (h : Sep y s)
include h
theorem Sep.spl (x : Str) : (Txt.split x y).map TL.tl = TL.spl [s] 0 [] (TL.tl x) := by
  have := TL.split_spl x y (by rw [h.1]; simp) (TL.kind_ok h.2)
  rw [h.1] at this
  exact this
theorem Sep.ne (x : Str) : Txt.split x y ≠ [] := fun z => by
  have := h.spl x
  rw [z] at this
  exact spl_ne [s] 0 [] _ this.symm
theorem Sep.cnt (x : Str) : (Txt.split x y).length ≤ x.length + 1 := by
  have e := congrArg List.length (h.spl x)
  rw [List.length_map] at e
  rw [e, TL.len_tl]
  exact spl_cnt _ _ _ _
theorem Sep.in_ {x p : Str} (hp : p ∈ Txt.split x y) : p.length ≤ x.length := by
  have : TL.tl p ∈ TL.spl [s] 0 [] (TL.tl x) := by rw [← h.spl x]; exact List.mem_map.mpr ⟨p, hp, rfl⟩
  have := spl_in _ _ _ _ _ this
  rw [TL.len_tl, TL.len_tl]
  simpa using this
theorem Sep.back {ps : List Str} (hne : ps ≠ []) (hp : ∀ p ∈ ps, s ∉ TL.tl p) : Txt.split (Txt.join y ps) y = ps := TL.split_join h.1 h.2 hne hp
end
/-! ### numbers as texts -/
def numS (n : Nat) : Str := Str.ofString (toString ((n : Nat) : Int))
theorem tl_numS (n : Nat) : TL.tl (numS n) = TL.numL n := TL.tl_num n
def figs (l : List Nat) : Bool := l.all fun c => decide (48 ≤ c) && decide (c ≤ 57)
def numIn (z : Str) : Option Nat :=
  if 1 ≤ z.length ∧ z.length ≤ 30 ∧ figs (TL.tl z) = true ∧ ¬ ((TL.tl z).head? = some 48 ∧ TL.tl z ≠ [48]) then some (NumText.digitsVal (TL.tl z)) else none
def optN : Option Nat → D
  | none => .non
  | some n => .int (n : Nat)
theorem numL_head {n : Nat} : (TL.numL n).head? = some 48 → n = 0 := by
  induction n using Nat.strongRecOn with
  | _ n ih =>
    intro h
    by_cases h1 : n < 10
    · rw [TL.numL_lt h1] at h
      simp at h
      omega
    · rw [TL.numL_step (by omega), List.head?_append] at h
      cases e : (TL.numL (n / 10)).head? with
      | none =>
        have : TL.numL (n / 10) = [] := List.head?_eq_none_iff.mp e
        exact absurd this (TL.numL_ne _)
      | some c =>
        rw [e] at h
        simp at h
        subst h
        have := ih (n / 10) (by omega) e
        omega
theorem figs_numL (n : Nat) : figs (TL.numL n) = true := by
  unfold figs
  rw [List.all_eq_true]
  intro c hc
  have := TL.numL_digits n c hc
  simp
  omega
theorem numS_len {n : Nat} (h : n < 10 ^ 30) : (numS n).length ≤ 30 := by
  rw [TL.len_tl, tl_numS]
  exact TL.numL_len (by decide) h
theorem numIn_numS {n : Nat} (h : n < 10 ^ 30) : numIn (numS n) = some n := by
  unfold numIn
  rw [if_pos, tl_numS, TL.numL_val]
  refine ⟨?_, numS_len h, ?_, ?_⟩
  · rw [TL.len_tl, tl_numS]
    have := TL.numL_ne n
    exact List.length_pos_iff.mpr this
  · rw [tl_numS]; exact figs_numL n
  · rintro ⟨h1, h2⟩
    rw [tl_numS] at h1 h2
    have := numL_head h1
    subst this
    exact h2 (TL.numL_lt (by decide))
theorem numS_free {n s : Nat} (h : s < 48 ∨ 57 < s) : s ∉ TL.tl (numS n) := by rw [tl_numS]; exact TL.numL_free h
def numsIn (ws : List Str) : Option (List Nat) := ws.mapM numIn
theorem numsIn_some {ws : List Str} {ns : List Nat} : numsIn ws = some ns ↔ ws.map numIn = ns.map some := by
  unfold numsIn
  induction ws generalizing ns with
  | nil => cases ns <;> simp
  | cons w ws ih =>
    rw [List.mapM_cons]
    cases e : numIn w with
    | none => cases ns <;> simp [e]
    | some n =>
      cases ns with
      | nil =>
        cases e2 : List.mapM numIn ws <;> simp [e2]
      | cons k ns =>
        have := ih (ns := ns)
        cases e2 : List.mapM numIn ws with
        | none =>
          rw [e2] at this
          simp [e, e2] at this ⊢
          intro _ z
          exact this z
        | some r =>
          rw [e2] at this
          simp [e, e2] at this ⊢
          rw [this]
          exact fun _ => Iff.rfl
theorem numsIn_none {ws : List Str} {w : Str} (h : w ∈ ws) (hw : numIn w = none) : numsIn ws = none := by
  cases e : numsIn ws with
  | none => rfl
  | some ns =>
    rw [numsIn_some] at e
    have : numIn w ∈ ns.map some := by rw [← e]; exact List.mem_map.mpr ⟨w, h, rfl⟩
    rw [hw] at this
    simp at this
theorem numsIn_numS {ns : List Nat} (h : ∀ n ∈ ns, n < 10 ^ 30) : numsIn (ns.map numS) = some ns := by
  rw [numsIn_some, List.map_map]
  apply List.map_congr_left
  intro n hn
  exact numIn_numS (h n hn)
/-! ### what is written -/
def kindTxt (k : List Nat) : Str := Txt.join "," (k.map numS)
def gamesLn (gs : List (Nat × Nat)) : Str := Txt.join " " ("games" :: gs.map fun p => numS p.1 ++ ":" ++ numS p.2)
def sizesLn (sz : List Nat) : Str := Txt.join " " ("sizes" :: sz.map numS)
def rowLn (r : Rw) : Str := Txt.join " " ("round" :: r.map fun p => kindTxt p.1 ++ ":" ++ numS p.2)
def tabTxt (sz : List Nat) (gs : List (Nat × Nat)) (rows : List Rw) : Str := Txt.join "\n" (sizesLn sz :: gamesLn gs :: rows.map rowLn)
theorem joinL_mem {S : List Nat} {c : Nat} : ∀ {ps : List (List Nat)}, c ∈ TL.joinL S ps → c ∈ S ∨ ∃ p ∈ ps, c ∈ p
  | [], h => by simp [TL.joinL] at h
  | [p], h => .inr ⟨p, by simp, h⟩
  | p :: q :: r, h => by
    rw [TL.joinL] at h
    rcases List.mem_append.mp h with h | h
    · exact .inr ⟨p, by simp, h⟩
    · rcases List.mem_append.mp h with h | h
      · exact .inl h
      · rcases joinL_mem h with h | ⟨x, hx, hc⟩
        · exact .inl h
        · exact .inr ⟨x, by simp [hx], hc⟩
theorem tl_join (y : Str) (ps : List Str) : TL.tl (Txt.join y ps) = TL.joinL (TL.tl y) (ps.map TL.tl) := by rw [TL.join_eq, TL.tl_join]
theorem join_free {y : Str} {s c : Nat} (h : Sep y s) {ps : List Str} (hc : c ≠ s) (hp : ∀ p ∈ ps, c ∉ TL.tl p) : c ∉ TL.tl (Txt.join y ps) := fun z => by
  rw [tl_join, h.1] at z
  rcases joinL_mem z with z | ⟨x, hx, hz⟩
  · simp at z; exact hc z
  · obtain ⟨p, hp2, rfl⟩ := List.mem_map.mp hx
    exact hp p hp2 hz
theorem kindTxt_free {k : List Nat} {c : Nat} (h : c < 44 ∨ 57 < c) : c ∉ TL.tl (kindTxt k) := join_free sepCm (by omega) fun p hp => by
  obtain ⟨n, _, rfl⟩ := List.mem_map.mp hp
  exact numS_free (by omega)
theorem pair_free {a b : Str} {c : Nat} (h : c ≠ 58) (ha : c ∉ TL.tl a) (hb : c ∉ TL.tl b) : c ∉ TL.tl (a ++ ":" ++ b) := by
  rw [TL.tl_append, TL.tl_append, sepCl.1]
  simp [ha, hb, h]
theorem split_pair {a b : Str} (ha : 58 ∉ TL.tl a) (hb : 58 ∉ TL.tl b) : Txt.split (a ++ ":" ++ b) ":" = [a, b] := by
  have e : a ++ ":" ++ b = Txt.join ":" [a, b] := by
    apply TL.ext_tl
    rw [tl_join]
    simp only [List.map_cons, List.map_nil, TL.joinL, TL.tl_append, List.append_assoc]
  rw [e]
  exact sepCl.back (by simp) (by intro p hp; simp at hp; rcases hp with rfl | rfl <;> assumption)
/-! ### what is read -/
def sizesIn (z : Str) : Option (List Nat) :=
  if (Txt.split z " ").head? = some ("sizes" : Str) then (numsIn ((Txt.split z " ").drop 1)).filter areSz else none
def pairIn (w : Str) : Option (Nat × Nat) :=
  match numsIn (Txt.split w ":") with
  | some [a, b] => some (a, b)
  | _ => none
/-- strictly ascending -/
def asc : List Nat → Bool
  | [] => true
  | [_] => true
  | a :: b :: r => decide (a < b) && asc (b :: r)
def gamesIn (n : Nat) (z : Str) : Option (List (Nat × Nat)) :=
  if (Txt.split z " ").head? = some ("games" : Str) then
    (((Txt.split z " ").drop 1).mapM pairIn).filter fun ps => asc (ps.map (·.1)) && (areGm n ps && decide (tot n ps ≤ 130))
  else none
def wordIn (kinds : List (List Nat)) (w : Str) : Option (List Nat × Nat) :=
  match Txt.split w ":" with
  | [a, b] => match numIn b with
    | some n => if n = 0 then none else
      let k := (numsIn (Txt.split a ",")).getD []
      if k ∈ kinds then some (k, n) else none
    | none => none
  | _ => none
def roundGo (kinds : List (List Nat)) : Nat → List Str → Option Rw
  | _, [] => some []
  | p, w :: r => match wordIn (kinds.drop p) w with
    | some (k, n) => (roundGo kinds (kinds.idxOf k + 1) r).map ((k, n) :: ·)
    | none => none
def roundIn (kinds : List (List Nat)) (z : Str) : Option Rw :=
  if (Txt.split z " ").head? = some ("round" : Str) then roundGo kinds 0 ((Txt.split z " ").drop 1) else none
theorem asc_iff : ∀ {l : List Nat}, asc l = true ↔ l.Pairwise (· < ·)
  | [] => by simp [asc]
  | [_] => by simp [asc]
  | a :: b :: r => by
    rw [asc, Bool.and_eq_true, asc_iff, decide_eq_true_eq, List.pairwise_cons (a := a)]
    constructor
    · rintro ⟨h, p⟩
      refine ⟨fun c hc => ?_, p⟩
      rcases List.mem_cons.mp hc with rfl | hc
      · exact h
      · exact Nat.lt_trans h ((List.pairwise_cons.mp p).1 c hc)
    · rintro ⟨h, p⟩
      exact ⟨h b (by simp), p⟩
theorem asc_nd {l : List Nat} (h : asc l = true) : l.Nodup := (asc_iff.mp h).imp fun h => Nat.ne_of_lt h
def rowsGo (kinds : List (List Nat)) : Nat → List Str → Nat ⊕ List Rw
  | _, [] => .inr []
  | i, z :: r => match (if i < 130 then roundIn kinds z else none) with
    | none => .inl i
    | some w => match rowsGo kinds (i + 1) r with
      | .inl j => .inl j
      | .inr ws => .inr (w :: ws)
def readT (z : Str) : Nat ⊕ (List Nat × List (Nat × Nat) × List Rw) :=
  match sizesIn ((Txt.split z "\n").getD 0 Str.empty) with
  | none => .inl 1
  | some sz => match (if 1 < (Txt.split z "\n").length then gamesIn sz.sum ((Txt.split z "\n").getD 1 Str.empty) else none) with
    | none => .inl 2
    | some gs => if (Txt.split z "\n").length < 3 then .inl 3 else
      match rowsGo (AK sz gs) 0 ((Txt.split z "\n").drop 2) with
      | .inl i => .inl (i + 3)
      | .inr rs => .inr (sz, gs, rs)
/-! ### read back -/
theorem word_sp {w : Str} (h : w = "sizes" ∨ w = "games" ∨ w = "round") : 32 ∉ TL.tl w ∧ 10 ∉ TL.tl w := by
  rcases h with rfl | rfl | rfl <;> decide +kernel
theorem sizesLn_split (sz : List Nat) : Txt.split (sizesLn sz) " " = ("sizes" : Str) :: sz.map numS := sepSp.back (by simp) fun p hp => by
  rcases List.mem_cons.mp hp with rfl | hp
  · exact (word_sp (.inl rfl)).1
  · obtain ⟨n, _, rfl⟩ := List.mem_map.mp hp
    exact numS_free (by omega)
theorem gamesLn_split (gs : List (Nat × Nat)) : Txt.split (gamesLn gs) " " = ("games" : Str) :: gs.map fun p => numS p.1 ++ ":" ++ numS p.2 := sepSp.back (by simp) fun p hp => by
  rcases List.mem_cons.mp hp with rfl | hp
  · exact (word_sp (.inr (.inl rfl))).1
  · obtain ⟨n, _, rfl⟩ := List.mem_map.mp hp
    exact pair_free (by decide) (numS_free (by omega)) (numS_free (by omega))
theorem rowLn_split (r : Rw) : Txt.split (rowLn r) " " = ("round" : Str) :: r.map fun p => kindTxt p.1 ++ ":" ++ numS p.2 := sepSp.back (by simp) fun p hp => by
  rcases List.mem_cons.mp hp with rfl | hp
  · exact (word_sp (.inr (.inr rfl))).1
  · obtain ⟨n, _, rfl⟩ := List.mem_map.mp hp
    exact pair_free (by decide) (kindTxt_free (by omega)) (numS_free (by omega))
theorem tabTxt_split (sz : List Nat) (gs : List (Nat × Nat)) (rows : List Rw) : Txt.split (tabTxt sz gs rows) "\n" = sizesLn sz :: gamesLn gs :: rows.map rowLn := sepNl.back (by simp) fun p hp => by
  rcases List.mem_cons.mp hp with rfl | hp
  · exact join_free sepSp (by decide) fun p hp => by
      rcases List.mem_cons.mp hp with rfl | hp
      · exact (word_sp (.inl rfl)).2
      · obtain ⟨n, _, rfl⟩ := List.mem_map.mp hp
        exact numS_free (by omega)
  rcases List.mem_cons.mp hp with rfl | hp
  · exact join_free sepSp (by decide) fun p hp => by
      rcases List.mem_cons.mp hp with rfl | hp
      · exact (word_sp (.inr (.inl rfl))).2
      · obtain ⟨n, _, rfl⟩ := List.mem_map.mp hp
        exact pair_free (by decide) (numS_free (by omega)) (numS_free (by omega))
  · obtain ⟨r, _, rfl⟩ := List.mem_map.mp hp
    exact join_free sepSp (by decide) fun p hp => by
      rcases List.mem_cons.mp hp with rfl | hp
      · exact (word_sp (.inr (.inr rfl))).2
      · obtain ⟨n, _, rfl⟩ := List.mem_map.mp hp
        exact pair_free (by decide) (kindTxt_free (by omega)) (numS_free (by omega))
theorem big30 {n : Nat} (h : n ≤ 1000) : n < 10 ^ 30 := Nat.lt_of_le_of_lt h (by decide)
theorem sizesIn_ln {sz : List Nat} (h : GSz sz) : sizesIn (sizesLn sz) = some sz := by
  unfold sizesIn
  rw [sizesLn_split, List.head?_cons, if_pos rfl, List.drop_succ_cons, List.drop_zero, numsIn_numS]
  · simp [Option.filter, areSz_iff.mpr h]
  · intro n hn
    have := mem_le_sum hn
    have := h.2.2
    exact big30 (by omega)
theorem pairIn_ln {a b : Nat} (ha : a < 10 ^ 30) (hb : b < 10 ^ 30) : pairIn (numS a ++ ":" ++ numS b) = some (a, b) := by
  unfold pairIn
  rw [split_pair (numS_free (by omega)) (numS_free (by omega)), show [numS a, numS b] = [a, b].map numS from rfl, numsIn_numS]
  intro n hn
  simp at hn
  rcases hn with rfl | rfl <;> assumption
theorem mapM_map {α β γ : Type} {f : β → Option γ} {g : α → β} {k : α → γ} : ∀ {l : List α}, (∀ a ∈ l, f (g a) = some (k a)) → (l.map g).mapM f = some (l.map k)
  | [], _ => rfl
  | a :: l, h => by
    rw [List.map_cons, List.mapM_cons, h a (by simp), mapM_map (l := l) fun x hx => h x (by simp [hx])]
    rfl
theorem gamesIn_ln {n : Nat} {gs : List (Nat × Nat)} (hg : GGm n gs) (ha : asc (gs.map (·.1)) = true) (ht : tot n gs ≤ 130) : gamesIn n (gamesLn gs) = some gs := by
  unfold gamesIn
  rw [gamesLn_split, List.head?_cons, if_pos rfl, List.drop_succ_cons, List.drop_zero, mapM_map (k := fun p => p)]
  · rw [List.map_id']
    have := (areGm_iff hg.nd).mpr hg
    simp [Option.filter, ha, this, ht]
  · rintro ⟨t, v⟩ hp
    have := hg.ok t v hp
    exact pairIn_ln (big30 (by omega)) (big30 (by omega))
theorem wordIn_ln {kinds : List (List Nat)} {k : List Nat} {n : Nat} (hk : k ∈ kinds) (hs : ∀ a ∈ k, a < 10 ^ 30) (h0 : k ≠ []) (hn : 0 < n) (hb : n < 10 ^ 30) : wordIn kinds (kindTxt k ++ ":" ++ numS n) = some (k, n) := by
  unfold wordIn
  rw [split_pair (kindTxt_free (by omega)) (numS_free (by omega))]
  dsimp only
  rw [numIn_numS hb]
  dsimp only
  rw [if_neg (by omega), show Txt.split (kindTxt k) "," = k.map numS from sepCm.back (by simpa using h0) fun p hp => by
    obtain ⟨m, _, rfl⟩ := List.mem_map.mp hp
    exact numS_free (by omega), numsIn_numS hs]
  simp [hk]
theorem idx_drop {kinds l : List (List Nat)} {k : List Nat} {p : Nat} (h : List.Sublist (k :: l) (kinds.drop p)) : List.Sublist l (kinds.drop (kinds.idxOf k + 1)) := by
  obtain ⟨r1, r2, e, h1, h2⟩ := List.cons_sublist_iff.mp h
  refine h2.trans ?_
  have e2 : kinds = (kinds.take p ++ r1) ++ r2 := by rw [List.append_assoc, ← e, List.take_append_drop]
  have hi : kinds.idxOf k < (kinds.take p ++ r1).length := by
    have : k ∈ kinds.take p ++ r1 := List.mem_append_right _ h1
    have := List.idxOf_lt_length_of_mem this
    have e3 : kinds.idxOf k = (kinds.take p ++ r1).idxOf k := by
      conv => lhs; rw [e2]
      rw [List.idxOf_append, if_pos (List.mem_append_right _ h1)]
    omega
  generalize kinds.idxOf k = i at hi
  conv => rhs; rw [e2]
  rw [List.drop_append_of_le_length (by omega)]
  exact List.sublist_append_right _ _
theorem roundGo_ln {kinds : List (List Nat)} (hs : ∀ k ∈ kinds, k ≠ [] ∧ ∀ a ∈ k, a < 10 ^ 30) : ∀ {r : Rw} {p : Nat}, List.Sublist (r.map (·.1)) (kinds.drop p) → (∀ q ∈ r, 0 < q.2 ∧ q.2 < 10 ^ 30) →
    roundGo kinds p (r.map fun q => kindTxt q.1 ++ ":" ++ numS q.2) = some r
  | [], _, _, _ => rfl
  | (k, n) :: r, p, h, hr => by
    have hk : k ∈ kinds.drop p := h.subset (by simp)
    have hk2 := hs k (List.mem_of_mem_drop hk)
    have hn := hr (k, n) (by simp)
    rw [List.map_cons, roundGo, wordIn_ln hk hk2.2 hk2.1 hn.1 hn.2]
    dsimp only
    rw [roundGo_ln hs (idx_drop h) fun q hq => hr q (by simp [hq])]
    rfl
/-- a row as a table keeps it, with numbers that may be written -/
def RwTx (kinds : List (List Nat)) (r : Rw) : Prop := List.Sublist (r.map (·.1)) kinds ∧ ∀ q ∈ r, 0 < q.2 ∧ q.2 < 10 ^ 30
theorem roundIn_ln {kinds : List (List Nat)} (hs : ∀ k ∈ kinds, k ≠ [] ∧ ∀ a ∈ k, a < 10 ^ 30) {r : Rw} (h : RwTx kinds r) : roundIn kinds (rowLn r) = some r := by
  unfold roundIn
  rw [rowLn_split, List.head?_cons, if_pos rfl, List.drop_succ_cons, List.drop_zero]
  exact roundGo_ln hs (by rw [List.drop_zero]; exact h.1) h.2
theorem rowsGo_ln {kinds : List (List Nat)} (hs : ∀ k ∈ kinds, k ≠ [] ∧ ∀ a ∈ k, a < 10 ^ 30) : ∀ {rows : List Rw} {i : Nat}, i + rows.length ≤ 130 → (∀ r ∈ rows, RwTx kinds r) → rowsGo kinds i (rows.map rowLn) = .inr rows
  | [], _, _, _ => rfl
  | r :: rows, i, hi, h => by
    rw [List.length_cons] at hi
    rw [List.map_cons, rowsGo, if_pos (by omega), roundIn_ln hs (h r (by simp))]
    dsimp only
    rw [rowsGo_ln hs (by omega) fun x hx => h x (by simp [hx])]
theorem AK_num {sz : List Nat} {gs : List (Nat × Nat)} (hg : Good sz gs) : ∀ k ∈ AK sz gs, k ≠ [] ∧ ∀ a ∈ k, a < 10 ^ 30 := fun k hk => by
  have h1 := AK_small hg.2.1 hk
  refine ⟨fun z => ?_, fun a ha => ?_⟩
  · subst z
    have := hg.1.1
    simp at h1
    omega
  · have := mem_le_sum ha
    exact big30 (by omega)
/-- THE READ-BACK -/
theorem readT_txt {sz : List Nat} {gs : List (Nat × Nat)} {rows : List Rw} (hg : Good sz gs) (ha : asc (gs.map (·.1)) = true) (h1 : 1 ≤ rows.length) (h2 : rows.length ≤ 130) (h : ∀ r ∈ rows, RwTx (AK sz gs) r) :
    readT (tabTxt sz gs rows) = .inr (sz, gs, rows) := by
  unfold readT
  rw [tabTxt_split]
  simp only [List.getD_cons_zero, List.getD_cons_succ, List.length_cons, List.length_map, List.drop_succ_cons, List.drop_zero]
  rw [sizesIn_ln hg.1]
  dsimp only
  rw [if_pos (by omega), gamesIn_ln hg.2.1 ha hg.2.2]
  dsimp only
  rw [if_neg (by omega), rowsGo_ln (AK_num hg) (by omega) h]
end Pf
set_option Elab.async false
set_option linter.all false
set_option maxRecDepth 100000
set_option maxHeartbeats 1000000
namespace Pf
open PySem PySem.Spec PyProof.Rows L2 DL
/-! ### what is read is right -/
theorem digits_lt : ∀ (l : List Nat) (a : Nat), figs l = true → l.foldl (fun acc c => acc * 10 + (c - 48)) a < (a + 1) * 10 ^ l.length
  | [], a, _ => by simp
  | c :: l, a, h => by
    unfold figs at h
    rw [List.all_cons, Bool.and_eq_true] at h
    obtain ⟨h1, h2⟩ := h
    simp at h1
    have ih := digits_lt l (a * 10 + (c - 48)) h2
    rw [List.foldl_cons, List.length_cons, Nat.pow_succ]
    refine Nat.lt_of_lt_of_le ih ?_
    have : a * 10 + (c - 48) + 1 ≤ (a + 1) * 10 := by omega
    calc (a * 10 + (c - 48) + 1) * 10 ^ l.length ≤ (a + 1) * 10 * 10 ^ l.length := Nat.mul_le_mul_right _ this
      _ = (a + 1) * (10 ^ l.length * 10) := by rw [Nat.mul_assoc, Nat.mul_comm 10]
theorem numIn_lt {z : Str} {n : Nat} (h : numIn z = some n) : n < 10 ^ 30 := by
  unfold numIn at h
  split at h
  · rename_i hc
    cases h
    have := digits_lt (TL.tl z) 0 hc.2.2.1
    unfold NumText.digitsVal
    refine Nat.lt_of_lt_of_le this ?_
    rw [Nat.zero_add, Nat.one_mul]
    exact Nat.pow_le_pow_right (by decide) (by rw [← TL.len_tl]; exact hc.2.1)
  · cases h
theorem sizesIn_ok {z : Str} {sz : List Nat} (h : sizesIn z = some sz) : GSz sz := by
  unfold sizesIn at h
  split at h
  · have := (Option.filter_eq_some_iff.mp h).2
    exact areSz_iff.mp this
  · cases h
theorem gamesIn_ok {n : Nat} {z : Str} {gs : List (Nat × Nat)} (h : gamesIn n z = some gs) : GGm n gs ∧ asc (gs.map (·.1)) = true ∧ tot n gs ≤ 130 := by
  unfold gamesIn at h
  split at h
  · have := (Option.filter_eq_some_iff.mp h).2
    simp only [Bool.and_eq_true, decide_eq_true_eq] at this
    exact ⟨(areGm_iff (asc_nd this.1)).mp this.2.1, this.1, this.2.2⟩
  · cases h
theorem wordIn_ok {kinds : List (List Nat)} {w : Str} {k : List Nat} {n : Nat} (h : wordIn kinds w = some (k, n)) : k ∈ kinds ∧ 0 < n ∧ n < 10 ^ 30 := by
  unfold wordIn at h
  split at h
  · split at h
    · rename_i b _ x hx
      split at h
      · cases h
      · dsimp only at h
        split at h
        · rename_i hn hk
          cases h
          exact ⟨hk, by omega, numIn_lt hx⟩
        · cases h
    · cases h
  · cases h
theorem roundGo_ok {kinds : List (List Nat)} (nd : kinds.Nodup) : ∀ {ws : List Str} {r : Rw} {p : Nat}, roundGo kinds p ws = some r → List.Sublist (r.map (·.1)) (kinds.drop p) ∧ ∀ q ∈ r, 0 < q.2 ∧ q.2 < 10 ^ 30
  | [], r, p, h => by
    rw [roundGo] at h
    cases h
    exact ⟨by simp, fun q hq => by cases hq⟩
  | w :: ws, r, p, h => by
    rw [roundGo] at h
    cases e : wordIn (kinds.drop p) w with
    | none => rw [e] at h; cases h
    | some kn =>
      obtain ⟨k, n⟩ := kn
      rw [e] at h
      dsimp only at h
      cases e2 : roundGo kinds (kinds.idxOf k + 1) ws with
      | none => rw [e2] at h; cases h
      | some r2 =>
        rw [e2] at h
        cases h
        obtain ⟨h1, h2⟩ := roundGo_ok nd e2
        obtain ⟨k1, k2, k3⟩ := wordIn_ok e
        have hi : p ≤ kinds.idxOf k := by
          rcases Nat.lt_or_ge (kinds.idxOf k) p with h | h
          · exfalso
            have hl := List.idxOf_lt_length_of_mem (List.mem_of_mem_drop k1)
            have m1 : k ∈ kinds.take p := by
              rw [List.mem_take_iff_getElem]
              exact ⟨kinds.idxOf k, by omega, List.getElem_idxOf hl⟩
            have := nd
            rw [← List.take_append_drop p kinds, List.nodup_append] at this
            exact this.2.2 k m1 k k1 rfl
          · exact h
        have hl := List.idxOf_lt_length_of_mem (List.mem_of_mem_drop k1)
        refine ⟨?_, fun q hq => ?_⟩
        · have e3 : kinds.drop (kinds.idxOf k) = k :: kinds.drop (kinds.idxOf k + 1) := by
            rw [List.drop_eq_getElem_cons hl, List.getElem_idxOf hl]
          have e4 : List.Sublist (kinds.drop (kinds.idxOf k)) (kinds.drop p) := by
            have : kinds.drop (kinds.idxOf k) = (kinds.drop p).drop (kinds.idxOf k - p) := by rw [List.drop_drop]; congr 1; omega
            rw [this]
            exact List.drop_sublist _ _
          rw [List.map_cons]
          refine List.Sublist.trans ?_ e4
          rw [e3]
          exact h1.cons₂ k
        · rcases List.mem_cons.mp hq with rfl | hq
          · exact ⟨k2, k3⟩
          · exact h2 q hq
theorem roundIn_ok {kinds : List (List Nat)} (nd : kinds.Nodup) {z : Str} {r : Rw} (h : roundIn kinds z = some r) : RwTx kinds r := by
  unfold roundIn at h
  split at h
  · have := roundGo_ok nd h
    rw [List.drop_zero] at this
    exact this
  · cases h
theorem rowsGo_ok {kinds : List (List Nat)} (nd : kinds.Nodup) : ∀ {zs : List Str} {i : Nat} {rs : List Rw}, i ≤ 130 → rowsGo kinds i zs = .inr rs → i + zs.length ≤ 130 ∧ rs.length = zs.length ∧ ∀ r ∈ rs, RwTx kinds r
  | [], i, rs, hi, h => by
    rw [rowsGo] at h
    cases h
    exact ⟨by simpa using hi, rfl, fun r hr => by cases hr⟩
  | z :: zs, i, rs, hi, h => by
    rw [rowsGo] at h
    split at h
    · cases h
    · rename_i w hw
      split at hw
      · rename_i hlt
        split at h
        · cases h
        · rename_i ws hws
          cases h
          obtain ⟨a, b, c⟩ := rowsGo_ok nd (by omega) hws
          refine ⟨by simp; omega, by simp [b], fun r hr => ?_⟩
          rcases List.mem_cons.mp hr with rfl | hr
          · exact roundIn_ok nd hw
          · exact c r hr
      · cases hw
theorem filter_sub {α : Type} [DecidableEq α] : ∀ {s l : List α}, List.Sublist s l → l.Nodup → l.filter (fun a => decide (a ∈ s)) = s
  | _, _, .slnil, _ => rfl
  | _, _, .cons a h, nd => by
    obtain ⟨n1, n2⟩ := List.nodup_cons.mp nd
    rw [List.filter_cons, if_neg (by simpa using fun z => n1 (h.subset z))]
    exact filter_sub h n2
  | _, _, .cons₂ (l₁ := s) (l₂ := l) a h, nd => by
    obtain ⟨n1, n2⟩ := List.nodup_cons.mp nd
    rw [List.filter_cons, if_pos (by simp)]
    congr 1
    conv => rhs; rw [← filter_sub h n2]
    apply List.filter_congr
    intro x hx
    have : x ≠ a := fun z => n1 (z ▸ hx)
    simp [this]
theorem rg_self : ∀ {r : Rw}, (r.map (·.1)).Nodup → ∀ q ∈ r, rg r q.1 = some q.2
  | [], _, q, h => by cases h
  | p :: r, nd, q, h => by
    rw [List.map_cons, List.nodup_cons] at nd
    obtain ⟨a, x⟩ := p
    rw [rg_cons]
    rcases List.mem_cons.mp h with rfl | h
    · rw [if_pos rfl]
    · rw [if_neg fun z => nd.1 (by rw [z]; exact List.mem_map.mpr ⟨q, h, rfl⟩)]
      exact rg_self nd.2 q h
theorem RwTx.nd {kinds : List (List Nat)} (nk : kinds.Nodup) {r : Rw} (h : RwTx kinds r) : (r.map (·.1)).Nodup := h.1.nodup nk
theorem RwTx.ok {kinds : List (List Nat)} (nk : kinds.Nodup) {r : Rw} (h : RwTx kinds r) : RwOk kinds r := ⟨h.nd nk, fun k hk => h.1.subset hk⟩
/-- a row as a table keeps it stays -/
theorem RwTx.ck {kinds : List (List Nat)} (nk : kinds.Nodup) {r : Rw} (h : RwTx kinds r) : ck kinds r = r := by
  have nd := h.nd nk
  unfold Pf.ck
  rw [show (kinds.filter fun k => decide (0 < rn r k)) = r.map (·.1) from ?_, List.map_map]
  · conv => rhs; rw [← List.map_id r]
    apply List.map_congr_left
    rintro ⟨k, n⟩ hq
    show (k, rn r k) = (k, n)
    unfold rn
    rw [rg_self nd _ hq]
    rfl
  · conv => rhs; rw [← filter_sub h.1 nk]
    apply List.filter_congr
    intro k _
    by_cases hk : k ∈ r.map (·.1)
    · obtain ⟨q, hq, rfl⟩ := List.mem_map.mp hk
      have := (h.2 q hq).1
      unfold rn
      rw [rg_self nd q hq]
      simp [hk, this]
    · unfold rn
      rw [rg_none hk]
      simp [hk]
theorem readT_ok {z : Str} {sz : List Nat} {gs : List (Nat × Nat)} {rs : List Rw} (h : readT z = .inr (sz, gs, rs)) : Good sz gs ∧ asc (gs.map (·.1)) = true ∧ 1 ≤ rs.length ∧ rs.length ≤ 130 ∧ ∀ r ∈ rs, RwTx (AK sz gs) r := by
  unfold readT at h
  split at h
  · cases h
  · rename_i sz' hz
    split at h
    · cases h
    · rename_i gs' hgm
      split at hgm
      · split at h
        · cases h
        · split at h
          · cases h
          · rename_i rs' hrs
            cases h
            have g := gamesIn_ok hgm
            have nd := AK_nodup (sz := sz) (gs := gs) (asc_nd g.2.1)
            obtain ⟨a, b, c⟩ := rowsGo_ok nd (by omega) hrs
            rw [List.length_drop] at a b
            rename_i hlen _
            exact ⟨⟨sizesIn_ok hz, g.1, g.2.2⟩, g.2.1, by omega, by omega, c⟩
      · cases hgm
end Pf
set_option Elab.async false
set_option linter.all false
set_option maxRecDepth 100000
set_option maxHeartbeats 1000000
namespace DL
open PySem PySem.Spec PyProof.Rows L2 Evl
variable {ι : Type} {m m' : ι} {K : PySem.W.Frag} {W : Wd ι} {Φ : ι → S → Prop}
/-! ### == of texts -/
theorem ops_eqS {a b : Str} (h : Φ m (.dat (.bl (decide (a = b))))) : OpS K W m rEq (.dat (.str a)) (.dat (.str b)) Φ := fun H0 G H v1 v2 ok r1 r2 Q q => by
  cases r1
  cases r2
  refine ⟨rfl, ?_⟩
  rw [show decide (V.str a = V.str b) = decide (a = b) by simp]
  exact q _ (.dat (.bl _)) m G H ok.refl (Rp.bl _) h
theorem ops_neS {a b : Str} (h : Φ m (.dat (.bl (!decide (a = b))))) : OpS K W m rNe (.dat (.str a)) (.dat (.str b)) Φ := fun H0 G H v1 v2 ok r1 r2 Q q => by
  cases r1
  cases r2
  refine ⟨rfl, ?_⟩
  rw [show decide (V.str a = V.str b) = decide (a = b) by simp]
  exact q _ (.dat (.bl _)) m G H ok.refl (Rp.bl _) h
theorem ops_ixS {z : Str} {j x : Nat} (hj : j < 2 ^ 60) (hx : z.cps[j]? = some x) (h : Φ m (.dat (.str ⟨#[x]⟩))) : OpS K W m rIxS (.dat (.str z)) (.dat (.int (j : Nat))) Φ := fun H0 G H v1 v2 ok r1 r2 Q q => by
  cases r1
  cases r2
  have hl : j < z.cps.size := by
    rcases Nat.lt_or_ge j z.cps.size with h | h
    · exact h
    · rw [Array.getElem?_eq_none h] at hx; cases hx
  exact ⟨z, j, x, rfl, rfl, by omega, by omega, by show (j : Int) < ((z.cps.size : Nat) : Int); omega, by simpa using hx, q _ (.dat (.str _)) m G H ok.refl (Rp.str _) h⟩
section
variable {X : Cx}
/-- x = {k: v for ..}, keys that are no tuples, x a local that the block does not name -/
theorem ps_setDc {i : Nat} {y : Str} {py : Pos} {kx vx tg iter : Expr} {ifs : List Expr} {scope : Scope} {own : List (Str × Nat)} {pos spos : Pos} {wi : TI} {g : TG} {tt : TT} {tk tv : TE} (hc : X.calm = true) (hN : X.N.Nodup) (hy : X.N[i]? = some y) (hl : X.env.scope.names.lookup y = some .local)
    (hw : swapsWith (.DictComp kx vx [⟨tg, iter, ifs, 0⟩] scope pos) (some (.Name y py)) spos.line X.env = pure true) (hi : PI X tg iter wi) (ok : BlkOk X.N X.env.scope scope own)
    (hg : ∀ s H C cl fp, PG (X.blk s H scope (compEnvC scope cl C X.env) fp) tg g) (ht : ∀ s H C cl fp, PTs (X.blk s H scope (compEnvC scope cl C X.env) fp) ifs tt)
    (hk : ∀ s H C cl fp, PE (X.blk s H scope (compEnvC scope cl C X.env) fp) kx tk) (hv : ∀ s H C cl fp, PE (X.blk s H scope (compEnvC scope cl C X.env) fp) vx tv) (hs : ∀ x, foldedSetIterable iter X.env x = pure x := by intro _; rfl) :
    PS X (.Assign [.Name y py] (.DictComp kx vx [⟨tg, iter, ifs, 0⟩] scope pos) spos) (tAsg (tDc wi g tt tk tv (own.map (·.2))) (gName i)) := ⟨fun pins s σ H D I h => by
  rw [exec_Assign_Name_used _ _ _ _ hw]
  have run : wpAny (model X.prog X.w) X.A (evalThenUse (.DictComp kx vx [⟨tg, iter, ifs, 0⟩] scope pos) X.env (assign (.Name y py) X.env)) (fun _ s' => SP X pins D .next s') X.xe s := by
    have whole := dc_core (pos := pos) (pos' := firstIterPos [⟨tg, iter, ifs, 0⟩] pos) (use := some (assign (.Name y py) X.env)) (Qf := fun _ s' => SP X pins D .next s') hc hN I hi ok hg ht hk hv hs (Q := fun x H1 => gName i x σ H1 D.nx) h fun L C s' m H' I' q n f => by
      obtain ⟨f0, f1, _, f3, f4, f5⟩ := f
      show wpAny _ _ (assign (.Name y py) X.env (.ref L)) _ _ _
      refine wpAny_assign_Name (store_ok2 (v := V.ref L) I' hN hy (.inl hl) rfl (fun s2 I2 ⟨a, sb, ha⟩ => ?_) (.inr hl))
      have apart : C ≠ a := ha.elim (fun z => z ▸ f1) fun z e => f4 y a z e.symm
      exact ⟨m, n.sameBut sb apart, fun h3 sb3 => ⟨_, H', I2.turned (t' := s2.toks) (fun b o hb e => (sb3.2 b hb).trans e) f0 f1 f3 f4 f5, q⟩⟩
    exact wpAny_bind (thn whole fun _ s' z => wpAny_pure z)
  exact wpAny_bind (wpAny_standAt (wpAny_bind (thn run fun _ s' z => wpAny_pure z)))⟩
end
theorem ops_neInts {s1 s2 : S} {ns ks : List Int} (h1 : s1.view = some (.lst (ns.map D.int))) (h2 : s2.view = some (.lst (ks.map D.int))) (h : Φ m (.dat (.bl (!decide (ns = ks))))) : OpS K W m (rNeD K) s1 s2 Φ := by
  refine ops_neD h1 h2 (py_ints ns) (py_ints ks) ((ok_ints ns).shaped (by omega)) ((ok_ints ks).shaped (by omega)) ?_
  rw [PyData.eqv, eqv_ints]; exact h
end DL
set_option Elab.async false
set_option linter.all false
set_option maxRecDepth 100000
set_option maxHeartbeats 1000000
namespace Pf
open PySem PySem.Spec PyProof.Rows L2 DL
local macro_rules | `(tactic| walk_at "len") => `(tactic| with_unfolding_all first | exact Nat.le_of_ble_eq_true rfl | (simp; done) | (simp; omega))
local macro_rules | `(tactic| walk_at "side") => `(tactic| with_unfolding_all first | exact Or.inr ⟨by omega, by omega⟩ | exact Or.inl ⟨by omega, by omega⟩ | exact ⟨by omega, by omega⟩ | exact ⟨by omega, by omega, by omega⟩ | (show (0 : Int) < _; omega) | decide)
local macro_rules | `(tactic| walk_at "d1") => `(tactic| with_reducible first
  | (refine ds_seq ?_; try dsimp only [List.set_cons_zero, List.set_cons_succ, List.cons_append, List.nil_append, O.frz])
  | refine ds_asg ?_
  | refine ds_ret ?_
  | refine ds_retN ?_
  | refine ds_next ?_
  | refine ds_dropC ?_
  | refine ds_drop0 ?_
  | refine ds_dropB ?_
  | refine ds_if ?_
  | refine dt_test ?_
  | refine dt_B ?_
  | refine dt_not ?_
  | refine dt_and ?_
  | refine dt_or ?_
  | refine dt_yes ?_
  | refine de_int ?_
  | refine de_bl ?_
  | refine de_str ?_
  | refine de_non ?_
  | refine de_varD (by with_unfolding_all rfl) ?_
  | refine de_varO (by with_unfolding_all rfl) ?_
  | refine de_varA (by with_unfolding_all rfl) ?_
  | refine de_varV (by with_unfolding_all rfl) ?_
  | refine de_isi ?_
  | refine de_dget ?_
  | refine de_dget2 ?_
  | refine de_dnotin ?_
  | refine de_din ?_
  | refine de_dnew ?_
  | refine de_dnewT ?_
  | refine de_cb ?_
  | refine de_call0G ?_
  | refine de_callG ?_
  | refine de_andB ?_
  | refine de_orB ?_
  | refine de_notV ?_
  | refine de_ifE ?_
  | refine de_chain ?_
  | refine de_op ?_
  | refine de_neg ?_
  | refine de_tupG ?_
  | refine de_lstG ?_
  | refine de_slL ?_
  | refine de_slT ?_
  | refine do_none ?_
  | refine do_some ?_
  | refine daf_cons ?_
  | refine daf_nil ?_
  | refine daf_star ?_
  | refine da_cons ?_
  | refine da_nil ?_
  | refine lk_dat ?_
  | refine lk_nil ?_
  | refine ak_dat ?_
  | refine ak_nil ?_
  | refine ak_at ?_
  | refine ak_lst ?_
  | refine lk_lst ?_
  | refine ak_dK ?_
  | refine ak_dT ?_
  | refine ak_vw ?_
  | refine lk_dT ?_
  | refine lk_dK ?_
  | refine da_star ?_
  | refine de_lstRg1 ?_
  | refine de_lstRg2 ?_
  | refine de_revL ?_
  | refine de_count ?_
  | refine de_index ?_
  | refine di_enum ?_
  | refine dt_tru ?_
  | refine de_fld ?_
  | refine de_prop ?_
  | refine di_rng1 ?_
  | refine di_rng2 ?_
  | refine di_list ?_
  | refine di_tup ?_
  | refine di_seq ?_
  | refine di_zip ?_
  | refine de_split ?_
  | refine de_join ?_
  | refine de_fmt ?_
  | refine de_jnil ?_
  | refine de_jcons ?_
  | refine de_ixS ?_
  | refine de_orT ?_
  | refine di_str ?_
  | refine ops_eqS ?_
  | refine ops_neS ?_
  | refine de_indexD ?_
  | refine ops_int ?_
  | (refine ops_cat (by with_unfolding_all rfl) (by with_unfolding_all rfl) ?side ?_; (case side => walk_at "len"))
  | (refine ops_catA ?side ?_; (case side => walk_at "len"))
  | refine ops_eqI ?_
  | refine ops_neI ?_
  | refine ops_bool ?_
  | (refine ops_intC ?side ?_; (case side => walk_at "side"))
  | refine cb_lenL (by with_unfolding_all rfl) ?_
  | refine cb_lenT (by with_unfolding_all rfl) ?_
  | refine cb_lenK (by with_unfolding_all rfl) ?_
  | refine cb_max2 ?_
  | refine cb_min2 ?_
  | refine cb_int ?_
  | refine ⟨fun _ => ?_, fun z => Bool.noConfusion z⟩
  | refine ⟨fun z => Bool.noConfusion z, fun _ => ?_⟩
  | refine ⟨rfl, ?_⟩
  | refine ⟨_, rfl, ?_⟩
  | refine ⟨_, Or.inl (by with_unfolding_all rfl), ?_⟩
  | (with_unfolding_all refine ⟨_, true, rfl, rfl, (fun _ z => by cases z), rfl, ?_⟩)
  | (with_unfolding_all refine ⟨_, false, rfl, rfl, (fun _ z => by cases z), rfl, ?_⟩))
local macro_rules | `(tactic| walk_at "d") => `(tactic| repeat walk_at "d1")
local macro_rules | `(tactic| walk_at "wk") => `(tactic| repeat first | exact Wk.nil | refine Wk.keep ?_ | refine Wk.drop ?_)
end Pf
set_option Elab.async false
set_option linter.all false
set_option maxRecDepth 100000
set_option maxHeartbeats 1000000
namespace Pf
open PySem PySem.Spec PyProof.Rows L2 DL
local macro_rules | `(tactic| walk_at "len") => `(tactic| with_unfolding_all first | exact Nat.le_of_ble_eq_true rfl | (simp; done) | (simp; omega))
local macro_rules | `(tactic| walk_at "side") => `(tactic| with_unfolding_all first | exact Or.inr ⟨by omega, by omega⟩ | exact Or.inl ⟨by omega, by omega⟩ | exact ⟨by omega, by omega⟩ | exact ⟨by omega, by omega, by omega⟩ | (show (0 : Int) < _; omega) | decide)
local macro_rules | `(tactic| walk_at "d1") => `(tactic| with_reducible first
  | (refine ds_seq ?_; try dsimp only [List.set_cons_zero, List.set_cons_succ, List.cons_append, List.nil_append, O.frz])
  | refine ds_asg ?_
  | refine ds_ret ?_
  | refine ds_retN ?_
  | refine ds_next ?_
  | refine ds_dropC ?_
  | refine ds_drop0 ?_
  | refine ds_dropB ?_
  | refine ds_if ?_
  | refine dt_test ?_
  | refine dt_B ?_
  | refine dt_not ?_
  | refine dt_and ?_
  | refine dt_or ?_
  | refine dt_yes ?_
  | refine de_int ?_
  | refine de_bl ?_
  | refine de_str ?_
  | refine de_non ?_
  | refine de_varD (by with_unfolding_all rfl) ?_
  | refine de_varO (by with_unfolding_all rfl) ?_
  | refine de_varA (by with_unfolding_all rfl) ?_
  | refine de_varV (by with_unfolding_all rfl) ?_
  | refine de_isi ?_
  | refine de_dget ?_
  | refine de_dget2 ?_
  | refine de_dnotin ?_
  | refine de_din ?_
  | refine de_dnew ?_
  | refine de_dnewT ?_
  | refine de_cb ?_
  | refine de_call0G ?_
  | refine de_callG ?_
  | refine de_andB ?_
  | refine de_orB ?_
  | refine de_notV ?_
  | refine de_ifE ?_
  | refine de_chain ?_
  | refine de_op ?_
  | refine de_neg ?_
  | refine de_tupG ?_
  | refine de_lstG ?_
  | refine de_slL ?_
  | refine de_slT ?_
  | refine do_none ?_
  | refine do_some ?_
  | refine daf_cons ?_
  | refine daf_nil ?_
  | refine daf_star ?_
  | refine da_cons ?_
  | refine da_nil ?_
  | refine lk_dat ?_
  | refine lk_nil ?_
  | refine ak_dat ?_
  | refine ak_nil ?_
  | refine ak_at ?_
  | refine ak_lst ?_
  | refine lk_lst ?_
  | refine ak_dK ?_
  | refine ak_dT ?_
  | refine ak_vw ?_
  | refine lk_dT ?_
  | refine lk_dK ?_
  | refine da_star ?_
  | refine de_lstRg1 ?_
  | refine de_lstRg2 ?_
  | refine de_revL ?_
  | refine de_count ?_
  | refine de_index ?_
  | refine di_enum ?_
  | refine dt_tru ?_
  | refine de_fld ?_
  | refine de_prop ?_
  | refine di_rng1 ?_
  | refine di_rng2 ?_
  | refine di_list ?_
  | refine di_tup ?_
  | refine di_seq ?_
  | refine di_zip ?_
  | refine de_split ?_
  | refine de_join ?_
  | refine de_fmt ?_
  | refine de_jnil ?_
  | refine de_jcons ?_
  | refine de_ixS ?_
  | refine de_orT ?_
  | refine di_str ?_
  | refine ops_eqS ?_
  | refine ops_neS ?_
  | refine de_indexD ?_
  | refine ops_int ?_
  | (refine ops_cat (by with_unfolding_all rfl) (by with_unfolding_all rfl) ?side ?_; (case side => walk_at "len"))
  | (refine ops_catA ?side ?_; (case side => walk_at "len"))
  | refine ops_eqI ?_
  | refine ops_neI ?_
  | refine ops_bool ?_
  | (refine ops_intC ?side ?_; (case side => walk_at "side"))
  | refine cb_lenL (by with_unfolding_all rfl) ?_
  | refine cb_lenT (by with_unfolding_all rfl) ?_
  | refine cb_lenK (by with_unfolding_all rfl) ?_
  | refine cb_max2 ?_
  | refine cb_min2 ?_
  | refine cb_int ?_
  | refine ⟨fun _ => ?_, fun z => Bool.noConfusion z⟩
  | refine ⟨fun z => Bool.noConfusion z, fun _ => ?_⟩
  | refine ⟨rfl, ?_⟩
  | refine ⟨_, rfl, ?_⟩
  | refine ⟨_, Or.inl (by with_unfolding_all rfl), ?_⟩
  | (with_unfolding_all refine ⟨_, true, rfl, rfl, (fun _ z => by cases z), rfl, ?_⟩)
  | (with_unfolding_all refine ⟨_, false, rfl, rfl, (fun _ z => by cases z), rfl, ?_⟩))
local macro_rules | `(tactic| walk_at "d") => `(tactic| repeat walk_at "d1")
local macro_rules | `(tactic| walk_at "wk") => `(tactic| repeat first | exact Wk.nil | refine Wk.keep ?_ | refine Wk.drop ?_)
section
variable {P : Program} {w : World} {K : PySem.W.Frag} {mg : Str → Option Value} {base : Heap} {f : Addr} {fd : FuncData} {a_Table a_BadSizes a_BadGames a_TooMany a_BadKind a_BadNumber a_BadRounds : Addr}
theorem srG_fst (gs : List (Nat × Nat)) : (srG gs).map (·.1) = ks gs := by
  unfold srG
  rw [List.map_map]
  conv => rhs; rw [← List.map_id (ks gs)]
  apply List.map_congr_left
  intro k _
  rfl
theorem ks_srG (gs : List (Nat × Nat)) : ks (srG gs) = ks gs := by
  have e : (srG gs).map (fun p => (p.1 : Int)) = (ks gs).map fun n : Nat => (n : Int) := by
    rw [← srG_fst gs, List.map_map]
    rfl
  have h : srt ((ks gs).map fun n : Nat => (n : Int)) = (ks gs).map fun n : Nat => (n : Int) := by
    refine (srt_uniq (List.Perm.refl _) ?_).symm
    rw [← ks_int]
    exact srt_sorted _
  show (srt ((srG gs).map fun p => (p.1 : Int))).map Int.toNat = ks gs
  rw [e, h, List.map_map]
  conv => rhs; rw [← List.map_id (ks gs)]
  apply List.map_congr_left
  intro k _
  simp
theorem srG_nd {gs : List (Nat × Nat)} (nd : (gs.map (·.1)).Nodup) : ((srG gs).map (·.1)).Nodup := by rw [srG_fst]; exact ks_nodup nd
theorem srG_mem {gs : List (Nat × Nat)} (nd : (gs.map (·.1)).Nodup) {t v : Nat} : (t, v) ∈ srG gs ↔ (t, v) ∈ gs := by
  unfold srG
  constructor
  · intro h
    obtain ⟨k, hk, e⟩ := List.mem_map.mp h
    cases e
    obtain ⟨u, hu⟩ := ks_mem.mp hk
    rw [gv_mem nd hu]
    exact hu
  · intro h
    refine List.mem_map.mpr ⟨t, ks_mem.mpr ⟨v, h⟩, ?_⟩
    rw [gv_mem nd h]
    rfl
theorem gv_srG {gs : List (Nat × Nat)} (nd : (gs.map (·.1)).Nodup) (t : Nat) : gv (srG gs) t = gv gs t := by
  cases h : gv gs t with
  | some v => exact gv_mem (srG_nd nd) ((srG_mem nd).mpr (gv_some h))
  | none =>
    cases h2 : gv (srG gs) t with
    | none => rfl
    | some v =>
      have := gv_mem nd ((srG_mem nd).mp (gv_some h2))
      rw [h] at this
      cases this
theorem AK_srG (sz : List Nat) (gs : List (Nat × Nat)) : AK sz (srG gs) = AK sz gs := by unfold AK; rw [ks_srG]
theorem due_srG {gs : List (Nat × Nat)} (nd : (gs.map (·.1)).Nodup) (sz k : List Nat) : due sz (srG gs) k = due sz gs k := by unfold due; rw [gv_srG nd]
theorem srG_good {sz : List Nat} {gs : List (Nat × Nat)} (h : Good sz gs) : Good sz (srG gs) := by
  obtain ⟨hz, hg, ht⟩ := h
  have hl : (srG gs).length = gs.length := by have := congrArg List.length (srG_fst gs); rw [List.length_map, ks_len] at this; exact this
  refine ⟨hz, ⟨by rw [hl]; exact hg.l1, by rw [hl]; exact hg.l2, fun t v h => hg.ok t v ((srG_mem hg.nd).mp h), srG_nd hg.nd⟩, ?_⟩
  rw [← dues_tot (srG_nd hg.nd), AK_srG, sum_congr fun k _ => due_srG hg.nd sz k, dues_tot hg.nd]
  exact ht
end
end Pf
set_option Elab.async false
set_option linter.all false
set_option maxRecDepth 100000
set_option maxHeartbeats 1000000
namespace Pf
open PySem PySem.Spec PyProof.Rows L2 DL
theorem cut_from (ds : List D) (j : Nat) : DL.cutD ds (some (j : Int)) none = ds.drop j := by
  unfold DL.cutD
  by_cases h : j ≤ ds.length
  · have e : HT.sIx ds.length 0 (some (j : Int)) = j := by rw [HT.sIx_nat]; omega
    rw [e]
    simp [HT.sIx]
    rw [List.take_of_length_le (by simp)]
  · have e : HT.sIx ds.length 0 (some (j : Int)) = ds.length := by rw [HT.sIx_nat]; omega
    rw [e]
    rw [List.drop_eq_nil_of_le (by omega), List.drop_eq_nil_of_le (by omega)]
    simp
theorem cut_to (ds : List D) (j : Nat) : DL.cutD ds none (some (j : Int)) = ds.take j := by
  unfold DL.cutD
  by_cases h : j ≤ ds.length
  · have e : HT.sIx ds.length ds.length (some (j : Int)) = j := by rw [HT.sIx_nat]; omega
    rw [e]
    simp [HT.sIx]
  · have e : HT.sIx ds.length ds.length (some (j : Int)) = ds.length := by rw [HT.sIx_nat]; omega
    rw [e]
    simp [HT.sIx]
    rw [List.take_of_length_le (by omega)]
end Pf
set_option Elab.async false
set_option linter.all false
set_option maxRecDepth 100000
set_option maxHeartbeats 1000000
namespace Pf
open PySem PySem.Spec PyProof.Rows L2 DL
local macro_rules | `(tactic| walk_at "len") => `(tactic| with_unfolding_all first | exact Nat.le_of_ble_eq_true rfl | (simp; done) | (simp; omega))
local macro_rules | `(tactic| walk_at "side") => `(tactic| with_unfolding_all first | exact Or.inr ⟨by omega, by omega⟩ | exact Or.inl ⟨by omega, by omega⟩ | exact ⟨by omega, by omega⟩ | exact ⟨by omega, by omega, by omega⟩ | (show (0 : Int) < _; omega) | decide)
local macro_rules | `(tactic| walk_at "d1") => `(tactic| with_reducible first
  | (refine ds_seq ?_; try dsimp only [List.set_cons_zero, List.set_cons_succ, List.cons_append, List.nil_append, O.frz])
  | refine ds_asg ?_
  | refine ds_ret ?_
  | refine ds_retN ?_
  | refine ds_next ?_
  | refine ds_dropC ?_
  | refine ds_drop0 ?_
  | refine ds_dropB ?_
  | refine ds_if ?_
  | refine dt_test ?_
  | refine dt_B ?_
  | refine dt_not ?_
  | refine dt_and ?_
  | refine dt_or ?_
  | refine dt_yes ?_
  | refine de_int ?_
  | refine de_bl ?_
  | refine de_str ?_
  | refine de_non ?_
  | refine de_varD (by with_unfolding_all rfl) ?_
  | refine de_varO (by with_unfolding_all rfl) ?_
  | refine de_varA (by with_unfolding_all rfl) ?_
  | refine de_varV (by with_unfolding_all rfl) ?_
  | refine de_isi ?_
  | refine de_dget ?_
  | refine de_dget2 ?_
  | refine de_dnotin ?_
  | refine de_din ?_
  | refine de_dnew ?_
  | refine de_dnewT ?_
  | refine de_cb ?_
  | refine de_call0G ?_
  | refine de_callG ?_
  | refine de_andB ?_
  | refine de_orB ?_
  | refine de_notV ?_
  | refine de_ifE ?_
  | refine de_chain ?_
  | refine de_op ?_
  | refine de_neg ?_
  | refine de_tupG ?_
  | refine de_lstG ?_
  | refine de_slL ?_
  | refine de_slT ?_
  | refine do_none ?_
  | refine do_some ?_
  | refine daf_cons ?_
  | refine daf_nil ?_
  | refine daf_star ?_
  | refine da_cons ?_
  | refine da_nil ?_
  | refine lk_dat ?_
  | refine lk_nil ?_
  | refine ak_dat ?_
  | refine ak_nil ?_
  | refine ak_at ?_
  | refine ak_lst ?_
  | refine lk_lst ?_
  | refine ak_dK ?_
  | refine ak_dT ?_
  | refine ak_vw ?_
  | refine lk_dT ?_
  | refine lk_dK ?_
  | refine da_star ?_
  | refine de_lstRg1 ?_
  | refine de_lstRg2 ?_
  | refine de_revL ?_
  | refine de_count ?_
  | refine de_index ?_
  | refine di_enum ?_
  | refine dt_tru ?_
  | refine de_fld ?_
  | refine de_prop ?_
  | refine di_rng1 ?_
  | refine di_rng2 ?_
  | refine di_list ?_
  | refine di_tup ?_
  | refine di_seq ?_
  | refine di_zip ?_
  | refine de_split ?_
  | refine de_join ?_
  | refine de_fmt ?_
  | refine de_jnil ?_
  | refine de_jcons ?_
  | refine de_ixS ?_
  | refine de_orT ?_
  | refine di_str ?_
  | refine ops_eqS ?_
  | refine ops_neS ?_
  | refine de_indexD ?_
  | refine ops_int ?_
  | (refine ops_cat (by with_unfolding_all rfl) (by with_unfolding_all rfl) ?side ?_; (case side => walk_at "len"))
  | (refine ops_catA ?side ?_; (case side => walk_at "len"))
  | refine ops_eqI ?_
  | refine ops_neI ?_
  | refine ops_bool ?_
  | (refine ops_intC ?side ?_; (case side => walk_at "side"))
  | refine cb_lenL (by with_unfolding_all rfl) ?_
  | refine cb_lenT (by with_unfolding_all rfl) ?_
  | refine cb_lenK (by with_unfolding_all rfl) ?_
  | refine cb_max2 ?_
  | refine cb_min2 ?_
  | refine cb_int ?_
  | refine ⟨fun _ => ?_, fun z => Bool.noConfusion z⟩
  | refine ⟨fun z => Bool.noConfusion z, fun _ => ?_⟩
  | refine ⟨rfl, ?_⟩
  | refine ⟨_, rfl, ?_⟩
  | refine ⟨_, Or.inl (by with_unfolding_all rfl), ?_⟩
  | (with_unfolding_all refine ⟨_, true, rfl, rfl, (fun _ z => by cases z), rfl, ?_⟩)
  | (with_unfolding_all refine ⟨_, false, rfl, rfl, (fun _ z => by cases z), rfl, ?_⟩))
local macro_rules | `(tactic| walk_at "d") => `(tactic| repeat walk_at "d1")
local macro_rules | `(tactic| walk_at "wk") => `(tactic| repeat first | exact Wk.nil | refine Wk.keep ?_ | refine Wk.drop ?_)
section
variable {P : Program} {w : World} {K : PySem.W.Frag} {mg : Str → Option Value} {base : Heap} {f : Addr} {fd : FuncData}
theorem FIG_list : ("0123456789" : Str).cps.toList = [48, 49, 50, 51, 52, 53, 54, 55, 56, 57] := by decide +kernel
theorem FIG_in (x : Nat) : decide (x ∈ ("0123456789" : Str).cps.toList) = (decide (48 ≤ x) && decide (x ≤ 57)) := by
  rw [FIG_list, Bool.eq_iff_iff]
  simp only [List.mem_cons, List.not_mem_nil, or_false, decide_eq_true_eq, Bool.and_eq_true]
  try omega
def figD : D → Bool
  | .str y => figs (TL.tl y)
  | _ => false
theorem sgn_figs (z : Str) : (sgnD z).all figD = figs (TL.tl z) := by
  unfold sgnD
  rw [List.all_map]
  show (TL.tl z).all _ = _
  unfold figs
  congr 1
  funext x
  simp [figD, figs, TL.tl]
theorem tl_zero : TL.tl ("0" : Str) = [48] := by decide +kernel
theorem one_zero (x : Nat) : decide ((⟨#[x]⟩ : Str) = "0") = decide (x = 48) := by
  rw [Bool.eq_iff_iff, decide_eq_true_eq, decide_eq_true_eq]
  constructor
  · intro h
    have := congrArg TL.tl h
    rw [tl_zero] at this
    simpa [TL.tl] using this
  · rintro rfl
    decide +kernel
def C_number_in : Fc := fun _ W m ss Φ Ξ => ∃ z : Str, ss = [.dat (.str z)] ∧ z.length ≤ sizeLine ∧ Φ m (.dat (optN (numIn z)))
abbrev s_number_in : Stmt := (top 33)
abbrev N_number_in : List Str := ["word", "sign"]
theorem sc_number_in : FnScope N_number_in ["word"] (defScope s_number_in) := ⟨rfl, rfl, rfl, by decide +kernel, rfl, by decide +kernel, by decide +kernel⟩
theorem ok_number_in (F : FnP K "number_in" s_number_in f fd) (b : BI mg) (k_FIGURES : ∃ u, mg "FIGURES" = some u ∧ RelV (.str "0123456789") u) (k_MOST_FIGURES : ∃ u, mg "MOST_FIGURES" = some u ∧ RelV (.int 30) u) : FnOk P w K mg base CX0 1 f fd ["word"] (spF K C_number_in) := by
  have hlen := spF_len (K := K) (C := C_number_in) (m := 1) fun κ W m ss Φ Ξ ⟨z, e, _⟩ => by first | exact e | (rw [e]; rfl)
  refine F.ok sc_number_in hlen ?_
  intro cdv A outer s H vs Q E hr h
  refine ⟨_, PSs.nox (pss_cons (ps_if (PW.pt (pw_or (pt_not (pt_chain op_le op_le pe_int (pe_callB k_lenS rfl b.len boot_len (pa_cons (pv 0) pa_nil)) (C8.pe_gc rfl k_MOST_FIGURES))) (pw_or1 (pt_not (pt_val (pe_callB (k_all (K := K) rfl rfl) rfl b.all boot_all (pa_cons (pe_lc (own := [("sign", 1)]) rfl sc_number_in.nd (pi_str (pv 0)) (blkOk_by (own := [("sign", 1)]) (N := N_number_in) (sc := (defScope s_number_in)) (by decide +kernel)) (fun _ _ _ _ _ => (pg_name (i := 1) sc_number_in.nd rfl (by first | exact Or.inl rfl | exact Or.inr rfl))) (fun _ _ _ _ _ => pts_nil) (fun _ _ _ _ _ => (pe_cmpR op_inS (pv 1) (C8.pe_gc rfl k_FIGURES) rfl))) pa_nil))))))) (pss_one (ps_ret pe_non)) pss_nil)
      (pss_one (ps_ret (pe_ifExp (PW.pt (pw_and (pt_cmpR op_eq (k_ixS (pv 0) pe_int (fun _ _ => rfl)) pe_str (nomark _)) (pw_and1 (pt_cmpR op_ne (pv 0) pe_str (nomark _))))) pe_non (pe_callTy k_intS rfl b.int_ boot_int (pa_cons (pv 0) pa_nil)))))), ?_⟩
  refine DL.run_fnP  [.no] (Nm := N_number_in) (n := 1) (k := 1) rfl (hlen _ _ _ _ h) rfl h fun κ W m ss Φ Ξ G hc => ?_
  try dsimp only [cxOf, Cx.nox, Cx.wish, Cx.blk]
  obtain ⟨z, rfl, hz, hΦ⟩ := hc
  walk_at "d"
  refine cb_lenS hz ?_
  walk_at "d"
  by_cases l1 : 1 ≤ z.length
  case neg =>
    rw [show decide ((1 : Int) ≤ (z.length : Nat)) = false by rw [decide_eq_false_iff_not]; omega]
    walk_at "d"
    rw [show numIn z = none by unfold numIn; rw [if_neg (fun h => l1 h.1)]] at hΦ
    exact hΦ
  rw [show decide ((1 : Int) ≤ (z.length : Nat)) = true by simp; omega]
  walk_at "d"
  by_cases l2 : z.length ≤ 30
  case neg =>
    rw [show decide (((z.length : Nat) : Int) ≤ 30) = false by simp; omega]
    walk_at "d"
    rw [show numIn z = none by unfold numIn; rw [if_neg (fun h => l2 h.2.1)]] at hΦ
    exact hΦ
  rw [show decide (((z.length : Nat) : Int) ≤ 30) = true by simp; omega]
  walk_at "d"
  have hlen : (sgnD z).length = z.length := by simp [sgnD, Str.length]
  refine de_lcMap (f := fun d => .bl (figD d)) ?_
  walk_at "d"
  refine ⟨by rw [hlen]; omega, fun d hd => ⟨_, dg_name (by simp), ?_⟩, ?_⟩
  · obtain ⟨x, hx, rfl⟩ := List.mem_map.mp hd
    walk_at "d"
    refine ops_inS ?_
    rw [FIG_in]
    refine ⟨rfl, ?_⟩
    simp [figD, figs, TL.tl, S.frz]
  walk_at "d"
  refine cb_allM ?_
  rw [sgn_figs]
  cases hf : figs (TL.tl z) with
  | false =>
    walk_at "d"
    rw [show numIn z = none by unfold numIn; rw [if_neg (fun h => by rw [hf] at h; exact Bool.false_ne_true h.2.2.1)]] at hΦ
    exact hΦ
  | true =>
    walk_at "d"
    obtain ⟨x, r, e⟩ : ∃ x r, TL.tl z = x :: r := by
      cases e : TL.tl z with
      | nil => rw [TL.len_tl, e] at l1; simp at l1
      | cons x r => exact ⟨x, r, rfl⟩
    refine ops_ixS (j := 0) (x := x) (by decide) ?_ ?_
    · rw [← Array.getElem?_toList, show z.cps.toList = x :: r from e]; rfl
    walk_at "d"
    rw [one_zero]
    have hne : (decide (z = ("0" : Str))) = decide (TL.tl z = [48]) := by
      rw [Bool.eq_iff_iff, decide_eq_true_eq, decide_eq_true_eq]
      exact ⟨fun h => by rw [h, tl_zero], fun h => TL.ext_tl (by rw [tl_zero, h])⟩
    have hint : ¬ ((TL.tl z).head? = some 48 ∧ TL.tl z ≠ [48]) → Φ m (.dat (.int (NumText.digitsVal (TL.tl z) : Nat))) := fun h => by
      rw [show numIn z = some (NumText.digitsVal (TL.tl z)) by unfold numIn; rw [if_pos ⟨l1, l2, hf, h⟩]] at hΦ
      exact hΦ
    have hdig : NumText.AllDigits (TL.tl z) := fun c hc => by
      have := List.all_eq_true.mp hf c hc
      simp at this
      omega
    have htxt : PySem.intText? z = some ((NumText.digitsVal (TL.tl z) : Nat) : Int) := PySem.intText_digits hdig (by show TL.tl z ≠ []; rw [e]; simp) (by omega)
    by_cases h48 : x = 48
    · rw [show decide (x = 48) = true by simp [h48]]
      walk_at "d"
      rw [hne]
      by_cases h1 : TL.tl z = [48]
      · rw [show (!decide (TL.tl z = [48])) = false by simp [h1]]
        walk_at "d"
        refine cb_intS htxt (by omega) ?_
        exact ⟨rfl, hint fun z => z.2 h1⟩
      · rw [show (!decide (TL.tl z = [48])) = true by simp [h1]]
        walk_at "d"
        rw [show numIn z = none by unfold numIn; rw [if_neg (fun h => h.2.2.2 ⟨by rw [e, h48]; rfl, h1⟩)]] at hΦ
        exact hΦ
    · rw [show decide (x = 48) = false by simp [h48]]
      walk_at "d"
      refine cb_intS htxt (by omega) ?_
      exact ⟨rfl, hint fun z => h48 (by have := z.1; rw [e] at this; simpa using this)⟩
def C_numbers_in : Fc := fun _ W m ss Φ Ξ => ∃ ws : List Str, ss = [.dat (.lst (ws.map D.str))] ∧ ws.length ≤ 900000 ∧ (∀ w ∈ ws, w.length ≤ sizeLine) ∧ (numsIn ws = none → Φ m (.dat .non)) ∧ (∀ ns, numsIn ws = some ns → Φ m (.own (.lst (dN ns))))
abbrev s_numbers_in : Stmt := (top 34)
abbrev N_numbers_in : List Str := ["words", "found", "word", "number"]
theorem sc_numbers_in : FnScope N_numbers_in ["words"] (defScope s_numbers_in) := ⟨rfl, rfl, rfl, by decide +kernel, rfl, by decide +kernel, by decide +kernel⟩
theorem ok_numbers_in (F : FnP K "numbers_in" s_numbers_in f fd) (b : BI mg) (c_number_in : Cl P w K mg base CX0 1 "number_in" ["word"] C_number_in) : FnOk P w K mg base CX0 2 f fd ["words"] (spF K C_numbers_in) := by
  have hlen := spF_len (K := K) (C := C_numbers_in) (m := 1) fun κ W m ss Φ Ξ ⟨ws, e, _⟩ => by first | exact e | (rw [e]; rfl)
  refine F.ok sc_numbers_in hlen ?_
  intro cdv A outer s H vs Q E hr h
  refine ⟨_, PSs.nox (pss_cons (ps_set (i := 1) sc_numbers_in.nd rfl (by first | exact Or.inl rfl | exact Or.inr rfl) (pe_lst pa_nil))
      (pss_cons (ps_for PassesOwn.never rfl (k_piS (K := K) rfl (pv 0)) (pg_name (i := 2) sc_numbers_in.nd rfl (by first | exact Or.inl rfl | exact Or.inr rfl))
      (pss_cons (ps_set (i := 3) sc_numbers_in.nd rfl (by first | exact Or.inl rfl | exact Or.inr rfl) (k_cl0 c_number_in rfl hr (pa_cons (pv 2) pa_nil)))
      (pss_cons (ps_if (pt_cmpR op_isN (pv 3) pe_non (nomark _)) (pss_one (ps_ret pe_non)) pss_nil)
      (pss_one (ps_expr (k_app (K := K) rfl (pv 1) (pa_cons (pv 3) pa_nil)))))))
      (pss_one (ps_ret (pv 1))))), ?_⟩
  refine DL.run_fnP  [.no, .no, .no] (Nm := N_numbers_in) (n := 1) (k := 3) rfl (hlen _ _ _ _ h) rfl h fun κ W m ss Φ Ξ G hc => ?_
  try dsimp only [cxOf, Cx.nox, Cx.wish, Cx.blk]
  obtain ⟨ws, rfl, hl, hz, hN, hΦ⟩ := hc
  walk_at "d"
  refine ds_forW (vs := [2]) ?_
  walk_at "d"
  refine ⟨fun i m' ρ => m' = m ∧ ∃ ns, (ws.take i).map numIn = ns.map some ∧ ρ = [.dat (.lst (ws.map D.str)), .own (.lst (dN ns)), .no, .no], ⟨_, Wk.refl _, rfl, rfl, [], rfl, rfl⟩, ?_, ?_⟩
  · rintro i d m' ρ hd ⟨rfl, ns, hns, rfl⟩
    rw [List.getElem?_map] at hd
    cases hw : ws[i]? with
    | none => rw [hw] at hd; cases hd
    | some z =>
      rw [hw] at hd
      cases hd
      have hzm := List.mem_of_getElem? hw
      have nl : ns.length ≤ 900000 := by
        have := congrArg List.length hns
        simp at this
        omega
      refine ⟨_, dg_name (by simp), ?_⟩
      walk_at "d"
      refine ⟨z, rfl, hz z hzm, ?_⟩
      walk_at "d"
      cases hn : numIn z with
      | none =>
        refine ops_isNo rfl ?_
        walk_at "d"
        exact hN (numsIn_none hzm hn)
      | some n =>
        refine ops_isNo rfl ?_
        walk_at "d"
        refine ds_app (i := 1) rfl (by rw [dN_len]; omega) ?_
        walk_at "d"
        dsimp only [List.set_cons_zero, List.set_cons_succ]
        rw [show dN ns ++ [optN (some n)] = dN (ns ++ [n]) by unfold dN; rw [List.map_append]; rfl]
        refine ⟨[.dat (.lst (ws.map D.str)), .own (.lst (dN (ns ++ [n]))), .no, .no], by walk_at "wk", rfl, rfl, ns ++ [n], ?_, rfl⟩
        rw [List.take_add_one, hw]
        simp [hns, hn]
  · rintro m' ρ ⟨rfl, ns, hns, rfl⟩
    rw [List.length_map, List.take_length] at hns
    exact ds_retVar rfl (hΦ ns (numsIn_some.mpr hns))
theorem atI_0 {α : Type} {f : α → D} {l : List α} {a : α} (h : l.head? = some a) : atI (l.map f) 0 = some (f a) := by
  cases l with
  | nil => cases h
  | cons b r => cases h; exact atI_row (i := 0) rfl
theorem head_split {y : Str} {s : Nat} (h : Sep y s) (x : Str) : ∃ a, (Txt.split x y).head? = some a := by
  cases e : Txt.split x y with
  | nil => exact absurd e (h.ne x)
  | cons a r => exact ⟨a, rfl⟩
theorem cut_1 (ds : List D) : DL.cutD ds (some 1) none = ds.drop 1 := cut_from ds 1
def C_sizes_in : Fc := fun _ W m ss Φ Ξ => ∃ z : Str, ss = [.dat (.str z)] ∧ z.length ≤ 800000 ∧ (sizesIn z = none → Φ m (.dat .non)) ∧ (∀ ns, sizesIn z = some ns → Φ m (.dat (.lst (dN ns))))
abbrev s_sizes_in : Stmt := (top 35)
abbrev N_sizes_in : List Str := ["line", "words", "found"]
theorem sc_sizes_in : FnScope N_sizes_in ["line"] (defScope s_sizes_in) := ⟨rfl, rfl, rfl, by decide +kernel, rfl, by decide +kernel, by decide +kernel⟩
theorem ok_sizes_in (F : FnP K "sizes_in" s_sizes_in f fd) (b : BI mg) (c_numbers_in : Cl P w K mg base CX0 2 "numbers_in" ["words"] C_numbers_in) (c_are_sizes : Cl P w K mg base CX0 2 "are_sizes" ["value"] C_are_sizes) : FnOk P w K mg base CX0 3 f fd ["line"] (spF K C_sizes_in) := by
  have hlen := spF_len (K := K) (C := C_sizes_in) (m := 1) fun κ W m ss Φ Ξ ⟨z, e, _⟩ => by first | exact e | (rw [e]; rfl)
  refine F.ok sc_sizes_in hlen ?_
  intro cdv A outer s H vs Q E hr h
  refine ⟨_, PSs.nox (pss_cons (ps_set (i := 1) sc_sizes_in.nd rfl (by first | exact Or.inl rfl | exact Or.inr rfl) (k_split (pv 0) pe_str))
      (pss_cons (ps_set (i := 2) sc_sizes_in.nd rfl (by first | exact Or.inl rfl | exact Or.inr rfl) (pe_ifExp (pt_cmpR op_eq (pe_ix (k_ixL (K := K) rfl) (pv 1) pe_int (fun _ _ => rfl)) pe_str (nomark _)) (k_cl0 c_numbers_in rfl hr (pa_cons (pe_slice (k_slL (K := K) rfl) (pv 1) (po_some pe_int) po_none) pa_nil)) pe_non))
      (pss_one (ps_ret (pe_ifExp (PW.pt (pw_and (pt_cmpR op_notN (pv 2) pe_non (nomark _)) (pw_and1 (pt_val (k_cl0 c_are_sizes rfl hr (pa_cons (pv 2) pa_nil)))))) (pv 2) pe_non))))), ?_⟩
  refine DL.run_fnP  [.no, .no] (Nm := N_sizes_in) (n := 1) (k := 2) rfl (hlen _ _ _ _ h) rfl h fun κ W m ss Φ Ξ G hc => ?_
  try dsimp only [cxOf, Cx.nox, Cx.wish, Cx.blk]
  obtain ⟨z, rfl, hz, hN, hΦ⟩ := hc
  have hsl : z.length + 2 ≤ sizeLine := by have : sizeLine = 16777216 := sizeLine_eq; omega
  have hcnt := sepSp.cnt z
  have hin : ∀ w ∈ Txt.split z " ", w.length ≤ sizeLine := fun w hw => by have := sepSp.in_ hw; omega
  obtain ⟨w0, hw0⟩ := head_split sepSp z
  walk_at "d"
  refine ⟨hsl, ?_⟩
  refine ⟨rfl, ?_⟩
  walk_at "d"
  refine ops_ixL rfl (atI_0 hw0) ?_
  walk_at "d"
  have hN0 : ¬ w0 = ("sizes" : Str) → sizesIn z = none := fun h => by
    unfold sizesIn
    rw [hw0, if_neg (fun z => h (Option.some.inj z))]
  have hS : w0 = ("sizes" : Str) → sizesIn z = (numsIn ((Txt.split z " ").drop 1)).filter areSz := fun h => by
    unfold sizesIn
    rw [hw0, if_pos (by rw [h])]
  refine ⟨fun hb => ?_, fun hb => ?_⟩
  · have hS := hS (of_decide_eq_true hb)
    walk_at "d"
    rw [cut_1, ← List.map_drop]
    refine ⟨_, rfl, ?_, fun w hw => hin w (List.mem_of_mem_drop hw), fun h0 => ?_, fun ns h0 => ?_⟩
    · rw [List.length_drop]; omega
    · rw [h0] at hS
      walk_at "d"
      refine ops_notNo rfl ?_
      walk_at "d"
      exact hN hS
    · rw [h0] at hS
      refine ⟨rfl, ?_⟩
      refine ds_frz (i := 2) rfl ?_
      walk_at "d"
      refine ops_notNo rfl ?_
      walk_at "d"
      have nl : ns.length ≤ 900000 := by
        have := congrArg List.length (numsIn_some.mp h0)
        simp at this
        omega
      refine ⟨_, ns, rfl, .inl rfl, nl, ?_⟩
      cases ha : areSz ns with
      | true =>
        walk_at "d"
        exact hΦ ns (by rw [hS]; simp [Option.filter, ha])
      | false =>
        walk_at "d"
        exact hN (by rw [hS]; simp [Option.filter, ha])
  · have hN := hN (hN0 (of_decide_eq_false hb))
    walk_at "d"
    refine ops_notNo rfl ?_
    walk_at "d"
    exact hN
end
end Pf
set_option Elab.async false
set_option linter.all false
set_option maxRecDepth 100000
set_option maxHeartbeats 1000000
namespace Pf
open PySem PySem.Spec PyProof.Rows L2 DL
/-! ### a dict made of pairs of numbers -/
def pput (gs : List (Nat × Nat)) (k v : Nat) : List (Nat × Nat) := if k ∈ gs.map (·.1) then gs.map fun p => if p.1 = k then (p.1, v) else p else gs ++ [(k, v)]
theorem pput_D (gs : List (Nat × Nat)) (k v : Nat) : putD (gD gs) (Sum.inl (k : Int)) (.int (v : Nat)) = gD (pput gs k v) := by
  have hany : ((gD gs).any fun p => decide (p.1 = Sum.inl (k : Int))) = decide (k ∈ gs.map (·.1)) := by
    rw [Bool.eq_iff_iff, List.any_eq_true, decide_eq_true_eq]
    constructor
    · rintro ⟨p, hp, h⟩
      obtain ⟨t, v, htv, rfl⟩ := gD_mem hp
      simp at h
      exact List.mem_map.mpr ⟨(t, v), htv, by show t = k; omega⟩
    · intro h
      obtain ⟨p, hp, rfl⟩ := List.mem_map.mp h
      exact ⟨_, List.mem_map.mpr ⟨p, hp, rfl⟩, by simp⟩
  unfold putD pput
  rw [hany]
  by_cases h : k ∈ gs.map (·.1)
  · rw [if_pos (by simpa using h), if_pos h]
    unfold gD
    rw [List.map_map, List.map_map]
    apply List.map_congr_left
    intro p _
    by_cases e : p.1 = k
    · simp [e]
    · have : ¬ ((p.1 : Nat) : Int) = (k : Nat) := by omega
      simp [e, this]
  · rw [if_neg (by simpa using h), if_neg h]
    simp [gD]
theorem pput_keys (gs : List (Nat × Nat)) (k v : Nat) : (pput gs k v).map (·.1) = if k ∈ gs.map (·.1) then gs.map (·.1) else gs.map (·.1) ++ [k] := by
  unfold pput
  by_cases h : k ∈ gs.map (·.1)
  · rw [if_pos h, if_pos h, List.map_map]
    apply List.map_congr_left
    intro p _
    show (if p.1 = k then (p.1, v) else p).1 = p.1
    split <;> rfl
  · rw [if_neg h, if_neg h]
    simp
theorem pput_nd {gs : List (Nat × Nat)} (nd : (gs.map (·.1)).Nodup) (k v : Nat) : ((pput gs k v).map (·.1)).Nodup := by
  rw [pput_keys]
  split
  · exact nd
  · rename_i h
    rw [List.nodup_append]
    exact ⟨nd, by simp, by intro a ha b hb z; simp at hb; subst hb; subst z; exact h ha⟩
theorem pput_len (gs : List (Nat × Nat)) (k v : Nat) : (pput gs k v).length ≤ gs.length + 1 := by
  have := congrArg List.length (pput_keys gs k v)
  rw [List.length_map] at this
  rw [this]
  split <;> simp
def dOf (ps : List (Nat × Nat)) : List (Nat × Nat) := ps.foldl (fun a p => pput a p.1 p.2) []
theorem dOf_snoc (ps : List (Nat × Nat)) (p : Nat × Nat) : dOf (ps ++ [p]) = pput (dOf ps) p.1 p.2 := by unfold dOf; rw [List.foldl_append]; rfl
theorem dOf_nd (ps : List (Nat × Nat)) : ((dOf ps).map (·.1)).Nodup := by
  have : ∀ (ps a : List (Nat × Nat)), (a.map (·.1)).Nodup → ((ps.foldl (fun a p => pput a p.1 p.2) a).map (·.1)).Nodup := by
    intro ps
    induction ps with
    | nil => intro a h; exact h
    | cons p ps ih => intro a h; exact ih _ (pput_nd h _ _)
  exact this ps [] (by simp)
theorem dOf_len (ps : List (Nat × Nat)) : (dOf ps).length ≤ ps.length := by
  have : ∀ (ps a : List (Nat × Nat)), (ps.foldl (fun a p => pput a p.1 p.2) a).length ≤ a.length + ps.length := by
    intro ps
    induction ps with
    | nil => intro a; simp
    | cons p ps ih =>
      intro a
      have := ih (pput a p.1 p.2)
      have := pput_len a p.1 p.2
      simp
      omega
  have := this ps []
  unfold dOf
  simpa using this
theorem dOf_eq {ps : List (Nat × Nat)} (nd : (ps.map (·.1)).Nodup) : dOf ps = ps := by
  have : ∀ (ps a : List (Nat × Nat)), ((a ++ ps).map (·.1)).Nodup → ps.foldl (fun a p => pput a p.1 p.2) a = a ++ ps := by
    intro ps
    induction ps with
    | nil => intro a _; simp
    | cons p ps ih =>
      intro a h
      have hn : p.1 ∉ a.map (·.1) := by
        rw [List.map_append, List.nodup_append] at h
        intro z
        exact h.2.2 _ z p.1 (by simp) rfl
      have e : pput a p.1 p.2 = a ++ [p] := by unfold pput; rw [if_neg hn]
      rw [List.foldl_cons, e, ih _ (by simpa using h)]
      simp
  have := this ps [] (by simpa using nd)
  unfold dOf
  simpa using this
theorem ks_sorted (gs : List (Nat × Nat)) : (ks gs).Pairwise (· ≤ ·) := by
  have := srt_sorted (gs.map fun p => (p.1 : Int))
  rw [ks_int, List.pairwise_map] at this
  exact this.imp fun h => by omega
theorem asc_ks {ps : List (Nat × Nat)} : ps.map (·.1) = ks (dOf ps) ↔ asc (ps.map (·.1)) = true := by
  constructor
  · intro h
    rw [asc_iff, h]
    have n := ks_nodup (dOf_nd ps)
    have s := ks_sorted (dOf ps)
    exact (List.pairwise_and_iff.mpr ⟨s, n⟩).imp fun ⟨a, b⟩ => by omega
  · intro h
    have nd := asc_nd h
    rw [dOf_eq nd]
    have p := asc_iff.mp h
    have e : (ks ps).map (fun n : Nat => (n : Int)) = (ps.map (·.1)).map fun n : Nat => (n : Int) := by
      rw [← ks_int]
      refine (srt_uniq ?_ ?_).symm
      · rw [List.map_map]; exact List.Perm.refl _
      · rw [List.pairwise_map]
        exact p.imp fun h => by omega
    exact ((List.map_inj_right (fun a b h => by omega)).mp e).symm
/-! ### a word that is a pair -/
def optL : Option (List Nat) → D
  | none => .non
  | some ns => .lst (dN ns)
def twoD : D → Bool
  | .lst ds => decide (ds.length = 2)
  | _ => false
theorem twoD_optL (o : Option (List Nat)) : twoD (optL o) = true ↔ ∃ a b, o = some [a, b] := by
  cases o with
  | none => simp [optL, twoD]
  | some ns =>
    simp only [optL, twoD, dN_len, decide_eq_true_eq, Option.some.injEq]
    constructor
    · intro h
      match ns, h with
      | [a, b], _ => exact ⟨a, b, rfl⟩
    · rintro ⟨a, b, rfl⟩; rfl
theorem pairIn_some {w : Str} {p : Nat × Nat} : pairIn w = some p ↔ numsIn (Txt.split w ":") = some [p.1, p.2] := by
  unfold pairIn
  constructor
  · intro h
    split at h
    · rename_i a b e
      cases h
      exact e
    · cases h
  · intro h
    rw [h]
theorem mapM_some {α β : Type} {f : α → Option β} {ws : List α} {ns : List β} : ws.mapM f = some ns ↔ ws.map f = ns.map some := by
  induction ws generalizing ns with
  | nil => cases ns <;> simp
  | cons w ws ih =>
    rw [List.mapM_cons]
    cases e : f w with
    | none => cases ns <;> simp [e]
    | some n =>
      cases ns with
      | nil => cases e2 : List.mapM f ws <;> simp [e2]
      | cons k ns =>
        have := ih (ns := ns)
        cases e2 : List.mapM f ws with
        | none =>
          rw [e2] at this
          simp [e, e2] at this ⊢
          intro _ z
          exact this z
        | some r =>
          rw [e2] at this
          simp [e, e2] at this ⊢
          rw [this]
          exact fun _ => Iff.rfl
theorem mapM_all {α β : Type} {f : α → Option β} : ∀ {ws : List α}, (∀ w ∈ ws, ∃ n, f w = some n) → ∃ ns, ws.mapM f = some ns
  | [], _ => ⟨[], rfl⟩
  | w :: ws, h => by
    obtain ⟨n, hn⟩ := h w (by simp)
    obtain ⟨ns, hns⟩ := mapM_all (ws := ws) fun x hx => h x (by simp [hx])
    exact ⟨n :: ns, by rw [List.mapM_cons, hn, hns]; rfl⟩
theorem mapM_bad {α β : Type} {f : α → Option β} {ws : List α} {w : α} (h : w ∈ ws) (hw : f w = none) : ws.mapM f = none := by
  cases e : ws.mapM f with
  | none => rfl
  | some ns =>
    rw [mapM_some] at e
    have : f w ∈ ns.map some := by rw [← e]; exact List.mem_map.mpr ⟨w, h, rfl⟩
    rw [hw] at this
    simp at this
end Pf
set_option Elab.async false
set_option linter.all false
set_option maxRecDepth 100000
set_option maxHeartbeats 1000000
namespace Pf
open PySem PySem.Spec PyProof.Rows L2 DL
local macro_rules | `(tactic| walk_at "len") => `(tactic| with_unfolding_all first | exact Nat.le_of_ble_eq_true rfl | (simp; done) | (simp; omega))
local macro_rules | `(tactic| walk_at "side") => `(tactic| with_unfolding_all first | exact Or.inr ⟨by omega, by omega⟩ | exact Or.inl ⟨by omega, by omega⟩ | exact ⟨by omega, by omega⟩ | exact ⟨by omega, by omega, by omega⟩ | (show (0 : Int) < _; omega) | decide)
local macro_rules | `(tactic| walk_at "d1") => `(tactic| with_reducible first
  | (refine ds_seq ?_; try dsimp only [List.set_cons_zero, List.set_cons_succ, List.cons_append, List.nil_append, O.frz])
  | refine ds_asg ?_
  | refine ds_ret ?_
  | refine ds_retN ?_
  | refine ds_next ?_
  | refine ds_dropC ?_
  | refine ds_drop0 ?_
  | refine ds_dropB ?_
  | refine ds_if ?_
  | refine dt_test ?_
  | refine dt_B ?_
  | refine dt_not ?_
  | refine dt_and ?_
  | refine dt_or ?_
  | refine dt_yes ?_
  | refine de_int ?_
  | refine de_bl ?_
  | refine de_str ?_
  | refine de_non ?_
  | refine de_varD (by with_unfolding_all rfl) ?_
  | refine de_varO (by with_unfolding_all rfl) ?_
  | refine de_varA (by with_unfolding_all rfl) ?_
  | refine de_varV (by with_unfolding_all rfl) ?_
  | refine de_isi ?_
  | refine de_dget ?_
  | refine de_dget2 ?_
  | refine de_dnotin ?_
  | refine de_din ?_
  | refine de_dnew ?_
  | refine de_dnewT ?_
  | refine de_cb ?_
  | refine de_call0G ?_
  | refine de_callG ?_
  | refine de_andB ?_
  | refine de_orB ?_
  | refine de_notV ?_
  | refine de_ifE ?_
  | refine de_chain ?_
  | refine de_op ?_
  | refine de_neg ?_
  | refine de_tupG ?_
  | refine de_lstG ?_
  | refine de_slL ?_
  | refine de_slT ?_
  | refine do_none ?_
  | refine do_some ?_
  | refine daf_cons ?_
  | refine daf_nil ?_
  | refine daf_star ?_
  | refine da_cons ?_
  | refine da_nil ?_
  | refine lk_dat ?_
  | refine lk_nil ?_
  | refine ak_dat ?_
  | refine ak_nil ?_
  | refine ak_at ?_
  | refine ak_lst ?_
  | refine lk_lst ?_
  | refine ak_dK ?_
  | refine ak_dT ?_
  | refine ak_vw ?_
  | refine lk_dT ?_
  | refine lk_dK ?_
  | refine da_star ?_
  | refine de_lstRg1 ?_
  | refine de_lstRg2 ?_
  | refine de_revL ?_
  | refine de_count ?_
  | refine de_index ?_
  | refine di_enum ?_
  | refine dt_tru ?_
  | refine de_fld ?_
  | refine de_prop ?_
  | refine di_rng1 ?_
  | refine di_rng2 ?_
  | refine di_list ?_
  | refine di_tup ?_
  | refine di_seq ?_
  | refine di_zip ?_
  | refine de_split ?_
  | refine de_join ?_
  | refine de_fmt ?_
  | refine de_jnil ?_
  | refine de_jcons ?_
  | refine de_ixS ?_
  | refine de_orT ?_
  | refine di_str ?_
  | refine ops_eqS ?_
  | refine ops_neS ?_
  | refine de_indexD ?_
  | refine ops_int ?_
  | (refine ops_cat (by with_unfolding_all rfl) (by with_unfolding_all rfl) ?side ?_; (case side => walk_at "len"))
  | (refine ops_catA ?side ?_; (case side => walk_at "len"))
  | refine ops_eqI ?_
  | refine ops_neI ?_
  | refine ops_bool ?_
  | (refine ops_intC ?side ?_; (case side => walk_at "side"))
  | refine cb_lenL (by with_unfolding_all rfl) ?_
  | refine cb_lenT (by with_unfolding_all rfl) ?_
  | refine cb_lenK (by with_unfolding_all rfl) ?_
  | refine cb_max2 ?_
  | refine cb_min2 ?_
  | refine cb_int ?_
  | refine ⟨fun _ => ?_, fun z => Bool.noConfusion z⟩
  | refine ⟨fun z => Bool.noConfusion z, fun _ => ?_⟩
  | refine ⟨rfl, ?_⟩
  | refine ⟨_, rfl, ?_⟩
  | refine ⟨_, Or.inl (by with_unfolding_all rfl), ?_⟩
  | (with_unfolding_all refine ⟨_, true, rfl, rfl, (fun _ z => by cases z), rfl, ?_⟩)
  | (with_unfolding_all refine ⟨_, false, rfl, rfl, (fun _ z => by cases z), rfl, ?_⟩))
local macro_rules | `(tactic| walk_at "d") => `(tactic| repeat walk_at "d1")
local macro_rules | `(tactic| walk_at "wk") => `(tactic| repeat first | exact Wk.nil | refine Wk.keep ?_ | refine Wk.drop ?_)
section
variable {P : Program} {w : World} {K : PySem.W.Frag} {mg : Str → Option Value} {base : Heap} {f : Addr} {fd : FuncData}
def strF (g : Str → D) : D → D
  | .str w => g w
  | _ => .non
/-- few pairs in a line of games -/
def FewP (z : Str) : Prop := ∀ ps, ((Txt.split z " ").drop 1).mapM pairIn = some ps → ps.length < 64
def C_games_in : Fc := fun _ W m ss Φ Ξ => ∃ (n : Nat) (z : Str), ss = [.dat (.int (n : Nat)), .dat (.str z)] ∧ n ≤ 10 ∧ z.length ≤ 800000 ∧ FewP z ∧ (gamesIn n z = none → Φ m (.dat .non)) ∧ (∀ gs, gamesIn n z = some gs → Φ m (.dat (.dic (gD gs))))
abbrev s_games_in : Stmt := (top 36)
abbrev N_games_in : List Str := ["people", "line", "words", "pairs", "found", "word", "pair"]
theorem sc_games_in : FnScope N_games_in ["people", "line"] (defScope s_games_in) := ⟨rfl, rfl, rfl, by decide +kernel, rfl, by decide +kernel, by decide +kernel⟩
theorem ok_games_in (F : FnP K "games_in" s_games_in f fd) (b : BI mg) (k_MOST_TEAMS : ∃ u, mg "MOST_TEAMS" = some u ∧ RelV (.int 130) u) (c_numbers_in : Cl P w K mg base CX0 2 "numbers_in" ["words"] C_numbers_in) (c_are_games : Cl P w K mg base CX0 2 "are_games" ["people", "value"] C_are_games) (c_all_teams : Cl P w K mg base CX0 2 "all_teams" ["people", "games"] C_all_teams) : FnOk P w K mg base CX0 3 f fd ["people", "line"] (spF K C_games_in) := by
  have hlen := spF_len (K := K) (C := C_games_in) (m := 2) fun κ W m ss Φ Ξ ⟨n, z, e, _⟩ => by first | exact e | (rw [e]; rfl)
  refine F.ok sc_games_in hlen ?_
  intro cdv A outer s H vs Q E hr h
  refine ⟨_, PSs.nox (pss_cons (ps_set (i := 2) sc_games_in.nd rfl (by first | exact Or.inl rfl | exact Or.inr rfl) (k_split (pv 1) pe_str))
      (pss_cons (ps_setLc (i := 3) (own := [("word", 5)]) rfl sc_games_in.nd rfl rfl (sw_true rfl rfl rfl (by decide +kernel)) (k_piL (K := K) rfl (pe_slice (k_slL (K := K) rfl) (pv 2) (po_some pe_int) po_none)) (blkOk_by (own := [("word", 5)]) (N := N_games_in) (sc := (defScope s_games_in)) (by decide +kernel)) (fun _ _ _ _ _ => (pg_name (i := 5) sc_games_in.nd rfl (by first | exact Or.inl rfl | exact Or.inr rfl))) (fun _ _ _ _ _ => pts_nil) (fun _ _ _ _ _ => (k_cl0 c_numbers_in rfl hr (pa_cons (k_split (pv 5) pe_str) pa_nil))))
      (pss_cons (ps_if (PW.pt (pw_or (pt_cmpR op_ne (pe_ix (k_ixL (K := K) rfl) (pv 2) pe_int (fun _ _ => rfl)) pe_str (nomark _)) (pw_or1 (pt_not (pt_val (pe_callB (k_all (K := K) rfl rfl) rfl b.all boot_all (pa_cons (pe_lc (own := [("pair", 6)]) rfl sc_games_in.nd (k_piL (K := K) rfl (pv 3)) (blkOk_by (own := [("pair", 6)]) (N := N_games_in) (sc := (defScope s_games_in)) (by decide +kernel)) (fun _ _ _ _ _ => (pg_name (i := 6) sc_games_in.nd rfl (by first | exact Or.inl rfl | exact Or.inr rfl))) (fun _ _ _ _ _ => pts_nil) (fun _ _ _ _ _ => (pe_and (pe_cmpR op_notN (pv 6) pe_non (nomark _)) (pe_one (pe_cmpR (k_eqD (K := K) rfl hr.units) (pe_callB (k_len (K := K) rfl) rfl b.len boot_len (pa_cons (pv 6) pa_nil)) pe_int (nomark _)))))) pa_nil))))))) (pss_one (ps_ret pe_non)) pss_nil)
      (pss_cons (ps_setDc (i := 4) (own := [("pair", 6)]) rfl sc_games_in.nd rfl rfl (sw_dict rfl rfl rfl (by decide +kernel)) (k_piL (K := K) rfl (pv 3)) (blkOk_by (own := [("pair", 6)]) (N := N_games_in) (sc := (defScope s_games_in)) (by decide +kernel)) (fun _ _ _ _ _ => (pg_name (i := 6) sc_games_in.nd rfl (by first | exact Or.inl rfl | exact Or.inr rfl))) (fun _ _ _ _ _ => pts_nil) (fun _ _ _ _ _ => (pe_ix (k_ixL (K := K) rfl) (pv 6) pe_int (fun _ _ => rfl))) (fun _ _ _ _ _ => (pe_ix (k_ixL (K := K) rfl) (pv 6) pe_int (fun _ _ => rfl))))
      (pss_cons (ps_if (PW.pt (pw_or (pt_cmpR (k_neD (K := K) rfl hr.units) (pe_lc (own := [("pair", 6)]) rfl sc_games_in.nd (k_piL (K := K) rfl (pv 3)) (blkOk_by (own := [("pair", 6)]) (N := N_games_in) (sc := (defScope s_games_in)) (by decide +kernel)) (fun _ _ _ _ _ => (pg_name (i := 6) sc_games_in.nd rfl (by first | exact Or.inl rfl | exact Or.inr rfl))) (fun _ _ _ _ _ => pts_nil) (fun _ _ _ _ _ => (pe_ix (k_ixL (K := K) rfl) (pv 6) pe_int (fun _ _ => rfl)))) (pe_callB (call_sortedDI rfl) rfl b.sorted boot_sorted (pa_cons (pv 4) pa_nil)) (nomark _)) (pw_or1 (pt_not (pt_val (k_cl0 c_are_games rfl hr (pa_cons (pv 0) (pa_cons (pv 4) pa_nil)))))))) (pss_one (ps_ret pe_non)) pss_nil)
      (pss_one (ps_ret (pe_ifExp (pt_cmpR op_le (k_cl0 c_all_teams rfl hr (pa_cons (pv 0) (pa_cons (pv 4) pa_nil))) (C8.pe_gc rfl k_MOST_TEAMS) (nomark _)) (pv 4) pe_non)))))))), ?_⟩
  refine DL.run_fnP  [.no, .no, .no, .no, .no] (Nm := N_games_in) (n := 2) (k := 5) rfl (hlen _ _ _ _ h) rfl h fun κ W m ss Φ Ξ G hc => ?_
  try dsimp only [cxOf, Cx.nox, Cx.wish, Cx.blk]
  obtain ⟨n, z, rfl, hn, hz, hfew, hN, hΦ⟩ := hc
  have hsl : z.length + 2 ≤ sizeLine := by have : sizeLine = 16777216 := sizeLine_eq; omega
  have hcnt := sepSp.cnt z
  have hin : ∀ w ∈ Txt.split z " ", w.length + 2 ≤ sizeLine ∧ w.length ≤ 800000 := fun w hw => by have := sepSp.in_ hw; omega
  obtain ⟨w0, hw0⟩ := head_split sepSp z
  walk_at "d"
  refine ⟨hsl, ?_⟩
  refine ⟨rfl, ?_⟩
  walk_at "d"
  refine de_lcMap (f := strF fun w => optL (numsIn (Txt.split w ":"))) ?_
  walk_at "d"
  rw [cut_1, ← List.map_drop]
  refine ⟨by rw [List.length_map, List.length_drop]; omega, fun d hd => ⟨_, dg_name (by simp), ?_⟩, ?_⟩
  · obtain ⟨w, hw, rfl⟩ := List.mem_map.mp hd
    have hw := hin w (List.mem_of_mem_drop hw)
    have hcl := sepCl.cnt w
    walk_at "d"
    refine ⟨hw.1, ?_⟩
    walk_at "d"
    refine ⟨_, rfl, by omega, fun x hx => by have := sepCl.in_ hx; omega, fun h => ?_, fun ns h => ?_⟩
    · refine ⟨rfl, ?_⟩
      show DL.S.dat .non = .dat (optL (numsIn (Txt.split w ":")))
      rw [h]; rfl
    · refine ⟨rfl, ?_⟩
      show DL.S.dat (.lst (dN ns)) = .dat (optL (numsIn (Txt.split w ":")))
      rw [h]; rfl
  generalize hW : (Txt.split z " ").drop 1 = W at *
  have hWl : W.length ≤ 800001 := by rw [← hW, List.length_drop]; omega
  rw [show (W.map D.str).map (strF fun w => optL (numsIn (Txt.split w ":"))) = W.map fun w => optL (numsIn (Txt.split w ":")) by rw [List.map_map]; rfl]
  refine ⟨rfl, ?_⟩
  refine ds_frz (i := 3) rfl ?_
  walk_at "d"
  refine ops_ixL rfl (atI_0 hw0) ?_
  walk_at "d"
  have hS : gamesIn n z = if w0 = ("games" : Str) then (W.mapM pairIn).filter fun ps => asc (ps.map (·.1)) && (areGm n ps && decide (tot n ps ≤ 130)) else none := by
    unfold gamesIn
    rw [hw0, hW]
    simp only [Option.some.injEq]
  by_cases hg : w0 = ("games" : Str)
  case neg =>
    rw [show (!decide (w0 = ("games" : Str))) = true by simp [hg]]
    walk_at "d"
    exact hN (by rw [hS, if_neg hg])
  rw [if_pos hg] at hS
  rw [show (!decide (w0 = ("games" : Str))) = false by simp [hg]]
  walk_at "d"
  refine de_lcMap (f := fun d => .bl (twoD d)) ?_
  walk_at "d"
  refine ⟨by rw [List.length_map]; omega, fun d hd => ⟨_, dg_name (by simp), ?_⟩, ?_⟩
  · obtain ⟨w, hw, rfl⟩ := List.mem_map.mp hd
    walk_at "d"
    refine ops_notNo rfl ?_
    cases ho : numsIn (Txt.split w ":") with
    | none =>
      exact ⟨_, rfl, fun z => Bool.noConfusion z, fun _ => ⟨rfl, rfl⟩⟩
    | some ns =>
      refine ⟨_, rfl, fun _ => ?_, fun z => Bool.noConfusion z⟩
      walk_at "d"
      rw [dN_len]
      show DL.S.dat (.bl (decide (((ns.length : Nat) : Int) = 2))) = .dat (.bl (decide ((dN ns).length = 2)))
      rw [dN_len]
      congr 2
      rw [Bool.eq_iff_iff, decide_eq_true_eq, decide_eq_true_eq]
      omega
  walk_at "d"
  refine cb_allM ?_
  cases hall : ((W.map fun w => optL (numsIn (Txt.split w ":"))).all twoD) with
  | false =>
    walk_at "d"
    refine hN ?_
    rw [hS]
    have : ∃ x ∈ W, pairIn x = none := by
      rw [← Bool.not_eq_true, List.all_map, List.all_eq_true] at hall
      apply Classical.byContradiction
      intro hno
      refine hall fun x hx => ?_
      cases hp : pairIn x with
      | none => exact absurd ⟨x, hx, hp⟩ hno
      | some p => exact (twoD_optL _).mpr ⟨_, _, pairIn_some.mp hp⟩
    obtain ⟨x, hx, hp⟩ := this
    rw [mapM_bad hx hp]
    rfl
  | true =>
    obtain ⟨ps, hps⟩ : ∃ ps, W.mapM pairIn = some ps := mapM_all fun x hx => by
      rw [List.all_map, List.all_eq_true] at hall
      obtain ⟨a, b, e⟩ := (twoD_optL _).mp (hall x hx)
      exact ⟨(a, b), pairIn_some.mpr e⟩
    rw [hps] at hS
    have hpl : ps.length < 64 := hfew ps (by rw [hW]; exact hps)
    have hpm : W.map (fun w => optL (numsIn (Txt.split w ":"))) = ps.map fun p => D.lst (dN [p.1, p.2]) := by
      have e := mapM_some.mp hps
      have e2 : W.map (fun w => optL (numsIn (Txt.split w ":"))) = (W.map pairIn).map fun o => match o with | some p => D.lst (dN [p.1, p.2]) | none => .non := by
        rw [List.map_map]
        apply List.map_congr_left
        intro x hx
        rw [List.all_map, List.all_eq_true] at hall
        obtain ⟨a, b, e⟩ := (twoD_optL _).mp (hall x hx)
        have e9 : pairIn x = some (a, b) := pairIn_some.mpr e
        simp only [Function.comp, e, e9, optL]
      rw [e2, e, List.map_map]
      rfl
    rw [hpm]
    walk_at "d"
    refine de_dc ?_
    walk_at "d"
    refine ⟨by rw [List.length_map]; omega, fun i m2 acc => m2 = m ∧ acc = gD (dOf (ps.take i)), ⟨rfl, rfl⟩, ?_, ?_⟩
    · rintro i d m2 acc hd ⟨rfl, rfl⟩
      rw [List.getElem?_map] at hd
      cases hp : ps[i]? with
      | none => rw [hp] at hd; cases hd
      | some p =>
        rw [hp] at hd
        cases hd
        refine ⟨_, dg_name (by simp), ?_⟩
        walk_at "d"
        refine ops_ixL rfl (atI_row (i := 0) rfl) ?_
        refine ⟨Sum.inl (p.1 : Int), rfl, ?_⟩
        walk_at "d"
        refine ops_ixL rfl (atI_row (i := 1) rfl) ?_
        refine ⟨_, rfl, rfl, ?_⟩
        rw [List.take_add_one, hp, pput_D]
        show _ = gD (dOf (ps.take i ++ [p]))
        rw [dOf_snoc]
    · rintro m2 acc ⟨rfl, rfl⟩
      rw [List.length_map, List.take_length]
      refine ⟨rfl, ?_⟩
      refine ds_frz (i := 4) rfl ?_
      walk_at "d"
      refine de_lcMap (f := fun d => match d with | .lst (x :: _) => x | _ => .non) ?_
      walk_at "d"
      refine ⟨by rw [List.length_map]; omega, fun d hd => ⟨_, dg_name (by simp), ?_⟩, ?_⟩
      · obtain ⟨p, hp, rfl⟩ := List.mem_map.mp hd
        walk_at "d"
        refine ops_ixL rfl (atI_row (i := 0) rfl) ?_
        exact ⟨rfl, rfl⟩
      rw [List.map_map]
      walk_at "d"
      have dl := dOf_len ps
      refine cb_sortedK (ks := (dOf ps).map fun p => (p.1 : Int)) rfl (gD_keys _) (by simp; omega) ?_
      rw [ks_int, List.map_map]
      refine ops_neInts (ns := ps.map fun p => (p.1 : Int)) (ks := (ks (dOf ps)).map fun i : Nat => (i : Int)) (by rw [List.map_map]; rfl) (by rw [List.map_map]; rfl) ?_
      have e : decide ((ps.map fun p => (p.1 : Int)) = (ks (dOf ps)).map fun i : Nat => (i : Int)) = asc (ps.map (·.1)) := by
        rw [Bool.eq_iff_iff, decide_eq_true_eq, ← asc_ks]
        constructor
        · intro h
          have : (ps.map (·.1)).map (fun i : Nat => (i : Int)) = (ks (dOf ps)).map fun i : Nat => (i : Int) := by rw [List.map_map]; exact h
          exact (List.map_inj_right (fun a b h => by omega)).mp this
        · intro h
          rw [← h, List.map_map]
          rfl
      rw [e]
      cases ha : asc (ps.map (·.1)) with
      | false =>
        walk_at "d"
        exact hN (by rw [hS]; simp [Option.filter, ha])
      | true =>
        rw [dOf_eq (asc_nd ha)] at *
        walk_at "d"
        refine ⟨n, ps, rfl, hn, asc_nd ha, by omega, ?_⟩
        cases hgm : areGm n ps with
        | false =>
          walk_at "d"
          exact hN (by rw [hS]; simp [Option.filter, ha, hgm])
        | true =>
          walk_at "d"
          refine ⟨n, ps, rfl, hn, (areGm_iff (asc_nd ha)).mp hgm, ?_⟩
          walk_at "d"
          by_cases ht : tot n ps ≤ 130
          · rw [show decide (((tot n ps : Nat) : Int) ≤ 130) = true by simp; omega]
            walk_at "d"
            exact hΦ ps (by rw [hS]; simp [Option.filter, ha, hgm, ht])
          · rw [show decide (((tot n ps : Nat) : Int) ≤ 130) = false by simp; omega]
            walk_at "d"
            exact hN (by rw [hS]; simp [Option.filter, ha, hgm, ht])
end
end Pf
set_option Elab.async false
set_option linter.all false
set_option maxRecDepth 100000
set_option maxHeartbeats 1000000
namespace Pf
open PySem PySem.Spec PyProof.Rows L2 DL
local macro_rules | `(tactic| walk_at "len") => `(tactic| with_unfolding_all first | exact Nat.le_of_ble_eq_true rfl | (simp; done) | (simp; omega))
local macro_rules | `(tactic| walk_at "side") => `(tactic| with_unfolding_all first | exact Or.inr ⟨by omega, by omega⟩ | exact Or.inl ⟨by omega, by omega⟩ | exact ⟨by omega, by omega⟩ | exact ⟨by omega, by omega, by omega⟩ | (show (0 : Int) < _; omega) | decide)
local macro_rules | `(tactic| walk_at "d1") => `(tactic| with_reducible first
  | (refine ds_seq ?_; try dsimp only [List.set_cons_zero, List.set_cons_succ, List.cons_append, List.nil_append, O.frz])
  | refine ds_asg ?_
  | refine ds_ret ?_
  | refine ds_retN ?_
  | refine ds_next ?_
  | refine ds_dropC ?_
  | refine ds_drop0 ?_
  | refine ds_dropB ?_
  | refine ds_if ?_
  | refine dt_test ?_
  | refine dt_B ?_
  | refine dt_not ?_
  | refine dt_and ?_
  | refine dt_or ?_
  | refine dt_yes ?_
  | refine de_int ?_
  | refine de_bl ?_
  | refine de_str ?_
  | refine de_non ?_
  | refine de_varD (by with_unfolding_all rfl) ?_
  | refine de_varO (by with_unfolding_all rfl) ?_
  | refine de_varA (by with_unfolding_all rfl) ?_
  | refine de_varV (by with_unfolding_all rfl) ?_
  | refine de_isi ?_
  | refine de_dget ?_
  | refine de_dget2 ?_
  | refine de_dnotin ?_
  | refine de_din ?_
  | refine de_dnew ?_
  | refine de_dnewT ?_
  | refine de_cb ?_
  | refine de_call0G ?_
  | refine de_callG ?_
  | refine de_andB ?_
  | refine de_orB ?_
  | refine de_notV ?_
  | refine de_ifE ?_
  | refine de_chain ?_
  | refine de_op ?_
  | refine de_neg ?_
  | refine de_tupG ?_
  | refine de_lstG ?_
  | refine de_slL ?_
  | refine de_slT ?_
  | refine do_none ?_
  | refine do_some ?_
  | refine daf_cons ?_
  | refine daf_nil ?_
  | refine daf_star ?_
  | refine da_cons ?_
  | refine da_nil ?_
  | refine lk_dat ?_
  | refine lk_nil ?_
  | refine ak_dat ?_
  | refine ak_nil ?_
  | refine ak_at ?_
  | refine ak_lst ?_
  | refine lk_lst ?_
  | refine ak_dK ?_
  | refine ak_dT ?_
  | refine ak_vw ?_
  | refine lk_dT ?_
  | refine lk_dK ?_
  | refine da_star ?_
  | refine de_lstRg1 ?_
  | refine de_lstRg2 ?_
  | refine de_revL ?_
  | refine de_count ?_
  | refine de_index ?_
  | refine di_enum ?_
  | refine dt_tru ?_
  | refine de_fld ?_
  | refine de_prop ?_
  | refine di_rng1 ?_
  | refine di_rng2 ?_
  | refine di_list ?_
  | refine di_tup ?_
  | refine di_seq ?_
  | refine di_zip ?_
  | refine de_split ?_
  | refine de_join ?_
  | refine de_fmt ?_
  | refine de_jnil ?_
  | refine de_jcons ?_
  | refine de_ixS ?_
  | refine de_orT ?_
  | refine di_str ?_
  | refine ops_eqS ?_
  | refine ops_neS ?_
  | refine de_indexD ?_
  | refine ops_int ?_
  | (refine ops_cat (by with_unfolding_all rfl) (by with_unfolding_all rfl) ?side ?_; (case side => walk_at "len"))
  | (refine ops_catA ?side ?_; (case side => walk_at "len"))
  | refine ops_eqI ?_
  | refine ops_neI ?_
  | refine ops_bool ?_
  | (refine ops_intC ?side ?_; (case side => walk_at "side"))
  | refine cb_lenL (by with_unfolding_all rfl) ?_
  | refine cb_lenT (by with_unfolding_all rfl) ?_
  | refine cb_lenK (by with_unfolding_all rfl) ?_
  | refine cb_max2 ?_
  | refine cb_min2 ?_
  | refine cb_int ?_
  | refine ⟨fun _ => ?_, fun z => Bool.noConfusion z⟩
  | refine ⟨fun z => Bool.noConfusion z, fun _ => ?_⟩
  | refine ⟨rfl, ?_⟩
  | refine ⟨_, rfl, ?_⟩
  | refine ⟨_, Or.inl (by with_unfolding_all rfl), ?_⟩
  | (with_unfolding_all refine ⟨_, true, rfl, rfl, (fun _ z => by cases z), rfl, ?_⟩)
  | (with_unfolding_all refine ⟨_, false, rfl, rfl, (fun _ z => by cases z), rfl, ?_⟩))
local macro_rules | `(tactic| walk_at "d") => `(tactic| repeat walk_at "d1")
local macro_rules | `(tactic| walk_at "wk") => `(tactic| repeat first | exact Wk.nil | refine Wk.keep ?_ | refine Wk.drop ?_)
section
variable {P : Program} {w : World} {K : PySem.W.Frag} {mg : Str → Option Value} {base : Heap} {f : Addr} {fd : FuncData}
def numO (wd : Str) : Option Nat := match Txt.split wd ":" with
  | [_, b] => numIn b
  | _ => none
theorem wordIn_eq {ks : List (List Nat)} {wd a0 : Str} (h : (Txt.split wd ":").head? = some a0) : wordIn ks wd = match numO wd with
    | none => none
    | some n => if n = 0 then none else if (numsIn (Txt.split a0 ",")).getD [] ∈ ks then some ((numsIn (Txt.split a0 ",")).getD [], n) else none := by
  unfold wordIn numO
  match e : Txt.split wd ":", h with
  | [a, b], h =>
    cases h
    dsimp only
    cases numIn b <;> rfl
  | [], h => cases h
  | [a], h => rfl
  | a :: b :: c :: r, h => rfl
theorem kinds_place {kinds : List (List Nat)} {k : List Nat} (h : k ∈ kinds) : PySem.SeqAt.dataPlace (kinds.map fun k => PyData.tuple ((k.map fun n : Nat => (n : Int)).map PyData.int)) (.tuple ((k.map fun n : Nat => (n : Int)).map PyData.int)) = some (kinds.idxOf k) := by
  unfold PySem.SeqAt.dataPlace
  rw [List.findIdx?_map]
  have e : ((fun y => PyData.eqv y (PyData.tuple ((k.map fun n : Nat => (n : Int)).map PyData.int))) ∘ fun k : List Nat => PyData.tuple ((k.map fun n : Nat => (n : Int)).map PyData.int)) = fun t => t == k := by
    funext t
    show PyData.eqv _ _ = _
    rw [eqv_tD, Bool.eq_iff_iff]
    simp
  rw [e, List.findIdx?_eq_some_iff_findIdx_eq]
  exact ⟨List.idxOf_lt_length_of_mem h, rfl⟩
theorem plain_ks : ∀ L : List (List Nat), PyData.plainAll (L.map fun k => PyData.tuple ((k.map fun n : Nat => (n : Int)).map PyData.int)) = true
  | [] => rfl
  | k :: L => by
    have h : ∀ ns : List Int, PyData.plainAll (ns.map PyData.int) = true := fun ns => by
      induction ns with
      | nil => rfl
      | cons n ns ih => rw [List.map_cons, PyData.plainAll, ih]; rfl
    rw [List.map_cons, PyData.plainAll, plain_ks L, PyData.plain, h]
    rfl
theorem plain_k (k : List Nat) : (PyData.tuple ((k.map fun n : Nat => (n : Int)).map PyData.int)).plain = true := by
  have := plain_ks [k]
  rw [List.map_cons, PyData.plainAll, Bool.and_eq_true] at this
  exact this.1
theorem depth_k (k : List Nat) : (PyData.tuple ((k.map fun n : Nat => (n : Int)).map PyData.int)).depth ≤ 60 := by
  obtain ⟨x, h1, h2⟩ := (tD_pl (n := 59) k).py
  rw [tD_py] at h1
  cases h1
  exact h2.2.1
def C_round_in : Fc := fun _ W m ss Φ Ξ => ∃ (kinds : List (List Nat)) (z : Str), ss = [.dat (.lst (kinds.map tD)), .dat (.str z)] ∧ kinds.Nodup ∧ kinds.length ≤ 5000 ∧ (∀ k ∈ kinds, k ≠ []) ∧ z.length ≤ 800000 ∧ (roundIn kinds z = none → Φ m (.dat .non)) ∧ (∀ r, roundIn kinds z = some r → Φ m (.own (.dT (rT r))))
abbrev s_round_in : Stmt := (top 37)
abbrev N_round_in : List Str := ["kinds", "line", "words", "found", "place", "word", "parts", "kind", "number"]
theorem sc_round_in : FnScope N_round_in ["kinds", "line"] (defScope s_round_in) := ⟨rfl, rfl, rfl, by decide +kernel, rfl, by decide +kernel, by decide +kernel⟩
theorem ok_round_in (F : FnP K "round_in" s_round_in f fd) (b : BI mg) (c_numbers_in : Cl P w K mg base CX0 2 "numbers_in" ["words"] C_numbers_in) (c_number_in : Cl P w K mg base CX0 1 "number_in" ["word"] C_number_in) : FnOk P w K mg base CX0 3 f fd ["kinds", "line"] (spF K C_round_in) := by
  have hlen := spF_len (K := K) (C := C_round_in) (m := 2) fun κ W m ss Φ Ξ ⟨kinds, z, e, _⟩ => by first | exact e | (rw [e]; rfl)
  refine F.ok sc_round_in hlen ?_
  intro cdv A outer s H vs Q E hr h
  refine ⟨_, PSs.nox (pss_cons (ps_set (i := 2) sc_round_in.nd rfl (by first | exact Or.inl rfl | exact Or.inr rfl) (k_split (pv 1) pe_str))
      (pss_cons (ps_set (i := 3) sc_round_in.nd rfl (by first | exact Or.inl rfl | exact Or.inr rfl) pe_dnewT)
      (pss_cons (ps_set (i := 4) sc_round_in.nd rfl (by first | exact Or.inl rfl | exact Or.inr rfl) (pe_un un_neg pe_int))
      (pss_cons (ps_if (pt_cmpR op_ne (pe_ix (k_ixL (K := K) rfl) (pv 2) pe_int (fun _ _ => rfl)) pe_str (nomark _)) (pss_one (ps_ret pe_non)) pss_nil)
      (pss_cons (ps_for PassesOwn.never rfl (k_piL (K := K) rfl (pe_slice (k_slL (K := K) rfl) (pv 2) (po_some pe_int) po_none)) (pg_name (i := 5) sc_round_in.nd rfl (by first | exact Or.inl rfl | exact Or.inr rfl))
      (pss_cons (ps_set (i := 6) sc_round_in.nd rfl (by first | exact Or.inl rfl | exact Or.inr rfl) (k_split (pv 5) pe_str))
      (pss_cons (ps_set (i := 7) sc_round_in.nd rfl (by first | exact Or.inl rfl | exact Or.inr rfl) (pe_callTy (k_tupleOf (K := K) rfl) rfl b.tuple_ boot_tuple (pa_cons (k_orT (K := K) rfl (k_cl0 c_numbers_in rfl hr (pa_cons (k_split (pe_ix (k_ixL (K := K) rfl) (pv 6) pe_int (fun _ _ => rfl)) pe_str) pa_nil)) (pe_one (pe_lst pa_nil))) pa_nil)))
      (pss_cons (ps_set (i := 8) sc_round_in.nd rfl (by first | exact Or.inl rfl | exact Or.inr rfl) (pe_ifExp (pt_cmpR (k_eqD (K := K) rfl hr.units) (pe_callB (k_len (K := K) rfl) rfl b.len boot_len (pa_cons (pv 6) pa_nil)) pe_int (nomark _)) (k_cl0 c_number_in rfl hr (pa_cons (pe_ix (k_ixL (K := K) rfl) (pv 6) pe_int (fun _ _ => rfl)) pa_nil)) pe_non))
      (pss_cons (ps_if (PW.pt (pw_or (pt_cmpR (k_notInD (K := K) rfl (hu65 hr)) (pv 7) (pe_slice (k_slL (K := K) rfl) (pv 0) (po_some (pe_op op_add (pv 4) pe_int)) po_none) rfl) (pw_or (pt_cmpR op_isN (pv 8) pe_non (nomark _)) (pw_or1 (pt_cmpR (k_eqD (K := K) rfl hr.units) (pv 8) pe_int (nomark _)))))) (pss_one (ps_ret pe_non)) pss_nil)
      (pss_cons (ps_set (i := 4) sc_round_in.nd rfl (by first | exact Or.inl rfl | exact Or.inr rfl) (k_indexD (K := K) rfl hr.units (pv 0) (pa_cons (pv 7) pa_nil)))
      (pss_one (ps_dput (hu_of hr) (pv 3) (pv 7) (pv 8) rfl))))))))
      (pss_one (ps_ret (pv 3)))))))), ?_⟩
  refine DL.run_fnP  [.no, .no, .no, .no, .no, .no, .no] (Nm := N_round_in) (n := 2) (k := 7) rfl (hlen _ _ _ _ h) rfl h fun κ W m ss Φ Ξ G hc => ?_
  try dsimp only [cxOf, Cx.nox, Cx.wish, Cx.blk]
  obtain ⟨kinds, z, rfl, nd, kl, kne, hz, hN, hΦ⟩ := hc
  have hsl : z.length + 2 ≤ sizeLine := by have : sizeLine = 16777216 := sizeLine_eq; omega
  have hcnt := sepSp.cnt z
  have hin : ∀ w ∈ Txt.split z " ", w.length + 2 ≤ sizeLine ∧ w.length ≤ 800000 := fun w hw => by have := sepSp.in_ hw; omega
  obtain ⟨w0, hw0⟩ := head_split sepSp z
  walk_at "d"
  refine ⟨hsl, ?_⟩
  refine ⟨rfl, ?_⟩
  walk_at "d"
  refine ops_ixL rfl (atI_0 hw0) ?_
  walk_at "d"
  have hS : roundIn kinds z = if w0 = ("round" : Str) then roundGo kinds 0 ((Txt.split z " ").drop 1) else none := by
    unfold roundIn
    rw [hw0]
    simp only [Option.some.injEq]
  by_cases hg : w0 = ("round" : Str)
  case neg =>
    rw [show (!decide (w0 = ("round" : Str))) = true by simp [hg]]
    walk_at "d"
    exact hN (by rw [hS, if_neg hg])
  rw [if_pos hg] at hS
  rw [show (!decide (w0 = ("round" : Str))) = false by simp [hg]]
  walk_at "d"
  refine ds_forW (vs := [5]) ?_
  walk_at "d"
  rw [cut_1, ← List.map_drop]
  generalize hW : (Txt.split z " ").drop 1 = W at *
  have hWl : W.length ≤ 800001 := by rw [← hW, List.length_drop]; omega
  refine ⟨fun i m' ρ => m' = m ∧ ∃ (r : Rw) (p : Nat), roundGo kinds 0 W = (roundGo kinds p (W.drop i)).map (r ++ ·) ∧ p ≤ kinds.length ∧ (∀ k ∈ r.map (·.1), k ∈ kinds.take p) ∧ r.length ≤ p ∧ ρ = [.dat (.lst (kinds.map tD)), .dat (.str z), .own (.lst ((Txt.split z " ").map D.str)), .own (.dT (rT r)), .dat (.int ((p : Nat) - 1 : Int)), .no, .no, .no, .no], ⟨_, Wk.refl _, rfl, rfl, [], 0, by rw [List.drop_zero]; cases roundGo kinds 0 W <;> rfl, by omega, by simp, by simp, rfl⟩, ?_, ?_⟩
  · rintro i d m' ρ hd ⟨rfl, r, p, hr, hp, hsub, hrl, rfl⟩
    rw [List.getElem?_map] at hd
    cases hw : W[i]? with
    | none => rw [hw] at hd; cases hd
    | some wd =>
      rw [hw] at hd
      cases hd
      have hwm := hin wd (by have := List.mem_of_getElem? hw; rw [← hW] at this; exact List.mem_of_mem_drop this)
      have hcl := sepCl.cnt wd
      obtain ⟨a0, ha0⟩ := head_split sepCl wd
      have ha0l : a0.length ≤ wd.length := sepCl.in_ (List.mem_of_mem_head? ha0)
      have hcm := sepCm.cnt a0
      have hdr : W.drop i = wd :: W.drop (i + 1) := by
        obtain ⟨hlt, e⟩ := List.getElem?_eq_some_iff.mp hw
        rw [List.drop_eq_getElem_cons hlt, e]
      rw [hdr, roundGo] at hr
      refine ⟨_, dg_name (by simp), ?_⟩
      walk_at "d"
      refine ⟨hwm.1, ?_⟩
      refine ⟨rfl, ?_⟩
      refine ds_seq ?_
      dsimp only [List.set_cons_zero, List.set_cons_succ]
      refine ds_asg ?_
      refine De.imp (Φ := fun m2 s => m2 = m' ∧ s = .dat (tD ((numsIn (Txt.split a0 ",")).getD []))) ?_ ?_
      · walk_at "d"
        refine ops_ixL rfl (atI_0 ha0) ?_
        walk_at "d"
        refine ⟨by omega, ?_⟩
        walk_at "d"
        refine ⟨_, rfl, by omega, fun x hx => by have := sepCm.in_ hx; omega, fun h => ?_, fun ns h => ?_⟩
        · rw [h]
          refine ⟨false, rfl, fun z => Bool.noConfusion z, fun _ => ?_⟩
          walk_at "d"
          exact cb_tuple (.inl rfl) ⟨rfl, rfl⟩
        · rw [h]
          cases ns with
          | nil =>
            refine ⟨false, rfl, fun z => Bool.noConfusion z, fun _ => ?_⟩
            walk_at "d"
            exact cb_tuple (.inl rfl) ⟨rfl, rfl⟩
          | cons n ns =>
            refine ⟨true, rfl, fun _ => ?_, fun z => Bool.noConfusion z⟩
            walk_at "d"
            exact cb_tuple (.inl rfl) ⟨rfl, rfl⟩
      rintro m2 s ⟨rfl, rfl⟩
      refine ⟨rfl, ?_⟩
      dsimp only [List.set_cons_zero, List.set_cons_succ]
      generalize hk : (numsIn (Txt.split a0 ",")).getD [] = k
      refine ds_seq ?_
      refine ds_asg ?_
      refine De.imp (Φ := fun m3 s => m3 = m2 ∧ s = .dat (optN (numO wd))) ?_ ?_
      · walk_at "d"
        rw [List.length_map]
        by_cases h2 : (Txt.split wd ":").length = 2
        · obtain ⟨b, hb⟩ : ∃ b, Txt.split wd ":" = [a0, b] := by
            match e : Txt.split wd ":", h2 with
            | [a, b], _ => rw [e] at ha0; cases ha0; exact ⟨b, rfl⟩
          have hbl : b.length ≤ wd.length := sepCl.in_ (by rw [hb]; simp)
          rw [hb, show decide ((([a0, b] : List Str).length : Int) = 2) = true from rfl]
          walk_at "d"
          refine ops_ixL rfl (atI_row (i := 1) (d := .str b) rfl) ?_
          walk_at "d"
          refine ⟨b, rfl, by omega, ?_⟩
          unfold numO
          rw [hb]
          exact ⟨rfl, rfl⟩
        · rw [show decide (((Txt.split wd ":").length : Int) = 2) = false by rw [decide_eq_false_iff_not]; omega]
          walk_at "d"
          have : numO wd = none := by
            unfold numO
            split
            · rename_i e
              rw [e] at h2
              exact absurd rfl h2
            · rfl
          rw [this]
          rfl
      rintro m3 s ⟨rfl, rfl⟩
      refine ⟨rfl, ?_⟩
      dsimp only [List.set_cons_zero, List.set_cons_succ]
      rw [wordIn_eq ha0, hk] at hr
      walk_at "d"
      rw [show ((p : Nat) - 1 + 1 : Int) = ((p : Nat) : Int) by omega, cut_from, ← List.map_drop]
      refine ops_notInK (L := kinds.drop p) rfl rfl ?_
      by_cases hin : k ∈ kinds.drop p
      case neg =>
        rw [show (!decide (k ∈ kinds.drop p)) = true by simp [hin]]
        walk_at "d"
        refine hN ?_
        rw [hS, hr]
        cases numO wd with
        | none => rfl
        | some n => by_cases h0 : n = 0 <;> simp [h0, hin]
      rw [show (!decide (k ∈ kinds.drop p)) = false by simp [hin]]
      walk_at "d"
      cases hno : numO wd with
      | none =>
        rw [hno] at hr
        refine ops_isNo rfl ?_
        walk_at "d"
        exact hN (by rw [hS, hr]; rfl)
      | some n =>
        rw [hno] at hr
        dsimp only at hr
        rw [show optN (some n) = D.int (n : Nat) from rfl]
        refine ops_isNo rfl ?_
        walk_at "d"
        by_cases h0 : n = 0
        · rw [if_pos h0] at hr
          rw [show decide (((n : Nat) : Int) = 0) = true by rw [decide_eq_true_eq]; omega]
          walk_at "d"
          exact hN (by rw [hS, hr]; rfl)
        · rw [if_neg h0, if_pos hin] at hr
          dsimp only at hr
          rw [show decide (((n : Nat) : Int) = 0) = false by rw [decide_eq_false_iff_not]; omega]
          walk_at "d"
          have hkk := List.mem_of_mem_drop hin
          have hil := List.idxOf_lt_length_of_mem hkk
          refine ⟨_, _, rfl, tDs_py _, plain_ks _, ?_⟩
          walk_at "d"
          refine ⟨_, _, _, rfl, tD_py k, plain_k k, depth_k k, kinds_place hkk, ?_⟩
          walk_at "d"
          have hfresh : k ∉ r.map (·.1) := fun z => by
            have h1 := hsub k z
            have := nd
            rw [← List.take_append_drop p kinds, List.nodup_append] at this
            exact this.2.2 k h1 k hin rfl
          have hpi : p ≤ kinds.idxOf k := by
            rcases Nat.lt_or_ge (kinds.idxOf k) p with h | h
            · exfalso
              have m1 : k ∈ kinds.take p := by
                rw [List.mem_take_iff_getElem]
                exact ⟨kinds.idxOf k, by omega, List.getElem_idxOf hil⟩
              have := nd
              rw [← List.take_append_drop p kinds, List.nodup_append] at this
              exact this.2.2 k m1 k hin rfl
            · exact h
          refine ds_dput (i := 3) rfl (by show (rT _).length < 1000000; rw [rT_len]; omega) ?_
          walk_at "d"
          refine ⟨_, _, _, rfl, rfl, keyN_D k ▸ PutS.t (keyN k) _, ?_⟩
          rw [rT_put]
          have erp : rput r k n = r ++ [(k, n)] := by
            unfold rput
            rw [any_key, if_neg (by simpa using hfresh)]
          rw [erp]
          dsimp only [List.set_cons_zero, List.set_cons_succ]
          refine ⟨[.dat (.lst (kinds.map tD)), .dat (.str z), .own (.lst ((Txt.split z " ").map D.str)), .own (.dT (rT (r ++ [(k, n)]))), .dat (.int ((kinds.idxOf k : Nat) : Int)), .no, .no, .no, .no], by walk_at "wk", rfl, rfl, r ++ [(k, n)], kinds.idxOf k + 1, ?_, by omega, ?_, by simp; omega, ?_⟩
          · rw [hr]
            cases roundGo kinds (kinds.idxOf k + 1) (W.drop (i + 1)) with
            | none => rfl
            | some q => simp
          · intro x hx
            rw [List.map_append] at hx
            rcases List.mem_append.mp hx with hx | hx
            · have := hsub x hx
              rw [List.mem_take_iff_getElem] at this ⊢
              obtain ⟨j, hj, e⟩ := this
              exact ⟨j, by omega, e⟩
            · simp at hx
              subst hx
              rw [List.mem_take_iff_getElem]
              exact ⟨kinds.idxOf x, by omega, List.getElem_idxOf hil⟩
          · rw [show (((kinds.idxOf k + 1 : Nat) : Int) - 1) = ((kinds.idxOf k : Nat) : Int) by omega]
  · rintro m' ρ ⟨rfl, r, p, hr, hp, hsub, hrl, rfl⟩
    rw [List.length_map, List.drop_length] at hr
    refine ds_retVar rfl (hΦ r ?_)
    rw [hS, hr, roundGo]
    simp
end
end Pf
set_option Elab.async false
set_option linter.all false
set_option maxRecDepth 100000
set_option maxHeartbeats 1000000
namespace Pf
open PySem PySem.Spec PyProof.Rows L2 DL
local macro_rules | `(tactic| walk_at "len") => `(tactic| with_unfolding_all first | exact Nat.le_of_ble_eq_true rfl | (simp; done) | (simp; omega))
local macro_rules | `(tactic| walk_at "side") => `(tactic| with_unfolding_all first | exact Or.inr ⟨by omega, by omega⟩ | exact Or.inl ⟨by omega, by omega⟩ | exact ⟨by omega, by omega⟩ | exact ⟨by omega, by omega, by omega⟩ | (show (0 : Int) < _; omega) | decide)
local macro_rules | `(tactic| walk_at "d1") => `(tactic| with_reducible first
  | (refine ds_seq ?_; try dsimp only [List.set_cons_zero, List.set_cons_succ, List.cons_append, List.nil_append, O.frz])
  | refine ds_asg ?_
  | refine ds_ret ?_
  | refine ds_retN ?_
  | refine ds_next ?_
  | refine ds_dropC ?_
  | refine ds_drop0 ?_
  | refine ds_dropB ?_
  | refine ds_if ?_
  | refine dt_test ?_
  | refine dt_B ?_
  | refine dt_not ?_
  | refine dt_and ?_
  | refine dt_or ?_
  | refine dt_yes ?_
  | refine de_int ?_
  | refine de_bl ?_
  | refine de_str ?_
  | refine de_non ?_
  | refine de_varD (by with_unfolding_all rfl) ?_
  | refine de_varO (by with_unfolding_all rfl) ?_
  | refine de_varA (by with_unfolding_all rfl) ?_
  | refine de_varV (by with_unfolding_all rfl) ?_
  | refine de_isi ?_
  | refine de_dget ?_
  | refine de_dget2 ?_
  | refine de_dnotin ?_
  | refine de_din ?_
  | refine de_dnew ?_
  | refine de_dnewT ?_
  | refine de_cb ?_
  | refine de_call0G ?_
  | refine de_callG ?_
  | refine de_andB ?_
  | refine de_orB ?_
  | refine de_notV ?_
  | refine de_ifE ?_
  | refine de_chain ?_
  | refine de_op ?_
  | refine de_neg ?_
  | refine de_tupG ?_
  | refine de_lstG ?_
  | refine de_slL ?_
  | refine de_slT ?_
  | refine do_none ?_
  | refine do_some ?_
  | refine daf_cons ?_
  | refine daf_nil ?_
  | refine daf_star ?_
  | refine da_cons ?_
  | refine da_nil ?_
  | refine lk_dat ?_
  | refine lk_nil ?_
  | refine ak_dat ?_
  | refine ak_nil ?_
  | refine ak_at ?_
  | refine ak_lst ?_
  | refine lk_lst ?_
  | refine ak_dK ?_
  | refine ak_dT ?_
  | refine ak_vw ?_
  | refine lk_dT ?_
  | refine lk_dK ?_
  | refine da_star ?_
  | refine de_lstRg1 ?_
  | refine de_lstRg2 ?_
  | refine de_revL ?_
  | refine de_count ?_
  | refine de_index ?_
  | refine di_enum ?_
  | refine dt_tru ?_
  | refine de_fld ?_
  | refine de_prop ?_
  | refine di_rng1 ?_
  | refine di_rng2 ?_
  | refine di_list ?_
  | refine di_tup ?_
  | refine di_seq ?_
  | refine di_zip ?_
  | refine de_split ?_
  | refine de_join ?_
  | refine de_fmt ?_
  | refine de_jnil ?_
  | refine de_jcons ?_
  | refine de_ixS ?_
  | refine de_orT ?_
  | refine di_str ?_
  | refine ops_eqS ?_
  | refine ops_neS ?_
  | refine de_indexD ?_
  | refine ops_int ?_
  | (refine ops_cat (by with_unfolding_all rfl) (by with_unfolding_all rfl) ?side ?_; (case side => walk_at "len"))
  | (refine ops_catA ?side ?_; (case side => walk_at "len"))
  | refine ops_eqI ?_
  | refine ops_neI ?_
  | refine ops_bool ?_
  | (refine ops_intC ?side ?_; (case side => walk_at "side"))
  | refine cb_lenL (by with_unfolding_all rfl) ?_
  | refine cb_lenT (by with_unfolding_all rfl) ?_
  | refine cb_lenK (by with_unfolding_all rfl) ?_
  | refine cb_max2 ?_
  | refine cb_min2 ?_
  | refine cb_int ?_
  | refine ⟨fun _ => ?_, fun z => Bool.noConfusion z⟩
  | refine ⟨fun z => Bool.noConfusion z, fun _ => ?_⟩
  | refine ⟨rfl, ?_⟩
  | refine ⟨_, rfl, ?_⟩
  | refine ⟨_, Or.inl (by with_unfolding_all rfl), ?_⟩
  | (with_unfolding_all refine ⟨_, true, rfl, rfl, (fun _ z => by cases z), rfl, ?_⟩)
  | (with_unfolding_all refine ⟨_, false, rfl, rfl, (fun _ z => by cases z), rfl, ?_⟩))
local macro_rules | `(tactic| walk_at "d") => `(tactic| repeat walk_at "d1")
local macro_rules | `(tactic| walk_at "wk") => `(tactic| repeat first | exact Wk.nil | refine Wk.keep ?_ | refine Wk.drop ?_)
section
variable {P : Program} {w : World} {K : PySem.W.Frag} {mg : Str → Option Value} {base : Heap} {f : Addr} {fd : FuncData}
theorem log_num {n : Nat} (h : n < 10 ^ 30) : ((n : Nat) : Int).natAbs.log2 < 1920 := by
  rw [Int.natAbs_natCast]
  by_cases h0 : n = 0
  · subst h0; decide
  · rw [Nat.log2_lt h0]
    exact Nat.lt_of_lt_of_le h (Nat.le_trans (by decide : 10 ^ 30 ≤ 2 ^ 100) (Nat.pow_le_pow_right (by decide) (by decide)))
theorem sum_lens {B : Nat} : ∀ {ys : List Str}, (∀ y ∈ ys, y.length ≤ B) → (ys.map (·.length)).sum ≤ ys.length * B
  | [], _ => by simp
  | y :: ys, h => by
    have h1 := h y (by simp)
    have h2 := sum_lens (ys := ys) fun x hx => h x (by simp [hx])
    rw [List.map_cons, List.sum_cons, List.length_cons, Nat.succ_mul]
    omega
theorem join_len (sep : Str) (ys : List Str) : (Txt.join sep ys).length ≤ (ys.map (·.length)).sum + ys.length * sep.length := by
  rw [TL.join_eq]
  exact StrLaws.join_length_le sep ys
theorem len_app (a b : Str) : (a ++ b).length = a.length + b.length := by rw [TL.len_tl, TL.tl_append, List.length_append, ← TL.len_tl, ← TL.len_tl]
theorem len_sp : (" " : Str).length = 1 := by decide +kernel
theorem len_cm : ("," : Str).length = 1 := by decide +kernel
theorem len_cl : (":" : Str).length = 1 := by decide +kernel
theorem len_nl : ("\n" : Str).length = 1 := by decide +kernel
theorem len_words : ("sizes" : Str).length = 5 ∧ ("games" : Str).length = 5 ∧ ("round" : Str).length = 5 := by decide +kernel
theorem empty_app (x : Str) : Str.empty ++ x = x := TL.ext_tl (by rw [TL.tl_append]; rfl)
theorem numS_one {n : Nat} (h : n < 10) : (numS n).length = 1 := by rw [TL.len_tl, tl_numS, TL.numL_lt h]; rfl
theorem kindTxt_len {k : List Nat} (h : ∀ a ∈ k, a < 10) : (kindTxt k).length ≤ 2 * k.length := by
  have := join_len "," (k.map numS)
  have h2 := sum_lens (ys := k.map numS) (B := 1) fun y hy => by
    obtain ⟨n, hn, rfl⟩ := List.mem_map.mp hy
    rw [numS_one (h n hn)]; omega
  rw [len_cm] at this
  rw [List.length_map] at this h2
  unfold kindTxt
  omega
def C_kind_text : Fc := fun _ W m ss Φ Ξ => ∃ k : List Nat, ss = [.dat (tD k)] ∧ k.length ≤ 1000 ∧ (∀ a ∈ k, a < 10 ^ 30) ∧ Φ m (.dat (.str (kindTxt k)))
abbrev s_kind_text : Stmt := (top 38)
abbrev N_kind_text : List Str := ["kind", "number"]
theorem sc_kind_text : FnScope N_kind_text ["kind"] (defScope s_kind_text) := ⟨rfl, rfl, rfl, by decide +kernel, rfl, by decide +kernel, by decide +kernel⟩
theorem ok_kind_text (F : FnP K "kind_text" s_kind_text f fd) (b : BI mg) : FnOk P w K mg base CX0 1 f fd ["kind"] (spF K C_kind_text) := by
  have hlen := spF_len (K := K) (C := C_kind_text) (m := 1) fun κ W m ss Φ Ξ ⟨k, e, _⟩ => by first | exact e | (rw [e]; rfl)
  refine F.ok sc_kind_text hlen ?_
  intro cdv A outer s H vs Q E hr h
  refine ⟨_, PSs.nox (pss_one (ps_ret (k_join (K := K) rfl pe_str (pe_lc (own := [("number", 1)]) rfl sc_kind_text.nd (k_piT (K := K) rfl (pv 0)) (blkOk_by (own := [("number", 1)]) (N := N_kind_text) (sc := (defScope s_kind_text)) (by decide +kernel)) (fun _ _ _ _ _ => (pg_name (i := 1) sc_kind_text.nd rfl (by first | exact Or.inl rfl | exact Or.inr rfl))) (fun _ _ _ _ _ => pts_nil) (fun _ _ _ _ _ => (pe_callTy k_strI rfl b.str_ boot_str (pa_cons (pv 1) pa_nil))))))), ?_⟩
  refine DL.run_fnP  [.no] (Nm := N_kind_text) (n := 1) (k := 1) rfl (hlen _ _ _ _ h) rfl h fun κ W m ss Φ Ξ G hc => ?_
  try dsimp only [cxOf, Cx.nox, Cx.wish, Cx.blk]
  obtain ⟨k, rfl, hl, hs, hΦ⟩ := hc
  walk_at "d"
  refine de_lcMap (f := fun d => .str (numS (intOf d).toNat)) ?_
  walk_at "d"
  refine ⟨by rw [dN_len]; omega, fun d hd => ⟨_, dg_name (by simp), ?_⟩, ?_⟩
  · obtain ⟨a, ha, rfl⟩ := dN_mem hd
    walk_at "d"
    refine cb_strI (log_num (hs a ha)) ?_
    exact ⟨rfl, by simp [intOf, S.frz, numS]⟩
  · have e : (dN k).map (fun d => D.str (numS (intOf d).toNat)) = (k.map numS).map D.str := by
      unfold dN
      rw [List.map_map, List.map_map]
      apply List.map_congr_left
      intro a _
      simp [intOf]
    rw [e]
    have h2 := sum_lens (ys := k.map numS) (B := 30) fun y hy => by
      obtain ⟨n, hn, rfl⟩ := List.mem_map.mp hy
      exact numS_len (hs n hn)
    refine ⟨k.map numS, rfl, ?_, rfl, hΦ⟩
    rw [List.length_map] at h2 ⊢
    rw [len_cm]
    omega
def C_games_line : Fc := fun _ W m ss Φ Ξ => ∃ gs : List (Nat × Nat), ss = [.dat (.dic (gD gs))] ∧ (gs.map (·.1)).Nodup ∧ gs.length ≤ 50 ∧ (∀ p ∈ gs, p.1 < 10 ^ 30 ∧ p.2 < 10 ^ 30) ∧ Φ m (.dat (.str (gamesLn (srG gs))))
abbrev s_games_line : Stmt := (top 39)
abbrev N_games_line : List Str := ["games", "size"]
theorem sc_games_line : FnScope N_games_line ["games"] (defScope s_games_line) := ⟨rfl, rfl, rfl, by decide +kernel, rfl, by decide +kernel, by decide +kernel⟩
theorem ok_games_line (F : FnP K "games_line" s_games_line f fd) (b : BI mg) : FnOk P w K mg base CX0 1 f fd ["games"] (spF K C_games_line) := by
  have hlen := spF_len (K := K) (C := C_games_line) (m := 1) fun κ W m ss Φ Ξ ⟨gs, e, _⟩ => by first | exact e | (rw [e]; rfl)
  refine F.ok sc_games_line hlen ?_
  intro cdv A outer s H vs Q E hr h
  refine ⟨_, PSs.nox (pss_one (ps_ret (k_join (K := K) rfl pe_str (pe_lst (pa_cons pe_str (k_star (K := K) rfl (pe_lc (own := [("size", 1)]) rfl sc_games_line.nd (k_piL (K := K) rfl (pe_callB (call_sortedDI rfl) rfl b.sorted boot_sorted (pa_cons (pv 0) pa_nil))) (blkOk_by (own := [("size", 1)]) (N := N_games_line) (sc := (defScope s_games_line)) (by decide +kernel)) (fun _ _ _ _ _ => (pg_name (i := 1) sc_games_line.nd rfl (by first | exact Or.inl rfl | exact Or.inr rfl))) (fun _ _ _ _ _ => pts_nil) (fun _ _ _ _ _ => (k_joined (.cons (pe_fmt (pv 1)) (.cons pe_str (.cons (pe_fmt (pe_dget (hu_of hr) (pv 0) (pv 1) (fun _ _ => rfl))) .nil)))))) pa_nil)))))), ?_⟩
  refine DL.run_fnP  [.no] (Nm := N_games_line) (n := 1) (k := 1) rfl (hlen _ _ _ _ h) rfl h fun κ W m ss Φ Ξ G hc => ?_
  try dsimp only [cxOf, Cx.nox, Cx.wish, Cx.blk]
  obtain ⟨gs, rfl, nd, hl, hs, hΦ⟩ := hc
  have hsl : sizeLine = 16777216 := sizeLine_eq
  unfold gamesLn at hΦ
  refine ds_ret (de_join (de_str ⟨_, rfl, de_lst (da_cons (de_str (da_star ?_)))⟩))
  refine de_lcMap (f := fun d => .str (numS (intOf d).toNat ++ ":" ++ numS ((gv gs (intOf d).toNat).getD 0))) ?_
  walk_at "d"
  refine cb_sortedK (ks := gs.map fun p => (p.1 : Int)) rfl (gD_keys _) (by simp; omega) ?_
  rw [ks_int, List.map_map]
  refine ⟨_, rfl, ?_⟩
  refine ⟨by rw [List.length_map, ks_len]; omega, fun d hd => ⟨_, dg_name (by simp), ?_⟩, ?_⟩
  · obtain ⟨t, ht, rfl⟩ := List.mem_map.mp hd
    obtain ⟨v, hv⟩ := ks_mem.mp ht
    have hb := hs _ hv
    have l1 : (numS t).length ≤ 30 := numS_len hb.1
    have l2 : (numS v).length ≤ 30 := numS_len hb.2
    refine de_jcons (de_fmt (de_varD rfl (.inr ⟨_, rfl, log_num hb.1, _, rfl, ?_, ?_⟩)))
    · show (Str.empty ++ numS t).length ≤ sizeLine
      rw [empty_app]; omega
    show De _ _ (tJ _ (Str.empty ++ numS t)) _ _
    rw [empty_app]
    refine de_jcons (de_str ⟨_, rfl, ?_, ?_⟩)
    · rw [len_app, len_cl]; omega
    refine de_jcons (de_fmt ?_)
    walk_at "d"
    refine ⟨_, _, _, rfl, rfl, look_g nd hv, ?_⟩
    refine .inr ⟨_, rfl, log_num hb.2, _, rfl, ?_, ?_⟩
    · show (numS t ++ ":" ++ numS v).length ≤ sizeLine
      rw [len_app, len_app, len_cl]; omega
    refine de_jnil ⟨rfl, ?_⟩
    show DL.S.dat (.str (numS t ++ ":" ++ numS v)) = .dat (.str (numS ((t : Nat) : Int).toNat ++ ":" ++ numS ((gv gs ((t : Nat) : Int).toNat).getD 0)))
    rw [Int.toNat_natCast, gv_mem nd hv]
    rfl
  · have e : (((ks gs).map ((fun i : Nat => D.int (i : Int)))).map fun d => D.str (numS (intOf d).toNat ++ ":" ++ numS ((gv gs (intOf d).toNat).getD 0))) = ((srG gs).map fun p => numS p.1 ++ ":" ++ numS p.2).map D.str := by
      unfold srG
      rw [List.map_map, List.map_map, List.map_map]
      apply List.map_congr_left
      intro t _
      simp [intOf]
    refine ⟨_, .inr rfl, ?_⟩
    refine da_nil ⟨.str "games" :: ((ks gs).map ((fun i : Nat => D.int (i : Int)))).map fun d => D.str (numS (intOf d).toNat ++ ":" ++ numS ((gv gs (intOf d).toNat).getD 0)), ?_, ?_, ?_⟩
    · simp
    · rw [List.length_cons, List.length_map, List.length_map, ks_len]; omega
    rw [e]
    refine ⟨_, ?_, ?_, rfl, hΦ⟩
    · rw [List.map_cons]; rfl
    have h2 := sum_lens (ys := "games" :: (srG gs).map fun p => numS p.1 ++ ":" ++ numS p.2) (B := 61) fun y hy => by
      rcases List.mem_cons.mp hy with rfl | hy
      · rw [len_words.2.1]; omega
      · obtain ⟨⟨t, v⟩, hp, rfl⟩ := List.mem_map.mp hy
        have hb := hs _ ((srG_mem nd).mp hp)
        have l1 : (numS t).length ≤ 30 := numS_len hb.1
        have l2 : (numS v).length ≤ 30 := numS_len hb.2
        rw [len_app, len_app, len_cl]
        show (numS t).length + 1 + (numS v).length ≤ 61
        omega
    have l3 : (srG gs).length = gs.length := by unfold srG; rw [List.length_map, ks_len]
    rw [List.length_cons, List.length_map, l3] at h2 ⊢
    rw [len_sp]
    omega
end
end Pf
set_option Elab.async false
set_option linter.all false
set_option maxRecDepth 100000
set_option maxHeartbeats 1000000
namespace Pf
open PySem PySem.Spec PyProof.Rows L2 DL
local macro_rules | `(tactic| walk_at "len") => `(tactic| with_unfolding_all first | exact Nat.le_of_ble_eq_true rfl | (simp; done) | (simp; omega))
local macro_rules | `(tactic| walk_at "side") => `(tactic| with_unfolding_all first | exact Or.inr ⟨by omega, by omega⟩ | exact Or.inl ⟨by omega, by omega⟩ | exact ⟨by omega, by omega⟩ | exact ⟨by omega, by omega, by omega⟩ | (show (0 : Int) < _; omega) | decide)
local macro_rules | `(tactic| walk_at "d1") => `(tactic| with_reducible first
  | (refine ds_seq ?_; try dsimp only [List.set_cons_zero, List.set_cons_succ, List.cons_append, List.nil_append, O.frz])
  | refine ds_asg ?_
  | refine ds_ret ?_
  | refine ds_retN ?_
  | refine ds_next ?_
  | refine ds_dropC ?_
  | refine ds_drop0 ?_
  | refine ds_dropB ?_
  | refine ds_if ?_
  | refine dt_test ?_
  | refine dt_B ?_
  | refine dt_not ?_
  | refine dt_and ?_
  | refine dt_or ?_
  | refine dt_yes ?_
  | refine de_int ?_
  | refine de_bl ?_
  | refine de_str ?_
  | refine de_non ?_
  | refine de_varD (by with_unfolding_all rfl) ?_
  | refine de_varO (by with_unfolding_all rfl) ?_
  | refine de_varA (by with_unfolding_all rfl) ?_
  | refine de_varV (by with_unfolding_all rfl) ?_
  | refine de_isi ?_
  | refine de_dget ?_
  | refine de_dget2 ?_
  | refine de_dnotin ?_
  | refine de_din ?_
  | refine de_dnew ?_
  | refine de_dnewT ?_
  | refine de_cb ?_
  | refine de_call0G ?_
  | refine de_callG ?_
  | refine de_andB ?_
  | refine de_orB ?_
  | refine de_notV ?_
  | refine de_ifE ?_
  | refine de_chain ?_
  | refine de_op ?_
  | refine de_neg ?_
  | refine de_tupG ?_
  | refine de_lstG ?_
  | refine de_slL ?_
  | refine de_slT ?_
  | refine do_none ?_
  | refine do_some ?_
  | refine daf_cons ?_
  | refine daf_nil ?_
  | refine daf_star ?_
  | refine da_cons ?_
  | refine da_nil ?_
  | refine lk_dat ?_
  | refine lk_nil ?_
  | refine ak_dat ?_
  | refine ak_nil ?_
  | refine ak_at ?_
  | refine ak_lst ?_
  | refine lk_lst ?_
  | refine ak_dK ?_
  | refine ak_dT ?_
  | refine ak_vw ?_
  | refine lk_dT ?_
  | refine lk_dK ?_
  | refine da_star ?_
  | refine de_lstRg1 ?_
  | refine de_lstRg2 ?_
  | refine de_revL ?_
  | refine de_count ?_
  | refine de_index ?_
  | refine di_enum ?_
  | refine dt_tru ?_
  | refine de_fld ?_
  | refine de_prop ?_
  | refine di_rng1 ?_
  | refine di_rng2 ?_
  | refine di_list ?_
  | refine di_tup ?_
  | refine di_seq ?_
  | refine di_zip ?_
  | refine de_split ?_
  | refine de_join ?_
  | refine de_fmt ?_
  | refine de_jnil ?_
  | refine de_jcons ?_
  | refine de_ixS ?_
  | refine de_orT ?_
  | refine di_str ?_
  | refine ops_eqS ?_
  | refine ops_neS ?_
  | refine de_indexD ?_
  | refine ops_int ?_
  | (refine ops_cat (by with_unfolding_all rfl) (by with_unfolding_all rfl) ?side ?_; (case side => walk_at "len"))
  | (refine ops_catA ?side ?_; (case side => walk_at "len"))
  | refine ops_eqI ?_
  | refine ops_neI ?_
  | refine ops_bool ?_
  | (refine ops_intC ?side ?_; (case side => walk_at "side"))
  | refine cb_lenL (by with_unfolding_all rfl) ?_
  | refine cb_lenT (by with_unfolding_all rfl) ?_
  | refine cb_lenK (by with_unfolding_all rfl) ?_
  | refine cb_max2 ?_
  | refine cb_min2 ?_
  | refine cb_int ?_
  | refine ⟨fun _ => ?_, fun z => Bool.noConfusion z⟩
  | refine ⟨fun z => Bool.noConfusion z, fun _ => ?_⟩
  | refine ⟨rfl, ?_⟩
  | refine ⟨_, rfl, ?_⟩
  | refine ⟨_, Or.inl (by with_unfolding_all rfl), ?_⟩
  | (with_unfolding_all refine ⟨_, true, rfl, rfl, (fun _ z => by cases z), rfl, ?_⟩)
  | (with_unfolding_all refine ⟨_, false, rfl, rfl, (fun _ z => by cases z), rfl, ?_⟩))
local macro_rules | `(tactic| walk_at "d") => `(tactic| repeat walk_at "d1")
local macro_rules | `(tactic| walk_at "wk") => `(tactic| repeat first | exact Wk.nil | refine Wk.keep ?_ | refine Wk.drop ?_)
section
variable {P : Program} {w : World} {K : PySem.W.Frag} {mg : Str → Option Value} {base : Heap} {f : Addr} {fd : FuncData} {a_Table a_BadText : Addr}
/-- the kind that a tuple is -/
def kinOf : D → List Nat
  | .tup ds => ds.map fun d => (intOf d).toNat
  | _ => []
theorem kinOf_eq (k : List Nat) : kinOf (tD k) = k := by
  show (dN k).map _ = k
  unfold dN
  rw [List.map_map]
  conv => rhs; rw [← List.map_id k]
  apply List.map_congr_left
  intro x _
  simp [intOf]
def wordTx (p : List Nat × Nat) : Str := kindTxt p.1 ++ ":" ++ numS p.2
theorem wordTx_len {p : List Nat × Nat} (h1 : ∀ a ∈ p.1, a < 10) (h2 : p.1.length ≤ 10) (h3 : p.2 < 10 ^ 30) : (wordTx p).length ≤ 51 := by
  unfold wordTx
  have := kindTxt_len h1
  have := numS_len h3
  rw [len_app, len_app, len_cl]
  omega
theorem rowLn_eq (r : Rw) : rowLn r = Txt.join " " ("round" :: r.map wordTx) := rfl
theorem AK_ten {sz : List Nat} {gs : List (Nat × Nat)} (hg : Good sz gs) {k : List Nat} (hk : k ∈ AK sz gs) : (∀ a ∈ k, a < 10) ∧ k.length ≤ 10 := by
  have h1 := AK_small hg.2.1 hk
  have := len_le_sum hg.1.2.1
  have := hg.1.2.2
  exact ⟨fun a ha => by have := mem_le_sum ha; omega, by omega⟩
theorem rowLn_sum {sz : List Nat} {gs : List (Nat × Nat)} (hg : Good sz gs) {r : Rw} (h : RwOk (AK sz gs) r) (hb : ∀ q ∈ r, q.2 < 10 ^ 30) : ((("round" : Str) :: r.map wordTx).map (·.length)).sum + (("round" : Str) :: r.map wordTx).length * 1 ≤ 106600 := by
  have l1 := h.len
  have l2 := AK_len (sz := sz) (gs := gs) hg.1.2.2 hg.2.1.l2
  have := sum_lens (ys := r.map wordTx) (B := 51) fun y hy => by
    obtain ⟨p, hp, rfl⟩ := List.mem_map.mp hy
    have := AK_ten hg (h.sub p.1 (List.mem_map.mpr ⟨p, hp, rfl⟩))
    exact wordTx_len this.1 this.2 (hb p hp)
  rw [List.length_map] at this
  rw [List.map_cons, List.sum_cons, len_words.2.2, List.length_cons, List.length_map]
  omega
theorem rowLn_len {sz : List Nat} {gs : List (Nat × Nat)} (hg : Good sz gs) {r : Rw} (h : RwOk (AK sz gs) r) (hb : ∀ q ∈ r, q.2 < 10 ^ 30) : (rowLn r).length ≤ 106600 := by
  have h1 := rowLn_sum hg h hb
  have h2 := join_len " " ("round" :: r.map wordTx)
  rw [len_sp] at h2
  rw [rowLn_eq]
  omega
def C_Table_text (C : Addr) : Fc := fun _ W m ss Φ Ξ => ∃ sz gs rows, ss = [.dat (.ins C (tabF sz gs rows))] ∧ Good sz gs ∧ rows.length ≤ 130 ∧ (∀ r ∈ rows, RwOk (AK sz gs) r ∧ ∀ q ∈ r, q.2 < 10 ^ 30) ∧ (∀ a, ¬ W.L a) ∧ Φ m (.dat (.str (tabTxt sz (srG gs) rows)))
abbrev s_Table_text : Stmt := (inClass (top 41) 15)
abbrev N_Table_text : List Str := ["self", "lines", "row", "size", "kind"]
theorem sc_Table_text : FnScope N_Table_text ["self"] (defScope s_Table_text) := ⟨rfl, rfl, rfl, by decide +kernel, rfl, by decide +kernel, by decide +kernel⟩
theorem ok_Table_text (F : FunD K "text" "Table.text" (defArgs s_Table_text) (defBody s_Table_text) (defScope s_Table_text) [] [] f fd) (b : BI mg) (i_Table : Ci K a_Table ["own_sizes", "own_games", "rows"]) (c_games_line : Cl P w K mg base CX0 1 "games_line" ["games"] C_games_line) (c_kind_text : Cl P w K mg base CX0 1 "kind_text" ["kind"] C_kind_text) : FnOk P w K mg base CX0 2 f fd ["self"] (spF K (C_Table_text a_Table)) := by
  have hlen := spF_len (K := K) (C := (C_Table_text a_Table)) (m := 1) fun κ W m ss Φ Ξ ⟨sz, gs, rows, e, _⟩ => by first | exact e | (rw [e]; rfl)
  refine F.ok sc_Table_text hlen ?_
  intro cdv A outer s H vs Q E hr h
  refine ⟨_, PSs.nox (pss_cons (ps_set (i := 1) sc_Table_text.nd rfl (by first | exact Or.inl rfl | exact Or.inr rfl) (pe_lst (pa_cons (k_join (K := K) rfl pe_str (pe_lst (pa_cons pe_str (k_star (K := K) rfl (pe_lc (own := [("size", 3)]) rfl sc_Table_text.nd (k_piT (K := K) rfl (k_fld (K := K) rfl (pv 0))) (blkOk_by (own := [("size", 3)]) (N := N_Table_text) (sc := (defScope s_Table_text)) (by decide +kernel)) (fun _ _ _ _ _ => (pg_name (i := 3) sc_Table_text.nd rfl (by first | exact Or.inl rfl | exact Or.inr rfl))) (fun _ _ _ _ _ => pts_nil) (fun _ _ _ _ _ => (pe_callTy k_strI rfl b.str_ boot_str (pa_cons (pv 3) pa_nil)))) pa_nil)))) (pa_cons (k_cl0 c_games_line rfl hr (pa_cons (k_fld (K := K) rfl (pv 0)) pa_nil)) pa_nil))))
      (pss_cons (ps_for PassesOwn.never rfl (k_piL (K := K) rfl (k_fld (K := K) rfl (pv 0))) (pg_name (i := 2) sc_Table_text.nd rfl (by first | exact Or.inl rfl | exact Or.inr rfl))
      (pss_one (ps_expr (k_app (K := K) rfl (pv 1) (pa_cons (k_join (K := K) rfl pe_str (pe_lst (pa_cons pe_str (k_star (K := K) rfl (pe_lock (pe_lc (own := [("kind", 4)]) rfl sc_Table_text.nd (pi_keys (pv 2)) (blkOk_by (own := [("kind", 4)]) (N := N_Table_text) (sc := (defScope s_Table_text)) (by decide +kernel)) (fun _ _ _ _ _ => (pg_name (i := 4) sc_Table_text.nd rfl (by first | exact Or.inl rfl | exact Or.inr rfl))) (fun _ _ _ _ _ => pts_nil) (fun _ _ _ _ _ => (k_joined (.cons (pe_fmt (k_cl0 c_kind_text rfl hr (pa_cons (pv 4) pa_nil))) (.cons pe_str (.cons (pe_fmt (pe_dget (hu_of hr) (pv 2) (pv 4) (fun _ _ => rfl))) .nil))))))) pa_nil)))) pa_nil)))))
      (pss_one (ps_ret (k_join (K := K) rfl pe_str (pv 1)))))), ?_⟩
  refine DL.run_fnP  [.no, .no, .no, .no] (Nm := N_Table_text) (n := 1) (k := 4) rfl (hlen _ _ _ _ h) rfl h fun κ W m ss Φ Ξ G hc => ?_
  try dsimp only [cxOf, Cx.nox, Cx.wish, Cx.blk]
  obtain ⟨sz, gs, rows, rfl, hgd, hrl, hrw, hL, hΦ⟩ := hc
  have hsl : sizeLine = 16777216 := sizeLine_eq
  have zl : sz.length ≤ 10 := by have := len_le_sum hgd.1.2.1; have := hgd.1.2.2; omega
  have hs10 : ∀ n ∈ sz, n ≤ 10 := fun n hn => by have := mem_le_sum hn; have := hgd.1.2.2; omega
  walk_at "d"
  refine de_lcMap (f := fun d => .str (numS (intOf d).toNat)) ?_
  walk_at "d"
  refine ⟨_, _, _, rfl, i_Table.cl, i_Table.no _ (by simp), tb_sizes sz gs rows, ?_⟩
  walk_at "d"
  refine ⟨by rw [dN_len]; omega, fun d hd => ⟨_, dg_name (by simp), ?_⟩, ?_⟩
  · obtain ⟨a, ha, rfl⟩ := dN_mem hd
    walk_at "d"
    refine cb_strI (log_num (big30 (by have := hs10 a ha; omega))) ?_
    exact ⟨rfl, by simp [intOf, S.frz, numS]⟩
  have e : (dN sz).map (fun d => D.str (numS (intOf d).toNat)) = (sz.map numS).map D.str := by
    unfold dN
    rw [List.map_map, List.map_map]
    apply List.map_congr_left
    intro a _
    simp [intOf]
  rw [e]
  refine ⟨_, .inr rfl, ?_⟩
  walk_at "d"
  refine lk_app (n := 899) (k := 100) (by rw [List.length_map, List.length_map]; omega) ?_
  walk_at "d"
  have h2 := sum_lens (ys := ("sizes" : Str) :: sz.map numS) (B := 30) fun y hy => by
    rcases List.mem_cons.mp hy with rfl | hy
    · rw [len_words.1]; omega
    · obtain ⟨n, hn, rfl⟩ := List.mem_map.mp hy
      exact numS_len (big30 (by have := hs10 n hn; omega))
  refine ⟨("sizes" : Str) :: sz.map numS, by rw [List.append_nil, List.map_cons]; rfl, ?_, ?_⟩
  · rw [List.length_cons, List.length_map] at h2 ⊢
    rw [len_sp]
    omega
  walk_at "d"
  refine ⟨_, _, _, rfl, i_Table.cl, i_Table.no _ (by simp), tb_games sz gs rows, ?_⟩
  have ggm := hgd.2.1
  have g2 := ggm.l2
  walk_at "d"
  refine ⟨gs, rfl, ggm.nd, by omega, fun p hp => by have := ggm.ok p.1 p.2 hp; exact ⟨big30 (by omega), big30 (by omega)⟩, ?_⟩
  walk_at "d"
  rw [show Txt.join " " (("sizes" : Str) :: sz.map numS) = sizesLn sz from rfl]
  refine ds_forW (vs := [2, 3, 4]) ?_
  walk_at "d"
  refine ⟨_, _, _, rfl, i_Table.cl, i_Table.no _ (by simp), tb_rows sz gs rows, ?_⟩
  walk_at "d"
  refine ⟨fun i m' ρ => m' = m ∧ ρ = [.dat (.ins a_Table (tabF sz gs rows)), .own (.lst ((sizesLn sz :: gamesLn (srG gs) :: (rows.take i).map rowLn).map D.str)), .no, .no, .no], ⟨_, Wk.refl _, rfl, rfl, rfl⟩, ?_, ?_⟩
  · rintro i d m' ρ hd ⟨rfl, rfl⟩
    rw [List.getElem?_map] at hd
    cases hr : rows[i]? with
    | none => rw [hr] at hd; cases hd
    | some r =>
      rw [hr] at hd
      cases hd
      obtain ⟨hro, hb⟩ := hrw r (List.mem_of_getElem? hr)
      have rl := hro.len
      have al := AK_len (sz := sz) (gs := gs) hgd.1.2.2 hgd.2.1.l2
      refine ⟨_, dg_name (by simp), ?_⟩
      dsimp only [List.set_cons_zero, List.set_cons_succ]
      refine ds_app (i := 1) rfl (by simp; omega) ?_
      refine de_join (de_str ⟨_, rfl, de_lst (da_cons (de_str (da_star ?_)))⟩)
      refine de_lcKM (fun d => .str (wordTx (kinOf d, rn r (kinOf d)))) (dp_var rfl) (.inr ⟨_, rfl⟩) hL walks_keysT (by rw [List.length_map, rT_len]; omega) (fun d F x hx => ⟨_, dg_name (by simp), ?_⟩) ?_
      · unfold rT at hx
        rw [List.map_map] at hx
        obtain ⟨⟨k, n⟩, hp, rfl⟩ := List.mem_map.mp hx
        show De _ _ _ ((wipeS _ _).set 4 (.dat (keyT (keyN k)))) fun m2 s => m2 = m' ∧ s.frz = .dat (.str (wordTx (kinOf (keyT (keyN k)), rn r (kinOf (keyT (keyN k))))))
        rw [keyN_D, kinOf_eq]
        have hrn : rn r k = n := by unfold rn; rw [rg_self hro.nd _ hp]; rfl
        have hk := AK_ten hgd (hro.sub k (List.mem_map.mpr ⟨_, hp, rfl⟩))
        have hn : n < 10 ^ 30 := hb _ hp
        have kl := kindTxt_len hk.1
        have nl := numS_len hn
        refine de_jcons (de_fmt ?_)
        walk_at "d"
        refine ⟨k, rfl, by omega, fun a ha => big30 (by have := hk.1 a ha; omega), ?_⟩
        refine .inl ⟨_, rfl, by omega, _, rfl, ?_, ?_⟩
        · rw [empty_app]; omega
        rw [empty_app]
        refine de_jcons (de_str ⟨_, rfl, ?_, ?_⟩)
        · rw [len_app, len_cl]; omega
        refine de_jcons (de_fmt ?_)
        walk_at "d"
        have lk := Look.t (ds := rT r) (keyN k)
        rw [rT_val, rg_self hro.nd _ hp, keyN_D] at lk
        refine ⟨_, _, _, rfl, rfl, lk, ?_⟩
        refine .inr ⟨_, rfl, log_num hn, _, rfl, ?_, ?_⟩
        · show (kindTxt k ++ ":" ++ numS n).length ≤ sizeLine
          rw [len_app, len_app, len_cl]; omega
        refine de_jnil ⟨rfl, ?_⟩
        rw [hrn]
        rfl
      have e : (((rT r).map fun p => keyT p.1).map fun d => D.str (wordTx (kinOf d, rn r (kinOf d)))) = (r.map wordTx).map D.str := by
        unfold rT
        rw [List.map_map, List.map_map, List.map_map]
        apply List.map_congr_left
        rintro ⟨k, n⟩ hp
        have hrn : rn r k = n := by unfold rn; rw [rg_self hro.nd _ hp]; rfl
        show D.str (wordTx (kinOf (keyT (keyN k)), rn r (kinOf (keyT (keyN k))))) = D.str (wordTx (k, n))
        rw [keyN_D, kinOf_eq, hrn]
      rw [e]
      refine ⟨_, .inr rfl, ?_⟩
      refine da_nil ⟨(("round" : Str) :: r.map wordTx).map D.str, by rw [List.append_nil, List.map_cons, List.map_cons], by simp; omega, ("round" : Str) :: r.map wordTx, rfl, ?_, ?_⟩
      · have := rowLn_sum hgd hro hb
        rw [len_sp]
        omega
      refine ⟨_, rfl, ?_⟩
      rw [← rowLn_eq]
      dsimp only [List.set_cons_zero, List.set_cons_succ]
      have e2 : (sizesLn sz :: gamesLn (srG gs) :: (rows.take i).map rowLn).map D.str ++ [D.str (rowLn r)] = (sizesLn sz :: gamesLn (srG gs) :: (rows.take (i + 1)).map rowLn).map D.str := by
        rw [List.take_add_one, hr]
        simp
      rw [e2]
      exact ⟨_, by walk_at "wk", rfl, rfl, rfl⟩
  · rintro m' ρ ⟨rfl, rfl⟩
    rw [List.length_map, List.take_length]
    walk_at "d"
    refine ⟨?_, rfl, hΦ⟩
    have hz : (sizesLn sz).length ≤ 400 := by
      have := join_len " " (("sizes" : Str) :: sz.map numS)
      rw [List.length_cons, List.length_map] at this h2
      rw [len_sp] at this
      unfold sizesLn
      omega
    have hg : (gamesLn (srG gs)).length ≤ 400 := by
      have h3 := sum_lens (ys := ("games" : Str) :: (srG gs).map fun p => numS p.1 ++ ":" ++ numS p.2) (B := 61) fun y hy => by
        rcases List.mem_cons.mp hy with rfl | hy
        · rw [len_words.2.1]; omega
        · obtain ⟨⟨t, v⟩, hp, rfl⟩ := List.mem_map.mp hy
          have hb := ggm.ok _ _ ((srG_mem ggm.nd).mp hp)
          have l1 : (numS t).length ≤ 30 := numS_len (big30 (by omega))
          have l2 : (numS v).length ≤ 30 := numS_len (big30 (by omega))
          rw [len_app, len_app, len_cl]
          show (numS t).length + 1 + (numS v).length ≤ 61
          omega
      have l3 : (srG gs).length = gs.length := by unfold srG; rw [List.length_map, ks_len]
      have := join_len " " (("games" : Str) :: (srG gs).map fun p => numS p.1 ++ ":" ++ numS p.2)
      rw [len_sp] at this
      rw [List.length_cons, List.length_map, l3] at h3 this
      unfold gamesLn
      omega
    have hrs := sum_lens (ys := rows.map rowLn) (B := 106600) fun y hy => by
      obtain ⟨r, hr, rfl⟩ := List.mem_map.mp hy
      exact rowLn_len hgd (hrw r hr).1 (hrw r hr).2
    rw [List.length_map] at hrs
    rw [len_nl, List.map_cons, List.map_cons, List.sum_cons, List.sum_cons, List.length_cons, List.length_cons, List.length_map]
    omega
end
end Pf
set_option Elab.async false
set_option linter.all false
set_option maxRecDepth 100000
set_option maxHeartbeats 1000000
namespace Pf
open PySem PySem.Spec PyProof.Rows L2 DL
local macro_rules | `(tactic| walk_at "len") => `(tactic| with_unfolding_all first | exact Nat.le_of_ble_eq_true rfl | (simp; done) | (simp; omega))
local macro_rules | `(tactic| walk_at "side") => `(tactic| with_unfolding_all first | exact Or.inr ⟨by omega, by omega⟩ | exact Or.inl ⟨by omega, by omega⟩ | exact ⟨by omega, by omega⟩ | exact ⟨by omega, by omega, by omega⟩ | (show (0 : Int) < _; omega) | decide)
local macro_rules | `(tactic| walk_at "d1") => `(tactic| with_reducible first
  | (refine ds_seq ?_; try dsimp only [List.set_cons_zero, List.set_cons_succ, List.cons_append, List.nil_append, O.frz])
  | refine ds_asg ?_
  | refine ds_ret ?_
  | refine ds_retN ?_
  | refine ds_next ?_
  | refine ds_dropC ?_
  | refine ds_drop0 ?_
  | refine ds_dropB ?_
  | refine ds_if ?_
  | refine dt_test ?_
  | refine dt_B ?_
  | refine dt_not ?_
  | refine dt_and ?_
  | refine dt_or ?_
  | refine dt_yes ?_
  | refine de_int ?_
  | refine de_bl ?_
  | refine de_str ?_
  | refine de_non ?_
  | refine de_varD (by with_unfolding_all rfl) ?_
  | refine de_varO (by with_unfolding_all rfl) ?_
  | refine de_varA (by with_unfolding_all rfl) ?_
  | refine de_varV (by with_unfolding_all rfl) ?_
  | refine de_isi ?_
  | refine de_dget ?_
  | refine de_dget2 ?_
  | refine de_dnotin ?_
  | refine de_din ?_
  | refine de_dnew ?_
  | refine de_dnewT ?_
  | refine de_cb ?_
  | refine de_call0G ?_
  | refine de_callG ?_
  | refine de_andB ?_
  | refine de_orB ?_
  | refine de_notV ?_
  | refine de_ifE ?_
  | refine de_chain ?_
  | refine de_op ?_
  | refine de_neg ?_
  | refine de_tupG ?_
  | refine de_lstG ?_
  | refine de_slL ?_
  | refine de_slT ?_
  | refine do_none ?_
  | refine do_some ?_
  | refine daf_cons ?_
  | refine daf_nil ?_
  | refine daf_star ?_
  | refine da_cons ?_
  | refine da_nil ?_
  | refine lk_dat ?_
  | refine lk_nil ?_
  | refine ak_dat ?_
  | refine ak_nil ?_
  | refine ak_at ?_
  | refine ak_lst ?_
  | refine lk_lst ?_
  | refine ak_dK ?_
  | refine ak_dT ?_
  | refine ak_vw ?_
  | refine lk_dT ?_
  | refine lk_dK ?_
  | refine da_star ?_
  | refine de_lstRg1 ?_
  | refine de_lstRg2 ?_
  | refine de_revL ?_
  | refine de_count ?_
  | refine de_index ?_
  | refine di_enum ?_
  | refine dt_tru ?_
  | refine de_fld ?_
  | refine de_prop ?_
  | refine di_rng1 ?_
  | refine di_rng2 ?_
  | refine di_list ?_
  | refine di_tup ?_
  | refine di_seq ?_
  | refine di_zip ?_
  | refine de_split ?_
  | refine de_join ?_
  | refine de_fmt ?_
  | refine de_jnil ?_
  | refine de_jcons ?_
  | refine de_ixS ?_
  | refine de_orT ?_
  | refine di_str ?_
  | refine ops_eqS ?_
  | refine ops_neS ?_
  | refine de_indexD ?_
  | refine ops_int ?_
  | (refine ops_cat (by with_unfolding_all rfl) (by with_unfolding_all rfl) ?side ?_; (case side => walk_at "len"))
  | (refine ops_catA ?side ?_; (case side => walk_at "len"))
  | refine ops_eqI ?_
  | refine ops_neI ?_
  | refine ops_bool ?_
  | (refine ops_intC ?side ?_; (case side => walk_at "side"))
  | refine cb_lenL (by with_unfolding_all rfl) ?_
  | refine cb_lenT (by with_unfolding_all rfl) ?_
  | refine cb_lenK (by with_unfolding_all rfl) ?_
  | refine cb_max2 ?_
  | refine cb_min2 ?_
  | refine cb_int ?_
  | refine ⟨fun _ => ?_, fun z => Bool.noConfusion z⟩
  | refine ⟨fun z => Bool.noConfusion z, fun _ => ?_⟩
  | refine ⟨rfl, ?_⟩
  | refine ⟨_, rfl, ?_⟩
  | refine ⟨_, Or.inl (by with_unfolding_all rfl), ?_⟩
  | (with_unfolding_all refine ⟨_, true, rfl, rfl, (fun _ z => by cases z), rfl, ?_⟩)
  | (with_unfolding_all refine ⟨_, false, rfl, rfl, (fun _ z => by cases z), rfl, ?_⟩))
local macro_rules | `(tactic| walk_at "d") => `(tactic| repeat walk_at "d1")
local macro_rules | `(tactic| walk_at "wk") => `(tactic| repeat first | exact Wk.nil | refine Wk.keep ?_ | refine Wk.drop ?_)
section
variable {P : Program} {w : World} {K : PySem.W.Frag} {mg : Str → Option Value} {base : Heap} {f : Addr} {fd : FuncData} {a_Table a_BadText : Addr}
/-- a text that may be read -/
structure TxOk (z : Str) : Prop where
  len : z.length ≤ 16000000
  cnt : (Txt.split z "\n").length ≤ 900000
  lines : ∀ l ∈ Txt.split z "\n", l.length ≤ 800000
  few : ∀ l, (Txt.split z "\n")[1]? = some l → FewP l
theorem srG_asc {gs : List (Nat × Nat)} (h : asc (gs.map (·.1)) = true) : srG gs = gs := by
  have nd := asc_nd h
  have e : ks gs = gs.map (·.1) := by
    have := asc_ks.mpr h
    rw [dOf_eq nd] at this
    exact this.symm
  unfold srG
  rw [e, List.map_map]
  conv => rhs; rw [← List.map_id gs]
  apply List.map_congr_left
  rintro ⟨t, v⟩ hp
  simp [gv_mem nd hp]
def C_Table_read (C X : Addr) : Fc := fun _ W m ss Φ Ξ => ∃ d, ss = [.at_ C, .dat d] ∧ ask d ∧ (∀ a, ¬ W.L a) ∧ ((∀ z, d ≠ .str z) → Ξ m X [("line", .int 0)]) ∧ (∀ z, d = .str z → TxOk z ∧
  (∀ l : Nat, readT z = .inl l → Ξ m X [("line", .int (l : Nat))]) ∧ ∀ sz gs rs, readT z = .inr (sz, gs, rs) → Φ m (.dat (.ins C (tabF sz gs rs))))
abbrev s_Table_read : Stmt := (inClass (top 41) 16)
abbrev N_Table_read : List Str := ["cls", "text", "lines", "sizes", "games", "kinds", "rounds", "place", "line", "row"]
theorem sc_Table_read : FnScope N_Table_read ["cls", "text"] (defScope s_Table_read) := ⟨rfl, rfl, rfl, by decide +kernel, rfl, by decide +kernel, by decide +kernel⟩
theorem ok_Table_read (F : FunD K "read" "Table.read" (defArgs s_Table_read) (defBody s_Table_read) (defScope s_Table_read) [] [] f fd) (b : BI mg) (k_MOST_ROUNDS : ∃ u, mg "MOST_ROUNDS" = some u ∧ RelV (.int 130) u) (x_BadText : Xc P w K mg base "BadText" a_BadText ["line"]) (c_sizes_in : Cl P w K mg base CX0 3 "sizes_in" ["line"] C_sizes_in) (c_games_in : Cl P w K mg base CX0 3 "games_in" ["people", "line"] C_games_in) (c_all_kinds : Cl P w K mg base (L2.CX P w) 5 "all_kinds" ["sizes", "games"] C_all_kinds) (c_round_in : Cl P w K mg base CX0 3 "round_in" ["kinds", "line"] C_round_in) (c_Table___init : Mi P w K mg base (L2.CX P w) 6 a_Table "Table" ["self", "sizes", "games", "rounds"] (C_Table___init K a_Table)) : FnOk P w K mg base (L2.CX P w) 8 f fd ["cls", "text"] (spF K (C_Table_read a_Table a_BadText)) := by
  have hlen := spF_len (K := K) (C := (C_Table_read a_Table a_BadText)) (m := 2) fun κ W m ss Φ Ξ ⟨d, e, _⟩ => by first | exact e | (rw [e]; rfl)
  refine F.ok sc_Table_read hlen ?_
  intro cdv A outer s H vs Q E hr h
  refine ⟨_, (pss_cons (ps_if (pt_not (pt_val (pe_callB (k_isi (K := K) rfl) rfl b.isinstance boot_isinstance (pa_cons (pv 1) (pa_cons (pe_bltn (v := .ty "str") rfl b.str_ boot_str rfl) pa_nil))))) (pss_one (raiseX x_BadText hr (takes_of rfl rfl rfl rfl) (pa_cons pe_int pa_nil))) pss_nil)
      (pss_cons (ps_set (i := 2) sc_Table_read.nd rfl (by first | exact Or.inl rfl | exact Or.inr rfl) (k_split (pv 1) pe_str))
      (pss_cons (ps_set (i := 3) sc_Table_read.nd rfl (by first | exact Or.inl rfl | exact Or.inr rfl) (k_cl0 c_sizes_in rfl hr (pa_cons (pe_ix (k_ixL (K := K) rfl) (pv 2) pe_int (fun _ _ => rfl)) pa_nil)))
      (pss_cons (ps_if (pt_cmpR op_isN (pv 3) pe_non (nomark _)) (pss_one (raiseX x_BadText hr (takes_of rfl rfl rfl rfl) (pa_cons pe_int pa_nil))) pss_nil)
      (pss_cons (ps_set (i := 4) sc_Table_read.nd rfl (by first | exact Or.inl rfl | exact Or.inr rfl) (pe_ifExp (pt_cmpR op_gt (pe_callB (k_len (K := K) rfl) rfl b.len boot_len (pa_cons (pv 2) pa_nil)) pe_int (nomark _)) (k_cl0 c_games_in rfl hr (pa_cons (pe_callB (k_sum (K := K) rfl rfl) rfl b.sum boot_sum (pa_cons (pv 3) pa_nil)) (pa_cons (pe_ix (k_ixL (K := K) rfl) (pv 2) pe_int (fun _ _ => rfl)) pa_nil))) pe_non))
      (pss_cons (ps_if (pt_cmpR op_isN (pv 4) pe_non (nomark _)) (pss_one (raiseX x_BadText hr (takes_of rfl rfl rfl rfl) (pa_cons pe_int pa_nil))) pss_nil)
      (pss_cons (ps_if (pt_cmpR op_lt (pe_callB (k_len (K := K) rfl) rfl b.len boot_len (pa_cons (pv 2) pa_nil)) pe_int (nomark _)) (pss_one (raiseX x_BadText hr (takes_of rfl rfl rfl rfl) (pa_cons pe_int pa_nil))) pss_nil)
      (pss_cons (ps_set (i := 5) sc_Table_read.nd rfl (by first | exact Or.inl rfl | exact Or.inr rfl) (k_cl c_all_kinds rfl hr (passes_call (takes_of rfl rfl rfl rfl) (fun _ _ _ _ h => h)) (pa_cons (pv 3) (pa_cons (pv 4) pa_nil))))
      (pss_cons (ps_set (i := 6) sc_Table_read.nd rfl (by first | exact Or.inl rfl | exact Or.inr rfl) (pe_lst pa_nil))
      (pss_cons (ps_for (passes_of rfl) rfl (k_enum (K := K) rfl rfl b.enumerate (pa_cons (pe_slice (k_slL (K := K) rfl) (pv 2) (po_some pe_int) po_none) pa_nil)) (k_gTup (K := K) (n := 2) rfl rfl (pgs_cons (pg_name (i := 7) sc_Table_read.nd rfl (by first | exact Or.inl rfl | exact Or.inr rfl)) (pgs_cons (pg_name (i := 8) sc_Table_read.nd rfl (by first | exact Or.inl rfl | exact Or.inr rfl)) pgs_nil)))
      (pss_cons (ps_set (i := 9) sc_Table_read.nd rfl (by first | exact Or.inl rfl | exact Or.inr rfl) (pe_ifExp (pt_cmpR op_lt (pv 7) (C8.pe_gc rfl k_MOST_ROUNDS) (nomark _)) (k_cl0 c_round_in rfl hr (pa_cons (pv 5) (pa_cons (pv 8) pa_nil))) pe_non))
      (pss_cons (ps_if (pt_cmpR op_isN (pv 9) pe_non (nomark _)) (pss_one (raiseX x_BadText hr (takes_of rfl rfl rfl rfl) (pa_cons (pe_op op_add (pv 7) pe_int) pa_nil))) pss_nil)
      (pss_one (ps_expr (k_app (K := K) rfl (pv 6) (pa_cons (pv 9) pa_nil)))))))
      (pss_one (ps_ret (k_makeL (i := 0) c_Table___init rfl hr (passes_call (takes_of rfl rfl rfl rfl) (fun _ _ _ _ h => h)) rfl (by first | exact Or.inl rfl | exact Or.inr rfl) (pa_cons (pv 3) (pa_cons (pv 4) (pa_cons (pv 6) pa_nil)))))))))))))))), ?_⟩
  refine DL.run_fnP  [.no, .no, .no, .no, .no, .no, .no, .no] (Nm := N_Table_read) (n := 2) (k := 8) rfl (hlen _ _ _ _ h) rfl h fun κ W m ss Φ Ξ G hc => ?_
  try dsimp only [cxOf, Cx.nox, Cx.wish, Cx.blk]
  obtain ⟨d, rfl, hd, hL, h0, hz⟩ := hc
  by_cases hs : ∃ z, d = .str z
  case neg =>
    cases d <;> first | exact absurd rfl (hd.2 _) | exact absurd hd.1 Bool.false_ne_true | exact absurd ⟨_, rfl⟩ hs | skip
    all_goals
      walk_at "d"
      refine ds_raise ?_
      walk_at "d"
      exact ⟨[.int 0], rfl, rfl, by show 1 ≤ 1000; decide, h0 (fun _ z => by cases z)⟩
  obtain ⟨z, rfl⟩ := hs
  obtain ⟨hx, hX, hΦ⟩ := hz z rfl
  have hsl : z.length + 2 ≤ sizeLine := by have : sizeLine = 16777216 := sizeLine_eq; have := hx.len; omega
  walk_at "d"
  refine ⟨hsl, ?_⟩
  refine ⟨rfl, ?_⟩
  walk_at "d"
  obtain ⟨z0, hz0⟩ := head_split sepNl z
  generalize hZ : Txt.split z "\n" = Z at *
  have hZl := hx.cnt
  have hlin := hx.lines
  have hfew := hx.few
  rw [hZ] at hZl hlin hfew
  have hz0m := List.mem_of_mem_head? hz0
  refine ops_ixL rfl (atI_0 hz0) ?_
  walk_at "d"
  have hrd : readT z = match sizesIn z0 with
    | none => .inl 1
    | some sz => match (if 1 < Z.length then gamesIn sz.sum (Z.getD 1 Str.empty) else none) with
      | none => .inl 2
      | some gs => if Z.length < 3 then .inl 3 else
        match rowsGo (AK sz gs) 0 (Z.drop 2) with
        | .inl i => .inl (i + 3)
        | .inr rs => .inr (sz, gs, rs) := by
    unfold readT
    rw [hZ]
    cases Z with
    | nil => cases hz0
    | cons a r => cases hz0; rfl
  refine ⟨z0, rfl, hlin z0 hz0m, fun hs0 => ?_, fun sz hs0 => ?_⟩
  · rw [hs0] at hrd
    walk_at "d"
    refine ops_isNo rfl ?_
    walk_at "d"
    refine ds_raise ?_
    walk_at "d"
    exact ⟨[.int 1], rfl, rfl, by show 1 ≤ 1000; decide, hX 1 hrd⟩
  rw [hs0] at hrd
  dsimp only at hrd
  have hsz := sizesIn_ok hs0
  walk_at "d"
  refine ops_isNo rfl ?_
  refine ⟨_, rfl, ?_⟩
  refine ⟨fun z => Bool.noConfusion z, fun _ => ?_⟩
  refine ds_next ?_
  refine ds_seq ?_
  refine ds_asg ?_
  have n10 : sz.sum ≤ 10 := hsz.2.2
  generalize hG : (if 1 < Z.length then gamesIn sz.sum (Z.getD 1 Str.empty) else none) = G at hrd
  refine De.imp (Φ := fun m2 s => m2 = m ∧ s = .dat (match G with | none => .non | some gs => .dic (gD gs))) ?_ ?_
  · walk_at "d"
    rw [List.length_map]
    by_cases h1 : 1 < Z.length
    · rw [if_pos h1] at hG
      obtain ⟨z1, hz1⟩ : ∃ z1, Z[1]? = some z1 := ⟨_, List.getElem?_eq_getElem h1⟩
      have e1 : Z.getD 1 Str.empty = z1 := by rw [List.getD_eq_getElem?_getD, hz1]; rfl
      rw [e1] at hG
      rw [show decide ((1 : Int) < (Z.length : Nat)) = true by rw [decide_eq_true_eq]; omega]
      walk_at "d"
      refine cb_sumN (.inl rfl) ?_
      walk_at "d"
      refine ops_ixL rfl (atI_row (i := 1) (by rw [List.getElem?_map, hz1]; rfl)) ?_
      walk_at "d"
      refine ⟨sz.sum, z1, rfl, n10, hlin z1 (List.mem_of_getElem? hz1), hfew z1 hz1, fun hg => ?_, fun gs hg => ?_⟩
      · rw [hG] at hg
        subst hg
        exact ⟨rfl, rfl⟩
      · rw [hG] at hg
        subst hg
        exact ⟨rfl, rfl⟩
    · rw [if_neg h1] at hG
      subst hG
      rw [show decide ((1 : Int) < (Z.length : Nat)) = false by rw [decide_eq_false_iff_not]; omega]
      walk_at "d"
      rfl
  rintro m2 s ⟨rfl, rfl⟩
  refine ⟨rfl, ?_⟩
  dsimp only [List.set_cons_zero, List.set_cons_succ]
  cases G with
  | none =>
    walk_at "d"
    refine ops_isNo rfl ?_
    walk_at "d"
    refine ds_raise ?_
    walk_at "d"
    exact ⟨[.int 2], rfl, rfl, by show 1 ≤ 1000; decide, hX 2 hrd⟩
  | some gs =>
    dsimp only at hrd ⊢
    have hgm : GGm sz.sum gs ∧ asc (gs.map (·.1)) = true ∧ tot sz.sum gs ≤ 130 := by
      split at hG
      · exact gamesIn_ok hG
      · cases hG
    have hgd : Good sz gs := ⟨hsz, hgm.1, hgm.2.2⟩
    walk_at "d"
    refine ops_isNo rfl ?_
    walk_at "d"
    rw [List.length_map]
    by_cases h3 : Z.length < 3
    · rw [if_pos h3] at hrd
      rw [show decide ((Z.length : Int) < 3) = true by rw [decide_eq_true_eq]; omega]
      walk_at "d"
      refine ds_raise ?_
      walk_at "d"
      exact ⟨[.int 3], rfl, rfl, by show 1 ≤ 1000; decide, hX 3 hrd⟩
    rw [if_neg h3] at hrd
    rw [show decide ((Z.length : Int) < 3) = false by rw [decide_eq_false_iff_not]; omega]
    walk_at "d"
    refine ⟨_, sz, gs, rfl, .inl rfl, hgd, ?_⟩
    refine ⟨rfl, ?_⟩
    refine ds_frz (i := 5) rfl ?_
    dsimp only [O.frz, O1.frz, List.set_cons_zero, List.set_cons_succ]
    walk_at "d"
    have nd := AK_nodup (sz := sz) (gs := gs) (asc_nd hgm.2.1)
    have al := AK_len (sz := sz) (gs := gs) n10 hgm.1.l2
    have kne : ∀ k ∈ AK sz gs, k ≠ [] := fun k hk => AK_ne hsz hk
    generalize hW : Z.drop 2 = W at hrd
    have hWl : W.length ≤ 900000 := by rw [← hW, List.length_drop]; omega
    refine ds_forW (vs := [7, 8]) ?_
    walk_at "d"
    rw [show DL.cutD (Z.map D.str) (some 2) none = (Z.map D.str).drop 2 from cut_from _ 2, ← List.map_drop, hW]
    refine ⟨fun i m' ρ => m' = m2 ∧ ∃ rs : List Rw, rowsGo (AK sz gs) 0 W = (match rowsGo (AK sz gs) i (W.drop i) with | .inl j => .inl j | .inr ws => .inr (rs ++ ws)) ∧ rs.length = i ∧ i ≤ 130 ∧ ρ = [.at_ a_Table, .dat (.str z), .own (.lst (Z.map D.str)), .dat (.lst (dN sz)), .dat (.dic (gD gs)), .dat (.lst ((AK sz gs).map tD)), .own (.lst (rs.map rD)), .no, .no, .no], ⟨_, Wk.refl _, rfl, rfl, [], by rw [List.drop_zero]; cases rowsGo (AK sz gs) 0 W <;> rfl, rfl, by omega, rfl⟩, ?_, ?_⟩
    · rintro i d m' ρ hd ⟨rfl, rs, hr, hrl, hi, rfl⟩
      obtain ⟨x, hx, rfl⟩ := enumD_at hd
      rw [List.getElem?_map] at hx
      cases hw : W[i]? with
      | none => rw [hw] at hx; cases hx
      | some y =>
        rw [hw] at hx
        cases hx
        have hyl : y.length ≤ 800000 := hlin y (by have := List.mem_of_getElem? hw; rw [← hW] at this; exact List.mem_of_mem_drop this)
        have hdr : W.drop i = y :: W.drop (i + 1) := by
          obtain ⟨hlt, e⟩ := List.getElem?_eq_some_iff.mp hw
          rw [List.drop_eq_getElem_cons hlt, e]
        rw [hdr, rowsGo] at hr
        refine ⟨_, dg_tup2 (by simp) (by simp), ?_⟩
        dsimp only [List.set_cons_zero, List.set_cons_succ]
        generalize hR : (if i < 130 then roundIn (AK sz gs) y else none) = R at hr
        refine ds_seq ?_
        refine ds_asg ?_
        refine De.imp (Φ := fun m3 s => m3 = m' ∧ s.ok = true ∧ (R = none → s = .dat .non) ∧ ∀ r, R = some r → s = .own (.dT (rT r))) ?_ ?_
        · walk_at "d"
          by_cases h1 : i < 130
          · rw [if_pos h1] at hR
            rw [show decide (((i : Nat) : Int) < 130) = true by rw [decide_eq_true_eq]; omega]
            walk_at "d"
            refine ⟨AK sz gs, y, rfl, nd, by omega, kne, hyl, fun hn => ?_, fun r hn => ?_⟩
            · rw [hR] at hn
              subst hn
              exact ⟨rfl, rfl, fun _ => rfl, (fun r z => by cases z)⟩
            · rw [hR] at hn
              subst hn
              exact ⟨rfl, rfl, (fun z => by cases z), (fun r z => by cases z; rfl)⟩
          · rw [if_neg h1] at hR
            subst hR
            rw [show decide (((i : Nat) : Int) < 130) = false by rw [decide_eq_false_iff_not]; omega]
            refine ⟨fun z => Bool.noConfusion z, fun _ => de_non ?_⟩
            exact ⟨rfl, rfl, fun _ => rfl, (fun r z => by cases z)⟩
        rintro m3 s ⟨rfl, hso, hs1, hs2⟩
        refine ⟨hso, ?_⟩
        dsimp only [List.set_cons_zero, List.set_cons_succ]
        cases R with
        | none =>
          rw [hs1 rfl]
          walk_at "d"
          refine ops_isNo rfl ?_
          walk_at "d"
          refine ds_raise ?_
          walk_at "d"
          refine ⟨[.int ((i : Nat) + 3 : Int)], rfl, rfl, by show 1 ≤ 1000; decide, ?_⟩
          have := hX (i + 3) (by rw [hrd, hr])
          rw [show (((i + 3 : Nat) : Nat) : Int) = ((i : Nat) + 3 : Int) by omega] at this
          exact this
        | some r =>
          rw [hs2 r rfl]
          have hi2 : i < 130 := by
            by_cases h1 : i < 130
            · exact h1
            · rw [if_neg h1] at hR; cases hR
          refine ds_frz (i := 9) rfl ?_
          dsimp only [O.frz, O1.frz, List.set_cons_zero, List.set_cons_succ]
          walk_at "d"
          refine ops_isNo rfl ?_
          walk_at "d"
          refine ds_app (i := 6) rfl (by rw [List.length_map]; omega) ?_
          walk_at "d"
          dsimp only [List.set_cons_zero, List.set_cons_succ]
          rw [show rs.map rD ++ [D.dit (rT r)] = (rs ++ [r]).map rD by rw [List.map_append]; rfl]
          refine ⟨[.at_ a_Table, .dat (.str z), .own (.lst (Z.map D.str)), .dat (.lst (dN sz)), .dat (.dic (gD gs)), .dat (.lst ((AK sz gs).map tD)), .own (.lst ((rs ++ [r]).map rD)), .no, .no, .no], by walk_at "wk", rfl, rfl, rs ++ [r], ?_, by simp; omega, by omega, rfl⟩
          rw [hr]
          cases rowsGo (AK sz gs) (i + 1) (W.drop (i + 1)) with
          | inl j => rfl
          | inr ws => simp
    · rintro m' ρ ⟨rfl, rs, hr, hrl, hi, rfl⟩
      rw [enumD_len, List.length_map, List.drop_length, rowsGo] at hr
      simp only [List.append_nil] at hr
      rw [hr] at hrd
      obtain ⟨_, _, q1, q2, q3⟩ := readT_ok hrd
      refine ds_frz (i := 6) rfl ?_
      dsimp only [O.frz, O1.frz, List.set_cons_zero, List.set_cons_succ]
      refine ds_ret (de_makeL rfl (de_make hE_c ?_))
      walk_at "d"
      refine fun a dx na => ⟨a, insL na, sz, gs, rs, _, _, _, rfl, .l, rfl, hgd, q1, q2, fun r hr => (q3 r hr).ok nd, rfl, rfl, ?_⟩
      have e1 : srG gs = gs := srG_asc hgm.2.1
      have e2 : rs.map (ck (AK sz gs)) = rs := by
        conv => rhs; rw [← List.map_id rs]
        exact List.map_congr_left fun r hr => (q3 r hr).ck nd
      have := hΦ sz gs rs hrd
      rw [e1, e2]
      exact this
end
end Pf
set_option Elab.async false
set_option linter.all false
set_option maxRecDepth 100000
set_option maxHeartbeats 1000000
namespace Pf
open PySem PySem.Spec PyProof.Rows L2 DL
local macro_rules | `(tactic| walk_at "len") => `(tactic| with_unfolding_all first | exact Nat.le_of_ble_eq_true rfl | (simp; done) | (simp; omega))
local macro_rules | `(tactic| walk_at "side") => `(tactic| with_unfolding_all first | exact Or.inr ⟨by omega, by omega⟩ | exact Or.inl ⟨by omega, by omega⟩ | exact ⟨by omega, by omega⟩ | exact ⟨by omega, by omega, by omega⟩ | (show (0 : Int) < _; omega) | decide)
local macro_rules | `(tactic| walk_at "d1") => `(tactic| with_reducible first
  | (refine ds_seq ?_; try dsimp only [List.set_cons_zero, List.set_cons_succ, List.cons_append, List.nil_append, O.frz])
  | refine ds_asg ?_
  | refine ds_ret ?_
  | refine ds_retN ?_
  | refine ds_next ?_
  | refine ds_dropC ?_
  | refine ds_drop0 ?_
  | refine ds_dropB ?_
  | refine ds_if ?_
  | refine dt_test ?_
  | refine dt_B ?_
  | refine dt_not ?_
  | refine dt_and ?_
  | refine dt_or ?_
  | refine dt_yes ?_
  | refine de_int ?_
  | refine de_bl ?_
  | refine de_str ?_
  | refine de_non ?_
  | refine de_varD (by with_unfolding_all rfl) ?_
  | refine de_varO (by with_unfolding_all rfl) ?_
  | refine de_varA (by with_unfolding_all rfl) ?_
  | refine de_varV (by with_unfolding_all rfl) ?_
  | refine de_isi ?_
  | refine de_dget ?_
  | refine de_dget2 ?_
  | refine de_dnotin ?_
  | refine de_din ?_
  | refine de_dnew ?_
  | refine de_dnewT ?_
  | refine de_cb ?_
  | refine de_call0G ?_
  | refine de_callG ?_
  | refine de_andB ?_
  | refine de_orB ?_
  | refine de_notV ?_
  | refine de_ifE ?_
  | refine de_chain ?_
  | refine de_op ?_
  | refine de_neg ?_
  | refine de_tupG ?_
  | refine de_lstG ?_
  | refine de_slL ?_
  | refine de_slT ?_
  | refine do_none ?_
  | refine do_some ?_
  | refine daf_cons ?_
  | refine daf_nil ?_
  | refine daf_star ?_
  | refine da_cons ?_
  | refine da_nil ?_
  | refine lk_dat ?_
  | refine lk_nil ?_
  | refine ak_dat ?_
  | refine ak_nil ?_
  | refine ak_at ?_
  | refine ak_lst ?_
  | refine lk_lst ?_
  | refine ak_dK ?_
  | refine ak_dT ?_
  | refine ak_vw ?_
  | refine lk_dT ?_
  | refine lk_dK ?_
  | refine da_star ?_
  | refine de_lstRg1 ?_
  | refine de_lstRg2 ?_
  | refine de_revL ?_
  | refine de_count ?_
  | refine de_index ?_
  | refine di_enum ?_
  | refine dt_tru ?_
  | refine de_fld ?_
  | refine de_prop ?_
  | refine di_rng1 ?_
  | refine di_rng2 ?_
  | refine di_list ?_
  | refine di_tup ?_
  | refine di_seq ?_
  | refine di_zip ?_
  | refine de_split ?_
  | refine de_join ?_
  | refine de_fmt ?_
  | refine de_jnil ?_
  | refine de_jcons ?_
  | refine de_ixS ?_
  | refine de_orT ?_
  | refine di_str ?_
  | refine ops_eqS ?_
  | refine ops_neS ?_
  | refine de_indexD ?_
  | refine ops_int ?_
  | (refine ops_cat (by with_unfolding_all rfl) (by with_unfolding_all rfl) ?side ?_; (case side => walk_at "len"))
  | (refine ops_catA ?side ?_; (case side => walk_at "len"))
  | refine ops_eqI ?_
  | refine ops_neI ?_
  | refine ops_bool ?_
  | (refine ops_intC ?side ?_; (case side => walk_at "side"))
  | refine cb_lenL (by with_unfolding_all rfl) ?_
  | refine cb_lenT (by with_unfolding_all rfl) ?_
  | refine cb_lenK (by with_unfolding_all rfl) ?_
  | refine cb_max2 ?_
  | refine cb_min2 ?_
  | refine cb_int ?_
  | refine ⟨fun _ => ?_, fun z => Bool.noConfusion z⟩
  | refine ⟨fun z => Bool.noConfusion z, fun _ => ?_⟩
  | refine ⟨rfl, ?_⟩
  | refine ⟨_, rfl, ?_⟩
  | refine ⟨_, Or.inl (by with_unfolding_all rfl), ?_⟩
  | (with_unfolding_all refine ⟨_, true, rfl, rfl, (fun _ z => by cases z), rfl, ?_⟩)
  | (with_unfolding_all refine ⟨_, false, rfl, rfl, (fun _ z => by cases z), rfl, ?_⟩))
local macro_rules | `(tactic| walk_at "d") => `(tactic| repeat walk_at "d1")
local macro_rules | `(tactic| walk_at "wk") => `(tactic| repeat first | exact Wk.nil | refine Wk.keep ?_ | refine Wk.drop ?_)
section
variable {P : Program} {w : World} {K : PySem.W.Frag} {mg : Str → Option Value} {base : Heap} {f : Addr} {fd : FuncData}
def C_law_choose : Fc := fun _ W m ss Φ Ξ => ∃ n k : Nat, ss = [.dat (.int n), .dat (.int k)] ∧ n ≤ 1000 ∧ k ≤ 1000 ∧ Φ m (.dat (.int (KM.ch n k)))
abbrev s_law_choose : Stmt := (top 46)
abbrev N_law_choose : List Str := ["_law_many", "_law_few", "_law_found", "_law_k"]
theorem sc_law_choose : FnScope N_law_choose ["_law_many", "_law_few"] (defScope s_law_choose) := ⟨rfl, rfl, rfl, by decide +kernel, rfl, by decide +kernel, by decide +kernel⟩
theorem ok_law_choose (F : FnP K "_law_choose" s_law_choose f fd) (b : BI mg) : FnOk P w K mg base CX0 1 f fd ["_law_many", "_law_few"] (spF K C_law_choose) := by
  have hlen := spF_len (K := K) (C := C_law_choose) (m := 2) fun κ W m ss Φ Ξ ⟨n, k, e, _⟩ => by first | exact e | (rw [e]; rfl)
  refine F.ok sc_law_choose hlen ?_
  intro cdv A outer s H vs Q E hr h
  refine ⟨_, PSs.nox (pss_cons (ps_if (pt_cmpR op_gt (pv 1) (pv 0) (nomark _)) (pss_one (ps_ret pe_int)) pss_nil)
      (pss_cons (ps_set (i := 2) sc_law_choose.nd rfl (by first | exact Or.inl rfl | exact Or.inr rfl) pe_int)
      (pss_cons (ps_for PassesOwn.never rfl (pi_range1 rfl b.range (pa_cons (pv 1) pa_nil)) (pg_name (i := 3) sc_law_choose.nd rfl (by first | exact Or.inl rfl | exact Or.inr rfl))
      (pss_one (ps_set (i := 2) sc_law_choose.nd rfl (by first | exact Or.inl rfl | exact Or.inr rfl) (pe_op op_fdiv (pe_op op_mul (pv 2) (pe_op op_sub (pv 0) (pv 3))) (pe_op op_add (pv 3) pe_int)))))
      (pss_one (ps_ret (pv 2)))))), ?_⟩
  refine DL.run_fnP  [.no, .no] (Nm := N_law_choose) (n := 2) (k := 2) rfl (hlen _ _ _ _ h) rfl h fun κ W m ss Φ Ξ G hc => ?_
  try dsimp only [cxOf, Cx.nox, Cx.wish, Cx.blk]
  obtain ⟨n, k, rfl, hn, hk, hΦ⟩ := hc
  walk_at "d"
  by_cases hkn : n < k
  · rw [show decide ((n : Int) < k) = true by simp; omega]
    walk_at "d"
    rw [KM.ch_gt hkn] at hΦ
    exact hΦ
  · rw [show decide ((n : Int) < k) = false by simp; omega]
    walk_at "d"
    refine ds_forW (vs := [3]) ?_
    walk_at "d"
    refine ⟨by omega, by omega, fun i m' ρ => m' = m ∧ ρ = [.dat (.int n), .dat (.int k), .dat (.int (KM.ch n i)), .no], ⟨_, Wk.refl _, rfl, rfl, by rw [KM.ch_zero]; rfl⟩, ?_, ?_⟩
    · rintro i d m' ρ hd ⟨rfl, rfl⟩
      obtain ⟨hi, rfl⟩ := rng_at hd
      have hi2 : i < k := by omega
      refine ⟨_, dg_name (by simp), ?_⟩
      walk_at "d"
      have e := KM.ch_divI n i
      rw [Int.max_eq_right (by omega)] at e
      rw [Int.zero_add, e]
      exact ⟨_, by walk_at "wk", rfl, rfl, rfl⟩
    · rintro m' ρ ⟨rfl, rfl⟩
      walk_at "d"
      rw [rng_len]
      exact hΦ
theorem lawT_eq (L : List (List Nat)) (s : Nat) (i : Nat) {one : List Nat} (h : L[i]? = some one) : (stepT (L.take (i + 1)) s) = stepT (L.take i) s ++ (List.range (s + 1)).map fun n => one ++ [n] := by
  unfold stepT
  rw [List.take_add_one, h]
  simp
theorem adDr (k : List Nat) (n : Nat) : (rngD 0 ((n : Int) + 1).toNat).map (adD (tD k)) = ((List.range (n + 1)).map fun j => k ++ [j]).map tD := by
  unfold rngD
  rw [List.map_map, List.map_map]
  apply List.map_congr_left
  intro j _
  simp [adD, dN]
def C_law_tuples : Fc := fun _ W m ss Φ Ξ => ∃ sz, ss = [.dat (.lst (dN sz))] ∧ GSz sz ∧ Φ m (.dat (.lst ((TB sz).map tD)))
abbrev s_law_tuples : Stmt := (top 47)
abbrev N_law_tuples : List Str := ["_law_sizes", "_law_rows", "_law_size", "_law_longer", "_law_row", "_law_number"]
theorem sc_law_tuples : FnScope N_law_tuples ["_law_sizes"] (defScope s_law_tuples) := ⟨rfl, rfl, rfl, by decide +kernel, rfl, by decide +kernel, by decide +kernel⟩
theorem ok_law_tuples (F : FnP K "_law_tuples" s_law_tuples f fd) (b : BI mg) : FnOk P w K mg base CX0 1 f fd ["_law_sizes"] (spF K C_law_tuples) := by
  have hlen := spF_len (K := K) (C := C_law_tuples) (m := 1) fun κ W m ss Φ Ξ ⟨sz, e, _⟩ => by first | exact e | (rw [e]; rfl)
  refine F.ok sc_law_tuples hlen ?_
  intro cdv A outer s H vs Q E hr h
  refine ⟨_, PSs.nox (pss_cons (ps_set (i := 1) sc_law_tuples.nd rfl (by first | exact Or.inl rfl | exact Or.inr rfl) (pe_lst (pa_cons (pe_tup pa_nil) pa_nil)))
      (pss_cons (ps_for PassesOwn.never rfl (k_piL (K := K) rfl (pv 0)) (pg_name (i := 2) sc_law_tuples.nd rfl (by first | exact Or.inl rfl | exact Or.inr rfl))
      (pss_cons (ps_set (i := 3) sc_law_tuples.nd rfl (by first | exact Or.inl rfl | exact Or.inr rfl) (pe_lst pa_nil))
      (pss_cons (ps_for PassesOwn.never rfl (k_piL (K := K) rfl (pv 1)) (pg_name (i := 4) sc_law_tuples.nd rfl (by first | exact Or.inl rfl | exact Or.inr rfl))
      (pss_one (ps_set (i := 3) sc_law_tuples.nd rfl (by first | exact Or.inl rfl | exact Or.inr rfl) (pe_op op_cat (pv 3) (pe_lc (own := [("_law_number", 5)]) rfl sc_law_tuples.nd (pi_range1 rfl b.range (pa_cons (pe_op op_add (pv 2) pe_int) pa_nil)) (blkOk_by (own := [("_law_number", 5)]) (N := N_law_tuples) (sc := (defScope s_law_tuples)) (by decide +kernel)) (fun _ _ _ _ _ => (pg_name (i := 5) sc_law_tuples.nd rfl (by first | exact Or.inl rfl | exact Or.inr rfl))) (fun _ _ _ _ _ => pts_nil) (fun _ _ _ _ _ => (pe_op (k_catA (K := K) rfl) (pv 4) (pe_tup (pa_cons (pv 5) pa_nil)))))))))
      (pss_one (ps_set (i := 1) sc_law_tuples.nd rfl (by first | exact Or.inl rfl | exact Or.inr rfl) (pv 3))))))
      (pss_one (ps_ret (pv 1))))), ?_⟩
  refine DL.run_fnP  [.no, .no, .no, .no, .no] (Nm := N_law_tuples) (n := 1) (k := 5) rfl (hlen _ _ _ _ h) rfl h fun κ W m ss Φ Ξ G hc => ?_
  try dsimp only [cxOf, Cx.nox, Cx.wish, Cx.blk]
  obtain ⟨sz, rfl, ⟨_, hpos, hsum⟩, hΦ⟩ := hc
  have hle := len_le_sum hpos
  have hsz : ∀ n ∈ sz, n ≤ 10 := fun n hn => Nat.le_trans (mem_le_sum hn) hsum
  walk_at "d"
  refine ds_frz (i := 1) rfl (ds_forW (vs := [2]) ?_)
  walk_at "d"
  refine ⟨fun i m' ρ => m' = m ∧ ρ = [_, .dat (.lst ((TB (sz.take i)).map tD)), .no, .no, .no, .no], ⟨_, Wk.refl _, rfl, rfl, rfl⟩, ?_, ?_⟩
  · rintro i d m' ρ hd ⟨rfl, rfl⟩
    rw [dN_get] at hd
    cases hz : sz[i]? with
    | none => rw [hz] at hd; cases hd
    | some n =>
      rw [hz] at hd
      cases hd
      have hn := hsz n (List.mem_of_getElem? hz)
      have hT := TB_len (sz := sz.take i) (Nat.le_trans (sum_take_le _ _) hsum)
      refine ⟨_, dg_name (by simp), ?_⟩
      walk_at "d"
      refine ds_forW (vs := [4]) ?_
      walk_at "d"
      refine ⟨fun j m2 ρ => m2 = m' ∧ ρ = [_, .dat (.lst ((TB (sz.take i)).map tD)), .dat (.int (n : Nat)), .own (.lst ((stepT ((TB (sz.take i)).take j) n).map tD)), .no, .no], ⟨_, Wk.refl _, rfl, rfl, rfl⟩, ?_, ?_⟩
      · rintro j d m2 ρ hd ⟨rfl, rfl⟩
        rw [List.getElem?_map] at hd
        cases ho : (TB (sz.take i))[j]? with
        | none => rw [ho] at hd; cases hd
        | some one =>
          rw [ho] at hd
          cases hd
          have hl1 := (TB_mem.mp (List.mem_of_getElem? ho)).1
          have hl2 : (sz.take i).length ≤ sz.length := by rw [List.length_take]; omega
          have hjl := (List.getElem?_eq_some_iff.mp ho).1
          refine ⟨_, dg_name (by simp), ?_⟩
          walk_at "d"
          refine de_lcMap (f := adD (tD one)) ?_
          walk_at "d"
          refine ⟨by omega, by omega, ?_, fun e he => ⟨_, dg_name (by simp), ?_⟩, ?_⟩
          · rw [rng_len]; omega
          · obtain ⟨q, hq, rfl⟩ := List.mem_map.mp he
            walk_at "d"
            refine ops_catA ?_ ⟨rfl, rfl⟩
            simp [dN_len]
            omega
          · refine ops_cat rfl rfl ?_ ⟨rfl, ?_⟩
            · rw [List.length_map, stepT_len, List.length_take, List.length_map, rng_len]
              have : min j (TB (sz.take i)).length * (n + 1) ≤ 1024 * 11 := Nat.mul_le_mul (by omega) (by omega)
              omega
            · rw [adDr, ← List.map_append, ← lawT_eq _ _ _ ho]
              dsimp only [List.set_cons_zero, List.set_cons_succ]
              exact ⟨_, by walk_at "wk", rfl, rfl, rfl⟩
      · rintro m2 ρ ⟨rfl, rfl⟩
        rw [List.length_map, List.take_length]
        refine ds_frz (i := 3) rfl ?_
        walk_at "d"
        rw [← TB_succ hz]
        dsimp only [List.set_cons_zero, List.set_cons_succ, O.frz, O1.frz]
        exact ⟨_, by walk_at "wk", rfl, rfl, rfl⟩
  · rintro m' ρ ⟨rfl, rfl⟩
    walk_at "d"
    rw [dN_len, List.take_length]
    exact hΦ
def C_law_kinds : Fc := fun _ W m ss Φ Ξ => ∃ sz gs, ss = [.dat (.lst (dN sz)), .dat (.dic (gD gs))] ∧ Good sz gs ∧ Φ m (.own (.lst ((AK sz gs).map tD)))
theorem AK_succ (sz : List Nat) (l : List Nat) (i : Nat) {t : Nat} (h : l[i]? = some t) : ((l.take (i + 1)).flatMap fun t => (TB sz).filter fun k => decide (k.sum = t)) = ((l.take i).flatMap fun t => (TB sz).filter fun k => decide (k.sum = t)) ++ (TB sz).filter fun k => decide (k.sum = t) := by
  rw [List.take_add_one, h]
  simp
theorem filt_eq (sz : List Nat) (t : Nat) : (((TB sz).map tD).filter (tS (.int (t : Nat)))).map (fun e => e) = ((TB sz).filter fun k => decide (k.sum = t)).map tD := by
  rw [List.map_id', List.filter_map]
  congr 1
  apply List.filter_congr
  intro k _
  show tS (.int (t : Nat)) (tD k) = decide (k.sum = t)
  unfold tS
  rw [dsum_tD]
  simp
  omega
theorem flat_len (sz : List Nat) (h : sz.sum ≤ 10) (l : List Nat) : (l.flatMap fun t => (TB sz).filter fun k => decide (k.sum = t)).length ≤ l.length * 1024 := by
  induction l with
  | nil => simp
  | cons a l ih =>
    rw [List.flatMap_cons, List.length_append, List.length_cons, Nat.add_mul]
    have h1 := List.length_filter_le (fun k : List Nat => decide (k.sum = a)) (TB sz)
    have h2 := TB_len h
    omega
abbrev s_law_kinds : Stmt := (top 48)
abbrev N_law_kinds : List Str := ["_law_sizes", "_law_games", "_law_rows", "_law_team", "_law_row"]
theorem sc_law_kinds : FnScope N_law_kinds ["_law_sizes", "_law_games"] (defScope s_law_kinds) := ⟨rfl, rfl, rfl, by decide +kernel, rfl, by decide +kernel, by decide +kernel⟩
theorem ok_law_kinds (F : FnP K "_law_kinds" s_law_kinds f fd) (b : BI mg) (c_law_tuples : Cl P w K mg base CX0 1 "_law_tuples" ["_law_sizes"] C_law_tuples) : FnOk P w K mg base CX0 2 f fd ["_law_sizes", "_law_games"] (spF K C_law_kinds) := by
  have hlen := spF_len (K := K) (C := C_law_kinds) (m := 2) fun κ W m ss Φ Ξ ⟨sz, gs, e, _⟩ => by first | exact e | (rw [e]; rfl)
  refine F.ok sc_law_kinds hlen ?_
  intro cdv A outer s H vs Q E hr h
  refine ⟨_, PSs.nox (pss_cons (ps_set (i := 2) sc_law_kinds.nd rfl (by first | exact Or.inl rfl | exact Or.inr rfl) (pe_lst pa_nil))
      (pss_cons (ps_for PassesOwn.never rfl (k_piL (K := K) rfl (pe_callB (call_sortedDI rfl) rfl b.sorted boot_sorted (pa_cons (pv 1) pa_nil))) (pg_name (i := 3) sc_law_kinds.nd rfl (by first | exact Or.inl rfl | exact Or.inr rfl))
      (pss_one (ps_set (i := 2) sc_law_kinds.nd rfl (by first | exact Or.inl rfl | exact Or.inr rfl) (pe_op op_cat (pv 2) (pe_lc (own := [("_law_row", 4)]) rfl sc_law_kinds.nd (k_piL (K := K) rfl (k_cl0 c_law_tuples rfl hr (pa_cons (pv 0) pa_nil))) (blkOk_by (own := [("_law_row", 4)]) (N := N_law_kinds) (sc := (defScope s_law_kinds)) (by decide +kernel)) (fun _ _ _ _ _ => (pg_name (i := 4) sc_law_kinds.nd rfl (by first | exact Or.inl rfl | exact Or.inr rfl))) (fun _ _ _ _ _ => pts_one (pt_cmpR (k_eqD (K := K) rfl hr.units) (pe_callB (k_sum (K := K) rfl rfl) rfl b.sum boot_sum (pa_cons (pv 4) pa_nil)) (pv 3) (nomark _))) (fun _ _ _ _ _ => (pv 4)))))))
      (pss_one (ps_ret (pv 2))))), ?_⟩
  refine DL.run_fnP  [.no, .no, .no] (Nm := N_law_kinds) (n := 2) (k := 3) rfl (hlen _ _ _ _ h) rfl h fun κ W m ss Φ Ξ G hc => ?_
  try dsimp only [cxOf, Cx.nox, Cx.wish, Cx.blk]
  obtain ⟨sz, gs, rfl, hgd, hΦ⟩ := hc
  obtain ⟨hz, hg, ht⟩ := id hgd
  have l2 := hg.l2
  walk_at "d"
  refine ds_forW (vs := [3]) ?_
  walk_at "d"
  refine cb_sortedK (ks := gs.map fun p => (p.1 : Int)) rfl (gD_keys gs) (by simp; omega) ?_
  walk_at "d"
  rw [ks_int]
  refine ⟨fun i m' ρ => m' = m ∧ ρ = [_, _, .own (.lst ((((ks gs).take i).flatMap fun t => (TB sz).filter fun k => decide (k.sum = t)).map tD)), .no, .no], ⟨_, Wk.refl _, rfl, rfl, rfl⟩, ?_, ?_⟩
  · rintro i d m' ρ hd ⟨rfl, rfl⟩
    rw [List.map_map, List.getElem?_map] at hd
    cases ht2 : (ks gs)[i]? with
    | none => rw [ht2] at hd; cases hd
    | some t =>
      rw [ht2] at hd
      obtain rfl : D.int (t : Nat) = d := by simpa using hd
      refine ⟨_, dg_name (by simp), ?_⟩
      walk_at "d"
      refine de_lcIf (f := fun e => e) (t := tS (.int (t : Nat))) ?_
      walk_at "d"
      refine ⟨sz, rfl, hz, ?_⟩
      walk_at "d"
      have hT := TB_len hz.2.2
      rw [filt_eq]
      refine ⟨by simp; omega, fun e he => ⟨_, dg_name (by simp), ?_⟩, ?_⟩
      · obtain ⟨k, hk, rfl⟩ := List.mem_map.mp he
        walk_at "d"
        refine cb_sumN (sz := k) (.inr rfl) ?_
        walk_at "d"
        refine ⟨?_, fun _ => ?_⟩
        · unfold tS; rw [dsum_tD]
        · walk_at "d"
          rfl
      · refine ops_cat rfl rfl ?_ ⟨rfl, ?_⟩
        · have h1 := flat_len sz hz.2.2 ((ks gs).take i)
          have h2 := List.length_filter_le (fun k : List Nat => decide (k.sum = t)) (TB sz)
          have h3 : ((ks gs).take i).length ≤ 2 := by rw [List.length_take, ks_len]; omega
          rw [List.length_map, List.length_map]
          omega
        · rw [← List.map_append, ← AK_succ sz _ _ ht2]
          dsimp only [List.set_cons_zero, List.set_cons_succ]
          exact ⟨_, by walk_at "wk", rfl, rfl, rfl⟩
  · rintro m' ρ ⟨rfl, rfl⟩
    rw [List.length_map, List.length_map, List.take_length]
    exact ds_retVar rfl hΦ
theorem atN {l : List D} {i : Nat} {d : D} (h : l[i]? = some d) : atI l (i : Int) = some d := by
  have hi := (List.getElem?_eq_some_iff.mp h).1
  unfold atI ixN
  simp [hi]
  exact (List.getElem?_eq_some_iff.mp h).2
end
end Pf
set_option Elab.async false
set_option linter.all false
set_option maxRecDepth 100000
set_option maxHeartbeats 1000000
namespace Pf
open PySem PySem.Spec PyProof.Rows L2 DL
local macro_rules | `(tactic| walk_at "len") => `(tactic| with_unfolding_all first | exact Nat.le_of_ble_eq_true rfl | (simp; done) | (simp; omega))
local macro_rules | `(tactic| walk_at "side") => `(tactic| with_unfolding_all first | exact Or.inr ⟨by omega, by omega⟩ | exact Or.inl ⟨by omega, by omega⟩ | exact ⟨by omega, by omega⟩ | exact ⟨by omega, by omega, by omega⟩ | (show (0 : Int) < _; omega) | decide)
local macro_rules | `(tactic| walk_at "d1") => `(tactic| with_reducible first
  | (refine ds_seq ?_; try dsimp only [List.set_cons_zero, List.set_cons_succ, List.cons_append, List.nil_append, O.frz])
  | refine ds_asg ?_
  | refine ds_ret ?_
  | refine ds_retN ?_
  | refine ds_next ?_
  | refine ds_dropC ?_
  | refine ds_drop0 ?_
  | refine ds_dropB ?_
  | refine ds_if ?_
  | refine dt_test ?_
  | refine dt_B ?_
  | refine dt_not ?_
  | refine dt_and ?_
  | refine dt_or ?_
  | refine dt_yes ?_
  | refine de_int ?_
  | refine de_bl ?_
  | refine de_str ?_
  | refine de_non ?_
  | refine de_varD (by with_unfolding_all rfl) ?_
  | refine de_varO (by with_unfolding_all rfl) ?_
  | refine de_varA (by with_unfolding_all rfl) ?_
  | refine de_varV (by with_unfolding_all rfl) ?_
  | refine de_isi ?_
  | refine de_dget ?_
  | refine de_dget2 ?_
  | refine de_dnotin ?_
  | refine de_din ?_
  | refine de_dnew ?_
  | refine de_dnewT ?_
  | refine de_cb ?_
  | refine de_call0G ?_
  | refine de_callG ?_
  | refine de_andB ?_
  | refine de_orB ?_
  | refine de_notV ?_
  | refine de_ifE ?_
  | refine de_chain ?_
  | refine de_op ?_
  | refine de_neg ?_
  | refine de_tupG ?_
  | refine de_lstG ?_
  | refine de_slL ?_
  | refine de_slT ?_
  | refine do_none ?_
  | refine do_some ?_
  | refine daf_cons ?_
  | refine daf_nil ?_
  | refine daf_star ?_
  | refine da_cons ?_
  | refine da_nil ?_
  | refine lk_dat ?_
  | refine lk_nil ?_
  | refine ak_dat ?_
  | refine ak_nil ?_
  | refine ak_at ?_
  | refine ak_lst ?_
  | refine lk_lst ?_
  | refine ak_dK ?_
  | refine ak_dT ?_
  | refine ak_vw ?_
  | refine lk_dT ?_
  | refine lk_dK ?_
  | refine da_star ?_
  | refine de_lstRg1 ?_
  | refine de_lstRg2 ?_
  | refine de_revL ?_
  | refine de_count ?_
  | refine de_index ?_
  | refine di_enum ?_
  | refine dt_tru ?_
  | refine de_fld ?_
  | refine de_prop ?_
  | refine di_rng1 ?_
  | refine di_rng2 ?_
  | refine di_list ?_
  | refine di_tup ?_
  | refine di_seq ?_
  | refine di_zip ?_
  | refine de_split ?_
  | refine de_join ?_
  | refine de_fmt ?_
  | refine de_jnil ?_
  | refine de_jcons ?_
  | refine de_ixS ?_
  | refine de_orT ?_
  | refine di_str ?_
  | refine ops_eqS ?_
  | refine ops_neS ?_
  | refine de_indexD ?_
  | refine ops_int ?_
  | (refine ops_cat (by with_unfolding_all rfl) (by with_unfolding_all rfl) ?side ?_; (case side => walk_at "len"))
  | (refine ops_catA ?side ?_; (case side => walk_at "len"))
  | refine ops_eqI ?_
  | refine ops_neI ?_
  | refine ops_bool ?_
  | (refine ops_intC ?side ?_; (case side => walk_at "side"))
  | refine cb_lenL (by with_unfolding_all rfl) ?_
  | refine cb_lenT (by with_unfolding_all rfl) ?_
  | refine cb_lenK (by with_unfolding_all rfl) ?_
  | refine cb_max2 ?_
  | refine cb_min2 ?_
  | refine cb_int ?_
  | refine ⟨fun _ => ?_, fun z => Bool.noConfusion z⟩
  | refine ⟨fun z => Bool.noConfusion z, fun _ => ?_⟩
  | refine ⟨rfl, ?_⟩
  | refine ⟨_, rfl, ?_⟩
  | refine ⟨_, Or.inl (by with_unfolding_all rfl), ?_⟩
  | (with_unfolding_all refine ⟨_, true, rfl, rfl, (fun _ z => by cases z), rfl, ?_⟩)
  | (with_unfolding_all refine ⟨_, false, rfl, rfl, (fun _ z => by cases z), rfl, ?_⟩))
local macro_rules | `(tactic| walk_at "d") => `(tactic| repeat walk_at "d1")
local macro_rules | `(tactic| walk_at "wk") => `(tactic| repeat first | exact Wk.nil | refine Wk.keep ?_ | refine Wk.drop ?_)
section
variable {P : Program} {w : World} {K : PySem.W.Frag} {mg : Str → Option Value} {base : Heap} {f : Addr} {fd : FuncData}
def C_law_source : Fc := fun _ W m ss Φ Ξ => ∃ n : Int, ss = [.dat (.int n)] ∧ Φ m (.own (.lst [.int n, .int n, .int 0]))
abbrev s_law_source : Stmt := (top 44)
abbrev N_law_source : List Str := ["_law_cell_here"]
theorem sc_law_source : FnScope N_law_source ["_law_cell_here"] (defScope s_law_source) := ⟨rfl, rfl, rfl, by decide +kernel, rfl, by decide +kernel, by decide +kernel⟩
theorem ok_law_source (F : FnP K "_law_source" s_law_source f fd) (b : BI mg) : FnOk P w K mg base CX0 1 f fd ["_law_cell_here"] (spF K C_law_source) := by
  have hlen := spF_len (K := K) (C := C_law_source) (m := 1) fun κ W m ss Φ Ξ ⟨n, e, _⟩ => by first | exact e | (rw [e]; rfl)
  refine F.ok sc_law_source hlen ?_
  intro cdv A outer s H vs Q E hr h
  refine ⟨_, PSs.nox (pss_one (ps_ret (pe_lst (pa_cons (pv 0) (pa_cons (pv 0) (pa_cons pe_int pa_nil)))))), ?_⟩
  refine DL.run_fnP  [] (Nm := N_law_source) (n := 1) (k := 0) rfl (hlen _ _ _ _ h) rfl h fun κ W m ss Φ Ξ G hc => ?_
  try dsimp only [cxOf, Cx.nox, Cx.wish, Cx.blk]
  obtain ⟨n, rfl, hΦ⟩ := hc
  walk_at "d"
  exact hΦ
def C_law_draw : Fc := fun _ W m ss Φ Ξ => ∃ (p : Addr) (L : Src W p) (k : Nat), ss = [.at_ p, .dat (.int (k : Nat))] ∧ 0 < k ∧ k < 1000000 ∧ 0 < L.left m ∧ ∀ d : Nat, d < k → Φ (L.dec m) (.dat (.int (d : Nat)))
abbrev s_law_draw : Stmt := (top 45)
abbrev N_law_draw : List Str := ["_law_source_here", "_law_limit", "_law_seed", "_law_mixed", "_law_digit"]
theorem sc_law_draw : FnScope N_law_draw ["_law_source_here", "_law_limit"] (defScope s_law_draw) := ⟨rfl, rfl, rfl, by decide +kernel, rfl, by decide +kernel, by decide +kernel⟩
theorem ok_law_draw (F : FnP K "_law_draw" s_law_draw f fd) (b : BI mg) : FnOk P w K mg base CX0 1 f fd ["_law_source_here", "_law_limit"] (spF K C_law_draw) := by
  have hlen := spF_len (K := K) (C := C_law_draw) (m := 2) fun κ W m ss Φ Ξ ⟨p, L, k, e, _⟩ => by first | exact e | (rw [e]; rfl)
  refine F.ok sc_law_draw hlen ?_
  intro cdv A outer s H vs Q E hr h
  refine ⟨_, PSs.nox (pss_cons (ps_asg (pe_op op_add (pe_ix (k_ixL (K := K) rfl) (pv 0) pe_int (fun _ _ => rfl)) pe_int) (pg_sub (pv 0) pe_int set_list))
      (pss_cons (ps_if (pt_cmpR op_ge (pe_ix (k_ixL (K := K) rfl) (pv 0) pe_int (fun _ _ => rfl)) (pe_op op_pow pe_int pe_int) (nomark _)) (pss_cons (ps_set (i := 4) sc_law_draw.nd rfl (by first | exact Or.inl rfl | exact Or.inr rfl) (pe_op op_mod (pe_callTy call_int1 rfl b.int_ boot_int (pa_cons (pe_ix (k_ixL (K := K) rfl) (pv 0) pe_int (fun _ _ => rfl)) pa_nil)) (pv 1)))
      (pss_cons (ps_asg (pe_op op_fdiv (pe_ix (k_ixL (K := K) rfl) (pv 0) pe_int (fun _ _ => rfl)) (pv 1)) (pg_sub (pv 0) pe_int set_list))
      (pss_one (ps_ret (pv 4))))) pss_nil)
      (pss_cons (ps_set (i := 2) sc_law_draw.nd rfl (by first | exact Or.inl rfl | exact Or.inr rfl) (pe_op op_mod (pe_callTy call_int1 rfl b.int_ boot_int (pa_cons (pe_ix (k_ixL (K := K) rfl) (pv 0) pe_int (fun _ _ => rfl)) pa_nil)) pe_int))
      (pss_cons (ps_set (i := 3) sc_law_draw.nd rfl (by first | exact Or.inl rfl | exact Or.inr rfl) (pe_op op_mod (pe_callTy call_int1 rfl b.int_ boot_int (pa_cons (pe_op op_pow (pe_callTy call_int1 rfl b.int_ boot_int (pa_cons (pe_op op_add (pe_op op_add (pe_op op_mul (pv 2) pe_int) (pe_op op_mul (pe_ix (k_ixL (K := K) rfl) (pv 0) pe_int (fun _ _ => rfl)) pe_int)) pe_int) pa_nil)) pe_int) pa_nil)) pe_int))
      (pss_cons (ps_set (i := 3) sc_law_draw.nd rfl (by first | exact Or.inl rfl | exact Or.inr rfl) (pe_op op_mod (pe_callTy call_int1 rfl b.int_ boot_int (pa_cons (pe_op op_pow (pe_callTy call_int1 rfl b.int_ boot_int (pa_cons (pe_op op_add (pv 3) (pe_op op_mul (pe_op op_mul (pe_ix (k_ixL (K := K) rfl) (pv 0) pe_int (fun _ _ => rfl)) (pe_ix (k_ixL (K := K) rfl) (pv 0) pe_int (fun _ _ => rfl))) pe_int)) pa_nil)) pe_int) pa_nil)) pe_int))
      (pss_one (ps_ret (pe_op op_mod (pe_op op_fdiv (pv 3) pe_int) (pv 1))))))))), ?_⟩
  obtain ⟨κ, W, m, G, ss, Φ, Ξ, ok, rs, ha, ⟨p, L, k, rfl, hk, hk2, hl, hΦ⟩, hq, he⟩ := h
  obtain ⟨v1, v2, rfl, r1, r2⟩ := relss2 rs
  obtain rfl : v1 = .ref p := r1
  cases r2
  obtain ⟨a, b', n, hp, h0, hn⟩ := L.out _ _ _ ok.inv
  have fin : ∀ (H' : Hp) (d a2 b2 : Int), 0 ≤ d → d < k → (∀ x, x ≠ p → H' x = H x) → H' p = some (.lst [.int a2, .int b2, .int (n + 1)]) → Q (.int d) H' := fun H' d a2 b2 d0 d1 ne hp' => by
    obtain ⟨dn, rfl⟩ : ∃ dn : Nat, d = dn := ⟨d.toNat, by omega⟩
    exact hq _ (.dat (.int dn)) (L.dec m) G H' (src_grow L ok hl hp ⟨h0, hn⟩ ne hp') (Rp.int _) (hΦ dn (by omega))
  dsimp only [tSeq, tAsg, tOp, tC, gSub, tIfS, tTest, tCB, tCons, tNil, gName, tRet, tNext]
  refine h_var rfl ?_
  refine h_ix hp rfl ?_
  refine h_i0 ?_
  refine h_var rfl ?_
  refine h_set (j := 2) hp rfl ?_
  have hp1 : upd H p (.lst [.int a, .int b', .int (n + 1)]) p = some (.lst [.int a, .int b', .int (n + 1)]) := upd_same
  have ne1 : ∀ x, x ≠ p → upd H p (.lst [.int a, .int b', .int (n + 1)]) x = H x := fun x hx => upd_ne hx
  generalize hH1 : upd H p (.lst [.int a, .int b', .int (n + 1)]) = H1 at hp1 ne1
  have hH1' : upd H p (.lst (List.set [V.int a, V.int b', V.int n] 2 (V.int (n + 1)))) = H1 := hH1
  rw [hH1']
  refine h_var rfl ?_
  refine h_ix hp1 rfl ?_
  refine h_i ⟨by decide, by decide, by decide⟩ ?_
  refine h_i0 ?_
  refine ⟨_, rfl, ?_⟩
  by_cases ha : a ≥ 10 ^ 18
  · rw [if_pos (by simpa using ha)]
    refine h_var rfl ?_
    refine h_ix hp1 rfl ?_
    refine .inl ⟨_, rfl, ?_⟩
    refine h_var rfl ?_
    refine h_i (by show (0 : Int) < _; omega) ?_
    refine h_var rfl ?_
    refine h_ix hp1 rfl ?_
    refine h_var rfl ?_
    refine h_i ⟨by omega, by omega⟩ ?_
    refine h_var rfl ?_
    refine h_set (j := 1) hp1 rfl ?_
    refine h_var rfl ?_
    exact fin _ _ a (b' / k) (Int.emod_nonneg _ (by omega)) (Int.emod_lt_of_pos _ (by omega)) (fun x hx => (upd_ne hx).trans (ne1 x hx)) upd_same
  · rw [if_neg (by simpa using ha)]
    have hs0 := Int.emod_nonneg a (show (2147480291 : Int) ≠ 0 by decide)
    have hs1 := Int.emod_lt_of_pos a (show (0 : Int) < 2147480291 by decide)
    refine h_var rfl ?_
    refine h_ix hp1 rfl ?_
    refine .inl ⟨_, rfl, ?_⟩
    refine h_i (by show (0 : Int) < _; decide) ?_
    generalize hseed : a % 2147480291 = seed at hs0 hs1
    refine h_var rfl ?_
    refine h_i (Or.inr ⟨by decide, by decide⟩) ?_
    refine h_var rfl ?_
    refine h_ix hp1 rfl ?_
    refine h_i (Or.inr ⟨by decide, by decide⟩) ?_
    refine h_i0 ?_
    refine h_i0 ?_
    refine .inl ⟨_, rfl, ?_⟩
    refine h_i ⟨by decide, by decide, by omega⟩ ?_
    refine .inl ⟨_, rfl, ?_⟩
    refine h_i (by show (0 : Int) < _; decide) ?_
    have hm0 : ∀ y : Int, 0 ≤ y % 2147483647 := fun y => Int.emod_nonneg y (by decide)
    have hm1 : ∀ y : Int, y % 2147483647 < 2147483647 := fun y => Int.emod_lt_of_pos y (by decide)
    generalize hmix : ((seed * 7919 + (n + 1) * 104053 + 12011) ^ (5 : Int).toNat) % 2147483647 = mix
    have hx0 : 0 ≤ mix := by rw [← hmix]; exact hm0 _
    have hx1 : mix < 2147483647 := by rw [← hmix]; exact hm1 _
    have hnn : 0 ≤ (n + 1) * (n + 1) ∧ (n + 1) * (n + 1) ≤ 1048576 * 1048576 := ⟨Int.mul_nonneg (by omega) (by omega), Int.mul_le_mul (by omega) (by omega) (by omega) (by decide)⟩
    refine h_var rfl ?_
    refine h_var rfl ?_
    refine h_ix hp1 rfl ?_
    refine h_var rfl ?_
    refine h_ix hp1 rfl ?_
    refine h_i (Or.inr ⟨by omega, by omega⟩) ?_
    refine h_i (Or.inr ⟨by decide, by decide⟩) ?_
    refine h_i0 ?_
    refine .inl ⟨_, rfl, ?_⟩
    refine h_i ⟨by decide, by decide, by omega⟩ ?_
    refine .inl ⟨_, rfl, ?_⟩
    refine h_i (by show (0 : Int) < _; decide) ?_
    refine h_var rfl ?_
    refine h_i ⟨by decide, by decide⟩ ?_
    refine h_var rfl ?_
    refine h_i (by show (0 : Int) < _; omega) ?_
    exact fin _ _ a b' (Int.emod_nonneg _ (by omega)) (Int.emod_lt_of_pos _ (by omega)) ne1 hp1
end
end Pf
set_option Elab.async false
set_option linter.all false
set_option maxRecDepth 100000
set_option maxHeartbeats 1000000
namespace Pf
open PySem PySem.Spec PyProof.Rows L2 DL
local macro_rules | `(tactic| walk_at "len") => `(tactic| with_unfolding_all first | exact Nat.le_of_ble_eq_true rfl | (simp; done) | (simp; omega))
local macro_rules | `(tactic| walk_at "side") => `(tactic| with_unfolding_all first | exact Or.inr ⟨by omega, by omega⟩ | exact Or.inl ⟨by omega, by omega⟩ | exact ⟨by omega, by omega⟩ | exact ⟨by omega, by omega, by omega⟩ | (show (0 : Int) < _; omega) | decide)
local macro_rules | `(tactic| walk_at "d1") => `(tactic| with_reducible first
  | (refine ds_seq ?_; try dsimp only [List.set_cons_zero, List.set_cons_succ, List.cons_append, List.nil_append, O.frz])
  | refine ds_asg ?_
  | refine ds_ret ?_
  | refine ds_retN ?_
  | refine ds_next ?_
  | refine ds_dropC ?_
  | refine ds_drop0 ?_
  | refine ds_dropB ?_
  | refine ds_if ?_
  | refine dt_test ?_
  | refine dt_B ?_
  | refine dt_not ?_
  | refine dt_and ?_
  | refine dt_or ?_
  | refine dt_yes ?_
  | refine de_int ?_
  | refine de_bl ?_
  | refine de_str ?_
  | refine de_non ?_
  | refine de_varD (by with_unfolding_all rfl) ?_
  | refine de_varO (by with_unfolding_all rfl) ?_
  | refine de_varA (by with_unfolding_all rfl) ?_
  | refine de_varV (by with_unfolding_all rfl) ?_
  | refine de_isi ?_
  | refine de_dget ?_
  | refine de_dget2 ?_
  | refine de_dnotin ?_
  | refine de_din ?_
  | refine de_dnew ?_
  | refine de_dnewT ?_
  | refine de_cb ?_
  | refine de_call0G ?_
  | refine de_callG ?_
  | refine de_andB ?_
  | refine de_orB ?_
  | refine de_notV ?_
  | refine de_ifE ?_
  | refine de_chain ?_
  | refine de_op ?_
  | refine de_neg ?_
  | refine de_tupG ?_
  | refine de_lstG ?_
  | refine de_slL ?_
  | refine de_slT ?_
  | refine do_none ?_
  | refine do_some ?_
  | refine daf_cons ?_
  | refine daf_nil ?_
  | refine daf_star ?_
  | refine da_cons ?_
  | refine da_nil ?_
  | refine lk_dat ?_
  | refine lk_nil ?_
  | refine ak_dat ?_
  | refine ak_nil ?_
  | refine ak_at ?_
  | refine ak_lst ?_
  | refine lk_lst ?_
  | refine ak_dK ?_
  | refine ak_dT ?_
  | refine ak_vw ?_
  | refine lk_dT ?_
  | refine lk_dK ?_
  | refine da_star ?_
  | refine de_lstRg1 ?_
  | refine de_lstRg2 ?_
  | refine de_revL ?_
  | refine de_count ?_
  | refine de_index ?_
  | refine di_enum ?_
  | refine dt_tru ?_
  | refine de_fld ?_
  | refine de_prop ?_
  | refine di_rng1 ?_
  | refine di_rng2 ?_
  | refine di_list ?_
  | refine di_tup ?_
  | refine di_seq ?_
  | refine di_zip ?_
  | refine de_split ?_
  | refine de_join ?_
  | refine de_fmt ?_
  | refine de_jnil ?_
  | refine de_jcons ?_
  | refine de_ixS ?_
  | refine de_orT ?_
  | refine di_str ?_
  | refine ops_eqS ?_
  | refine ops_neS ?_
  | refine de_indexD ?_
  | refine ops_int ?_
  | (refine ops_cat (by with_unfolding_all rfl) (by with_unfolding_all rfl) ?side ?_; (case side => walk_at "len"))
  | (refine ops_catA ?side ?_; (case side => walk_at "len"))
  | refine ops_eqI ?_
  | refine ops_neI ?_
  | refine ops_bool ?_
  | (refine ops_intC ?side ?_; (case side => walk_at "side"))
  | refine cb_lenL (by with_unfolding_all rfl) ?_
  | refine cb_lenT (by with_unfolding_all rfl) ?_
  | refine cb_lenK (by with_unfolding_all rfl) ?_
  | refine cb_max2 ?_
  | refine cb_min2 ?_
  | refine cb_int ?_
  | refine ⟨fun _ => ?_, fun z => Bool.noConfusion z⟩
  | refine ⟨fun z => Bool.noConfusion z, fun _ => ?_⟩
  | refine ⟨rfl, ?_⟩
  | refine ⟨_, rfl, ?_⟩
  | refine ⟨_, Or.inl (by with_unfolding_all rfl), ?_⟩
  | (with_unfolding_all refine ⟨_, true, rfl, rfl, (fun _ z => by cases z), rfl, ?_⟩)
  | (with_unfolding_all refine ⟨_, false, rfl, rfl, (fun _ z => by cases z), rfl, ?_⟩))
local macro_rules | `(tactic| walk_at "d") => `(tactic| repeat walk_at "d1")
local macro_rules | `(tactic| walk_at "wk") => `(tactic| repeat first | exact Wk.nil | refine Wk.keep ?_ | refine Wk.drop ?_)
section
variable {P : Program} {w : World} {K : PySem.W.Frag} {mg : Str → Option Value} {base : Heap} {f : Addr} {fd : FuncData}
theorem putD_n6 {ks : List (Nat × Nat)} {k v : Nat} (h : k ∉ ks.map (·.1)) : putD (gD ks) (Sum.inl (k : Int)) (.int (v : Nat)) = gD (ks ++ [(k, v)]) := by
  unfold putD
  rw [if_neg]
  · simp [gD]
  · rw [List.any_eq_true]
    rintro ⟨p, hp, e⟩
    obtain ⟨a, b, hab, rfl⟩ := gD_mem hp
    simp at e
    have : a = k := by omega
    exact h (by rw [← this]; exact List.mem_map.mpr ⟨_, hab, rfl⟩)
/-- games put in -/
def gput (gs : List (Nat × Nat)) (k v : Nat) : List (Nat × Nat) := if k ∈ gs.map (·.1) then gs.map fun p => if p.1 = k then (p.1, v) else p else gs ++ [(k, v)]
theorem gput_D (gs : List (Nat × Nat)) (k v : Nat) : putD (gD gs) (Sum.inl (k : Int)) (.int (v : Nat)) = gD (gput gs k v) := by
  by_cases h : k ∈ gs.map (·.1)
  · unfold putD gput
    rw [if_pos h, if_pos]
    · unfold gD
      rw [List.map_map, List.map_map]
      apply List.map_congr_left
      rintro ⟨a, b⟩ _
      by_cases e : a = k
      · subst e; simp
      · have : ¬ ((a : Int) = k) := by omega
        simp [e, this]
    · rw [List.any_eq_true]
      obtain ⟨⟨a, b⟩, h1, rfl⟩ := List.mem_map.mp h
      exact ⟨(Sum.inl (a : Int), .int (b : Nat)), List.mem_map.mpr ⟨_, h1, rfl⟩, by simp⟩
  · rw [putD_n6 h]; unfold gput; rw [if_neg h]
theorem gput_keys (gs : List (Nat × Nat)) (k v : Nat) : (gput gs k v).map (·.1) = if k ∈ gs.map (·.1) then gs.map (·.1) else gs.map (·.1) ++ [k] := by
  unfold gput
  split
  · rw [List.map_map]
    apply List.map_congr_left
    rintro ⟨a, b⟩ _
    show (if a = k then (a, v) else (a, b)).1 = a
    split <;> rfl
  · simp
theorem gput_mem {gs : List (Nat × Nat)} {k v t u : Nat} (h : (t, u) ∈ gput gs k v) : (t = k ∧ u = v) ∨ (t, u) ∈ gs := by
  unfold gput at h
  split at h
  · obtain ⟨⟨a, b⟩, h1, e⟩ := List.mem_map.mp h
    have e : (if a = k then (a, v) else (a, b)) = (t, u) := e
    split at e
    · cases e; left; exact ⟨by assumption, rfl⟩
    · cases e; right; exact h1
  · rcases List.mem_append.mp h with h | h
    · exact .inr h
    · simp at h; exact .inl h
theorem gput_len (gs : List (Nat × Nat)) (k v : Nat) : 1 ≤ (gput gs k v).length ∧ (gput gs k v).length ≤ gs.length + 1 := by
  have e := congrArg List.length (gput_keys gs k v)
  simp only [List.length_map] at e
  rw [e]
  split
  · rename_i h
    have : gs ≠ [] := fun z => by rw [z] at h; cases h
    have := List.length_pos_iff.mpr this
    rw [List.length_map]; omega
  · simp
theorem gput_nd {gs : List (Nat × Nat)} (nd : (gs.map (·.1)).Nodup) (k v : Nat) : ((gput gs k v).map (·.1)).Nodup := by
  rw [gput_keys]
  split
  · exact nd
  · rename_i h
    rw [List.nodup_append]
    exact ⟨nd, by simp, by intro a ha b hb z; simp at hb; subst hb; subst z; exact h ha⟩
theorem at3 {a b c : Nat} {i : Nat} (h : i < 3) : ∃ r : Nat, atI [D.int (a : Nat), D.int (b : Nat), D.int (c : Nat)] (i : Int) = some (.int (r : Nat)) ∧ (r = a ∨ r = b ∨ r = c) := by
  match i, h with
  | 0, _ => exact ⟨a, atN rfl, .inl rfl⟩
  | 1, _ => exact ⟨b, atN rfl, .inr (.inl rfl)⟩
  | 2, _ => exact ⟨c, atN rfl, .inr (.inr rfl)⟩
theorem ch_small8 : ∀ (n : Fin 10) (t : Fin 5), KM.ch n.1 t.1 ≤ 130 := by decide +kernel
def C_law_setting : Fc := fun _ W m ss Φ Ξ => ∃ (p : Addr) (L : Src W p), ss = [.at_ p] ∧ 20 ≤ L.left m ∧ (∀ a, ¬ W.L a) ∧ ∀ sz gs m', Good sz gs → sz.sum ≤ 9 → L.left m ≤ L.left m' + 20 → Φ m' (.dat (.tup [.lst (dN sz), .dic (gD gs)]))
abbrev s_law_setting : Stmt := (top 50)
abbrev N_law_setting : List Str := ["_law_source_here", "_law_way", "_law_sizes", "_law_k", "_law_games", "_law_size", "_law_team"]
theorem sc_law_setting : FnScope N_law_setting ["_law_source_here"] (defScope s_law_setting) := ⟨rfl, rfl, rfl, by decide +kernel, rfl, by decide +kernel, by decide +kernel⟩
theorem ok_law_setting (F : FnP K "_law_setting" s_law_setting f fd) (b : BI mg) (c_law_draw : Cl P w K mg base CX0 1 "_law_draw" ["_law_source_here", "_law_limit"] C_law_draw) (c_law_choose : Cl P w K mg base CX0 1 "_law_choose" ["_law_many", "_law_few"] C_law_choose) : FnOk P w K mg base CX0 2 f fd ["_law_source_here"] (spF K C_law_setting) := by
  have hlen := spF_len (K := K) (C := C_law_setting) (m := 1) fun κ W m ss Φ Ξ ⟨p, L, e, _⟩ => by first | exact e | (rw [e]; rfl)
  refine F.ok sc_law_setting hlen ?_
  intro cdv A outer s H vs Q E hr h
  refine ⟨_, PSs.nox (pss_cons (ps_set (i := 1) sc_law_setting.nd rfl (by first | exact Or.inl rfl | exact Or.inr rfl) (k_cl0 c_law_draw rfl hr (pa_cons (pv 0) (pa_cons pe_int pa_nil))))
      (pss_cons (ps_set (i := 2) sc_law_setting.nd rfl (by first | exact Or.inl rfl | exact Or.inr rfl) (pe_lst (pa_cons (pe_op op_add pe_int (k_cl0 c_law_draw rfl hr (pa_cons (pv 0) (pa_cons (pe_ix (k_ixL (K := K) rfl) (pe_lst (pa_cons pe_int (pa_cons pe_int (pa_cons pe_int pa_nil)))) (pv 1) (fun _ _ => rfl)) pa_nil)))) pa_nil)))
      (pss_cons (ps_for PassesOwn.never rfl (pi_range1 rfl b.range (pa_cons (k_cl0 c_law_draw rfl hr (pa_cons (pv 0) (pa_cons (pe_ix (k_ixL (K := K) rfl) (pe_lst (pa_cons pe_int (pa_cons pe_int (pa_cons pe_int pa_nil)))) (pv 1) (fun _ _ => rfl)) pa_nil))) pa_nil)) (pg_name (i := 3) sc_law_setting.nd rfl (by first | exact Or.inl rfl | exact Or.inr rfl))
      (pss_cons (ps_set (i := 5) sc_law_setting.nd rfl (by first | exact Or.inl rfl | exact Or.inr rfl) (pe_op op_add pe_int (k_cl0 c_law_draw rfl hr (pa_cons (pv 0) (pa_cons (pe_ix (k_ixL (K := K) rfl) (pe_lst (pa_cons pe_int (pa_cons pe_int (pa_cons pe_int pa_nil)))) (pv 1) (fun _ _ => rfl)) pa_nil)))))
      (pss_one (ps_if (pt_cmpR op_le (pe_op op_add (pe_callB (k_sum (K := K) rfl rfl) rfl b.sum boot_sum (pa_cons (pv 2) pa_nil)) (pv 5)) pe_int (nomark _)) (pss_one (ps_expr (k_app (K := K) rfl (pv 2) (pa_cons (pv 5) pa_nil)))) pss_nil))))
      (pss_cons (ps_set (i := 4) sc_law_setting.nd rfl (by first | exact Or.inl rfl | exact Or.inr rfl) pe_dnewK)
      (pss_cons (ps_for PassesOwn.never rfl (pi_range1 rfl b.range (pa_cons (pe_op op_add pe_int (k_cl0 c_law_draw rfl hr (pa_cons (pv 0) (pa_cons pe_int pa_nil)))) pa_nil)) (pg_name (i := 3) sc_law_setting.nd rfl (by first | exact Or.inl rfl | exact Or.inr rfl))
      (pss_one (ps_dput (hu_of hr) (pv 4) (pe_op op_add pe_int (k_cl0 c_law_draw rfl hr (pa_cons (pv 0) (pa_cons (pe_callB (call_min2 rfl) rfl b.min boot_min (pa_cons pe_int (pa_cons (pe_callB (k_sum (K := K) rfl rfl) rfl b.sum boot_sum (pa_cons (pv 2) pa_nil)) pa_nil))) pa_nil)))) (pe_op op_add pe_int (k_cl0 c_law_draw rfl hr (pa_cons (pv 0) (pa_cons pe_int pa_nil)))) rfl)))
      (pss_cons (ps_if (pt_cmpR op_gt (pe_callB (k_sum (K := K) rfl rfl) rfl b.sum boot_sum (pa_cons (pe_lock (pe_lc (own := [("_law_team", 6)]) rfl sc_law_setting.nd (pi_keys (pv 4)) (blkOk_by (own := [("_law_team", 6)]) (N := N_law_setting) (sc := (defScope s_law_setting)) (by decide +kernel)) (fun _ _ _ _ _ => (pg_name (i := 6) sc_law_setting.nd rfl (by first | exact Or.inl rfl | exact Or.inr rfl))) (fun _ _ _ _ _ => pts_nil) (fun _ _ _ _ _ => (pe_op op_mul (pe_dget (hu_of hr) (pv 4) (pv 6) (fun _ _ => rfl)) (k_cl0 c_law_choose rfl hr (pa_cons (pe_callB (k_sum (K := K) rfl rfl) rfl b.sum boot_sum (pa_cons (pv 2) pa_nil)) (pa_cons (pv 6) pa_nil))))))) pa_nil)) pe_int (nomark _)) (pss_one (ps_set (i := 4) sc_law_setting.nd rfl (by first | exact Or.inl rfl | exact Or.inr rfl) (pe_disp (pps_cons (pe_callB (cr_minK rfl) rfl b.min boot_min (pa_cons (pv 4) pa_nil)) pe_int pps_nil) rfl rfl (fun z => by cases z) (by decide)))) pss_nil)
      (pss_one (ps_ret (pe_tup (pa_cons (pv 2) (pa_cons (pv 4) pa_nil))))))))))), ?_⟩
  refine DL.run_fnP  [.no, .no, .no, .no, .no, .no] (Nm := N_law_setting) (n := 1) (k := 6) rfl (hlen _ _ _ _ h) rfl h fun κ W m ss Φ Ξ G hc => ?_
  try dsimp only [cxOf, Cx.nox, Cx.wish, Cx.blk]
  obtain ⟨p, L, rfl, hl, hL, hΦ⟩ := hc
  walk_at "d"
  refine ⟨p, L, 3, rfl, by decide, by decide, by omega, fun way hway => ?_⟩
  have l1 := L.less m (by omega)
  generalize L.dec m = ma at *
  walk_at "d"
  obtain ⟨r, hr1, hr2⟩ := at3 (a := 3) (b := 1) (c := 9) hway
  refine ops_ixL rfl hr1 ?_
  walk_at "d"
  refine ⟨p, L, r, rfl, by omega, by omega, by omega, fun d0 hd0 => ?_⟩
  have l2 := L.less ma (by omega)
  generalize L.dec ma = mb at *
  walk_at "d"
  rw [show (1 : Int) + (d0 : Nat) = ((1 + d0 : Nat) : Int) by omega]
  refine ds_forW (vs := [3]) ?_
  walk_at "d"
  obtain ⟨r2, hr3, hr4⟩ := at3 (a := 4) (b := 10) (c := 3) hway
  refine ops_ixL rfl hr3 ?_
  walk_at "d"
  refine ⟨p, L, r2, rfl, by omega, by omega, by omega, fun d1 hd1 => ?_⟩
  have l3 := L.less mb (by omega)
  generalize L.dec mb = mc at *
  walk_at "d"
  refine ⟨by omega, by omega, fun i m' ρ => ∃ sz, ρ = [.at_ p, .dat (.int (way : Nat)), .own (.lst (dN sz)), .no, .no, .no, .no] ∧ 1 ≤ sz.length ∧ (∀ s ∈ sz, 1 ≤ s) ∧ sz.sum ≤ 9 ∧ L.left m ≤ L.left m' + 3 + i, ⟨_, Wk.refl _, rfl, [1 + d0], rfl, by simp, by simp, by simp; omega, by omega⟩, ?_, ?_⟩
  · rintro i d m1 ρ hd ⟨sz, rfl, hz1, hz2, hz3, hm1⟩
    obtain ⟨hi, rfl⟩ := rng_at hd
    have hi : i < d1 := by omega
    refine ⟨_, dg_name (by simp), ?_⟩
    walk_at "d"
    obtain ⟨r3, hr5, hr6⟩ := at3 (a := 3) (b := 1) (c := 4) hway
    refine ops_ixL rfl hr5 ?_
    walk_at "d"
    refine ⟨p, L, r3, rfl, by omega, by omega, by omega, fun d2 hd2 => ?_⟩
    have l4 := L.less m1 (by omega)
    generalize L.dec m1 = m2 at *
    walk_at "d"
    refine cb_sumN (.inl rfl) ?_
    walk_at "d"
    rw [show (1 : Int) + (d2 : Nat) = ((1 + d2 : Nat) : Int) by omega]
    have hle := len_le_sum hz2
    refine ⟨fun hb => ?_, fun hb => ?_⟩
    · have hb : ((sz.sum : Nat) : Int) + ((1 + d2 : Nat) : Int) ≤ 9 := by simpa using hb
      refine ds_app (i := 2) (ds := dN sz) rfl (by rw [dN_len]; omega) ?_
      walk_at "d"
      rw [show dN sz ++ [D.int ((1 + d2 : Nat) : Int)] = dN (sz ++ [1 + d2]) by simp [dN]]
      dsimp only [List.set_cons_zero, List.set_cons_succ]
      refine ⟨_, by walk_at "wk", rfl, sz ++ [1 + d2], rfl, by simp, fun s hs => ?_, by simp; omega, by omega⟩
      rcases List.mem_append.mp hs with hs | hs
      · exact hz2 s hs
      · simp at hs; omega
    · walk_at "d"
      dsimp only [List.set_cons_zero, List.set_cons_succ]
      exact ⟨_, by walk_at "wk", rfl, sz, rfl, hz1, hz2, hz3, by omega⟩
  · rintro m1 ρ ⟨sz, rfl, hz1, hz2, hz3, hm1⟩
    rw [rng_len] at hm1
    have hle := len_le_sum hz2
    walk_at "d"
    refine ds_forW (vs := [3]) ?_
    walk_at "d"
    refine ⟨p, L, 2, rfl, by decide, by decide, by omega, fun d3 hd3 => ?_⟩
    have l4 := L.less m1 (by omega)
    generalize L.dec m1 = m2 at *
    walk_at "d"
    refine ⟨by omega, by omega, fun i m' ρ => ∃ gs : List (Nat × Nat), ρ = [.at_ p, .dat (.int (way : Nat)), .own (.lst (dN sz)), .no, .own (.dK (gD gs)), .no, .no] ∧ (0 < i → 1 ≤ gs.length) ∧ gs.length ≤ i ∧ (∀ t v : Nat, (t, v) ∈ gs → 1 ≤ t ∧ t ≤ 4 ∧ t ≤ sz.sum ∧ 1 ≤ v ∧ v ≤ 3) ∧ (gs.map (·.1)).Nodup ∧ L.left m ≤ L.left m' + 13 + 2 * i, ⟨_, Wk.refl _, rfl, [], rfl, by simp, by simp, by simp, by simp, by omega⟩, ?_, ?_⟩
    · rintro i d m3 ρ hd ⟨gs, rfl, g1, g2, g3, g4, g5⟩
      obtain ⟨hi, rfl⟩ := rng_at hd
      have hi2 : i < 2 := by omega
      refine ⟨_, dg_name (by simp), ?_⟩
      refine ds_dput (i := 4) rfl (by show (gD gs).length < _; rw [gD_len]; omega) ?_
      walk_at "d"
      refine ⟨p, L, 3, rfl, by decide, by decide, by omega, fun v hv => ?_⟩
      have l5 := L.less m3 (by omega)
      walk_at "d"
      refine cb_sumN (.inl rfl) ?_
      walk_at "d"
      refine ⟨p, L, min 4 sz.sum, by rw [show (min (4 : Int) (sz.sum : Nat)) = ((min 4 sz.sum : Nat) : Int) by omega], by omega, by omega, by omega, fun t ht => ?_⟩
      have l6 := L.less (L.dec m3) (by omega)
      walk_at "d"
      refine ⟨.int (1 + (v : Int)), .int (1 + (t : Int)), _, rfl, rfl, PutS.k (Sum.inl (1 + (t : Int))) _, ?_⟩
      rw [show (1 + (t : Int)) = ((t + 1 : Nat) : Int) by omega, show (1 + (v : Int)) = ((v + 1 : Nat) : Int) by omega, gput_D]
      have gl := gput_len gs (t + 1) (v + 1)
      dsimp only [List.set_cons_zero, List.set_cons_succ]
      refine ⟨_, by walk_at "wk", rfl, _, rfl, fun _ => gl.1, by omega, ?_, gput_nd g4 _ _, by omega⟩
      intro t' u h
      rcases gput_mem h with ⟨rfl, rfl⟩ | h
      · omega
      · exact g3 _ _ h
    · rintro m3 ρ ⟨gs, rfl, g1, g2, g3, g4, g5⟩
      rw [rng_len] at g1 g2 g5
      have gg : GGm sz.sum gs := ⟨g1 (by omega), by omega, g3, g4⟩
      refine ds_frz (i := 4) rfl (ds_frz (i := 2) rfl ?_)
      dsimp only [O.frz, O1.frz, List.set_cons_zero, List.set_cons_succ]
      walk_at "d"
      refine de_lcKM (atF sz.sum gs) (dp_var rfl) (.inl ⟨_, rfl⟩) hL walks_keysK (by rw [List.length_map, gD_len]; omega) (fun d F x hx => ⟨_, dg_name (by simp), ?_⟩) ?_
      · obtain ⟨p, hp, rfl⟩ := List.mem_map.mp hx
        obtain ⟨t, v, htv, rfl⟩ := gD_mem hp
        obtain ⟨o1, o2, o3, o4, o5⟩ := gg.ok t v htv
        walk_at "d"
        refine ⟨_, _, _, rfl, rfl, look_g gg.nd htv, ?_⟩
        walk_at "d"
        refine cb_sumN (.inl rfl) ?_
        walk_at "d"
        refine ⟨sz.sum, t, rfl, by omega, by omega, ?_⟩
        walk_at "d"
        simp [atF, keyD, gv_mem gg.nd htv, S.frz]
      · walk_at "d"
        rw [atF_eq gg.nd]
        refine cb_sumN (.inl rfl) ?_
        walk_at "d"
        by_cases ht : tot sz.sum gs ≤ 130
        · rw [show decide ((130 : Int) < ((gs.map fun p => p.2 * KM.ch sz.sum p.1).sum : Nat)) = false by simp; unfold tot at ht; omega]
          walk_at "d"
          exact hΦ sz gs m3 ⟨⟨hz1, hz2, by omega⟩, gg, ht⟩ hz3 (by omega)
        · rw [show decide ((130 : Int) < ((gs.map fun p => p.2 * KM.ch sz.sum p.1).sum : Nat)) = true by simp; unfold tot at ht; omega]
          walk_at "d"
          refine de_disp1 ?_
          walk_at "d"
          refine cb_minKD hL (gD_keys gs) (fun z => by have h1 := congrArg List.length z; have h2 := gg.l1; rw [List.length_map] at h1; simp only [List.length_nil] at h1; omega) (fun k hk _ => ?_)
          obtain ⟨⟨t, v⟩, htv, rfl⟩ := List.mem_map.mp hk
          obtain ⟨o1, o2, o3, o4, o5⟩ := gg.ok t v htv
          walk_at "d"
          refine ⟨Sum.inl (t : Int), .int 1, rfl, rfl, ?_⟩
          refine ⟨rfl, ds_frz (i := 4) rfl ?_⟩
          dsimp only [O.frz, O1.frz, List.set_cons_zero, List.set_cons_succ]
          walk_at "d"
          refine hΦ sz [(t, 1)] m3 ⟨⟨hz1, hz2, by omega⟩, ⟨by simp, by simp, fun a b h => by simp at h; omega, by simp⟩, ?_⟩ hz3 (by omega)
          have := ch_small8 ⟨sz.sum, by omega⟩ ⟨t, by omega⟩
          simpa [tot] using this
end
end Pf
set_option Elab.async false
set_option linter.all false
set_option maxRecDepth 100000
set_option maxHeartbeats 1000000
namespace Pf
open PySem PySem.Spec PyProof.Rows L2 DL
local macro_rules | `(tactic| walk_at "len") => `(tactic| with_unfolding_all first | exact Nat.le_of_ble_eq_true rfl | (simp; done) | (simp; omega))
local macro_rules | `(tactic| walk_at "side") => `(tactic| with_unfolding_all first | exact Or.inr ⟨by omega, by omega⟩ | exact Or.inl ⟨by omega, by omega⟩ | exact ⟨by omega, by omega⟩ | exact ⟨by omega, by omega, by omega⟩ | (show (0 : Int) < _; omega) | decide)
local macro_rules | `(tactic| walk_at "d1") => `(tactic| with_reducible first
  | (refine ds_seq ?_; try dsimp only [List.set_cons_zero, List.set_cons_succ, List.cons_append, List.nil_append, O.frz])
  | refine ds_asg ?_
  | refine ds_ret ?_
  | refine ds_retN ?_
  | refine ds_next ?_
  | refine ds_dropC ?_
  | refine ds_drop0 ?_
  | refine ds_dropB ?_
  | refine ds_if ?_
  | refine dt_test ?_
  | refine dt_B ?_
  | refine dt_not ?_
  | refine dt_and ?_
  | refine dt_or ?_
  | refine dt_yes ?_
  | refine de_int ?_
  | refine de_bl ?_
  | refine de_str ?_
  | refine de_non ?_
  | refine de_varD (by with_unfolding_all rfl) ?_
  | refine de_varO (by with_unfolding_all rfl) ?_
  | refine de_varA (by with_unfolding_all rfl) ?_
  | refine de_varV (by with_unfolding_all rfl) ?_
  | refine de_isi ?_
  | refine de_dget ?_
  | refine de_dget2 ?_
  | refine de_dnotin ?_
  | refine de_din ?_
  | refine de_dnew ?_
  | refine de_dnewT ?_
  | refine de_cb ?_
  | refine de_call0G ?_
  | refine de_callG ?_
  | refine de_andB ?_
  | refine de_orB ?_
  | refine de_notV ?_
  | refine de_ifE ?_
  | refine de_chain ?_
  | refine de_op ?_
  | refine de_neg ?_
  | refine de_tupG ?_
  | refine de_lstG ?_
  | refine de_slL ?_
  | refine de_slT ?_
  | refine do_none ?_
  | refine do_some ?_
  | refine daf_cons ?_
  | refine daf_nil ?_
  | refine daf_star ?_
  | refine da_cons ?_
  | refine da_nil ?_
  | refine lk_dat ?_
  | refine lk_nil ?_
  | refine ak_dat ?_
  | refine ak_nil ?_
  | refine ak_at ?_
  | refine ak_lst ?_
  | refine lk_lst ?_
  | refine ak_dK ?_
  | refine ak_dT ?_
  | refine ak_vw ?_
  | refine lk_dT ?_
  | refine lk_dK ?_
  | refine da_star ?_
  | refine de_lstRg1 ?_
  | refine de_lstRg2 ?_
  | refine de_revL ?_
  | refine de_count ?_
  | refine de_index ?_
  | refine di_enum ?_
  | refine dt_tru ?_
  | refine de_fld ?_
  | refine de_prop ?_
  | refine di_rng1 ?_
  | refine di_rng2 ?_
  | refine di_list ?_
  | refine di_tup ?_
  | refine di_seq ?_
  | refine di_zip ?_
  | refine de_split ?_
  | refine de_join ?_
  | refine de_fmt ?_
  | refine de_jnil ?_
  | refine de_jcons ?_
  | refine de_ixS ?_
  | refine de_orT ?_
  | refine di_str ?_
  | refine ops_eqS ?_
  | refine ops_neS ?_
  | refine de_indexD ?_
  | refine ops_int ?_
  | (refine ops_cat (by with_unfolding_all rfl) (by with_unfolding_all rfl) ?side ?_; (case side => walk_at "len"))
  | (refine ops_catA ?side ?_; (case side => walk_at "len"))
  | refine ops_eqI ?_
  | refine ops_neI ?_
  | refine ops_bool ?_
  | (refine ops_intC ?side ?_; (case side => walk_at "side"))
  | refine cb_lenL (by with_unfolding_all rfl) ?_
  | refine cb_lenT (by with_unfolding_all rfl) ?_
  | refine cb_lenK (by with_unfolding_all rfl) ?_
  | refine cb_max2 ?_
  | refine cb_min2 ?_
  | refine cb_int ?_
  | refine ⟨fun _ => ?_, fun z => Bool.noConfusion z⟩
  | refine ⟨fun z => Bool.noConfusion z, fun _ => ?_⟩
  | refine ⟨rfl, ?_⟩
  | refine ⟨_, rfl, ?_⟩
  | refine ⟨_, Or.inl (by with_unfolding_all rfl), ?_⟩
  | (with_unfolding_all refine ⟨_, true, rfl, rfl, (fun _ z => by cases z), rfl, ?_⟩)
  | (with_unfolding_all refine ⟨_, false, rfl, rfl, (fun _ z => by cases z), rfl, ?_⟩))
local macro_rules | `(tactic| walk_at "d") => `(tactic| repeat walk_at "d1")
local macro_rules | `(tactic| walk_at "wk") => `(tactic| repeat first | exact Wk.nil | refine Wk.keep ?_ | refine Wk.drop ?_)
section
variable {P : Program} {w : World} {K : PySem.W.Frag} {mg : Str → Option Value} {base : Heap} {f : Addr} {fd : FuncData} {a_Table a_BadText : Addr}
theorem rn_lt {r : Rw} (hb : ∀ q ∈ r, q.2 < 10 ^ 30) (k : List Nat) : rn r k < 10 ^ 30 := by
  unfold rn
  cases e : rg r k with
  | none => decide
  | some n =>
    obtain ⟨q, hq, e2⟩ := Option.map_eq_some_iff.mp e
    have := hb q (List.mem_of_find?_eq_some hq)
    rw [e2] at this
    exact this
theorem srG_l {gs : List (Nat × Nat)} : (srG gs).length = gs.length := by unfold srG; rw [List.length_map, ks_len]
theorem tab_sum {sz : List Nat} {gs : List (Nat × Nat)} {rows : List Rw} (hgd : Good sz gs) (hrl : rows.length ≤ 130) (hrw : ∀ r ∈ rows, RwOk (AK sz gs) r ∧ ∀ q ∈ r, q.2 < 10 ^ 30) :
    ((sizesLn sz :: gamesLn (srG gs) :: rows.map rowLn).map (·.length)).sum + (sizesLn sz :: gamesLn (srG gs) :: rows.map rowLn).length * 1 ≤ 13900000 ∧ ∀ l ∈ sizesLn sz :: gamesLn (srG gs) :: rows.map rowLn, l.length ≤ 106600 := by
  have ggm := hgd.2.1
  have g2 := ggm.l2
  have zl : sz.length ≤ 10 := by have := len_le_sum hgd.1.2.1; have := hgd.1.2.2; omega
  have hz : (sizesLn sz).length ≤ 400 := by
    have h2 := sum_lens (ys := ("sizes" : Str) :: sz.map numS) (B := 30) fun y hy => by
      rcases List.mem_cons.mp hy with rfl | hy
      · rw [len_words.1]; omega
      · obtain ⟨n, hn, rfl⟩ := List.mem_map.mp hy
        have := mem_le_sum hn
        have := hgd.1.2.2
        exact numS_len (big30 (by omega))
    have := join_len " " (("sizes" : Str) :: sz.map numS)
    rw [List.length_cons, List.length_map] at this h2
    rw [len_sp] at this
    unfold sizesLn
    omega
  have hg : (gamesLn (srG gs)).length ≤ 400 := by
    have h3 := sum_lens (ys := ("games" : Str) :: (srG gs).map fun p => numS p.1 ++ ":" ++ numS p.2) (B := 61) fun y hy => by
      rcases List.mem_cons.mp hy with rfl | hy
      · rw [len_words.2.1]; omega
      · obtain ⟨⟨t, v⟩, hp, rfl⟩ := List.mem_map.mp hy
        have hb := ggm.ok _ _ ((srG_mem ggm.nd).mp hp)
        have l1 : (numS t).length ≤ 30 := numS_len (big30 (by omega))
        have l2 : (numS v).length ≤ 30 := numS_len (big30 (by omega))
        rw [len_app, len_app, len_cl]
        show (numS t).length + 1 + (numS v).length ≤ 61
        omega
    have := join_len " " (("games" : Str) :: (srG gs).map fun p => numS p.1 ++ ":" ++ numS p.2)
    rw [len_sp] at this
    rw [List.length_cons, List.length_map, srG_l] at h3 this
    unfold gamesLn
    omega
  have hrs := sum_lens (ys := rows.map rowLn) (B := 106600) fun y hy => by
    obtain ⟨r, hr, rfl⟩ := List.mem_map.mp hy
    exact rowLn_len hgd (hrw r hr).1 (hrw r hr).2
  refine ⟨?_, fun l hl => ?_⟩
  · rw [List.length_map] at hrs
    rw [List.map_cons, List.map_cons, List.sum_cons, List.sum_cons, List.length_cons, List.length_cons, List.length_map]
    omega
  · rcases List.mem_cons.mp hl with rfl | hl
    · omega
    rcases List.mem_cons.mp hl with rfl | hl
    · omega
    obtain ⟨r, hr, rfl⟩ := List.mem_map.mp hl
    exact rowLn_len hgd (hrw r hr).1 (hrw r hr).2
/-- the text of a table may be read -/
theorem tab_tx {sz : List Nat} {gs : List (Nat × Nat)} {rows : List Rw} (hgd : Good sz gs) (hrl : rows.length ≤ 130) (hrw : ∀ r ∈ rows, RwOk (AK sz gs) r ∧ ∀ q ∈ r, q.2 < 10 ^ 30) : TxOk (tabTxt sz (srG gs) rows) := by
  obtain ⟨h1, h2⟩ := tab_sum hgd hrl hrw
  have h3 := join_len "\n" (sizesLn sz :: gamesLn (srG gs) :: rows.map rowLn)
  rw [len_nl] at h3
  refine ⟨by unfold tabTxt; omega, ?_, fun l hl => ?_, fun l hl => ?_⟩
  · rw [tabTxt_split, List.length_cons, List.length_cons, List.length_map]; omega
  · rw [tabTxt_split] at hl
    have := h2 l hl
    omega
  · rw [tabTxt_split] at hl
    cases hl
    intro ps hps
    rw [gamesLn_split] at hps
    have := congrArg List.length (mapM_some.mp hps)
    simp only [List.drop_succ_cons, List.drop_zero, List.length_map, srG_l] at this
    have := hgd.2.1.l2
    omega
def C_law_line : Fc := fun _ W m ss Φ Ξ => ∃ (wd : Str) (ps : List Str), ss = [.dat (.str wd), .dat (.lst (ps.map D.str))] ∧ ps.length ≤ 5000 ∧ (((wd :: ps).map (·.length)).sum + (wd :: ps).length * 1 ≤ 16777216) ∧ Φ m (.dat (.str (Txt.join " " (wd :: ps))))
abbrev s_law_line : Stmt := (top 51)
abbrev N_law_line : List Str := ["_law_word", "_law_parts"]
theorem sc_law_line : FnScope N_law_line ["_law_word", "_law_parts"] (defScope s_law_line) := ⟨rfl, rfl, rfl, by decide +kernel, rfl, by decide +kernel, by decide +kernel⟩
theorem ok_law_line (F : FnP K "_law_line" s_law_line f fd) (b : BI mg) : FnOk P w K mg base CX0 1 f fd ["_law_word", "_law_parts"] (spF K C_law_line) := by
  have hlen := spF_len (K := K) (C := C_law_line) (m := 2) fun κ W m ss Φ Ξ ⟨wd, ps, e, _⟩ => by first | exact e | (rw [e]; rfl)
  refine F.ok sc_law_line hlen ?_
  intro cdv A outer s H vs Q E hr h
  refine ⟨_, PSs.nox (pss_one (ps_ret (k_join (K := K) rfl pe_str (pe_op op_cat (pe_lst (pa_cons (pv 0) pa_nil)) (pv 1))))), ?_⟩
  refine DL.run_fnP  [] (Nm := N_law_line) (n := 2) (k := 0) rfl (hlen _ _ _ _ h) rfl h fun κ W m ss Φ Ξ G hc => ?_
  try dsimp only [cxOf, Cx.nox, Cx.wish, Cx.blk]
  obtain ⟨wd, ps, rfl, hl, hs, hΦ⟩ := hc
  refine ds_ret (de_join (de_str ⟨_, rfl, ?_⟩))
  walk_at "d"
  refine ⟨wd :: ps, rfl, ?_, rfl, hΦ⟩
  rw [len_sp]
  exact hs
def C_law_games_line : Fc := fun _ W m ss Φ Ξ => ∃ gs : List (Nat × Nat), ss = [.dat (.dic (gD gs))] ∧ (gs.map (·.1)).Nodup ∧ gs.length ≤ 50 ∧ (∀ p ∈ gs, p.1 < 10 ^ 30 ∧ p.2 < 10 ^ 30) ∧ Φ m (.dat (.str (gamesLn (srG gs))))
abbrev s_law_games_line : Stmt := (top 52)
abbrev N_law_games_line : List Str := ["_law_games", "_law_team"]
theorem sc_law_games_line : FnScope N_law_games_line ["_law_games"] (defScope s_law_games_line) := ⟨rfl, rfl, rfl, by decide +kernel, rfl, by decide +kernel, by decide +kernel⟩
theorem ok_law_games_line (F : FnP K "_law_games_line" s_law_games_line f fd) (b : BI mg) (c_law_line : Cl P w K mg base CX0 1 "_law_line" ["_law_word", "_law_parts"] C_law_line) : FnOk P w K mg base CX0 2 f fd ["_law_games"] (spF K C_law_games_line) := by
  have hlen := spF_len (K := K) (C := C_law_games_line) (m := 1) fun κ W m ss Φ Ξ ⟨gs, e, _⟩ => by first | exact e | (rw [e]; rfl)
  refine F.ok sc_law_games_line hlen ?_
  intro cdv A outer s H vs Q E hr h
  refine ⟨_, PSs.nox (pss_one (ps_ret (k_cl0 c_law_line rfl hr (pa_cons pe_str (pa_cons (pe_lc (own := [("_law_team", 1)]) rfl sc_law_games_line.nd (k_piL (K := K) rfl (pe_callB (call_sortedDI rfl) rfl b.sorted boot_sorted (pa_cons (pv 0) pa_nil))) (blkOk_by (own := [("_law_team", 1)]) (N := N_law_games_line) (sc := (defScope s_law_games_line)) (by decide +kernel)) (fun _ _ _ _ _ => (pg_name (i := 1) sc_law_games_line.nd rfl (by first | exact Or.inl rfl | exact Or.inr rfl))) (fun _ _ _ _ _ => pts_nil) (fun _ _ _ _ _ => (pe_op op_add_str (pe_op op_add_str (pe_callTy k_strI rfl b.str_ boot_str (pa_cons (pv 1) pa_nil)) pe_str) (pe_callTy k_strI rfl b.str_ boot_str (pa_cons (pe_dget (hu_of hr) (pv 0) (pv 1) (fun _ _ => rfl)) pa_nil))))) pa_nil))))), ?_⟩
  refine DL.run_fnP  [.no] (Nm := N_law_games_line) (n := 1) (k := 1) rfl (hlen _ _ _ _ h) rfl h fun κ W m ss Φ Ξ G hc => ?_
  try dsimp only [cxOf, Cx.nox, Cx.wish, Cx.blk]
  obtain ⟨gs, rfl, nd, hl, hs, hΦ⟩ := hc
  have hsl : sizeLine = 16777216 := sizeLine_eq
  unfold gamesLn at hΦ
  walk_at "d"
  refine de_lcMap (f := fun d => .str (numS (intOf d).toNat ++ ":" ++ numS ((gv gs (intOf d).toNat).getD 0))) ?_
  walk_at "d"
  refine cb_sortedK (ks := gs.map fun p => (p.1 : Int)) rfl (gD_keys _) (by simp; omega) ?_
  rw [ks_int, List.map_map]
  refine ⟨_, rfl, ?_⟩
  refine ⟨by rw [List.length_map, ks_len]; omega, fun d hd => ⟨_, dg_name (by simp), ?_⟩, ?_⟩
  · obtain ⟨t, ht, rfl⟩ := List.mem_map.mp hd
    obtain ⟨v, hv⟩ := ks_mem.mp ht
    have hb := hs _ hv
    have l1 : (numS t).length ≤ 30 := numS_len hb.1
    have l2 : (numS v).length ≤ 30 := numS_len hb.2
    dsimp only [Function.comp]
    walk_at "d"
    refine cb_strI (log_num hb.1) ?_
    walk_at "d"
    refine ops_addS ?_ ?_
    · show (numS t).length + (":" : Str).length ≤ sizeLine
      rw [len_cl]; omega
    walk_at "d"
    refine ⟨_, _, _, rfl, rfl, look_g nd hv, ?_⟩
    walk_at "d"
    refine cb_strI (log_num hb.2) ?_
    refine ops_addS ?_ ?_
    · show (numS t ++ ":").length + (numS v).length ≤ sizeLine
      rw [len_app, len_cl]; omega
    refine ⟨rfl, ?_⟩
    show DL.S.dat (.str (numS t ++ ":" ++ numS v)) = .dat (.str (numS ((t : Nat) : Int).toNat ++ ":" ++ numS ((gv gs ((t : Nat) : Int).toNat).getD 0)))
    rw [Int.toNat_natCast, gv_mem nd hv]
    rfl
  · have e : (((ks gs).map ((D.int ∘ fun i : Nat => (i : Int)))).map fun d => D.str (numS (intOf d).toNat ++ ":" ++ numS ((gv gs (intOf d).toNat).getD 0))) = ((srG gs).map fun p => numS p.1 ++ ":" ++ numS p.2).map D.str := by
      unfold srG
      rw [List.map_map, List.map_map, List.map_map]
      apply List.map_congr_left
      intro t _
      simp [intOf]
    rw [e]
    walk_at "d"
    have h2 := sum_lens (ys := ("games" : Str) :: (srG gs).map fun p => numS p.1 ++ ":" ++ numS p.2) (B := 61) fun y hy => by
      rcases List.mem_cons.mp hy with rfl | hy
      · rw [len_words.2.1]; omega
      · obtain ⟨⟨t, v⟩, hp, rfl⟩ := List.mem_map.mp hy
        have hb := hs _ ((srG_mem nd).mp hp)
        have l1 : (numS t).length ≤ 30 := numS_len hb.1
        have l2 : (numS v).length ≤ 30 := numS_len hb.2
        rw [len_app, len_app, len_cl]
        show (numS t).length + 1 + (numS v).length ≤ 61
        omega
    have l3 : (srG gs).length = gs.length := by unfold srG; rw [List.length_map, ks_len]
    refine ⟨_, _, rfl, ?_, ?_, rfl, hΦ⟩
    · rw [List.length_map, l3]; omega
    · rw [List.length_cons, List.length_map, l3] at h2 ⊢
      omega
def C_law_kind_text : Fc := C_kind_text
abbrev s_law_kind_text : Stmt := (top 53)
abbrev N_law_kind_text : List Str := ["_law_kind", "_law_number"]
theorem sc_law_kind_text : FnScope N_law_kind_text ["_law_kind"] (defScope s_law_kind_text) := ⟨rfl, rfl, rfl, by decide +kernel, rfl, by decide +kernel, by decide +kernel⟩
theorem ok_law_kind_text (F : FnP K "_law_kind_text" s_law_kind_text f fd) (b : BI mg) : FnOk P w K mg base CX0 1 f fd ["_law_kind"] (spF K C_law_kind_text) := by
  have hlen := spF_len (K := K) (C := C_law_kind_text) (m := 1) fun κ W m ss Φ Ξ ⟨k, e, _⟩ => by first | exact e | (rw [e]; rfl)
  refine F.ok sc_law_kind_text hlen ?_
  intro cdv A outer s H vs Q E hr h
  refine ⟨_, PSs.nox (pss_one (ps_ret (k_join (K := K) rfl pe_str (pe_lc (own := [("_law_number", 1)]) rfl sc_law_kind_text.nd (k_piT (K := K) rfl (pv 0)) (blkOk_by (own := [("_law_number", 1)]) (N := N_law_kind_text) (sc := (defScope s_law_kind_text)) (by decide +kernel)) (fun _ _ _ _ _ => (pg_name (i := 1) sc_law_kind_text.nd rfl (by first | exact Or.inl rfl | exact Or.inr rfl))) (fun _ _ _ _ _ => pts_nil) (fun _ _ _ _ _ => (pe_callTy k_strI rfl b.str_ boot_str (pa_cons (pv 1) pa_nil))))))), ?_⟩
  refine DL.run_fnP  [.no] (Nm := N_law_kind_text) (n := 1) (k := 1) rfl (hlen _ _ _ _ h) rfl h fun κ W m ss Φ Ξ G hc => ?_
  try dsimp only [cxOf, Cx.nox, Cx.wish, Cx.blk]
  obtain ⟨k, rfl, hl, hs, hΦ⟩ := hc
  walk_at "d"
  refine de_lcMap (f := fun d => .str (numS (intOf d).toNat)) ?_
  walk_at "d"
  refine ⟨by rw [dN_len]; omega, fun d hd => ⟨_, dg_name (by simp), ?_⟩, ?_⟩
  · obtain ⟨a, ha, rfl⟩ := dN_mem hd
    walk_at "d"
    refine cb_strI (log_num (hs a ha)) ?_
    exact ⟨rfl, by simp [intOf, S.frz, numS]⟩
  · have e : (dN k).map (fun d => D.str (numS (intOf d).toNat)) = (k.map numS).map D.str := by
      unfold dN
      rw [List.map_map, List.map_map]
      apply List.map_congr_left
      intro a _
      simp [intOf]
    rw [e]
    have h2 := sum_lens (ys := k.map numS) (B := 30) fun y hy => by
      obtain ⟨n, hn, rfl⟩ := List.mem_map.mp hy
      exact numS_len (hs n hn)
    refine ⟨k.map numS, rfl, ?_, rfl, hΦ⟩
    rw [List.length_map] at h2 ⊢
    rw [len_cm]
    omega
def C_law_table_text : Fc := fun _ W m ss Φ Ξ => ∃ (sz : List Nat) (gs : List (Nat × Nat)) (rows : List Rw), ss = [.dat (.lst (dN sz)), .dat (.dic (gD gs)), .dat (.lst (rows.map rD))] ∧ Good sz gs ∧ rows.length ≤ 130 ∧ (∀ r ∈ rows, RwOk (AK sz gs) r ∧ ∀ q ∈ r, q.2 < 10 ^ 30) ∧ (∀ a, ¬ W.L a) ∧ Φ m (.dat (.str (tabTxt sz (srG gs) (rows.map (ck (AK sz gs))))))
abbrev s_law_table_text : Stmt := (top 54)
abbrev N_law_table_text : List Str := ["_law_sizes", "_law_games", "_law_rounds", "_law_lines", "_law_row", "_law_kinds_here", "_law_kind", "_law_size"]
theorem sc_law_table_text : FnScope N_law_table_text ["_law_sizes", "_law_games", "_law_rounds"] (defScope s_law_table_text) := ⟨rfl, rfl, rfl, by decide +kernel, rfl, by decide +kernel, by decide +kernel⟩
theorem ok_law_table_text (F : FnP K "_law_table_text" s_law_table_text f fd) (b : BI mg) (c_law_games_line : Cl P w K mg base CX0 2 "_law_games_line" ["_law_games"] C_law_games_line) (c_law_line : Cl P w K mg base CX0 1 "_law_line" ["_law_word", "_law_parts"] C_law_line) (c_law_kinds : Cl P w K mg base CX0 2 "_law_kinds" ["_law_sizes", "_law_games"] C_law_kinds) (c_law_kind_text : Cl P w K mg base CX0 1 "_law_kind_text" ["_law_kind"] C_law_kind_text) : FnOk P w K mg base CX0 3 f fd ["_law_sizes", "_law_games", "_law_rounds"] (spF K C_law_table_text) := by
  have hlen := spF_len (K := K) (C := C_law_table_text) (m := 3) fun κ W m ss Φ Ξ ⟨sz, gs, rows, e, _⟩ => by first | exact e | (rw [e]; rfl)
  refine F.ok sc_law_table_text hlen ?_
  intro cdv A outer s H vs Q E hr h
  refine ⟨_, PSs.nox (pss_cons (ps_set (i := 3) sc_law_table_text.nd rfl (by first | exact Or.inl rfl | exact Or.inr rfl) (pe_lst (pa_cons (k_cl0 c_law_line rfl hr (pa_cons pe_str (pa_cons (pe_lc (own := [("_law_size", 7)]) rfl sc_law_table_text.nd (k_piL (K := K) rfl (pv 0)) (blkOk_by (own := [("_law_size", 7)]) (N := N_law_table_text) (sc := (defScope s_law_table_text)) (by decide +kernel)) (fun _ _ _ _ _ => (pg_name (i := 7) sc_law_table_text.nd rfl (by first | exact Or.inl rfl | exact Or.inr rfl))) (fun _ _ _ _ _ => pts_nil) (fun _ _ _ _ _ => (pe_callTy k_strI rfl b.str_ boot_str (pa_cons (pv 7) pa_nil)))) pa_nil))) (pa_cons (k_cl0 c_law_games_line rfl hr (pa_cons (pv 1) pa_nil)) pa_nil))))
      (pss_cons (ps_for PassesOwn.never rfl (k_piL (K := K) rfl (pv 2)) (pg_name (i := 4) sc_law_table_text.nd rfl (by first | exact Or.inl rfl | exact Or.inr rfl))
      (pss_cons (ps_setLc (i := 5) (own := [("_law_kind", 6)]) rfl sc_law_table_text.nd rfl rfl (sw_true rfl rfl rfl (by decide +kernel)) (k_piL (K := K) rfl (k_cl0 c_law_kinds rfl hr (pa_cons (pv 0) (pa_cons (pv 1) pa_nil)))) (blkOk_by (own := [("_law_kind", 6)]) (N := N_law_table_text) (sc := (defScope s_law_table_text)) (by decide +kernel)) (fun _ _ _ _ _ => (pg_name (i := 6) sc_law_table_text.nd rfl (by first | exact Or.inl rfl | exact Or.inr rfl))) (fun _ _ _ _ _ => pts_one (pt_cmpR op_gt (pe_dget2 (hu_of hr) (pv 4) (pv 6) pe_int ⟨rfl, rfl, rfl, rfl⟩) pe_int (nomark _))) (fun _ _ _ _ _ => (pv 6)))
      (pss_one (ps_expr (k_app (K := K) rfl (pv 3) (pa_cons (k_cl0 c_law_line rfl hr (pa_cons pe_str (pa_cons (pe_lc (own := [("_law_kind", 6)]) rfl sc_law_table_text.nd (k_piL (K := K) rfl (pv 5)) (blkOk_by (own := [("_law_kind", 6)]) (N := N_law_table_text) (sc := (defScope s_law_table_text)) (by decide +kernel)) (fun _ _ _ _ _ => (pg_name (i := 6) sc_law_table_text.nd rfl (by first | exact Or.inl rfl | exact Or.inr rfl))) (fun _ _ _ _ _ => pts_nil) (fun _ _ _ _ _ => (pe_op op_add_str (pe_op op_add_str (k_cl0 c_law_kind_text rfl hr (pa_cons (pv 6) pa_nil)) pe_str) (pe_callTy k_strI rfl b.str_ boot_str (pa_cons (pe_dget (hu_of hr) (pv 4) (pv 6) (fun _ _ => rfl)) pa_nil))))) pa_nil))) pa_nil))))))
      (pss_one (ps_ret (k_join (K := K) rfl pe_str (pv 3)))))), ?_⟩
  refine DL.run_fnP  [.no, .no, .no, .no, .no] (Nm := N_law_table_text) (n := 3) (k := 5) rfl (hlen _ _ _ _ h) rfl h fun κ W m ss Φ Ξ G hc => ?_
  try dsimp only [cxOf, Cx.nox, Cx.wish, Cx.blk]
  obtain ⟨sz, gs, rows, rfl, hgd, hrl, hrw, hL, hΦ⟩ := hc
  have hsl : sizeLine = 16777216 := sizeLine_eq
  have zl : sz.length ≤ 10 := by have := len_le_sum hgd.1.2.1; have := hgd.1.2.2; omega
  have hs10 : ∀ n ∈ sz, n ≤ 10 := fun n hn => by have := mem_le_sum hn; have := hgd.1.2.2; omega
  walk_at "d"
  refine de_lcMap (f := fun d => .str (numS (intOf d).toNat)) ?_
  walk_at "d"
  refine ⟨by rw [dN_len]; omega, fun d hd => ⟨_, dg_name (by simp), ?_⟩, ?_⟩
  · obtain ⟨a, ha, rfl⟩ := dN_mem hd
    walk_at "d"
    refine cb_strI (log_num (big30 (by have := hs10 a ha; omega))) ?_
    exact ⟨rfl, by simp [intOf, S.frz, numS]⟩
  have e : (dN sz).map (fun d => D.str (numS (intOf d).toNat)) = (sz.map numS).map D.str := by
    unfold dN
    rw [List.map_map, List.map_map]
    apply List.map_congr_left
    intro a _
    simp [intOf]
  rw [e]
  walk_at "d"
  have h2 := sum_lens (ys := ("sizes" : Str) :: sz.map numS) (B := 30) fun y hy => by
    rcases List.mem_cons.mp hy with rfl | hy
    · rw [len_words.1]; omega
    · obtain ⟨n, hn, rfl⟩ := List.mem_map.mp hy
      exact numS_len (big30 (by have := hs10 n hn; omega))
  refine ⟨_, sz.map numS, rfl, by rw [List.length_map]; omega, by rw [List.length_cons, List.length_map] at h2 ⊢; omega, ?_⟩
  have ggm := hgd.2.1
  have g2 := ggm.l2
  walk_at "d"
  refine ⟨gs, rfl, ggm.nd, by omega, fun p hp => by have := ggm.ok p.1 p.2 hp; exact ⟨big30 (by omega), big30 (by omega)⟩, ?_⟩
  walk_at "d"
  rw [show Txt.join " " (("sizes" : Str) :: sz.map numS) = sizesLn sz from rfl]
  have al := AK_len (sz := sz) (gs := gs) hgd.1.2.2 hgd.2.1.l2
  have nd := AK_nodup (sz := sz) hgd.2.1.nd
  refine ds_forW (vs := [4]) ?_
  walk_at "d"
  refine ⟨fun i m' ρ => m' = m ∧ ρ = [.dat (.lst (dN sz)), .dat (.dic (gD gs)), .dat (.lst (rows.map rD)), .own (.lst ((sizesLn sz :: gamesLn (srG gs) :: ((rows.take i).map (ck (AK sz gs))).map rowLn).map D.str)), .no, .no, .no, .no], ⟨_, Wk.refl _, rfl, rfl, rfl⟩, ?_, ?_⟩
  · rintro i d m' ρ hd ⟨rfl, rfl⟩
    rw [List.getElem?_map] at hd
    cases hr : rows[i]? with
    | none => rw [hr] at hd; cases hd
    | some r =>
      rw [hr] at hd
      cases hd
      obtain ⟨hro, hb⟩ := hrw r (List.mem_of_getElem? hr)
      have hbn : ∀ k, rn r k < 10 ^ 30 := rn_lt hb
      have rl := hro.len
      refine ⟨_, dg_name (by simp), ?_⟩
      dsimp only [List.set_cons_zero, List.set_cons_succ]
      refine ds_seq ?_
      refine ds_asg (de_lcIf (f := fun d => d) (t := fun d => decide (0 < rn r (kinOf d))) ?_)
      walk_at "d"
      refine ⟨sz, gs, rfl, hgd, ?_⟩
      refine ⟨_, rfl, ?_⟩
      refine ⟨by rw [List.length_map]; omega, fun d hd => ⟨_, dg_name (by simp), ?_⟩, ?_⟩
      · obtain ⟨k, hk, rfl⟩ := List.mem_map.mp hd
        walk_at "d"
        refine ⟨_, _, _, rfl, rfl, keyN_D k ▸ Look.t (ds := rT r) (keyN k), ?_⟩
        rw [rT_get]
        walk_at "d"
        rw [kinOf_eq]
        refine ⟨?_, fun _ => ?_⟩
        · rw [Bool.eq_iff_iff, decide_eq_true_eq, decide_eq_true_eq]; omega
        · walk_at "d"
          rfl
      have e1 : (((AK sz gs).map tD).filter fun d => decide (0 < rn r (kinOf d))).map (fun d => d) = ((ck (AK sz gs) r).map (·.1)).map tD := by
        rw [List.map_id', ck_keys, List.filter_map]
        congr 1
        apply List.filter_congr
        intro k _
        show decide (0 < rn r (kinOf (tD k))) = _
        rw [kinOf_eq]
      rw [e1]
      refine ⟨rfl, ?_⟩
      refine ds_frz (i := 5) rfl ?_
      dsimp only [O.frz, O1.frz, List.set_cons_zero, List.set_cons_succ]
      refine ds_app (i := 3) rfl (by simp; omega) ?_
      walk_at "d"
      have cro : RwOk (AK sz gs) (ck (AK sz gs) r) := ⟨by rw [ck_keys]; exact nd.filter _, fun k hk => by rw [ck_keys] at hk; exact (List.mem_filter.mp hk).1⟩
      have crl := cro.len
      refine de_lcMap (f := fun d => .str (wordTx (kinOf d, rn r (kinOf d)))) ?_
      walk_at "d"
      refine ⟨by rw [List.length_map, List.length_map]; omega, fun d hd => ⟨_, dg_name (by simp), ?_⟩, ?_⟩
      · obtain ⟨k, hk, rfl⟩ := List.mem_map.mp hd
        have hkA := cro.sub k hk
        have hk10 := AK_ten hgd hkA
        have kl := kindTxt_len hk10.1
        have nl := numS_len (hbn k)
        have hrk : rg r k = some (rn r k) := by
          rw [ck_keys] at hk
          have := (List.mem_filter.mp hk).2
          rw [decide_eq_true_eq] at this
          unfold rn at this ⊢
          cases e : rg r k with
          | none => rw [e] at this; cases this
          | some n => rfl
        walk_at "d"
        refine ⟨k, rfl, by omega, fun a ha => big30 (by have := hk10.1 a ha; omega), ?_⟩
        walk_at "d"
        refine ops_addS ?_ ?_
        · rw [len_cl]; omega
        walk_at "d"
        have lk := Look.t (ds := rT r) (keyN k)
        rw [rT_val, hrk, keyN_D] at lk
        refine ⟨_, _, _, rfl, rfl, lk, ?_⟩
        walk_at "d"
        refine cb_strI (log_num (hbn k)) ?_
        refine ops_addS ?_ ?_
        · show (kindTxt k ++ ":").length + (numS (rn r k)).length ≤ sizeLine
          rw [len_app, len_cl]; omega
        rw [kinOf_eq]
        exact ⟨rfl, rfl⟩
      have e2 : (((ck (AK sz gs) r).map (·.1)).map tD).map (fun d => D.str (wordTx (kinOf d, rn r (kinOf d)))) = ((ck (AK sz gs) r).map wordTx).map D.str := by
        rw [List.map_map, List.map_map, List.map_map]
        apply List.map_congr_left
        rintro ⟨k, n⟩ hp
        show D.str (wordTx (kinOf (tD k), rn r (kinOf (tD k)))) = D.str (wordTx (k, n))
        rw [kinOf_eq]
        obtain ⟨k', hk', e⟩ := List.mem_map.mp hp
        cases e
        rfl
      rw [e2]
      walk_at "d"
      have hbc : ∀ q ∈ ck (AK sz gs) r, q.2 < 10 ^ 30 := fun q hq => by
        obtain ⟨k', hk', e⟩ := List.mem_map.mp hq
        cases e
        exact hbn k'
      have hsum := rowLn_sum hgd cro hbc
      refine ⟨_, _, rfl, by rw [List.length_map]; omega, by omega, ?_⟩
      refine ⟨_, rfl, ?_⟩
      rw [← rowLn_eq]
      dsimp only [List.set_cons_zero, List.set_cons_succ]
      have e3 : (sizesLn sz :: gamesLn (srG gs) :: ((rows.take i).map (ck (AK sz gs))).map rowLn).map D.str ++ [D.str (rowLn (ck (AK sz gs) r))] = (sizesLn sz :: gamesLn (srG gs) :: ((rows.take (i + 1)).map (ck (AK sz gs))).map rowLn).map D.str := by
        rw [List.take_add_one, hr]
        simp
      rw [e3]
      exact ⟨_, by walk_at "wk", rfl, rfl, rfl⟩
  · rintro m' ρ ⟨rfl, rfl⟩
    rw [List.length_map, List.take_length]
    walk_at "d"
    refine ⟨?_, rfl, hΦ⟩
    have hcr : ∀ q ∈ rows.map (ck (AK sz gs)), RwOk (AK sz gs) q ∧ ∀ p ∈ q, p.2 < 10 ^ 30 := fun q hq => by
      obtain ⟨r, hr, rfl⟩ := List.mem_map.mp hq
      obtain ⟨hro, hb⟩ := hrw r hr
      refine ⟨⟨by rw [ck_keys]; exact nd.filter _, fun k hk => by rw [ck_keys] at hk; exact (List.mem_filter.mp hk).1⟩, fun p hp => ?_⟩
      obtain ⟨k', hk', e⟩ := List.mem_map.mp hp
      cases e
      exact rn_lt hb k'
    have := (tab_sum hgd (by rw [List.length_map]; omega) hcr).1
    rw [len_nl]
    omega
end
end Pf
set_option Elab.async false
set_option linter.all false
set_option maxRecDepth 100000
set_option maxHeartbeats 1000000
namespace Pf
open PySem PySem.Spec PyProof.Rows L2 DL
local macro_rules | `(tactic| walk_at "len") => `(tactic| with_unfolding_all first | exact Nat.le_of_ble_eq_true rfl | (simp; done) | (simp; omega))
local macro_rules | `(tactic| walk_at "side") => `(tactic| with_unfolding_all first | exact Or.inr ⟨by omega, by omega⟩ | exact Or.inl ⟨by omega, by omega⟩ | exact ⟨by omega, by omega⟩ | exact ⟨by omega, by omega, by omega⟩ | (show (0 : Int) < _; omega) | decide)
local macro_rules | `(tactic| walk_at "d1") => `(tactic| with_reducible first
  | (refine ds_seq ?_; try dsimp only [List.set_cons_zero, List.set_cons_succ, List.cons_append, List.nil_append, O.frz])
  | refine ds_asg ?_
  | refine ds_ret ?_
  | refine ds_retN ?_
  | refine ds_next ?_
  | refine ds_dropC ?_
  | refine ds_drop0 ?_
  | refine ds_dropB ?_
  | refine ds_if ?_
  | refine dt_test ?_
  | refine dt_B ?_
  | refine dt_not ?_
  | refine dt_and ?_
  | refine dt_or ?_
  | refine dt_yes ?_
  | refine de_int ?_
  | refine de_bl ?_
  | refine de_str ?_
  | refine de_non ?_
  | refine de_varD (by with_unfolding_all rfl) ?_
  | refine de_varO (by with_unfolding_all rfl) ?_
  | refine de_varA (by with_unfolding_all rfl) ?_
  | refine de_varV (by with_unfolding_all rfl) ?_
  | refine de_isi ?_
  | refine de_dget ?_
  | refine de_dget2 ?_
  | refine de_dnotin ?_
  | refine de_din ?_
  | refine de_dnew ?_
  | refine de_dnewT ?_
  | refine de_cb ?_
  | refine de_call0G ?_
  | refine de_callG ?_
  | refine de_andB ?_
  | refine de_orB ?_
  | refine de_notV ?_
  | refine de_ifE ?_
  | refine de_chain ?_
  | refine de_op ?_
  | refine de_neg ?_
  | refine de_tupG ?_
  | refine de_lstG ?_
  | refine de_slL ?_
  | refine de_slT ?_
  | refine do_none ?_
  | refine do_some ?_
  | refine daf_cons ?_
  | refine daf_nil ?_
  | refine daf_star ?_
  | refine da_cons ?_
  | refine da_nil ?_
  | refine lk_dat ?_
  | refine lk_nil ?_
  | refine ak_dat ?_
  | refine ak_nil ?_
  | refine ak_at ?_
  | refine ak_lst ?_
  | refine lk_lst ?_
  | refine ak_dK ?_
  | refine ak_dT ?_
  | refine ak_vw ?_
  | refine lk_dT ?_
  | refine lk_dK ?_
  | refine da_star ?_
  | refine de_lstRg1 ?_
  | refine de_lstRg2 ?_
  | refine de_revL ?_
  | refine de_count ?_
  | refine de_index ?_
  | refine di_enum ?_
  | refine dt_tru ?_
  | refine de_fld ?_
  | refine de_prop ?_
  | refine di_rng1 ?_
  | refine di_rng2 ?_
  | refine di_list ?_
  | refine di_tup ?_
  | refine di_seq ?_
  | refine di_zip ?_
  | refine de_split ?_
  | refine de_join ?_
  | refine de_fmt ?_
  | refine de_jnil ?_
  | refine de_jcons ?_
  | refine de_ixS ?_
  | refine de_orT ?_
  | refine di_str ?_
  | refine ops_eqS ?_
  | refine ops_neS ?_
  | refine de_indexD ?_
  | refine ops_int ?_
  | (refine ops_cat (by with_unfolding_all rfl) (by with_unfolding_all rfl) ?side ?_; (case side => walk_at "len"))
  | (refine ops_catA ?side ?_; (case side => walk_at "len"))
  | refine ops_eqI ?_
  | refine ops_neI ?_
  | refine ops_bool ?_
  | (refine ops_intC ?side ?_; (case side => walk_at "side"))
  | refine cb_lenL (by with_unfolding_all rfl) ?_
  | refine cb_lenT (by with_unfolding_all rfl) ?_
  | refine cb_lenK (by with_unfolding_all rfl) ?_
  | refine cb_max2 ?_
  | refine cb_min2 ?_
  | refine cb_int ?_
  | refine ⟨fun _ => ?_, fun z => Bool.noConfusion z⟩
  | refine ⟨fun z => Bool.noConfusion z, fun _ => ?_⟩
  | refine ⟨rfl, ?_⟩
  | refine ⟨_, rfl, ?_⟩
  | refine ⟨_, Or.inl (by with_unfolding_all rfl), ?_⟩
  | (with_unfolding_all refine ⟨_, true, rfl, rfl, (fun _ z => by cases z), rfl, ?_⟩)
  | (with_unfolding_all refine ⟨_, false, rfl, rfl, (fun _ z => by cases z), rfl, ?_⟩))
local macro_rules | `(tactic| walk_at "d") => `(tactic| repeat walk_at "d1")
local macro_rules | `(tactic| walk_at "wk") => `(tactic| repeat first | exact Wk.nil | refine Wk.keep ?_ | refine Wk.drop ?_)
section
variable {P : Program} {w : World} {K : PySem.W.Frag} {mg : Str → Option Value} {base : Heap} {f : Addr} {fd : FuncData} {a_Table a_BadText : Addr}
theorem put_rw (r : Rw) (k : List Nat) (n : Nat) : PutS (.dT (rT r)) (tD k) (.int (n : Nat)) (.dT (rT (rput r k n))) := by
  have := PutS.t (ds := rT r) (keyN k) (.int (n : Nat))
  rw [keyN_D, rT_put] at this
  exact this
theorem at6 {x : Nat} (h : x < 6) : ∃ v : Nat, atI [D.int 1, D.int 2, D.int 7, D.int 10, D.int 304, D.int (10 ^ Int.toNat 28)] (x : Int) = some (.int (v : Nat)) ∧ v < 10 ^ 30 := by
  match x, h with
  | 0, _ => exact ⟨1, rfl, by decide⟩
  | 1, _ => exact ⟨2, rfl, by decide⟩
  | 2, _ => exact ⟨7, rfl, by decide⟩
  | 3, _ => exact ⟨10, rfl, by decide⟩
  | 4, _ => exact ⟨304, rfl, by decide⟩
  | 5, _ => exact ⟨10 ^ 28, rfl, by decide⟩
theorem rput_lt {r : Rw} {k : List Nat} {n : Nat} {B : Nat} (h : ∀ q ∈ r, q.2 < B) (hn : n < B) : ∀ q ∈ rput r k n, q.2 < B := fun q hq => by
  unfold rput at hq
  split at hq
  · obtain ⟨p, hp, rfl⟩ := List.mem_map.mp hq
    split
    · exact hn
    · exact h p hp
  · rcases List.mem_append.mp hq with hq | hq
    · exact h q hq
    · rw [List.mem_singleton] at hq
      subst hq
      exact hn
def C_law_drawn : Fc := fun _ W m ss Φ Ξ => ∃ (p : Addr) (L : Src W p) (sz : List Nat) (gs : List (Nat × Nat)) (n : Nat), ss = [.at_ p, .dat (.lst (dN sz)), .dat (.dic (gD gs)), .dat (.int (n : Nat))] ∧ Good sz gs ∧ 1 ≤ (AK sz gs).length ∧ n ≤ 130 ∧ 7 * n ≤ L.left m ∧ ∀ (rows : List Rw) m', rows.length = n → (∀ r ∈ rows, RwOk (AK sz gs) r ∧ ∀ q ∈ r, q.2 < 10 ^ 30) → L.left m ≤ L.left m' + 7 * n → Φ m' (.own (.lst (rows.map rD)))
abbrev s_law_drawn : Stmt := (top 55)
abbrev N_law_drawn : List Str := ["_law_source_here", "_law_sizes", "_law_games", "_law_many", "_law_kinds_here", "_law_rounds", "_law_k", "_law_row", "_law_j"]
theorem sc_law_drawn : FnScope N_law_drawn ["_law_source_here", "_law_sizes", "_law_games", "_law_many"] (defScope s_law_drawn) := ⟨rfl, rfl, rfl, by decide +kernel, rfl, by decide +kernel, by decide +kernel⟩
theorem ok_law_drawn (F : FnP K "_law_drawn" s_law_drawn f fd) (b : BI mg) (c_law_kinds : Cl P w K mg base CX0 2 "_law_kinds" ["_law_sizes", "_law_games"] C_law_kinds) (c_law_draw : Cl P w K mg base CX0 1 "_law_draw" ["_law_source_here", "_law_limit"] C_law_draw) : FnOk P w K mg base CX0 3 f fd ["_law_source_here", "_law_sizes", "_law_games", "_law_many"] (spF K C_law_drawn) := by
  have hlen := spF_len (K := K) (C := C_law_drawn) (m := 4) fun κ W m ss Φ Ξ ⟨p, L, sz, gs, n, e, _⟩ => by first | exact e | (rw [e]; rfl)
  refine F.ok sc_law_drawn hlen ?_
  intro cdv A outer s H vs Q E hr h
  refine ⟨_, PSs.nox (pss_cons (ps_set (i := 4) sc_law_drawn.nd rfl (by first | exact Or.inl rfl | exact Or.inr rfl) (k_cl0 c_law_kinds rfl hr (pa_cons (pv 1) (pa_cons (pv 2) pa_nil))))
      (pss_cons (ps_set (i := 5) sc_law_drawn.nd rfl (by first | exact Or.inl rfl | exact Or.inr rfl) (pe_lst pa_nil))
      (pss_cons (ps_for PassesOwn.never rfl (pi_range1 rfl b.range (pa_cons (pv 3) pa_nil)) (pg_name (i := 6) sc_law_drawn.nd rfl (by first | exact Or.inl rfl | exact Or.inr rfl))
      (pss_cons (ps_set (i := 7) sc_law_drawn.nd rfl (by first | exact Or.inl rfl | exact Or.inr rfl) pe_dnewT)
      (pss_cons (ps_for PassesOwn.never rfl (pi_range1 rfl b.range (pa_cons (k_cl0 c_law_draw rfl hr (pa_cons (pv 0) (pa_cons pe_int pa_nil))) pa_nil)) (pg_name (i := 8) sc_law_drawn.nd rfl (by first | exact Or.inl rfl | exact Or.inr rfl))
      (pss_one (ps_dput (hu_of hr) (pv 7) (pe_ix (k_ixL (K := K) rfl) (pv 4) (k_cl0 c_law_draw rfl hr (pa_cons (pv 0) (pa_cons (pe_callB (k_len (K := K) rfl) rfl b.len boot_len (pa_cons (pv 4) pa_nil)) pa_nil))) (fun _ _ => rfl)) (pe_ix (k_ixL (K := K) rfl) (pe_lst (pa_cons pe_int (pa_cons pe_int (pa_cons pe_int (pa_cons pe_int (pa_cons pe_int (pa_cons (pe_op op_pow pe_int pe_int) pa_nil))))))) (k_cl0 c_law_draw rfl hr (pa_cons (pv 0) (pa_cons pe_int pa_nil))) (fun _ _ => rfl)) rfl)))
      (pss_one (ps_expr (k_app (K := K) rfl (pv 5) (pa_cons (pv 7) pa_nil)))))))
      (pss_one (ps_ret (pv 5)))))), ?_⟩
  refine DL.run_fnP  [.no, .no, .no, .no, .no] (Nm := N_law_drawn) (n := 4) (k := 5) rfl (hlen _ _ _ _ h) rfl h fun κ W m ss Φ Ξ G hc => ?_
  try dsimp only [cxOf, Cx.nox, Cx.wish, Cx.blk]
  obtain ⟨p, L, sz, gs, n, rfl, hgd, al1, hn, hl, hΦ⟩ := hc
  have al := AK_len (sz := sz) (gs := gs) hgd.1.2.2 hgd.2.1.l2
  walk_at "d"
  refine ⟨sz, gs, rfl, hgd, ?_⟩
  refine ⟨rfl, ds_frz (i := 4) rfl ?_⟩
  dsimp only [O.frz, O1.frz, List.set_cons_zero, List.set_cons_succ]
  generalize AK sz gs = ks at *
  walk_at "d"
  refine ds_forW (vs := [6]) ?_
  walk_at "d"
  refine ⟨by omega, by omega, fun i m' ρ => ∃ rows : List Rw, ρ = [.at_ p, .dat (.lst (dN sz)), .dat (.dic (gD gs)), .dat (.int (n : Nat)), .dat (.lst (ks.map tD)), .own (.lst (rows.map rD)), .no, .no, .no] ∧ rows.length = i ∧ (∀ r ∈ rows, RwOk ks r ∧ ∀ q ∈ r, q.2 < 10 ^ 30) ∧ L.left m ≤ L.left m' + 7 * i, ⟨_, Wk.refl _, rfl, [], rfl, rfl, by simp, by omega⟩, ?_, ?_⟩
  · rintro i d m' ρ hd ⟨rows, rfl, q1, q2, q3⟩
    obtain ⟨hi, rfl⟩ := rng_at hd
    have hi : i < n := by omega
    refine ⟨_, dg_name (by simp), ?_⟩
    walk_at "d"
    refine ds_forW (vs := [8]) ?_
    walk_at "d"
    refine ⟨p, L, 4, rfl, by decide, by decide, by omega, fun x hx => ?_⟩
    have l3 := L.less m' (by omega)
    generalize L.dec m' = mb at *
    walk_at "d"
    refine ⟨by omega, by omega, fun j m2 ρ => ∃ r : Rw, ρ = [.at_ p, .dat (.lst (dN sz)), .dat (.dic (gD gs)), .dat (.int (n : Nat)), .dat (.lst (ks.map tD)), .own (.lst (rows.map rD)), .no, .own (.dT (rT r)), .no] ∧ RwOk ks r ∧ (∀ q ∈ r, q.2 < 10 ^ 30) ∧ L.left mb ≤ L.left m2 + 2 * j, ⟨_, by walk_at "wk", rfl, [], rfl, RwOk.nil _, by simp, by omega⟩, ?_, ?_⟩
    · rintro j d m2 ρ hd ⟨r, rfl, p1, pb, p2⟩
      obtain ⟨hj, rfl⟩ := rng_at hd
      have hj : j < x := by omega
      refine ⟨_, dg_name (by simp), ?_⟩
      refine ds_dput (i := 7) rfl (by
          have h1 := nodup_len p1.nd p1.sub
          rw [List.length_map] at h1
          show (rT r).length < 1000000
          rw [rT_len]
          omega) ?_
      walk_at "d"
      refine ⟨p, L, 6, rfl, by decide, by decide, by omega, fun y hy => ?_⟩
      have l4 := L.less m2 (by omega)
      generalize L.dec m2 = mc at *
      obtain ⟨v, hv, hvb⟩ := at6 hy
      refine ops_ixL rfl hv ?_
      walk_at "d"
      refine ⟨p, L, ks.length, by rw [List.length_map], by omega, by omega, by omega, fun z hz => ?_⟩
      have l5 := L.less mc (by omega)
      generalize L.dec mc = md at *
      obtain ⟨k, hk⟩ : ∃ k, ks[z]? = some k := ⟨_, List.getElem?_eq_getElem hz⟩
      have hmem := List.mem_of_getElem? hk
      refine ops_ixL rfl (atI_row (i := z) (by rw [List.getElem?_map, hk]; rfl)) ?_
      walk_at "d"
      refine ⟨_, _, _, rfl, rfl, put_rw r k v, ?_⟩
      dsimp only [List.set_cons_zero, List.set_cons_succ]
      exact ⟨_, by walk_at "wk", rfl, rput r k v, rfl, p1.put hmem v, rput_lt pb hvb, by omega⟩
    · rintro m2 ρ ⟨r, rfl, p1, pb, p2⟩
      rw [rng_len] at p2
      refine ds_frz (i := 7) rfl ?_
      dsimp only [List.set_cons_zero, List.set_cons_succ]
      refine ds_app (i := 5) rfl (by rw [List.length_map]; omega) ?_
      walk_at "d"
      dsimp only [List.set_cons_zero, List.set_cons_succ]
      have ea : rows.map rD ++ [(O.dT (rT r)).frz] = (rows ++ [r]).map rD := by
        rw [List.map_append]
        rfl
      rw [ea]
      refine ⟨_, by walk_at "wk", rfl, rows ++ [r], rfl, by rw [List.length_append, q1]; rfl, fun q hq => ?_, by omega⟩
      rcases List.mem_append.mp hq with h | h
      · exact q2 q h
      · rw [List.mem_singleton] at h
        subst h
        exact ⟨p1, pb⟩
  · rintro m' ρ ⟨rows, rfl, q1, q2, q3⟩
    rw [rng_len, Int.toNat_natCast] at q1 q3
    exact ds_retVar rfl (hΦ rows m' q1 q2 q3)
end
end Pf
set_option Elab.async false
set_option linter.all false
set_option maxRecDepth 100000
set_option maxHeartbeats 1000000
namespace DL
open PySem PySem.Spec PyProof.Rows L2 Evl
/-! ### a new source beside other things of one's own -/
section
variable {ι : Type} {c : Cc ι} {ρ : List S} {m : ι} {t : TS} {N B C : ι → List S → Prop} {R : ι → S → Prop}
abbrev srcC2 (c : Cc ι) (ms : Nat) (p : Addr) (u : HO) : Cc (ι × Nat) := ⟨c.K, srcW c.W p, c.E, fun mm => c.Ξ mm.1, (c.m0, ms), c.G0, upd c.H0 p u⟩
theorem relS_src2 {κ : Type} {K : PySem.W.Frag} {Vd : Wd κ} {p : Addr} {u : HO} {H0 G H : Hp} {v : V} {s : S} (h0 : H0 p = none) (hp : H p = some u) (nx : ∀ fv, u ≠ .xd fv) (hs : ∀ o q, (s = .own o ∨ s = .vw o) → v = .ref q → ∀ a, Ads H q o a → a ≠ p) (r : RelS K Vd H0 G H v s) : RelS K (srcW Vd p) (upd H0 p u) G H v s := by
  cases s with
  | no => trivial
  | el _ _ => trivial
  | dat d => exact r
  | at_ q => exact r
  | lk o => exact r
  | own o =>
    obtain ⟨q, e, ob⟩ := r
    refine ⟨q, e, ob.monoA (Ex.refl _) fun a ha => ⟨rfl, ?_, (ob.ads ha).1.2.1, fun z => ?_⟩⟩
    · rw [upd_ne (hs o q (.inl rfl) e a ha)]; exact (ob.ads ha).1.1
    · rcases z with z | z
      · exact (ob.ads ha).1.2.2 z
      · exact hs o q (.inl rfl) e a ha z
  | vw o =>
    obtain ⟨q, e, ob⟩ := r
    refine ⟨q, e, ob.monoA (Ex.refl _) fun a ha => ⟨rfl, (ob.ads ha).1.1, fun z => ?_⟩⟩
    rcases z with z | z
    · exact (ob.ads ha).1.2 z
    · exact hs o q (.inr rfl) e a ha z
  | xc C a d fs =>
    obtain ⟨e, b, n, fv, h, r⟩ := r
    refine ⟨e, b, fun z => ?_, fv, h, r⟩
    rcases z with z | rfl
    · exact n z
    · rw [hp] at h
      exact nx fv (Option.some.inj h)
theorem ds_srcK {i : Nat} {a b n : Int} (ms : Nat) (hi : ρ[i]? = some (.own (.lst [.int a, .int b, .int n]))) (hn : 0 ≤ n ∧ n + (ms : Int) ≤ 1048576) (ne : noEl i ρ = true)
    (h : ∀ p u, ¬ c.W.M p → Ds (srcC2 c ms p u) (m, ms) t (ρ.set i (.at_ p)) (fun mm ρ' => noEl i ρ' = true ∧ noVw ρ' = true ∧ N mm.1 (ρ'.set i .no)) (fun mm s => R mm.1 s) (fun mm ρ' => noEl i ρ' = true ∧ noVw ρ' = true ∧ B mm.1 (ρ'.set i .no)) (fun mm ρ' => noEl i ρ' = true ∧ noVw ρ' = true ∧ C mm.1 (ρ'.set i .no))) :
    Ds c m t ρ N R B C := fun D σ G H e k1 k2 k3 k4 => by
  obtain ⟨p, hv, f, xs, hp, rx⟩ := e.own hi
  have ex : xs = [.int a, .int b, .int n] := by
    cases rx with
    | cons r1 rx =>
      cases rx with
      | cons r2 rx =>
        cases rx with
        | cons r3 rx => cases rx; cases r1; cases r2; cases r3; rfl
  subst ex
  generalize hu : HO.lst [V.int a, V.int b, V.int n] = u at hp
  have nx : ∀ fv, u ≠ .xd fv := fun fv z => by rw [← hu] at z; cases z
  have g0p : c.G0 p = none := by
    cases z : c.G0 p with
    | none => rfl
    | some o => have := e.gr.ex p o z; rw [f.2.1] at this; cases this
  have h0p : c.H0 p = none := f.1
  have up : ∀ x o, c.H0 x = some o → upd c.H0 p u x = some o := fun x o hx => by rw [upd_ne (ne_of_none hx h0p)]; exact hx
  have ok0' : Ok (srcW c.W p) (c.m0, ms) c.G0 (upd c.H0 p u) := by
    refine ⟨fun x o hx => ?_, ⟨c.W.dep _ _ _ _ _ (Ex.refl _) (fun y hy => upd_ne fun z => f.2.2 (by rw [← z]; exact hy)) e.ok0.inv, a, b, n, by rw [upd_same, hu], hn.1, hn.2⟩, fun x hx => ?_, e.ok0.lk⟩
    · exact up x o (e.ok0.ex x o hx)
    · rcases hx with hx | rfl
      · exact e.ok0.off x hx
      · exact g0p
  have back0 : ∀ {m' : ι × Nat} {G' H' : Hp}, Grow (srcW c.W p) c.G0 (upd c.H0 p u) m' G' H' → Grow c.W c.G0 c.H0 m'.1 G' H' := fun {m' G' H'} g =>
    ⟨g.ex, g.sub, fun x o hx t hg => g.fresh x o (up x o hx) t hg, fun x o hm hx => g.keep x o (fun z => by
      rcases z with z | rfl
      · exact hm z
      · rw [h0p] at hx; cases hx) (up x o hx), g.inv.1, g.lk⟩
  have gr' : Grow (srcW c.W p) c.G0 (upd c.H0 p u) (m, ms) G H := by
    refine ⟨e.gr.ex, e.gr.sub, fun x o hx t hg => ?_, fun x o hm hx => ?_, ⟨e.gr.inv, a, b, n, by rw [hp, hu], hn.1, hn.2⟩, e.gr.lk⟩
    · by_cases z : x = p
      · subst z; exact f.2.1
      · rw [upd_ne z] at hx
        exact e.gr.fresh x o hx t hg
    · have z : x ≠ p := fun z => hm (.inr z)
      rw [upd_ne z] at hx
      exact e.gr.keep x o (fun y => hm (.inl y)) hx
  have hb : ∀ x, upd c.H0 p u x = none → c.H0 x = none := fun x hx => by
    by_cases z : x = p
    · subst z; exact h0p
    · rw [upd_ne z] at hx; exact hx
  have e' : EnvOk (srcC2 c ms p u) (m, ms) G H σ (ρ.set i (.at_ p)) := by
    refine ⟨ok0', gr', fun C d fv fs m' G' H' g nd md hd hk hr hx => e.exc C d fv fs m'.1 G' H' (back0 g) nd (fun z => md (.inl z)) hd hk hr hx, by rw [List.length_set]; exact e.len, fun j s hs9 => ?_, fun j k o o' q q' hjk hj hk => ?_, fun k a j hk => ?_, fun k o q hk hq x hx => ?_⟩
    · rcases set_get hs9 with ⟨rfl, rfl, _⟩ | ⟨hj, hs⟩
      · exact .inr ⟨_, hv, rfl⟩
      · have hs2 := hs
        clear hs
        rcases e.at_ j s hs2 with z | ⟨w, aw, rw'⟩
        · exact .inl z
        · refine .inr ⟨w, aw, relS_src2 h0p hp nx (fun o q ho hq x hx => ?_) rw'⟩
          subst hq
          rcases ho with rfl | rfl
          · intro z
            subst z
            exact e.sep i j _ o x q hj hi hs2 hv aw x rfl hx
          · intro z
            subst z
            exact e.vws j o q hs2 aw x hx h0p
    · rcases set_get hj with ⟨_, z, _⟩ | ⟨_, hj⟩
      · cases z
      · rcases set_get hk with ⟨_, z, _⟩ | ⟨_, hk⟩
        · cases z
        · exact e.sep j k o o' q q' hjk hj hk
    · rcases set_get hk with ⟨_, z, _⟩ | ⟨_, hk⟩
      · cases z
      · obtain ⟨its, q, vs, q2, o, h1, h2, h3, h4, h5⟩ := e.els k a j hk
        have hia : i ≠ a := (noEl_ok ne hk).symm
        exact ⟨its, q, vs, q2, o, by rw [List.getElem?_set_ne hia]; exact h1, h2, h3, h4, h5⟩
    · rcases set_get hk with ⟨_, z, _⟩ | ⟨_, hk⟩
      · cases z
      · have h1 := e.vws k o q hk hq x hx
        have z : x ≠ p := fun z => h1 (by rw [z]; exact h0p)
        show upd c.H0 p u x ≠ none
        rw [upd_ne z]; exact h1
  have envb : ∀ {m' : ι × Nat} {G' H' : Hp} {σ' : L2.St} {ρ' : List S}, noEl i ρ' = true → noVw ρ' = true → EnvOk (srcC2 c ms p u) m' G' H' σ' ρ' → EnvOk c m'.1 G' H' σ' (ρ'.set i .no) := fun {m' G' H' σ' ρ'} hne hnv f1 => by
    have f2 : EnvOk c m'.1 G' H' σ' ρ' := ⟨e.ok0, back0 f1.gr, e.exc, f1.len, fun j s hs => (f1.at_ j s hs).imp_right fun ⟨w, aw, r⟩ => ⟨w, aw, relS_srcBack hb r⟩, f1.sep, f1.els, fun k o q hk => absurd hk (noVw_ok hnv k o)⟩
    have f3 := f2.unset (i := i) ((σ'[i]?).getD none) hne
    have es : σ'.set i ((σ'[i]?).getD none) = σ' := by
      apply List.ext_getElem?
      intro j
      by_cases hj : i = j
      · subst hj
        rw [List.getElem?_set]
        simp only [if_true]
        split
        · rename_i hl
          rw [List.getElem?_eq_getElem hl]
          rfl
        · rename_i hl
          rw [List.getElem?_eq_none (by omega)]
      · rw [List.getElem?_set_ne hj]
    rw [es] at f3
    exact f3
  exact h p u f.2.2 D σ G H e' (fun ρ' σ' m' G' H' ⟨h1, h2, nn⟩ x f => k1 _ σ' m'.1 G' H' nn x (envb h1 h2 f)) (fun s v m' G' H' r x g rr => k2 s v m'.1 G' H' r x (back0 g) (relS_srcBack hb rr)) (fun ρ' σ' m' G' H' ⟨h1, h2, nn⟩ x f => k3 _ σ' m'.1 G' H' nn x (envb h1 h2 f)) (fun ρ' σ' m' G' H' ⟨h1, h2, nn⟩ x f => k4 _ σ' m'.1 G' H' nn x (envb h1 h2 f))
end
end DL
set_option Elab.async false
set_option linter.all false
set_option maxRecDepth 100000
set_option maxHeartbeats 1000000
namespace Pf
open PySem PySem.Spec PyProof.Rows L2 DL
local macro_rules | `(tactic| walk_at "len") => `(tactic| with_unfolding_all first | exact Nat.le_of_ble_eq_true rfl | (simp; done) | (simp; omega))
local macro_rules | `(tactic| walk_at "side") => `(tactic| with_unfolding_all first | exact Or.inr ⟨by omega, by omega⟩ | exact Or.inl ⟨by omega, by omega⟩ | exact ⟨by omega, by omega⟩ | exact ⟨by omega, by omega, by omega⟩ | (show (0 : Int) < _; omega) | decide)
local macro_rules | `(tactic| walk_at "d1") => `(tactic| with_reducible first
  | (refine ds_seq ?_; try dsimp only [List.set_cons_zero, List.set_cons_succ, List.cons_append, List.nil_append, O.frz])
  | refine ds_asg ?_
  | refine ds_ret ?_
  | refine ds_retN ?_
  | refine ds_next ?_
  | refine ds_dropC ?_
  | refine ds_drop0 ?_
  | refine ds_dropB ?_
  | refine ds_if ?_
  | refine dt_test ?_
  | refine dt_B ?_
  | refine dt_not ?_
  | refine dt_and ?_
  | refine dt_or ?_
  | refine dt_yes ?_
  | refine de_int ?_
  | refine de_bl ?_
  | refine de_str ?_
  | refine de_non ?_
  | refine de_varD (by with_unfolding_all rfl) ?_
  | refine de_varO (by with_unfolding_all rfl) ?_
  | refine de_varA (by with_unfolding_all rfl) ?_
  | refine de_varV (by with_unfolding_all rfl) ?_
  | refine de_isi ?_
  | refine de_dget ?_
  | refine de_dget2 ?_
  | refine de_dnotin ?_
  | refine de_din ?_
  | refine de_dnew ?_
  | refine de_dnewT ?_
  | refine de_cb ?_
  | refine de_call0G ?_
  | refine de_callG ?_
  | refine de_andB ?_
  | refine de_orB ?_
  | refine de_notV ?_
  | refine de_ifE ?_
  | refine de_chain ?_
  | refine de_op ?_
  | refine de_neg ?_
  | refine de_tupG ?_
  | refine de_lstG ?_
  | refine de_slL ?_
  | refine de_slT ?_
  | refine do_none ?_
  | refine do_some ?_
  | refine daf_cons ?_
  | refine daf_nil ?_
  | refine daf_star ?_
  | refine da_cons ?_
  | refine da_nil ?_
  | refine lk_dat ?_
  | refine lk_nil ?_
  | refine ak_dat ?_
  | refine ak_nil ?_
  | refine ak_at ?_
  | refine ak_lst ?_
  | refine lk_lst ?_
  | refine ak_dK ?_
  | refine ak_dT ?_
  | refine ak_vw ?_
  | refine lk_dT ?_
  | refine lk_dK ?_
  | refine da_star ?_
  | refine de_lstRg1 ?_
  | refine de_lstRg2 ?_
  | refine de_revL ?_
  | refine de_count ?_
  | refine de_index ?_
  | refine di_enum ?_
  | refine dt_tru ?_
  | refine de_fld ?_
  | refine de_prop ?_
  | refine di_rng1 ?_
  | refine di_rng2 ?_
  | refine di_list ?_
  | refine di_tup ?_
  | refine di_seq ?_
  | refine di_zip ?_
  | refine de_split ?_
  | refine de_join ?_
  | refine de_fmt ?_
  | refine de_jnil ?_
  | refine de_jcons ?_
  | refine de_ixS ?_
  | refine de_orT ?_
  | refine di_str ?_
  | refine ops_eqS ?_
  | refine ops_neS ?_
  | refine de_indexD ?_
  | refine ops_int ?_
  | (refine ops_cat (by with_unfolding_all rfl) (by with_unfolding_all rfl) ?side ?_; (case side => walk_at "len"))
  | (refine ops_catA ?side ?_; (case side => walk_at "len"))
  | refine ops_eqI ?_
  | refine ops_neI ?_
  | refine ops_bool ?_
  | (refine ops_intC ?side ?_; (case side => walk_at "side"))
  | refine cb_lenL (by with_unfolding_all rfl) ?_
  | refine cb_lenT (by with_unfolding_all rfl) ?_
  | refine cb_lenK (by with_unfolding_all rfl) ?_
  | refine cb_max2 ?_
  | refine cb_min2 ?_
  | refine cb_int ?_
  | refine ⟨fun _ => ?_, fun z => Bool.noConfusion z⟩
  | refine ⟨fun z => Bool.noConfusion z, fun _ => ?_⟩
  | refine ⟨rfl, ?_⟩
  | refine ⟨_, rfl, ?_⟩
  | refine ⟨_, Or.inl (by with_unfolding_all rfl), ?_⟩
  | (with_unfolding_all refine ⟨_, true, rfl, rfl, (fun _ z => by cases z), rfl, ?_⟩)
  | (with_unfolding_all refine ⟨_, false, rfl, rfl, (fun _ z => by cases z), rfl, ?_⟩))
local macro_rules | `(tactic| walk_at "d") => `(tactic| repeat walk_at "d1")
local macro_rules | `(tactic| walk_at "wk") => `(tactic| repeat first | exact Wk.nil | refine Wk.keep ?_ | refine Wk.drop ?_)
section
variable {P : Program} {w : World} {K : PySem.W.Frag} {mg : Str → Option Value} {base : Heap} {f : Addr} {fd : FuncData} {a_Table a_BadText : Addr}
abbrev TbI := List Nat × List (Nat × Nat) × List Rw
structure TbOk (t : TbI) : Prop where
  good : Good t.1 t.2.1
  asc : asc (t.2.1.map (·.1)) = true
  r1 : 1 ≤ t.2.2.length
  r2 : t.2.2.length ≤ 130
  rows : ∀ r ∈ t.2.2, RwTx (AK t.1 t.2.1) r
def tbD (C : Addr) (t : TbI) : D := .ins C (tabF t.1 t.2.1 t.2.2)
def tbT (t : TbI) : Str := tabTxt t.1 t.2.1 t.2.2
def tbP (C : Addr) (t : TbI) : D := .tup [tbD C t, .str (tbT t)]
theorem asc_srG {gs : List (Nat × Nat)} (nd : (gs.map (·.1)).Nodup) : asc ((srG gs).map (·.1)) = true := by
  rw [srG_fst, asc_iff]
  exact (List.pairwise_and_iff.mpr ⟨ks_sorted gs, ks_nodup nd⟩).imp fun ⟨a, b⟩ => by omega
theorem chS_pos : ∀ {n t : Nat}, t ≤ n → 1 ≤ KM.ch n t
  | _, 0, _ => by rw [KM.ch_zero]; exact Nat.le_refl _
  | 0, t + 1, h => by omega
  | n + 1, t + 1, h => by
    rw [KM.ch_ss]
    have := chS_pos (n := n) (t := t) (by omega)
    omega
theorem AKS_pos {sz : List Nat} {gs : List (Nat × Nat)} (hg : GGm sz.sum gs) : 1 ≤ (AK sz gs).length := by
  have h1 := dues_tot (sz := sz) hg.nd
  have h2 : 1 ≤ tot sz.sum gs := by
    have := hg.l1
    match gs, this, hg.ok with
    | (t, v) :: r, _, ok =>
      obtain ⟨o1, o2, o3, o4, o5⟩ := ok t v (by simp)
      unfold tot
      rw [List.map_cons, List.sum_cons]
      have h3 : 1 ≤ KM.ch sz.sum t := chS_pos o3
      have : 1 * 1 ≤ v * KM.ch sz.sum t := Nat.mul_le_mul o4 h3
      show 1 ≤ v * KM.ch sz.sum t + _
      omega
  rw [← h1] at h2
  cases hA : AK sz gs with
  | nil => rw [hA] at h2; simp at h2
  | cons _ _ => simp
theorem sameTbS {sz : List Nat} {gs : List (Nat × Nat)} {rows : List Rw} (h : sameG gs gs = true) : sameTb sz gs rows sz gs rows = true := by
  unfold sameTb
  rw [h, sameRows_self]
  simp
theorem nestS (rows : List Rw) : (O.nest (rows.map rI)).frz = .lst (rows.map rD) := by
  show D.lst ((rows.map rI).map DL.It.frz) = _
  rw [List.map_map]
  rfl
theorem AK_one {sz : List Nat} {gs : List (Nat × Nat)} (hgd : Good sz gs) : 1 ≤ (AK sz gs).length := by
  exact AKS_pos hgd.2.1
theorem cut_6 (ds : List D) : (DL.cutD ds none (some 6)).length ≤ 6 := by
  rw [show DL.cutD ds none (some 6) = ds.take 6 from cut_to _ 6, List.length_take]
  omega
theorem ck_tx {ks : List (List Nat)} {r : Rw} (hb : ∀ q ∈ r, q.2 < 10 ^ 30) : RwTx ks (ck ks r) := by
  refine ⟨by rw [ck_keys]; exact List.filter_sublist, fun q hq => ?_⟩
  obtain ⟨k, hk, e⟩ := List.mem_map.mp hq
  cases e
  have := (List.mem_filter.mp hk).2
  rw [decide_eq_true_eq] at this
  exact ⟨this, rn_lt hb k⟩
def C_law : Fc := fun _ W m ss Φ Ξ => ∃ ns, ss = [.dat (.scr ns)] ∧ (∀ a, ¬ W.L a) ∧ ∀ m', Φ m' (.dat (.bl true))
abbrev s_law : Stmt := (top 56)
abbrev N_law : List Str := ["_law_script", "_law_made", "_law_cell_here", "_law_source_here", "_law_many", "_law_rounds", "_law_table", "_law_text", "_law_told", "_law_sizes", "_law_games"]
theorem sc_law : FnScope N_law ["_law_script"] (defScope s_law) := ⟨rfl, rfl, rfl, by decide +kernel, rfl, by decide +kernel, by decide +kernel⟩
theorem ok_law (F : FnP K "law" s_law f fd) (b : BI mg) (g_Table : mg "Table" = some (.ref a_Table)) (kc_Table : Kc K a_Table) (c_law_source : Cl P w K mg base CX0 1 "_law_source" ["_law_cell_here"] C_law_source) (c_law_setting : Cl P w K mg base CX0 2 "_law_setting" ["_law_source_here"] C_law_setting) (c_law_draw : Cl P w K mg base CX0 1 "_law_draw" ["_law_source_here", "_law_limit"] C_law_draw) (c_law_drawn : Cl P w K mg base CX0 3 "_law_drawn" ["_law_source_here", "_law_sizes", "_law_games", "_law_many"] C_law_drawn) (c_law_table_text : Cl P w K mg base CX0 3 "_law_table_text" ["_law_sizes", "_law_games", "_law_rounds"] C_law_table_text) (c_Table___init : Mi P w K mg base (L2.CX P w) 6 a_Table "Table" ["self", "sizes", "games", "rounds"] (C_Table___init K a_Table)) (c_Table_text : Me P w K mg base CX0 2 a_Table "text" ["self"] (C_Table_text a_Table)) (c_Table_read : Cm P w K mg base (L2.CX P w) 8 a_Table "read" ["cls", "text"] (C_Table_read a_Table a_BadText)) (c_Table___eq : Oe P w K mg base 1 a_Table (C_Table___eq a_Table)) (c_Table_rounds : Pr P w K mg base CX0 1 a_Table "rounds" (C_Table_rounds a_Table)) (c_Table_sizes : Pr P w K mg base CX0 1 a_Table "sizes" (C_Table_sizes a_Table)) : FnOk P w K mg base CX0 10 f fd ["_law_script"] (spF K C_law) := by
  have hlen := spF_len (K := K) (C := C_law) (m := 1) fun κ W m ss Φ Ξ ⟨ns, e, _⟩ => by first | exact e | (rw [e]; rfl)
  refine F.ok sc_law hlen ?_
  intro cdv A outer s H vs Q E hr h
  refine ⟨_, PSs.nox (pss_cons (ps_set (i := 1) sc_law.nd rfl (by first | exact Or.inl rfl | exact Or.inr rfl) (pe_lst pa_nil))
      (pss_cons (ps_for PassesOwn.never rfl (k_piL (K := K) rfl (pe_op op_cat (pe_slice (k_slL (K := K) rfl) (pv 0) po_none (po_some pe_int)) (pe_lst (pa_cons pe_int pa_nil)))) (pg_name (i := 2) sc_law.nd rfl (by first | exact Or.inl rfl | exact Or.inr rfl))
      (pss_cons (ps_set (i := 3) sc_law.nd rfl (by first | exact Or.inl rfl | exact Or.inr rfl) (k_cl0 c_law_source rfl hr (pa_cons (pv 2) pa_nil)))
      (pss_cons (ps_asg (k_cl0 c_law_setting rfl hr (pa_cons (pv 3) pa_nil)) (k_gTup (K := K) (n := 2) rfl rfl (pgs_cons (pg_name (i := 9) sc_law.nd rfl (by first | exact Or.inl rfl | exact Or.inr rfl)) (pgs_cons (pg_name (i := 10) sc_law.nd rfl (by first | exact Or.inl rfl | exact Or.inr rfl)) pgs_nil))))
      (pss_cons (ps_set (i := 4) sc_law.nd rfl (by first | exact Or.inl rfl | exact Or.inr rfl) (pe_op op_add pe_int (k_cl0 c_law_draw rfl hr (pa_cons (pv 3) (pa_cons pe_int pa_nil)))))
      (pss_cons (ps_if (pt_cmpR (k_eqD (K := K) rfl hr.units) (k_cl0 c_law_draw rfl hr (pa_cons (pv 3) (pa_cons pe_int pa_nil))) pe_int (nomark _)) (pss_one (ps_set (i := 4) sc_law.nd rfl (by first | exact Or.inl rfl | exact Or.inr rfl) pe_int)) pss_nil)
      (pss_cons (ps_set (i := 5) sc_law.nd rfl (by first | exact Or.inl rfl | exact Or.inr rfl) (k_cl0 c_law_drawn rfl hr (pa_cons (pv 3) (pa_cons (pv 9) (pa_cons (pv 10) (pa_cons (pv 4) pa_nil))))))
      (pss_one (ps_expr (k_app (K := K) rfl (pv 1) (pa_cons (pe_tup (pa_cons (k_make (E := E0) c_Table___init rfl hr passL (pa_cons (pv 9) (pa_cons (pv 10) (pa_cons (pv 5) pa_nil)))) (pa_cons (k_cl0 c_law_table_text rfl hr (pa_cons (pv 9) (pa_cons (pv 10) (pa_cons (pv 5) pa_nil)))) pa_nil))) pa_nil))))))))))
      (pss_cons (ps_for PassesOwn.never rfl (k_piL (K := K) rfl (pe_op op_cat (pv 1) (k_revL (K := K) rfl (pv 1)))) (k_gTup (K := K) (n := 2) rfl rfl (pgs_cons (pg_name (i := 6) sc_law.nd rfl (by first | exact Or.inl rfl | exact Or.inr rfl)) (pgs_cons (pg_name (i := 7) sc_law.nd rfl (by first | exact Or.inl rfl | exact Or.inr rfl)) pgs_nil)))
      (pss_cons (ps_if (pt_cmpR op_ne (k_meth0 c_Table_text rfl hr pass0 (pv 6)) (pv 7) (nomark _)) (pss_one (ps_ret pe_bl)) pss_nil)
      (pss_cons (ps_set (i := 8) sc_law.nd rfl (by first | exact Or.inl rfl | exact Or.inr rfl) (k_cm (E := E0) c_Table_read rfl hr passL (pe_glob (v := .ref a_Table) rfl g_Table rfl) (pa_cons (pv 7) pa_nil)))
      (pss_one (ps_if (PW.pt (pw_or (pt_cmpR (k_neI c_Table___eq rfl hr) (pv 8) (pv 6) (nomark _)) (pw_or (pt_cmpR op_ne (k_meth0 c_Table_text rfl hr pass0 (pv 8)) (pv 7) (nomark _)) (pw_or (pt_cmpR (k_neVK (K := K) rfl hr.units) (k_prop c_Table_rounds rfl hr (pv 8)) (k_prop c_Table_rounds rfl hr (pv 6)) (nomark _)) (pw_or1 (pt_cmpR (k_neD (K := K) rfl hr.units) (k_prop c_Table_sizes rfl hr (pv 8)) (k_prop c_Table_sizes rfl hr (pv 6)) (nomark _))))))) (pss_one (ps_ret pe_bl)) pss_nil)))))
      (pss_one (ps_ret pe_bl))))), ?_⟩
  refine DL.run_fnP  [.no, .no, .no, .no, .no, .no, .no, .no, .no, .no] (Nm := N_law) (n := 1) (k := 10) rfl (hlen _ _ _ _ h) rfl h fun κ W m ss Φ Ξ G hc => ?_
  try dsimp only [cxOf, Cx.nox, Cx.wish, Cx.blk]
  obtain ⟨ns, rfl, hL, hΦ⟩ := hc
  walk_at "d"
  refine ds_forW (vs := [2]) ?_
  walk_at "d"
  refine ops_cat rfl rfl (by have := cut_6 (ns.map D.int); show _ + 1 ≤ _; omega) ?_
  refine ⟨_, rfl, fun i m' ρ => ∃ l : List TbI, ρ = [.dat (.scr ns), .own (.lst (l.map (tbP a_Table))), .no, .no, .no, .no, .no, .no, .no, .no, .no] ∧ l.length = i ∧ ∀ t ∈ l, TbOk t, ⟨_, Wk.refl _, rfl, [], rfl, rfl, by simp⟩, ?_, ?_⟩
  · rintro i d m1 ρ hd ⟨l, rfl, hl, hok⟩
    have hi : i < 7 := by
      have := (List.getElem?_eq_some_iff.mp hd).1
      rw [List.length_append] at this
      have h6 := cut_6 (ns.map D.int)
      have : i < (DL.cutD (ns.map D.int) none (some 6)).length + 1 := this
      omega
    obtain ⟨y, rfl⟩ : ∃ y, d = .int y := by
      rcases List.mem_append.mp (List.mem_of_getElem? hd) with h | h
      · have h2 : d ∈ ns.map D.int := List.mem_of_mem_drop (List.mem_of_mem_take h)
        obtain ⟨y, _, rfl⟩ := List.mem_map.mp h2
        exact ⟨y, rfl⟩
      · exact ⟨0, by simpa using h⟩
    refine ⟨_, dg_name (by simp), ?_⟩
    walk_at "d"
    refine ⟨y, rfl, ?_⟩
    refine ⟨rfl, ?_⟩
    refine ds_srcK (i := 3) 1000 rfl ⟨by decide, by decide⟩ rfl fun p u0 np => ?_
    dsimp only [List.set_cons_zero, List.set_cons_succ]
    refine ds_seq ?_
    refine ds_asgU (vs := [9, 10]) ?_
    walk_at "d"
    refine ⟨p, srcL np, rfl, by show 20 ≤ 1000; decide, hL, fun sz gs m2 hgd h9 hl2 => ⟨_, _, rfl, dg_tup2 (by simp) (by simp), ?_⟩⟩
    have hl2 : 1000 ≤ m2.2 + 20 := hl2
    have hz := hgd.1
    have hg := hgd.2.1
    have nd := AK_nodup (sz := sz) hg.nd
    walk_at "d"
    refine ⟨p, srcL np, 8, rfl, by decide, by decide, by show 0 < m2.2; omega, fun k0 hk0 => ?_⟩
    have hl3 : 979 ≤ ((srcL np).dec m2).2 := by show 979 ≤ m2.2 - 1; omega
    generalize (srcL np).dec m2 = m3 at *
    refine ops_int ?_
    refine ⟨rfl, ?_⟩
    dsimp only [List.set_cons_zero, List.set_cons_succ]
    refine ds_cut (fun (m : κ × Nat) ρ => ∃ n : Nat, ρ = [.dat (.scr ns), .own (.lst (l.map (tbP a_Table))), .no, .at_ p, .dat (.int (n : Nat)), .no, .no, .no, .no, .dat (.lst (dN sz)), .dat (.dic (gD gs))] ∧ 1 ≤ n ∧ n ≤ 130 ∧ 978 ≤ m.2) ?_ ?_
    · walk_at "d"
      refine ⟨p, srcL np, 9, rfl, by decide, by decide, by show 0 < m3.2; omega, fun k1 hk1 => ?_⟩
      have hl4 : 978 ≤ ((srcL np).dec m3).2 := by show 978 ≤ m3.2 - 1; omega
      generalize (srcL np).dec m3 = m4 at *
      walk_at "d"
      refine ⟨fun _ => ?_, fun _ => ?_⟩
      · walk_at "d"
        exact ⟨_, by walk_at "wk", rfl, 130, rfl, by omega, by omega, hl4⟩
      · walk_at "d"
        rw [show (1 : Int) + (k0 : Nat) = ((1 + k0 : Nat) : Int) by omega]
        exact ⟨_, by walk_at "wk", rfl, 1 + k0, rfl, by omega, by omega, hl4⟩
    rintro m5 ρ ⟨n, rfl, hn1, hn2, hl5⟩
    walk_at "d"
    refine ⟨p, srcL np, sz, gs, n, rfl, hgd, AK_one hgd, hn2, by show 7 * n ≤ m5.2; omega, fun rows m6 q1 q2 q3 => ?_⟩
    refine ⟨rfl, ds_frz (i := 5) rfl ?_⟩
    dsimp only [O.frz, O1.frz, List.set_cons_zero, List.set_cons_succ]
    refine ds_app (i := 1) rfl (by rw [List.length_map]; omega) ?_
    refine de_tupG (daf_cons (de_make hE_0 ?_))
    walk_at "d"
    refine fun a dx na => ⟨a, insL na, sz, gs, rows, _, _, _, rfl, .l, rfl, hgd, by omega, by omega, fun r hr => (q2 r hr).1, ?_⟩
    refine ⟨rfl, ?_⟩
    walk_at "d"
    refine ⟨sz, gs, rows, rfl, hgd, by omega, q2, hL, ?_⟩
    walk_at "d"
    dsimp only [List.set_cons_zero, List.set_cons_succ]
    have ht : TbOk (sz, srG gs, rows.map (ck (AK sz gs))) := by
      refine ⟨srG_good hgd, asc_srG hg.nd, by rw [List.length_map]; omega, by rw [List.length_map]; omega, fun r hr => ?_⟩
      show RwTx (AK sz (srG gs)) r
      rw [AK_srG]
      obtain ⟨q, hq, rfl⟩ := List.mem_map.mp hr
      exact ck_tx (q2 q hq).2
    rw [show l.map (tbP a_Table) ++ [D.tup [D.ins a_Table ((insL na).put (m6, []) (tabF sz (srG gs) (rows.map (ck (AK sz gs))))).2, D.str (tabTxt sz (srG gs) (rows.map (ck (AK sz gs))))]] = (l ++ [(sz, srG gs, rows.map (ck (AK sz gs)))]).map (tbP a_Table) by rw [List.map_append]; rfl]
    refine ⟨_, by walk_at "wk", rfl, l ++ [(sz, srG gs, rows.map (ck (AK sz gs)))], rfl, by rw [List.length_append, hl]; rfl, fun t htm => ?_⟩
    rcases List.mem_append.mp htm with h | h
    · exact hok t h
    · rw [List.mem_singleton] at h
      subst h
      exact ht
  · rintro m' ρ ⟨l, rfl, hl, hok⟩
    have hl7 : l.length ≤ 7 := by
      rw [hl, List.length_append]
      have := cut_6 (ns.map D.int)
      show _ + 1 ≤ 7
      omega
    refine ds_frz (i := 1) rfl ?_
    dsimp only [O.frz, O1.frz, List.set_cons_zero, List.set_cons_succ]
    refine ds_seq ?_
    refine ds_forW (vs := [6, 7]) ?_
    walk_at "d"
    rw [← List.map_reverse, ← List.map_append]
    refine ⟨fun i m2 ρ => ρ = [.dat (.scr ns), .dat (.lst (l.map (tbP a_Table))), .no, .no, .no, .no, .no, .no, .no, .no, .no], ⟨_, Wk.refl _, rfl, rfl⟩, ?_, ?_⟩
    · rintro i d m2 ρ hd rfl
      rw [List.getElem?_map] at hd
      cases ht : (l ++ l.reverse)[i]? with
      | none => rw [ht] at hd; cases hd
      | some t =>
        rw [ht] at hd
        cases hd
        have htm : t ∈ l := by
          have := List.mem_of_getElem? ht
          rcases List.mem_append.mp this with h | h
          · exact h
          · exact List.mem_reverse.mp h
        obtain ⟨sz, gs, rows⟩ := t
        obtain ⟨hgd, hasc, hr1, hr2, hrw⟩ := hok _ htm
        refine ⟨_, dg_tup2 (by simp) (by simp), ?_⟩
        dsimp only [List.set_cons_zero, List.set_cons_succ] at hgd hasc hr1 hr2 hrw ⊢
        have nd := AK_nodup (sz := sz) (asc_nd hasc)
        have hrok : ∀ r ∈ rows, RwOk (AK sz gs) r ∧ ∀ q ∈ r, q.2 < 10 ^ 30 := fun r hr => ⟨(hrw r hr).ok nd, fun q hq => ((hrw r hr).2 q hq).2⟩
        have esr := srG_asc hasc
        walk_at "d"
        refine de_meth hE_0 ?_
        walk_at "d"
        refine ⟨sz, gs, rows, rfl, hgd, hr2, hrok, hL, ?_⟩
        rw [esr]
        walk_at "d"
        rw [show (!decide (tabTxt sz gs rows = tbT (sz, gs, rows))) = false by simp [tbT]]
        walk_at "d"
        refine de_cm hE_0 (de_cls ⟨rfl, ?_⟩)
        walk_at "d"
        have htx : TxOk (tabTxt sz gs rows) := by
          have := tab_tx hgd hr2 hrok
          rw [esr] at this
          exact this
        have hrd : readT (tabTxt sz gs rows) = .inr (sz, gs, rows) := readT_txt hgd hasc hr1 hr2 hrw
        refine ⟨.str (tabTxt sz gs rows), rfl, ⟨rfl, fun _ z => by cases z⟩, hL, fun h => absurd rfl (h _), fun z e => ?_⟩
        cases e
        refine ⟨htx, fun n h => (by rw [hrd] at h; cases h), fun sz' gs' rows' h => ?_⟩
        rw [hrd] at h
        cases h
        have rnd : ∀ r ∈ rows, (r.map (·.1)).Nodup := fun r hr => (hrok r hr).1.nd
        have hsum : sz.sum ≤ 10 := hgd.1.2.2
        walk_at "d"
        refine ops_neIns (.ins rfl) ?_
        refine ⟨sz, gs, rows, _, rfl, rnd, .inl ⟨sz, gs, rows, rfl, rnd, _, rfl, ?_⟩⟩
        rw [sameTbS (sameG_refl (asc_nd hasc))]
        walk_at "d"
        refine de_meth hE_0 ?_
        walk_at "d"
        refine ⟨sz, gs, rows, rfl, hgd, hr2, hrok, hL, ?_⟩
        rw [esr]
        walk_at "d"
        rw [show (!decide (tabTxt sz gs rows = tbT (sz, gs, rows))) = false by simp [tbT]]
        walk_at "d"
        have rh : ∀ r ∈ rows, ∀ w : World, ((rT r).map fun p => hashT w p.1).Nodup := fun r hr w => rw_hash w hgd (by omega) (hrok r hr).1
        refine ⟨sz, gs, rows, rfl, by omega, rh, ?_⟩
        walk_at "d"
        refine ⟨sz, gs, rows, rfl, by omega, rh, ?_⟩
        refine ops_neV (n := 3) (b := sameRows rows rows) (by show some (O.nest _).frz = _; rw [nestS]) (by show some (O.nest _).frz = _; rw [nestS]) (by decide) (eqd_rowsL rnd rnd) ?_
        rw [sameRows_self]
        walk_at "d"
        refine ⟨sz, gs, rows, rfl, ?_⟩
        walk_at "d"
        refine ⟨sz, gs, rows, rfl, ?_⟩
        refine ops_neT (u := sz) (t := sz) rfl rfl ?_
        rw [show (!decide (sz = sz)) = false by simp]
        walk_at "d"
        exact ⟨_, by walk_at "wk", rfl, rfl⟩
    · rintro m2 ρ rfl
      walk_at "d"
      exact hΦ m2
end
end Pf
set_option Elab.async false
set_option linter.all false
set_option maxRecDepth 100000
set_option maxHeartbeats 0
namespace Pf
open PySem PySem.Spec PyProof.Rows L2 DL
section
variable {P : Program} {w : World} {K : PySem.W.Frag} {mg : Str → Option Value} {base : Heap} {f : Addr} {fd : FuncData}
abbrev si_BadGames : Stmt := (inClass (top 4) 0)
theorem sci_BadGames : FnScope ["self", "value"] ["self", "value"] (defScope si_BadGames) := ⟨rfl, rfl, rfl, by decide +kernel, rfl, by decide +kernel, by decide +kernel⟩
theorem ini_BadGames {C : Addr} (F : FunD K "__init__" "BadGames.__init__" (defArgs si_BadGames) (defBody si_BadGames) (defScope si_BadGames) [] [] f fd) (T : OexC K C) (n0 : PySem.W.findIn K (.ref C) "value" = some none) : FnOk P w K mg base CX0 1 f fd ["self", "value"] (spX C ["value"]) := by
  refine F.ok sci_BadGames (fun vs H Q E h => by obtain ⟨a, ws, rfl, hl, _⟩ := h; simp [hl]) ?_
  intro cdv A outer s H vs Q E hr h
  exact ⟨_, PSs.nox (pss_one (ps_ost (pv 0) (pv 1))), init1 T n0 h⟩
abbrev si_BadKind : Stmt := (inClass (top 6) 0)
theorem sci_BadKind : FnScope ["self", "value"] ["self", "value"] (defScope si_BadKind) := ⟨rfl, rfl, rfl, by decide +kernel, rfl, by decide +kernel, by decide +kernel⟩
theorem ini_BadKind {C : Addr} (F : FunD K "__init__" "BadKind.__init__" (defArgs si_BadKind) (defBody si_BadKind) (defScope si_BadKind) [] [] f fd) (T : OexC K C) (n0 : PySem.W.findIn K (.ref C) "value" = some none) : FnOk P w K mg base CX0 1 f fd ["self", "value"] (spX C ["value"]) := by
  refine F.ok sci_BadKind (fun vs H Q E h => by obtain ⟨a, ws, rfl, hl, _⟩ := h; simp [hl]) ?_
  intro cdv A outer s H vs Q E hr h
  exact ⟨_, PSs.nox (pss_one (ps_ost (pv 0) (pv 1))), init1 T n0 h⟩
abbrev si_BadNumber : Stmt := (inClass (top 9) 0)
theorem sci_BadNumber : FnScope ["self", "value"] ["self", "value"] (defScope si_BadNumber) := ⟨rfl, rfl, rfl, by decide +kernel, rfl, by decide +kernel, by decide +kernel⟩
theorem ini_BadNumber {C : Addr} (F : FunD K "__init__" "BadNumber.__init__" (defArgs si_BadNumber) (defBody si_BadNumber) (defScope si_BadNumber) [] [] f fd) (T : OexC K C) (n0 : PySem.W.findIn K (.ref C) "value" = some none) : FnOk P w K mg base CX0 1 f fd ["self", "value"] (spX C ["value"]) := by
  refine F.ok sci_BadNumber (fun vs H Q E h => by obtain ⟨a, ws, rfl, hl, _⟩ := h; simp [hl]) ?_
  intro cdv A outer s H vs Q E hr h
  exact ⟨_, PSs.nox (pss_one (ps_ost (pv 0) (pv 1))), init1 T n0 h⟩
abbrev si_BadRounds : Stmt := (inClass (top 7) 0)
theorem sci_BadRounds : FnScope ["self", "value"] ["self", "value"] (defScope si_BadRounds) := ⟨rfl, rfl, rfl, by decide +kernel, rfl, by decide +kernel, by decide +kernel⟩
theorem ini_BadRounds {C : Addr} (F : FunD K "__init__" "BadRounds.__init__" (defArgs si_BadRounds) (defBody si_BadRounds) (defScope si_BadRounds) [] [] f fd) (T : OexC K C) (n0 : PySem.W.findIn K (.ref C) "value" = some none) : FnOk P w K mg base CX0 1 f fd ["self", "value"] (spX C ["value"]) := by
  refine F.ok sci_BadRounds (fun vs H Q E h => by obtain ⟨a, ws, rfl, hl, _⟩ := h; simp [hl]) ?_
  intro cdv A outer s H vs Q E hr h
  exact ⟨_, PSs.nox (pss_one (ps_ost (pv 0) (pv 1))), init1 T n0 h⟩
abbrev si_BadSizes : Stmt := (inClass (top 3) 0)
theorem sci_BadSizes : FnScope ["self", "value"] ["self", "value"] (defScope si_BadSizes) := ⟨rfl, rfl, rfl, by decide +kernel, rfl, by decide +kernel, by decide +kernel⟩
theorem ini_BadSizes {C : Addr} (F : FunD K "__init__" "BadSizes.__init__" (defArgs si_BadSizes) (defBody si_BadSizes) (defScope si_BadSizes) [] [] f fd) (T : OexC K C) (n0 : PySem.W.findIn K (.ref C) "value" = some none) : FnOk P w K mg base CX0 1 f fd ["self", "value"] (spX C ["value"]) := by
  refine F.ok sci_BadSizes (fun vs H Q E h => by obtain ⟨a, ws, rfl, hl, _⟩ := h; simp [hl]) ?_
  intro cdv A outer s H vs Q E hr h
  exact ⟨_, PSs.nox (pss_one (ps_ost (pv 0) (pv 1))), init1 T n0 h⟩
abbrev si_BadText : Stmt := (inClass (top 10) 0)
theorem sci_BadText : FnScope ["self", "line"] ["self", "line"] (defScope si_BadText) := ⟨rfl, rfl, rfl, by decide +kernel, rfl, by decide +kernel, by decide +kernel⟩
theorem ini_BadText {C : Addr} (F : FunD K "__init__" "BadText.__init__" (defArgs si_BadText) (defBody si_BadText) (defScope si_BadText) [] [] f fd) (T : OexC K C) (n0 : PySem.W.findIn K (.ref C) "line" = some none) : FnOk P w K mg base CX0 1 f fd ["self", "line"] (spX C ["line"]) := by
  refine F.ok sci_BadText (fun vs H Q E h => by obtain ⟨a, ws, rfl, hl, _⟩ := h; simp [hl]) ?_
  intro cdv A outer s H vs Q E hr h
  exact ⟨_, PSs.nox (pss_one (ps_ost (pv 0) (pv 1))), init1 T n0 h⟩
abbrev si_TooMany : Stmt := (inClass (top 5) 0)
theorem sci_TooMany : FnScope ["self", "count"] ["self", "count"] (defScope si_TooMany) := ⟨rfl, rfl, rfl, by decide +kernel, rfl, by decide +kernel, by decide +kernel⟩
theorem ini_TooMany {C : Addr} (F : FunD K "__init__" "TooMany.__init__" (defArgs si_TooMany) (defBody si_TooMany) (defScope si_TooMany) [] [] f fd) (T : OexC K C) (n0 : PySem.W.findIn K (.ref C) "count" = some none) : FnOk P w K mg base CX0 1 f fd ["self", "count"] (spX C ["count"]) := by
  refine F.ok sci_TooMany (fun vs H Q E h => by obtain ⟨a, ws, rfl, hl, _⟩ := h; simp [hl]) ?_
  intro cdv A outer s H vs Q E hr h
  exact ⟨_, PSs.nox (pss_one (ps_ost (pv 0) (pv 1))), init1 T n0 h⟩
end
theorem facts {P : Program} {w : World} {K : PySem.W.Frag} {h : Heap} {mg : Str → Option Value} {f : Addr} (X : K.In h) (G : h.Ns mainGlobals mg) (hfa : mg ("law" : Str) = some (.ref f)) (c : SaysP fa fn pr ex K) :
    ∃ fd : FuncData, (∀ (s : Shared) (v : Value), BindsTo s fd ⟨[v], []⟩ [("_law_script", v)]) ∧ ∀ base : Heap, K.In base → base.Ns mainGlobals mg → FnOk P w K mg base CX0 10 f fd ["_law_script"] (spF K C_law) := by
  obtain ⟨fd_law_source, F_law_source⟩ := c.d.def_ 0 (d := d_law_source) rfl
  obtain ⟨fd_law_draw, F_law_draw⟩ := c.d.def_ 1 (d := d_law_draw) rfl
  obtain ⟨fd_law_choose, F_law_choose⟩ := c.d.def_ 2 (d := d_law_choose) rfl
  obtain ⟨fd_law_setting, F_law_setting⟩ := c.d.def_ 3 (d := d_law_setting) rfl
  obtain ⟨fd_law_tuples, F_law_tuples⟩ := c.d.def_ 4 (d := d_law_tuples) rfl
  obtain ⟨fd_law_kinds, F_law_kinds⟩ := c.d.def_ 5 (d := d_law_kinds) rfl
  obtain ⟨fd_law_drawn, F_law_drawn⟩ := c.d.def_ 6 (d := d_law_drawn) rfl
  obtain ⟨fd_law_line, F_law_line⟩ := c.d.def_ 7 (d := d_law_line) rfl
  obtain ⟨fd_law_games_line, F_law_games_line⟩ := c.d.def_ 8 (d := d_law_games_line) rfl
  obtain ⟨fd_law_kind_text, F_law_kind_text⟩ := c.d.def_ 9 (d := d_law_kind_text) rfl
  obtain ⟨fd_law_table_text, F_law_table_text⟩ := c.d.def_ 10 (d := d_law_table_text) rfl
  obtain ⟨fd_is_list, F_is_list⟩ := c.d.def_ 11 (d := d_is_list) rfl
  obtain ⟨fd_is_between, F_is_between⟩ := c.d.def_ 12 (d := d_is_between) rfl
  obtain ⟨fd_are_sizes, F_are_sizes⟩ := c.d.def_ 13 (d := d_are_sizes) rfl
  obtain ⟨fd_check_sizes, F_check_sizes⟩ := c.d.def_ 14 (d := d_check_sizes) rfl
  obtain ⟨fd_are_games, F_are_games⟩ := c.d.def_ 15 (d := d_are_games) rfl
  obtain ⟨fd_choices, F_choices⟩ := c.d.def_ 16 (d := d_choices) rfl
  obtain ⟨fd_all_teams, F_all_teams⟩ := c.d.def_ 17 (d := d_all_teams) rfl
  obtain ⟨fd_check_games, F_check_games⟩ := c.d.def_ 18 (d := d_check_games) rfl
  obtain ⟨fd_check_setting, F_check_setting⟩ := c.d.def_ 19 (d := d_check_setting) rfl
  obtain ⟨fd_tuples_below, F_tuples_below⟩ := c.d.def_ 20 (d := d_tuples_below) rfl
  obtain ⟨fd_all_kinds, F_all_kinds⟩ := c.d.def_ 21 (d := d_all_kinds) rfl
  obtain ⟨fd_checked_round, F_checked_round⟩ := c.d.def_ 22 (d := d_checked_round) rfl
  obtain ⟨fd_Table___init, F_Table___init⟩ := c.d.def_ 23 (d := d_Table___init) rfl
  obtain ⟨fd_games_line, F_games_line⟩ := c.d.def_ 24 (d := d_games_line) rfl
  obtain ⟨fd_kind_text, F_kind_text⟩ := c.d.def_ 25 (d := d_kind_text) rfl
  obtain ⟨fd_Table_text, F_Table_text⟩ := c.d.def_ 26 (d := d_Table_text) rfl
  obtain ⟨fd_number_in, F_number_in⟩ := c.d.def_ 27 (d := d_number_in) rfl
  obtain ⟨fd_numbers_in, F_numbers_in⟩ := c.d.def_ 28 (d := d_numbers_in) rfl
  obtain ⟨fd_sizes_in, F_sizes_in⟩ := c.d.def_ 29 (d := d_sizes_in) rfl
  obtain ⟨fd_games_in, F_games_in⟩ := c.d.def_ 30 (d := d_games_in) rfl
  obtain ⟨fd_round_in, F_round_in⟩ := c.d.def_ 31 (d := d_round_in) rfl
  obtain ⟨fd_Table___eq, F_Table___eq⟩ := c.d.def_ 32 (d := d_Table___eq) rfl
  obtain ⟨fd_law, F_law⟩ := c.d.def_ 33 (d := d_law) rfl
  obtain ⟨fd_BadGames___init, F_BadGames___init⟩ := c.d.def_ 34 (d := d_BadGames___init) rfl
  obtain ⟨fd_BadKind___init, F_BadKind___init⟩ := c.d.def_ 35 (d := d_BadKind___init) rfl
  obtain ⟨fd_BadNumber___init, F_BadNumber___init⟩ := c.d.def_ 36 (d := d_BadNumber___init) rfl
  obtain ⟨fd_BadRounds___init, F_BadRounds___init⟩ := c.d.def_ 37 (d := d_BadRounds___init) rfl
  obtain ⟨fd_BadSizes___init, F_BadSizes___init⟩ := c.d.def_ 38 (d := d_BadSizes___init) rfl
  obtain ⟨fd_BadText___init, F_BadText___init⟩ := c.d.def_ 39 (d := d_BadText___init) rfl
  obtain ⟨fd_TooMany___init, F_TooMany___init⟩ := c.d.def_ 40 (d := d_TooMany___init) rfl
  obtain ⟨p_Table_read, fd_Table_read, P_Table_read, F_Table_read⟩ := c.cm 0 (d := ("Table", "read", d_Table_read)) rfl
  obtain ⟨p_Table_rounds, fd_Table_rounds, P_Table_rounds, F_Table_rounds⟩ := c.prop 1 (d := ("Table", "rounds", d_Table_rounds)) rfl
  obtain ⟨p_Table_sizes, fd_Table_sizes, P_Table_sizes, F_Table_sizes⟩ := c.prop 2 (d := ("Table", "sizes", d_Table_sizes)) rfl
  have e := hfa.symm.trans (He.glo_ok X G (c.d.fact 0 rfl))
  cases e
  have bb := FunD.bindsA (ps := ["_law_script"]) F_law fun _ _ _ _ _ _ us hl => match us, hl with | [_], _ => rfl
  refine ⟨fd_law, fun s v => bb s [v] rfl, fun base _ _ => ?_⟩
  have b : BI mg := ⟨He.free_ok X G (c.d.fact 1 rfl), He.free_ok X G (c.d.fact 2 rfl), He.free_ok X G (c.d.fact 3 rfl), He.free_ok X G (c.d.fact 4 rfl), He.free_ok X G (c.d.fact 5 rfl), He.free_ok X G (c.d.fact 6 rfl), He.free_ok X G (c.d.fact 7 rfl), He.free_ok X G (c.d.fact 8 rfl), He.free_ok X G (c.d.fact 9 rfl), He.free_ok X G (c.d.fact 10 rfl), He.free_ok X G (c.d.fact 11 rfl), He.free_ok X G (c.d.fact 12 rfl), He.free_ok X G (c.d.fact 13 rfl), He.free_ok X G (c.d.fact 14 rfl), He.free_ok X G (c.d.fact 15 rfl), He.free_ok X G (c.d.fact 16 rfl), He.free_ok X G (c.d.fact 17 rfl), He.free_ok X G (c.d.fact 18 rfl), He.free_ok X G (c.d.fact 19 rfl), He.free_ok X G (c.d.fact 20 rfl)⟩
  have k_FIGURES : ∃ u, mg "FIGURES" = some u ∧ RelV (.str "0123456789") u := by obtain ⟨tk, e⟩ := He.str_ok X G (c.d.fact 21 rfl); exact ⟨_, e, ⟨tk, rfl⟩⟩
  have k_MOST_FIGURES : ∃ u, mg "MOST_FIGURES" = some u ∧ RelV (.int 30) u := by obtain ⟨tk, e⟩ := He.int_ok X G (c.d.fact 22 rfl); exact ⟨_, e, ⟨tk, rfl⟩⟩
  have k_MOST_PEOPLE : ∃ u, mg "MOST_PEOPLE" = some u ∧ RelV (.int 10) u := by obtain ⟨tk, e⟩ := He.int_ok X G (c.d.fact 23 rfl); exact ⟨_, e, ⟨tk, rfl⟩⟩
  have k_MOST_ROUNDS : ∃ u, mg "MOST_ROUNDS" = some u ∧ RelV (.int 130) u := by obtain ⟨tk, e⟩ := He.int_ok X G (c.d.fact 24 rfl); exact ⟨_, e, ⟨tk, rfl⟩⟩
  have k_MOST_SIZE : ∃ u, mg "MOST_SIZE" = some u ∧ RelV (.int 4) u := by obtain ⟨tk, e⟩ := He.int_ok X G (c.d.fact 25 rfl); exact ⟨_, e, ⟨tk, rfl⟩⟩
  have k_MOST_TEAMS : ∃ u, mg "MOST_TEAMS" = some u ∧ RelV (.int 130) u := by obtain ⟨tk, e⟩ := He.int_ok X G (c.d.fact 26 rfl); exact ⟨_, e, ⟨tk, rfl⟩⟩
  have k_MOST_TIMES : ∃ u, mg "MOST_TIMES" = some u ∧ RelV (.int 3) u := by obtain ⟨tk, e⟩ := He.int_ok X G (c.d.fact 27 rfl); exact ⟨_, e, ⟨tk, rfl⟩⟩
  have hx := c.more
  unfold ex exZ at hx
  obtain ⟨hx0, hx⟩ := He.ba hx
  obtain ⟨hx1, hx⟩ := He.ba hx
  obtain ⟨hx2, hx⟩ := He.ba hx
  obtain ⟨hx3, hx⟩ := He.ba hx
  obtain ⟨hx4, hx⟩ := He.ba hx
  obtain ⟨hx5, hx⟩ := He.ba hx
  obtain ⟨hx6, hx⟩ := He.ba hx
  obtain ⟨hx7, hx⟩ := He.ba hx
  have hx8 := hx
  have x_BadGames : Xc P w K mg base "BadGames" (He.ga K "BadGames") ["value"] := ⟨(oexB_ok hx0).1, (oexB_ok hx0).2, He.glo_ok X G (c.d.fact 29 rfl), He.exm_ok (c.d.fact 30 rfl), ⟨_, fd_BadGames___init, (He.meth_ok (c.d.fact 31 rfl)).at_, isFn_ok (He.meth_ok (c.d.fact 31 rfl)).fn, ini_BadGames F_BadGames___init (oexB_ok hx0).1 (He.noat_ok (c.d.fact 28 rfl)), F_BadGames___init.bindsN fun _ _ _ _ _ _ us hl => match us, hl with | [_, _], _ => rfl⟩, fun f hf => by simp only [List.mem_cons, List.not_mem_nil, or_false] at hf; rcases hf with rfl; exact He.noat_ok (c.d.fact 28 rfl)⟩
  have x_BadKind : Xc P w K mg base "BadKind" (He.ga K "BadKind") ["value"] := ⟨(oexB_ok hx1).1, (oexB_ok hx1).2, He.glo_ok X G (c.d.fact 33 rfl), He.exm_ok (c.d.fact 34 rfl), ⟨_, fd_BadKind___init, (He.meth_ok (c.d.fact 35 rfl)).at_, isFn_ok (He.meth_ok (c.d.fact 35 rfl)).fn, ini_BadKind F_BadKind___init (oexB_ok hx1).1 (He.noat_ok (c.d.fact 32 rfl)), F_BadKind___init.bindsN fun _ _ _ _ _ _ us hl => match us, hl with | [_, _], _ => rfl⟩, fun f hf => by simp only [List.mem_cons, List.not_mem_nil, or_false] at hf; rcases hf with rfl; exact He.noat_ok (c.d.fact 32 rfl)⟩
  have x_BadNumber : Xc P w K mg base "BadNumber" (He.ga K "BadNumber") ["value"] := ⟨(oexB_ok hx2).1, (oexB_ok hx2).2, He.glo_ok X G (c.d.fact 37 rfl), He.exm_ok (c.d.fact 38 rfl), ⟨_, fd_BadNumber___init, (He.meth_ok (c.d.fact 39 rfl)).at_, isFn_ok (He.meth_ok (c.d.fact 39 rfl)).fn, ini_BadNumber F_BadNumber___init (oexB_ok hx2).1 (He.noat_ok (c.d.fact 36 rfl)), F_BadNumber___init.bindsN fun _ _ _ _ _ _ us hl => match us, hl with | [_, _], _ => rfl⟩, fun f hf => by simp only [List.mem_cons, List.not_mem_nil, or_false] at hf; rcases hf with rfl; exact He.noat_ok (c.d.fact 36 rfl)⟩
  have x_BadRounds : Xc P w K mg base "BadRounds" (He.ga K "BadRounds") ["value"] := ⟨(oexB_ok hx3).1, (oexB_ok hx3).2, He.glo_ok X G (c.d.fact 41 rfl), He.exm_ok (c.d.fact 42 rfl), ⟨_, fd_BadRounds___init, (He.meth_ok (c.d.fact 43 rfl)).at_, isFn_ok (He.meth_ok (c.d.fact 43 rfl)).fn, ini_BadRounds F_BadRounds___init (oexB_ok hx3).1 (He.noat_ok (c.d.fact 40 rfl)), F_BadRounds___init.bindsN fun _ _ _ _ _ _ us hl => match us, hl with | [_, _], _ => rfl⟩, fun f hf => by simp only [List.mem_cons, List.not_mem_nil, or_false] at hf; rcases hf with rfl; exact He.noat_ok (c.d.fact 40 rfl)⟩
  have x_BadSizes : Xc P w K mg base "BadSizes" (He.ga K "BadSizes") ["value"] := ⟨(oexB_ok hx4).1, (oexB_ok hx4).2, He.glo_ok X G (c.d.fact 45 rfl), He.exm_ok (c.d.fact 46 rfl), ⟨_, fd_BadSizes___init, (He.meth_ok (c.d.fact 47 rfl)).at_, isFn_ok (He.meth_ok (c.d.fact 47 rfl)).fn, ini_BadSizes F_BadSizes___init (oexB_ok hx4).1 (He.noat_ok (c.d.fact 44 rfl)), F_BadSizes___init.bindsN fun _ _ _ _ _ _ us hl => match us, hl with | [_, _], _ => rfl⟩, fun f hf => by simp only [List.mem_cons, List.not_mem_nil, or_false] at hf; rcases hf with rfl; exact He.noat_ok (c.d.fact 44 rfl)⟩
  have x_BadText : Xc P w K mg base "BadText" (He.ga K "BadText") ["line"] := ⟨(oexB_ok hx5).1, (oexB_ok hx5).2, He.glo_ok X G (c.d.fact 49 rfl), He.exm_ok (c.d.fact 50 rfl), ⟨_, fd_BadText___init, (He.meth_ok (c.d.fact 51 rfl)).at_, isFn_ok (He.meth_ok (c.d.fact 51 rfl)).fn, ini_BadText F_BadText___init (oexB_ok hx5).1 (He.noat_ok (c.d.fact 48 rfl)), F_BadText___init.bindsN fun _ _ _ _ _ _ us hl => match us, hl with | [_, _], _ => rfl⟩, fun f hf => by simp only [List.mem_cons, List.not_mem_nil, or_false] at hf; rcases hf with rfl; exact He.noat_ok (c.d.fact 48 rfl)⟩
  have x_TooMany : Xc P w K mg base "TooMany" (He.ga K "TooMany") ["count"] := ⟨(oexB_ok hx6).1, (oexB_ok hx6).2, He.glo_ok X G (c.d.fact 53 rfl), He.exm_ok (c.d.fact 54 rfl), ⟨_, fd_TooMany___init, (He.meth_ok (c.d.fact 55 rfl)).at_, isFn_ok (He.meth_ok (c.d.fact 55 rfl)).fn, ini_TooMany F_TooMany___init (oexB_ok hx6).1 (He.noat_ok (c.d.fact 52 rfl)), F_TooMany___init.bindsN fun _ _ _ _ _ _ us hl => match us, hl with | [_, _], _ => rfl⟩, fun f hf => by simp only [List.mem_cons, List.not_mem_nil, or_false] at hf; rcases hf with rfl; exact He.noat_ok (c.d.fact 52 rfl)⟩
  have i_Table : Ci K (He.ga K "Table") ["own_sizes", "own_games", "rows"] := ⟨He.cls_ok (c.d.fact 56 rfl), fun f hf => by simp only [List.mem_cons, List.not_mem_nil, or_false] at hf; rcases hf with rfl | rfl | rfl <;> first | exact He.noat_ok (c.d.fact 57 rfl) | exact He.noat_ok (c.d.fact 58 rfl) | exact He.noat_ok (c.d.fact 59 rfl)⟩
  have g_Table : mg "Table" = some (.ref (He.ga K "Table")) := He.glo_ok X G (c.d.fact 60 rfl)
  have kc_Table : Kc K (He.ga K "Table") := kcB_ok i_Table.cl hx7
  have c_law_source : Cl P w K mg base CX0 1 "_law_source" ["_law_cell_here"] C_law_source := ⟨_, fd_law_source, ok_law_source F_law_source b, He.glo_ok X G (c.d.fact 61 rfl), F_law_source.kp, F_law_source.bindsN fun _ _ _ _ _ _ us hl => match us, hl with | [_], _ => rfl⟩
  have c_law_draw : Cl P w K mg base CX0 1 "_law_draw" ["_law_source_here", "_law_limit"] C_law_draw := ⟨_, fd_law_draw, ok_law_draw F_law_draw b, He.glo_ok X G (c.d.fact 62 rfl), F_law_draw.kp, F_law_draw.bindsN fun _ _ _ _ _ _ us hl => match us, hl with | [_, _], _ => rfl⟩
  have c_law_choose : Cl P w K mg base CX0 1 "_law_choose" ["_law_many", "_law_few"] C_law_choose := ⟨_, fd_law_choose, ok_law_choose F_law_choose b, He.glo_ok X G (c.d.fact 63 rfl), F_law_choose.kp, F_law_choose.bindsN fun _ _ _ _ _ _ us hl => match us, hl with | [_, _], _ => rfl⟩
  have c_law_setting : Cl P w K mg base CX0 2 "_law_setting" ["_law_source_here"] C_law_setting := ⟨_, fd_law_setting, ok_law_setting F_law_setting b c_law_draw c_law_choose, He.glo_ok X G (c.d.fact 64 rfl), F_law_setting.kp, F_law_setting.bindsN fun _ _ _ _ _ _ us hl => match us, hl with | [_], _ => rfl⟩
  have c_law_tuples : Cl P w K mg base CX0 1 "_law_tuples" ["_law_sizes"] C_law_tuples := ⟨_, fd_law_tuples, ok_law_tuples F_law_tuples b, He.glo_ok X G (c.d.fact 65 rfl), F_law_tuples.kp, F_law_tuples.bindsN fun _ _ _ _ _ _ us hl => match us, hl with | [_], _ => rfl⟩
  have c_law_kinds : Cl P w K mg base CX0 2 "_law_kinds" ["_law_sizes", "_law_games"] C_law_kinds := ⟨_, fd_law_kinds, ok_law_kinds F_law_kinds b c_law_tuples, He.glo_ok X G (c.d.fact 66 rfl), F_law_kinds.kp, F_law_kinds.bindsN fun _ _ _ _ _ _ us hl => match us, hl with | [_, _], _ => rfl⟩
  have c_law_drawn : Cl P w K mg base CX0 3 "_law_drawn" ["_law_source_here", "_law_sizes", "_law_games", "_law_many"] C_law_drawn := ⟨_, fd_law_drawn, ok_law_drawn F_law_drawn b c_law_kinds c_law_draw, He.glo_ok X G (c.d.fact 67 rfl), F_law_drawn.kp, F_law_drawn.bindsN fun _ _ _ _ _ _ us hl => match us, hl with | [_, _, _, _], _ => rfl⟩
  have c_law_line : Cl P w K mg base CX0 1 "_law_line" ["_law_word", "_law_parts"] C_law_line := ⟨_, fd_law_line, ok_law_line F_law_line b, He.glo_ok X G (c.d.fact 68 rfl), F_law_line.kp, F_law_line.bindsN fun _ _ _ _ _ _ us hl => match us, hl with | [_, _], _ => rfl⟩
  have c_law_games_line : Cl P w K mg base CX0 2 "_law_games_line" ["_law_games"] C_law_games_line := ⟨_, fd_law_games_line, ok_law_games_line F_law_games_line b c_law_line, He.glo_ok X G (c.d.fact 69 rfl), F_law_games_line.kp, F_law_games_line.bindsN fun _ _ _ _ _ _ us hl => match us, hl with | [_], _ => rfl⟩
  have c_law_kind_text : Cl P w K mg base CX0 1 "_law_kind_text" ["_law_kind"] C_law_kind_text := ⟨_, fd_law_kind_text, ok_law_kind_text F_law_kind_text b, He.glo_ok X G (c.d.fact 70 rfl), F_law_kind_text.kp, F_law_kind_text.bindsN fun _ _ _ _ _ _ us hl => match us, hl with | [_], _ => rfl⟩
  have c_law_table_text : Cl P w K mg base CX0 3 "_law_table_text" ["_law_sizes", "_law_games", "_law_rounds"] C_law_table_text := ⟨_, fd_law_table_text, ok_law_table_text F_law_table_text b c_law_games_line c_law_line c_law_kinds c_law_kind_text, He.glo_ok X G (c.d.fact 71 rfl), F_law_table_text.kp, F_law_table_text.bindsN fun _ _ _ _ _ _ us hl => match us, hl with | [_, _, _], _ => rfl⟩
  have c_is_list : Cl P w K mg base CX0 1 "is_list" ["value"] C_is_list := ⟨_, fd_is_list, ok_is_list F_is_list b, He.glo_ok X G (c.d.fact 72 rfl), F_is_list.kp, F_is_list.bindsN fun _ _ _ _ _ _ us hl => match us, hl with | [_], _ => rfl⟩
  have c_is_between : Cl P w K mg base CX0 1 "is_between" ["value", "least", "most"] C_is_between := ⟨_, fd_is_between, ok_is_between F_is_between b, He.glo_ok X G (c.d.fact 73 rfl), F_is_between.kp, F_is_between.bindsN fun _ _ _ _ _ _ us hl => match us, hl with | [_, _, _], _ => rfl⟩
  have c_are_sizes : Cl P w K mg base CX0 2 "are_sizes" ["value"] C_are_sizes := ⟨_, fd_are_sizes, ok_are_sizes F_are_sizes b k_MOST_PEOPLE c_is_list c_is_between, He.glo_ok X G (c.d.fact 74 rfl), F_are_sizes.kp, F_are_sizes.bindsN fun _ _ _ _ _ _ us hl => match us, hl with | [_], _ => rfl⟩
  have c_check_sizes : Cl P w K mg base (L2.CX P w) 3 "check_sizes" ["sizes"] C_check_sizes := ⟨_, fd_check_sizes, ok_check_sizes F_check_sizes b x_BadSizes c_are_sizes, He.glo_ok X G (c.d.fact 75 rfl), F_check_sizes.kp, F_check_sizes.bindsN fun _ _ _ _ _ _ us hl => match us, hl with | [_], _ => rfl⟩
  have c_are_games : Cl P w K mg base CX0 2 "are_games" ["people", "value"] C_are_games := ⟨_, fd_are_games, ok_are_games F_are_games b k_MOST_SIZE k_MOST_TIMES c_is_between, He.glo_ok X G (c.d.fact 76 rfl), F_are_games.kp, F_are_games.bindsN fun _ _ _ _ _ _ us hl => match us, hl with | [_, _], _ => rfl⟩
  have c_choices : Cl P w K mg base CX0 1 "choices" ["many", "few"] C_choices := ⟨_, fd_choices, ok_choices F_choices b, He.glo_ok X G (c.d.fact 77 rfl), F_choices.kp, F_choices.bindsN fun _ _ _ _ _ _ us hl => match us, hl with | [_, _], _ => rfl⟩
  have c_all_teams : Cl P w K mg base CX0 2 "all_teams" ["people", "games"] C_all_teams := ⟨_, fd_all_teams, ok_all_teams F_all_teams b c_choices, He.glo_ok X G (c.d.fact 78 rfl), F_all_teams.kp, F_all_teams.bindsN fun _ _ _ _ _ _ us hl => match us, hl with | [_, _], _ => rfl⟩
  have c_check_games : Cl P w K mg base (L2.CX P w) 3 "check_games" ["people", "games"] C_check_games := ⟨_, fd_check_games, ok_check_games F_check_games b k_MOST_TEAMS x_BadGames x_TooMany c_are_games c_all_teams, He.glo_ok X G (c.d.fact 79 rfl), F_check_games.kp, F_check_games.bindsN fun _ _ _ _ _ _ us hl => match us, hl with | [_, _], _ => rfl⟩
  have c_check_setting : Cl P w K mg base (L2.CX P w) 4 "check_setting" ["sizes", "games"] C_check_setting := ⟨_, fd_check_setting, ok_check_setting F_check_setting b c_check_sizes c_check_games, He.glo_ok X G (c.d.fact 80 rfl), F_check_setting.kp, F_check_setting.bindsN fun _ _ _ _ _ _ us hl => match us, hl with | [_, _], _ => rfl⟩
  have c_tuples_below : Cl P w K mg base CX0 1 "tuples_below" ["sizes"] C_tuples_below := ⟨_, fd_tuples_below, ok_tuples_below F_tuples_below b, He.glo_ok X G (c.d.fact 81 rfl), F_tuples_below.kp, F_tuples_below.bindsN fun _ _ _ _ _ _ us hl => match us, hl with | [_], _ => rfl⟩
  have c_all_kinds : Cl P w K mg base (L2.CX P w) 5 "all_kinds" ["sizes", "games"] C_all_kinds := ⟨_, fd_all_kinds, ok_all_kinds F_all_kinds b c_check_setting c_tuples_below, He.glo_ok X G (c.d.fact 82 rfl), F_all_kinds.kp, F_all_kinds.bindsN fun _ _ _ _ _ _ us hl => match us, hl with | [_, _], _ => rfl⟩
  have c_checked_round : Cl P w K mg base (L2.CX P w) 3 "checked_round" ["kinds", "row"] C_checked_round := ⟨_, fd_checked_round, ok_checked_round F_checked_round b x_BadKind x_BadNumber, He.glo_ok X G (c.d.fact 83 rfl), F_checked_round.kp, F_checked_round.bindsN fun _ _ _ _ _ _ us hl => match us, hl with | [_, _], _ => rfl⟩
  have c_Table___init : Mi P w K mg base (L2.CX P w) 6 (He.ga K "Table") "Table" ["self", "sizes", "games", "rounds"] (C_Table___init K (He.ga K "Table")) := ⟨_, fd_Table___init, He.mkr_ok (c.d.fact 84 rfl), ok_Table___init F_Table___init b i_Table k_MOST_ROUNDS x_BadRounds c_check_setting c_is_list c_all_kinds c_checked_round, He.glo_ok X G (c.d.fact 60 rfl), F_Table___init.bindsN fun _ _ _ _ _ _ us hl => match us, hl with | [_, _, _, _], _ => rfl⟩
  have c_games_line : Cl P w K mg base CX0 1 "games_line" ["games"] C_games_line := ⟨_, fd_games_line, ok_games_line F_games_line b, He.glo_ok X G (c.d.fact 85 rfl), F_games_line.kp, F_games_line.bindsN fun _ _ _ _ _ _ us hl => match us, hl with | [_], _ => rfl⟩
  have c_kind_text : Cl P w K mg base CX0 1 "kind_text" ["kind"] C_kind_text := ⟨_, fd_kind_text, ok_kind_text F_kind_text b, He.glo_ok X G (c.d.fact 86 rfl), F_kind_text.kp, F_kind_text.bindsN fun _ _ _ _ _ _ us hl => match us, hl with | [_], _ => rfl⟩
  have c_Table_text : Me P w K mg base CX0 2 (He.ga K "Table") "text" ["self"] (C_Table_text (He.ga K "Table")) := ⟨i_Table.cl, _, fd_Table_text, He.meth_ok (c.d.fact 87 rfl), ok_Table_text F_Table_text b i_Table c_games_line c_kind_text, F_Table_text.bindsN fun _ _ _ _ _ _ us hl => match us, hl with | [_], _ => rfl⟩
  have c_number_in : Cl P w K mg base CX0 1 "number_in" ["word"] C_number_in := ⟨_, fd_number_in, ok_number_in F_number_in b k_FIGURES k_MOST_FIGURES, He.glo_ok X G (c.d.fact 88 rfl), F_number_in.kp, F_number_in.bindsN fun _ _ _ _ _ _ us hl => match us, hl with | [_], _ => rfl⟩
  have c_numbers_in : Cl P w K mg base CX0 2 "numbers_in" ["words"] C_numbers_in := ⟨_, fd_numbers_in, ok_numbers_in F_numbers_in b c_number_in, He.glo_ok X G (c.d.fact 89 rfl), F_numbers_in.kp, F_numbers_in.bindsN fun _ _ _ _ _ _ us hl => match us, hl with | [_], _ => rfl⟩
  have c_sizes_in : Cl P w K mg base CX0 3 "sizes_in" ["line"] C_sizes_in := ⟨_, fd_sizes_in, ok_sizes_in F_sizes_in b c_numbers_in c_are_sizes, He.glo_ok X G (c.d.fact 90 rfl), F_sizes_in.kp, F_sizes_in.bindsN fun _ _ _ _ _ _ us hl => match us, hl with | [_], _ => rfl⟩
  have c_games_in : Cl P w K mg base CX0 3 "games_in" ["people", "line"] C_games_in := ⟨_, fd_games_in, ok_games_in F_games_in b k_MOST_TEAMS c_numbers_in c_are_games c_all_teams, He.glo_ok X G (c.d.fact 91 rfl), F_games_in.kp, F_games_in.bindsN fun _ _ _ _ _ _ us hl => match us, hl with | [_, _], _ => rfl⟩
  have c_round_in : Cl P w K mg base CX0 3 "round_in" ["kinds", "line"] C_round_in := ⟨_, fd_round_in, ok_round_in F_round_in b c_numbers_in c_number_in, He.glo_ok X G (c.d.fact 92 rfl), F_round_in.kp, F_round_in.bindsN fun _ _ _ _ _ _ us hl => match us, hl with | [_, _], _ => rfl⟩
  have c_Table_read : Cm P w K mg base (L2.CX P w) 8 (He.ga K "Table") "read" ["cls", "text"] (C_Table_read (He.ga K "Table") (He.ga K "BadText")) := ⟨p_Table_read, _, fd_Table_read, P_Table_read, ok_Table_read F_Table_read b k_MOST_ROUNDS x_BadText c_sizes_in c_games_in c_all_kinds c_round_in c_Table___init, F_Table_read.bindsN fun _ _ _ _ _ _ us hl => match us, hl with | [_, _], _ => rfl⟩
  have c_Table___eq : Oe P w K mg base 1 (He.ga K "Table") (C_Table___eq (He.ga K "Table")) := ⟨i_Table.cl, _, fd_Table___eq, eqB_ok (He.meth_ok (c.d.fact 93 rfl)) hx8, ok_Table___eq F_Table___eq b i_Table g_Table kc_Table, F_Table___eq.bindsN fun _ _ _ _ _ _ us hl => match us, hl with | [_, _], _ => rfl⟩
  have c_Table_rounds : Pr P w K mg base CX0 1 (He.ga K "Table") "rounds" (C_Table_rounds (He.ga K "Table")) := ⟨i_Table.cl, _, _, fd_Table_rounds, P_Table_rounds, ok_Table_rounds F_Table_rounds b i_Table, F_Table_rounds.bindsN fun _ _ _ _ _ _ us hl => match us, hl with | [_], _ => rfl⟩
  have c_Table_sizes : Pr P w K mg base CX0 1 (He.ga K "Table") "sizes" (C_Table_sizes (He.ga K "Table")) := ⟨i_Table.cl, _, _, fd_Table_sizes, P_Table_sizes, ok_Table_sizes F_Table_sizes b i_Table, F_Table_sizes.bindsN fun _ _ _ _ _ _ us hl => match us, hl with | [_], _ => rfl⟩
  exact ok_law F_law b g_Table kc_Table c_law_source c_law_setting c_law_draw c_law_drawn c_law_table_text c_Table___init c_Table_text c_Table_read c_Table___eq c_Table_rounds c_Table_sizes
end Pf
theorem PySem.Challenge.cw_allteams_k08_texts_of_tables_holds : PySem.Challenge.rw_allteams_k08_texts_of_tables.Holds := by
  exact Pf.fin Pf.C_law (fun ns => ⟨ns, rfl, fun _ z => z, fun _ => rfl⟩) fun P w => Pf.facts
