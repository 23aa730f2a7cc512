import PyProof.Rows.All
import Wide.All
import OpenK.AllK
import Wide.FinOn
import HandS.ForMost
import HandS.Exc
import HandS.ExcInit
import HandS.ExcField
import HandS.More
import HandS.WordsExc
import HandS.IsInst
import HandS.Star
import HandS.Conv
import HandS.Zip
import HandS.Evl
import HandS.Wide
import HandS.CallSlots
import HandS.ExcOwn
import KE.KTupSum
import HandS.SortInts
import HandS.Defaults
import HandS.Codes
import HandS.Deep
import KE.GoesNew
import KE.GoesMore
import KE.GoesEnum
import HandS.TupAny
import HandS.TupSets
import KE.DataEq
import KE.KStateDown
import HandS.Head0
import HandS.Head1
import HandS.Head2
import HandS.HeadEnd
import HandS.HeadHook1
import HandS.HeadHook2
import HandS.HeadHook3
import HandS.HeadHook4
import KE.SortData
import HandS.Property
import HandS.Style
import KE.KCount
import HandS.DictComp
import PyProof.TupleOfSeq
import HandS.DictTup
import KE.KDictSum
import KE.KDictCopyH
import KE.KDictOf
import KE.KDictPairs
import PyProof.InstNe
import OpenK.KOps
import PyProof.P3Eq
import KE.DataFind
import HandS.Finally
import HandS.Text
import HandS.FStr
import HandS.StrSplit
import HandS.Steps
import HandS.Flow
import HandS.ClsMeth
import PyProof.StrBlock2
import HandS.Comp
import HandS.Replace
import PyProof.ToksMono
import PyProof.StrCalls6
import HandS.Small
import PyProof.ExcBaseAll.ValueError
import HandS.TupLe
import HandS.ExcIs
import KE.KExcIs
import PySem.Challenge.RW_allteams_k18_shares_dealt
set_option Elab.async false
set_option linter.all false
set_option maxRecDepth 100000
set_option maxHeartbeats 1000000
namespace DL
open PySem L2 Evl
/-! ### data -/
inductive D where
  | non | bl (b : Bool) | int (i : Int) | str (x : Str)
  | lst (xs : List D) | tup (xs : List D)
  | dic (kvs : List (Key × D)) | dit (kvs : List (List Key × D))
  | scr (ns : List Int)
  | ins (C : Addr) (fs : List (Str × D))
mutual
inductive Rp (K : PySem.W.Frag) (G : Hp) : V → D → Prop
  | non : Rp K G .non .non
  | bl (b : Bool) : Rp K G (.bl b) (.bl b)
  | int (i : Int) : Rp K G (.int i) (.int i)
  | str (x : Str) : Rp K G (.str x) (.str x)
  | lst {a : Addr} {xs : List V} {ds : List D} : G a = some (.lst xs) → RpL K G xs ds → Rp K G (.ref a) (.lst ds)
  | tup {a : Addr} {xs : List V} {ds : List D} : G a = some (.tup xs) → RpL K G xs ds → Rp K G (.ref a) (.tup ds)
  | dic {a : Addr} {kvs : List (Key × V)} {ds : List (Key × D)} : Rd G a (.dK kvs) → kvs.map (·.1) = ds.map (·.1) → RpL K G (kvs.map (·.2)) (ds.map (·.2)) → Rp K G (.ref a) (.dic ds)
  | dit {a : Addr} {kvs : List (List Key × V)} {ds : List (List Key × D)} : Rd G a (.dT kvs) → kvs.map (·.1) = ds.map (·.1) → RpL K G (kvs.map (·.2)) (ds.map (·.2)) → Rp K G (.ref a) (.dit ds)
  | scr {a : Addr} {ns : List Int} : SqL K G a (ns.map V.int) → Rp K G (.ref a) (.scr ns)
  | ins {a dx C : Addr} {fv : List (Str × V)} {fs : List (Str × D)} : G a = some (.ins C dx fv) → G dx = some (.own a) → fv.map (·.1) = fs.map (·.1) → RpL K G (fv.map (·.2)) (fs.map (·.2)) → Rp K G (.ref a) (.ins C fs)
inductive RpL (K : PySem.W.Frag) (G : Hp) : List V → List D → Prop
  | nil : RpL K G [] []
  | cons {v : V} {vs : List V} {d : D} {ds : List D} : Rp K G v d → RpL K G vs ds → RpL K G (v :: vs) (d :: ds)
end
mutual
theorem Rp.mono {K : PySem.W.Frag} {G G' : Hp} (e : Ex G G') : ∀ {v : V} {d : D}, Rp K G v d → Rp K G' v d
  | _, _, .non => .non
  | _, _, .bl b => .bl b
  | _, _, .int i => .int i
  | _, _, .str x => .str x
  | _, _, .lst h r => .lst (e _ _ h) (RpL.mono e r)
  | _, _, .tup h r => .tup (e _ _ h) (RpL.mono e r)
  | _, _, .dic h k r => .dic (ex_rd e h) k (RpL.mono e r)
  | _, _, .dit h k r => .dit (ex_rd e h) k (RpL.mono e r)
  | _, _, .scr h => .scr (ex_l e h)
  | _, _, .ins h h2 k r => .ins (e _ _ h) (e _ _ h2) k (RpL.mono e r)
theorem RpL.mono {K : PySem.W.Frag} {G G' : Hp} (e : Ex G G') : ∀ {vs : List V} {ds : List D}, RpL K G vs ds → RpL K G' vs ds
  | _, _, .nil => .nil
  | _, _, .cons h r => .cons (Rp.mono e h) (RpL.mono e r)
end
theorem RpL.length {K : PySem.W.Frag} {G : Hp} : ∀ {vs : List V} {ds : List D}, RpL K G vs ds → vs.length = ds.length
  | _, _, .nil => rfl
  | _, _, .cons _ r => by simp [RpL.length r]
theorem RpL.get {K : PySem.W.Frag} {G : Hp} : ∀ {vs : List V} {ds : List D}, RpL K G vs ds → ∀ {i : Nat} {v : V}, vs[i]? = some v → ∃ d, ds[i]? = some d ∧ Rp K G v d
  | _, _, .nil, i, v, h => by simp at h
  | _, _, .cons h r, 0, v, e => by simp at e; subst e; exact ⟨_, rfl, h⟩
  | _, _, .cons h r, i + 1, v, e => by
    obtain ⟨d, h1, h2⟩ := RpL.get r (i := i) (v := v) (by simpa using e)
    exact ⟨d, by simpa using h1, h2⟩
theorem RpL.getD {K : PySem.W.Frag} {G : Hp} : ∀ {vs : List V} {ds : List D}, RpL K G vs ds → ∀ {i : Nat} {d : D}, ds[i]? = some d → ∃ v, vs[i]? = some v ∧ Rp K G v d
  | _, _, .nil, i, v, h => by simp at h
  | _, _, .cons h r, 0, v, e => by simp at e; subst e; exact ⟨_, rfl, h⟩
  | _, _, .cons h r, i + 1, v, e => by
    obtain ⟨d, h1, h2⟩ := RpL.getD r (i := i) (d := v) (by simpa using e)
    exact ⟨d, by simpa using h1, h2⟩
theorem RpL.append {K : PySem.W.Frag} {G : Hp} : ∀ {vs ws : List V} {ds es : List D}, RpL K G vs ds → RpL K G ws es → RpL K G (vs ++ ws) (ds ++ es)
  | _, _, _, _, .nil, s => s
  | _, _, _, _, .cons h r, s => .cons h (RpL.append r s)
theorem RpL.one {K : PySem.W.Frag} {G : Hp} {v : V} {d : D} (h : Rp K G v d) : RpL K G [v] [d] := .cons h .nil
theorem RpL.ints {K : PySem.W.Frag} {G : Hp} : ∀ {vs : List V} {ns : List Int}, RpL K G vs (ns.map D.int) → vs = ns.map V.int
  | _, [], .nil => rfl
  | _, n :: ns, .cons h r => by
    cases h
    rw [RpL.ints r]
    rfl
theorem RpL.ofInts {K : PySem.W.Frag} {G : Hp} : ∀ (ns : List Int), RpL K G (ns.map V.int) (ns.map D.int)
  | [] => .nil
  | n :: ns => .cons (.int n) (RpL.ofInts ns)
theorem RpL.bools {K : PySem.W.Frag} {G : Hp} : ∀ {vs : List V} {ns : List Bool}, RpL K G vs (ns.map D.bl) → vs = ns.map V.bl
  | _, [], .nil => rfl
  | _, n :: ns, .cons h r => by
    cases h
    rw [RpL.bools r]
    rfl
theorem RpL.strs {K : PySem.W.Frag} {G : Hp} : ∀ {vs : List V} {ns : List Str}, RpL K G vs (ns.map D.str) → vs = ns.map V.str
  | _, [], .nil => rfl
  | _, n :: ns, .cons h r => by
    cases h
    rw [RpL.strs r]
    rfl
theorem RpL.ofStrs {K : PySem.W.Frag} {G : Hp} : ∀ (ns : List Str), RpL K G (ns.map V.str) (ns.map D.str)
  | [] => .nil
  | n :: ns => .cons (.str n) (RpL.ofStrs ns)
theorem RpL.set {K : PySem.W.Frag} {G : Hp} {v : V} {d : D} (h : Rp K G v d) : ∀ {vs : List V} {ds : List D} (i : Nat), RpL K G vs ds → RpL K G (vs.set i v) (ds.set i d)
  | _, _, _, .nil => .nil
  | _, _, 0, .cons _ r => .cons h r
  | _, _, i + 1, .cons a r => .cons a (RpL.set h i r)
theorem RpL.drop {K : PySem.W.Frag} {G : Hp} : ∀ {vs : List V} {ds : List D} (n : Nat), RpL K G vs ds → RpL K G (vs.drop n) (ds.drop n)
  | _, _, 0, r => r
  | _, _, _ + 1, .nil => .nil
  | _, _, n + 1, .cons _ r => RpL.drop n r
theorem RpL.take {K : PySem.W.Frag} {G : Hp} : ∀ {vs : List V} {ds : List D} (n : Nat), RpL K G vs ds → RpL K G (vs.take n) (ds.take n)
  | _, _, 0, _ => .nil
  | _, _, _ + 1, .nil => .nil
  | _, _, n + 1, .cons h r => .cons h (RpL.take n r)
theorem RpL.reverse {K : PySem.W.Frag} {G : Hp} : ∀ {vs : List V} {ds : List D}, RpL K G vs ds → RpL K G vs.reverse ds.reverse
  | _, _, .nil => .nil
  | _, _, .cons h r => by
    rw [List.reverse_cons, List.reverse_cons]
    exact (RpL.reverse r).append (.one h)
/-! ### a dict is locked, and unlocked: data stays -/
def isDct : HO → Bool
  | .dK _ => true | .dT _ => true | _ => false
/-- G' is G with the dict at a locked or unlocked -/
structure Swp (G G' : Hp) (a : Addr) (u : HO) : Prop where
  dct : isDct u = true
  ne : ∀ b, b ≠ a → G' b = G b
  here : Rd G a u
  there : Rd G' a u
theorem Swp.not {G G' : Hp} {a b : Addr} {u o : HO} (s : Swp G G' a u) (h : G b = some o) (h1 : o ≠ u) (h2 : ∀ x, o ≠ .frz x u) : b ≠ a := fun z => by
  subst z
  rcases s.here with e | ⟨x, e⟩
  · rw [h] at e; exact h1 (Option.some.inj e)
  · rw [h] at e; exact h2 x (Option.some.inj e)
theorem Swp.rd {G G' : Hp} {a b : Addr} {u o : HO} (s : Swp G G' a u) (ho : ∀ x w, o ≠ .frz x w) (h : Rd G b o) : Rd G' b o := by
  by_cases z : b = a
  · subst z
    have e : o = u := by
      rcases h with h | ⟨x, h⟩
      · rcases s.here with e | ⟨y, e⟩
        · rw [h] at e; exact Option.some.inj e
        · rw [h] at e; exact absurd (Option.some.inj e) (ho y u)
      · rcases s.here with e | ⟨y, e⟩
        · rw [h] at e; have := Option.some.inj e; have d := s.dct; rw [← this] at d; cases d
        · rw [h] at e; have := Option.some.inj e; injection this
    rw [e]; exact s.there
  · unfold Rd; rw [s.ne b z]; exact h
mutual
theorem Rp.swap {K : PySem.W.Frag} {G G' : Hp} {a : Addr} {u : HO} (s : Swp G G' a u) : ∀ {v : V} {d : D}, Rp K G v d → Rp K G' v d
  | _, _, .non => .non
  | _, _, .bl b => .bl b
  | _, _, .int i => .int i
  | _, _, .str x => .str x
  | _, _, .lst (a := b) e r => .lst (by
      rw [s.ne b]; exact e
      exact s.not e (fun z => by have d := s.dct; rw [← z] at d; cases d) (fun x z => by cases z)) (RpL.swap s r)
  | _, _, .tup (a := b) e r => .tup (by
      rw [s.ne b]; exact e
      exact s.not e (fun z => by have d := s.dct; rw [← z] at d; cases d) (fun x z => by cases z)) (RpL.swap s r)
  | _, _, .dic e k r => .dic (s.rd (fun _ _ z => by cases z) e) k (RpL.swap s r)
  | _, _, .dit e k r => .dit (s.rd (fun _ _ z => by cases z) e) k (RpL.swap s r)
  | _, _, .scr (a := b) e => .scr (by
      rcases e with e | e
      · exact .inl (s.rd (fun _ _ z => by cases z) e)
      · exact .inr e)
  | _, _, .ins (a := b) (dx := dx) e e2 k r => .ins (by
      rw [s.ne b]; exact e
      exact s.not e (fun z => by have d := s.dct; rw [← z] at d; cases d) (fun x z => by cases z)) (by
      rw [s.ne dx]; exact e2
      exact s.not e2 (fun z => by have d := s.dct; rw [← z] at d; cases d) (fun x z => by cases z)) k (RpL.swap s r)
theorem RpL.swap {K : PySem.W.Frag} {G G' : Hp} {a : Addr} {u : HO} (s : Swp G G' a u) : ∀ {vs : List V} {ds : List D}, RpL K G vs ds → RpL K G' vs ds
  | _, _, .nil => .nil
  | _, _, .cons x r => .cons (Rp.swap s x) (RpL.swap s r)
end
/-- data of G is data of G' -/
def Up (K : PySem.W.Frag) (G G' : Hp) : Prop := ∀ v d, Rp K G v d → Rp K G' v d
theorem Up.ex {K : PySem.W.Frag} {G G' : Hp} (e : Ex G G') : Up K G G' := fun _ _ r => r.mono e
theorem Up.sw {K : PySem.W.Frag} {G G' : Hp} {a : Addr} {u : HO} (s : Swp G G' a u) : Up K G G' := fun _ _ r => r.swap s
theorem RpL.up {K : PySem.W.Frag} {G G' : Hp} (e : Up K G G') : ∀ {vs : List V} {ds : List D}, RpL K G vs ds → RpL K G' vs ds
  | _, _, .nil => .nil
  | _, _, .cons x r => .cons (e _ _ x) (RpL.up e r)
/-! ### what may change beside the data: a world with states -/
def noTup : HO → Bool
  | .tup _ => false | _ => true
structure Wd (ι : Type) where
  M : Addr → Prop
  L : Addr → Prop
  I : ι → Hp → Hp → Prop
  dep : ∀ (m : ι) (G G' H H' : Hp), Ex G G' → (∀ a, M a → H' a = H a) → I m G H → I m G' H'
  has : ∀ m G H a, I m G H → M a → ∃ u, H a = some u ∧ noTup u = true
  sw : ∀ (m : ι) (G G' H : Hp) (a : Addr) (u : HO), Swp G G' a u → I m G H → I m G' H
  pin : Addr → HO → Prop
  pinned : ∀ m G H a o, I m G H → pin a o → H a = some o
def W0 : Wd Unit := ⟨fun _ => False, fun _ => False, fun _ _ _ => True, fun _ _ _ _ _ _ _ _ => trivial, fun _ _ _ _ _ h => h.elim, fun _ _ _ _ _ _ _ _ => trivial, fun _ _ => False, fun _ _ _ _ _ _ h => h.elim⟩
theorem Wd.ne {ι : Type} {W : Wd ι} {m : ι} {G H : Hp} {a : Addr} (h : W.I m G H) (ha : W.M a) : H a ≠ none := by
  obtain ⟨u, e, _⟩ := W.has m G H a h ha
  rw [e]; exact fun z => by cases z
structure Ok {ι : Type} (W : Wd ι) (m : ι) (G H : Hp) : Prop where
  ex : Ex G H
  inv : W.I m G H
  off : ∀ a, W.M a → G a = none
  lk : ∀ a o u, G a = some (.frz o u) → (∀ xs, u ≠ .lst xs) → W.L a
structure Grow {ι : Type} (W : Wd ι) (G H : Hp) (m : ι) (G' H' : Hp) : Prop where
  ex : Ex G G'
  sub : Ex G' H'
  fresh : ∀ a o, H a = some o → noTup o = true → G a = none → G' a = none
  keep : ∀ a o, ¬ W.M a → H a = some o → H' a = some o
  inv : W.I m G' H'
  lk : ∀ a o u, G' a = some (.frz o u) → (∀ xs, u ≠ .lst xs) → W.L a ∨ G a = some (.frz o u)
section
variable {ι : Type} {W : Wd ι} {m m' m1 m2 : ι} {G H G' H' G1 H1 G2 H2 : Hp}
theorem Ok.refl (h : Ok W m G H) : Grow W G H m G H := ⟨Ex.refl G, h.ex, fun _ _ _ _ q => q, fun _ _ _ q => q, h.inv, fun _ _ _ q _ => .inr q⟩
theorem Grow.ok (g : Grow W G H m' G' H') (h : Ok W m G H) : Ok W m' G' H' := ⟨g.sub, g.inv, fun a m => by obtain ⟨u, e, t⟩ := W.has _ _ _ a h.inv m; exact g.fresh a u e t (h.off a m), fun a o u q n => (g.lk a o u q n).elim (fun z => z) fun z => h.lk a o u z n⟩
theorem Grow.there (g : Grow W G H m' G' H') {a : Addr} (h : H a ≠ none) : H' a ≠ none := by
  by_cases m : W.M a
  · exact W.ne g.inv m
  · cases e : H a with
    | none => exact absurd e h
    | some o => rw [g.keep a o m e]; exact fun z => by cases z
theorem Grow.back (g : Grow W G H m' G' H') {a : Addr} (h : H' a = none) : H a = none := by
  cases e : H a with
  | none => rfl
  | some o => exact absurd h (g.there (by rw [e]; exact fun z => by cases z))
theorem Grow.trans (a : Grow W G H m1 G1 H1) (b : Grow W G1 H1 m2 G2 H2) : Grow W G H m2 G2 H2 :=
  ⟨a.ex.trans b.ex, b.sub, fun c o h t n => by
    by_cases mc : W.M c
    · obtain ⟨u, e, t2⟩ := W.has _ _ _ c a.inv mc
      exact b.fresh c u e t2 (a.fresh c o h t n)
    · exact b.fresh c o (a.keep c o mc h) t (a.fresh c o h t n), fun c o m h => b.keep c o m (a.keep c o m h), b.inv, fun c o u q n => (b.lk c o u q n).elim .inl fun z => a.lk c o u z n⟩
/-- something new, not data -/
theorem Grow.new (h : Ok W m G H) {p : Addr} {o : HO} (hp : H p = none) : Grow W G H m G (upd H p o) :=
  ⟨Ex.refl G, h.ex.trans (Ex.new hp), fun _ _ _ _ q => q, fun a u _ e => by rw [upd_ne (ne_of_none e hp)]; exact e,
    W.dep _ _ _ _ _ (Ex.refl _) (fun a m => upd_ne fun z => W.ne h.inv m (by rw [z]; exact hp)) h.inv, fun _ _ _ q _ => .inr q⟩
/-- something new, data -/
theorem Grow.newD (h : Ok W m G H) {p : Addr} {o : HO} (hp : H p = none) (nf : ∀ x u, o ≠ .frz x u) : Grow W G H m (upd G p o) (upd H p o) :=
  have gp : G p = none := fresh_back h.ex hp
  ⟨Ex.new gp, fun a u e => by
    by_cases z : a = p
    · subst z; rw [upd_same] at e ⊢; exact e
    · rw [upd_ne z] at e ⊢; exact h.ex a u e, fun a o q _ n => by
    have z : a ≠ p := fun z => by rw [z, hp] at q; cases q
    rw [upd_ne z]; exact n, fun a u _ e => by rw [upd_ne (ne_of_none e hp)]; exact e,
    W.dep _ _ _ _ _ (Ex.new gp) (fun a m => upd_ne fun z => W.ne h.inv m (by rw [z]; exact hp)) h.inv, fun a x u q _ => by
    by_cases z : a = p
    · subst z; rw [upd_same] at q; exact absurd (Option.some.inj q) (nf x u)
    · rw [upd_ne z] at q; exact .inr q⟩
/-- a store at what is neither data nor the world's -/
theorem Grow.mut (g : Grow W G H m' G' H') {p : Addr} {o : HO} (h0 : H p = none) (n : G' p = none) (mp : ¬ W.M p) : Grow W G H m' G' (upd H' p o) :=
  ⟨g.ex, g.sub.mut n, g.fresh, fun b w mb q => by rw [upd_ne (ne_of_none q h0)]; exact g.keep b w mb q, W.dep _ _ _ _ _ (Ex.refl _) (fun b mb => upd_ne fun z => mp (by rw [← z]; exact mb)) g.inv, g.lk⟩
/-- what is new becomes data, as it stands -/
theorem Grow.frz (g : Grow W G H m' G' H') {p : Addr} {u : HO} (h0 : H p = none) (n : G' p = none) (e : H' p = some u) (nf : ∀ x y, u ≠ .frz x y) : Grow W G H m' (upd G' p u) H' :=
  ⟨g.ex.trans (Ex.new n), fun a w q => by
    by_cases z : a = p
    · subst z; rw [upd_same] at q; rw [e]; exact q
    · rw [upd_ne z] at q; exact g.sub a w q, fun a o q t w => by
    have z : a ≠ p := fun z => by rw [z, h0] at q; cases q
    rw [upd_ne z]; exact g.fresh a o q t w, g.keep, W.dep _ _ _ _ _ (Ex.new n) (fun _ _ => rfl) g.inv, fun a x y q n => by
    by_cases z : a = p
    · subst z; rw [upd_same] at q; exact absurd (Option.some.inj q) (nf x y)
    · rw [upd_ne z] at q; exact g.lk a x y q n⟩
end
/-! ### objects of one's own -/
inductive O1 where
  | lst (ds : List D) | dK (kvs : List (Key × D)) | dT (kvs : List (List Key × D))
def O1.frz : O1 → D
  | .lst ds => .lst ds
  | .dK kvs => .dic kvs
  | .dT kvs => .dit kvs
/-- an item, a field: data or an object of one's own -/
inductive It where
  | d (d : D) | o (o : O1)
def It.frz : It → D
  | .d x => x
  | .o x => x.frz
inductive O where
  | one (o : O1) | nest (its : List It) | ins (pa C : Addr) (fs : List (Str × It))
abbrev O.lst (ds : List D) : O := .one (.lst ds)
abbrev O.dK (kvs : List (Key × D)) : O := .one (.dK kvs)
abbrev O.dT (kvs : List (List Key × D)) : O := .one (.dT kvs)
def O.frz : O → D
  | .one o => o.frz
  | .nest its => .lst (its.map It.frz)
  | .ins _ C fs => .ins C (fs.map fun f => (f.1, f.2.frz))
section
variable {K : PySem.W.Frag} {F F' : Addr → Prop} {G G' H H' : Hp} {p q : Addr}
def Ob1 (K : PySem.W.Frag) (G H : Hp) (p : Addr) : O1 → Prop
  | .lst ds => ∃ xs, H p = some (.lst xs) ∧ RpL K G xs ds
  | .dK ds => ∃ kvs, H p = some (.dK kvs) ∧ kvs.map (·.1) = ds.map (·.1) ∧ RpL K G (kvs.map (·.2)) (ds.map (·.2))
  | .dT ds => ∃ kvs, H p = some (.dT kvs) ∧ kvs.map (·.1) = ds.map (·.1) ∧ RpL K G (kvs.map (·.2)) (ds.map (·.2))
/-- of which kind -/
def pln : HO → Bool
  | .lst _ => true | .dK _ => true | .dT _ => true | .ins _ _ _ => true | _ => false
theorem Ob1.at (h : Ob1 K G H p o) : ∃ u, H p = some u ∧ pln u = true := by
  cases o with
  | lst ds => obtain ⟨_, e, _⟩ := h; exact ⟨_, e, rfl⟩
  | dK ds => obtain ⟨_, e, _⟩ := h; exact ⟨_, e, rfl⟩
  | dT ds => obtain ⟨_, e, _⟩ := h; exact ⟨_, e, rfl⟩
theorem Ob1.up {o : O1} (e : Up K G G') (hp : H' p = H p) (h : Ob1 K G H p o) : Ob1 K G' H' p o := by
  cases o with
  | lst ds => obtain ⟨xs, a, b⟩ := h; exact ⟨xs, hp.trans a, b.up e⟩
  | dK ds => obtain ⟨xs, a, k, b⟩ := h; exact ⟨xs, hp.trans a, k, b.up e⟩
  | dT ds => obtain ⟨xs, a, k, b⟩ := h; exact ⟨xs, hp.trans a, k, b.up e⟩
theorem Ob1.mono {o : O1} (e : Ex G G') (hp : H' p = H p) (h : Ob1 K G H p o) : Ob1 K G' H' p o := h.up (Up.ex e) hp
def RIt (K : PySem.W.Frag) (F : Addr → Prop) (G H : Hp) (v : V) : It → Prop
  | .d d => Rp K G v d
  | .o o => ∃ q, v = .ref q ∧ F q ∧ Ob1 K G H q o
inductive RIts (K : PySem.W.Frag) (F : Addr → Prop) (G H : Hp) : List V → List It → Prop
  | nil : RIts K F G H [] []
  | cons {v : V} {vs : List V} {i : It} {is : List It} : RIt K F G H v i → RIts K F G H vs is → RIts K F G H (v :: vs) (i :: is)
/-- where the own items stand -/
def kids : List V → List It → List Addr
  | .ref q :: vs, .o _ :: is => q :: kids vs is
  | _ :: vs, _ :: is => kids vs is
  | _, _ => []
theorem kids_d (v : V) (vs : List V) (d : D) (is : List It) : kids (v :: vs) (.d d :: is) = kids vs is := by cases v <;> rfl
theorem kids_o (q : Addr) (vs : List V) (o : O1) (is : List It) : kids (.ref q :: vs) (.o o :: is) = q :: kids vs is := rfl
theorem RIts.kid : ∀ {vs : List V} {is : List It}, RIts K F G H vs is → ∀ {a : Addr}, a ∈ kids vs is → F a ∧ ∃ u, H a = some u ∧ pln u = true
  | _, _, .nil, a, h => by cases h
  | _, _, .cons (i := .d d) r rs, a, h => by rw [kids_d] at h; exact rs.kid h
  | _, _, .cons (i := .o o) r rs, a, h => by
    obtain ⟨q, rfl, f, ob⟩ := r
    rw [kids_o] at h
    rcases List.mem_cons.mp h with rfl | h
    · exact ⟨f, ob.at⟩
    · exact rs.kid h
theorem RIts.upA (e : Up K G G') : ∀ {vs : List V} {is : List It}, (∀ a ∈ kids vs is, H' a = H a ∧ F' a) → RIts K F G H vs is → RIts K F' G' H' vs is
  | [], [], _, _ => .nil
  | [], _ :: _, _, z => by cases z
  | _ :: _, [], _, z => by cases z
  | v :: vs, .d d :: is, k, z => by
    cases z with
    | cons r rs => exact .cons (e _ _ r) (rs.upA e fun a ha => k a (by rw [kids_d]; exact ha))
  | v :: vs, .o o :: is, k, z => by
    cases z with
    | cons r rs =>
      obtain ⟨q, rfl, f, ob⟩ := r
      obtain ⟨k1, k2⟩ := k q (by rw [kids_o]; simp)
      exact .cons ⟨q, rfl, k2, ob.up e k1⟩ (rs.upA e fun a ha => k a (by rw [kids_o]; simp [ha]))
theorem RIts.monoA (e : Ex G G') {vs : List V} {is : List It} (k : ∀ a ∈ kids vs is, H' a = H a ∧ F' a) (r : RIts K F G H vs is) : RIts K F' G' H' vs is := r.upA (Up.ex e) k
theorem RIts.length : ∀ {vs : List V} {is : List It}, RIts K F G H vs is → vs.length = is.length
  | _, _, .nil => rfl
  | _, _, .cons _ r => by simp [r.length]
theorem RIts.getD : ∀ {vs : List V} {is : List It}, RIts K F G H vs is → ∀ {j : Nat} {i : It}, is[j]? = some i → ∃ v, vs[j]? = some v ∧ RIt K F G H v i
  | _, _, .nil, j, i, h => by simp at h
  | _, _, .cons h r, 0, v, e => by simp at e; subst e; exact ⟨_, rfl, h⟩
  | _, _, .cons h r, i + 1, v, e => by
    obtain ⟨d, h1, h2⟩ := r.getD (j := i) (i := v) (by simpa using e)
    exact ⟨d, by simpa using h1, h2⟩
def OwnAt (K : PySem.W.Frag) (F : Addr → Prop) (G H : Hp) (p : Addr) : O → Prop
  | .one o => F p ∧ Ob1 K G H p o
  | .nest its => F p ∧ ∃ vs, H p = some (.lst vs) ∧ RIts K F G H vs its ∧ (p :: kids vs its).Nodup
  | .ins pa C fs => F p ∧ p = pa ∧ ∃ dx fv, F dx ∧ H p = some (.ins C dx fv) ∧ H dx = some (.own p) ∧ fv.map (·.1) = fs.map (·.1) ∧ RIts K F G H (fv.map (·.2)) (fs.map (·.2)) ∧ (kids (fv.map (·.2)) (fs.map (·.2))).Nodup
def Ads (H : Hp) (p : Addr) : O → Addr → Prop
  | .one _, a => a = p
  | .nest its, a => a = p ∨ ∃ vs, H p = some (.lst vs) ∧ a ∈ kids vs its
  | .ins _ C fs, a => a = p ∨ ∃ dx fv, H p = some (.ins C dx fv) ∧ (a = dx ∨ a ∈ kids (fv.map (·.2)) (fs.map (·.2)))
def pln2 (p : Addr) : HO → Bool
  | .own x => decide (x = p) | u => pln u
theorem OwnAt.root {o : O} (h : OwnAt K F G H p o) : F p ∧ ∃ u, H p = some u ∧ pln u = true := by
  cases o with
  | one o => exact ⟨h.1, h.2.at⟩
  | nest its => obtain ⟨f, vs, e, _⟩ := h; exact ⟨f, _, e, rfl⟩
  | ins pa C fs => obtain ⟨f, _, dx, fv, _, e, _⟩ := h; exact ⟨f, _, e, rfl⟩
theorem OwnAt.ads {o : O} {a : Addr} (h : OwnAt K F G H p o) (ha : Ads H p o a) : F a ∧ ∃ u, H a = some u ∧ pln2 p u = true := by
  have up : ∀ {b}, (F b ∧ ∃ u, H b = some u ∧ pln u = true) → F b ∧ ∃ u, H b = some u ∧ pln2 p u = true := fun ⟨f, u, e, q⟩ => ⟨f, u, e, by cases u <;> first | exact q | cases q⟩
  cases o with
  | one o => obtain rfl : a = p := ha; exact up h.root
  | nest its =>
    obtain ⟨f, vs, e, r, nd⟩ := id h
    rcases ha with rfl | ⟨vs', e', hk⟩
    · exact up h.root
    · rw [e] at e'; cases e'; exact up (r.kid hk)
  | ins pa C fs =>
    obtain ⟨f, _, dx, fv, fx, e, ex, k, r, nd⟩ := id h
    rcases ha with rfl | ⟨dx', fv', e', hk⟩
    · exact up h.root
    · rw [e] at e'
      cases e'
      rcases hk with rfl | hk
      · exact ⟨fx, _, ex, by simp [pln2]⟩
      · exact up (r.kid hk)
theorem Ads.root (o : O) : Ads H p o p := by cases o with
  | one o => rfl
  | nest its => exact .inl rfl
  | ins pa C fs => exact .inl rfl
theorem OwnAt.upA {o : O} (e : Up K G G') (k : ∀ a, Ads H p o a → H' a = H a ∧ F' a) (h : OwnAt K F G H p o) : OwnAt K F' G' H' p o := by
  obtain ⟨k1, k2⟩ := k p (Ads.root o)
  cases o with
  | one o =>
    obtain ⟨f, ob⟩ := h
    exact ⟨k2, ob.up e k1⟩
  | nest its =>
    obtain ⟨f, vs, eh, r, nd⟩ := h
    exact ⟨k2, vs, k1.trans eh, r.upA e fun a ha => k a (.inr ⟨vs, eh, ha⟩), nd⟩
  | ins pa C fs =>
    obtain ⟨f, ea, dx, fv, fx, eh, ex, kk, r, nd⟩ := h
    obtain ⟨k3, k4⟩ := k dx (.inr ⟨dx, fv, eh, .inl rfl⟩)
    exact ⟨k2, ea, dx, fv, k4, k1.trans eh, k3.trans ex, kk, r.upA e fun a ha => k a (.inr ⟨dx, fv, eh, .inr ha⟩), nd⟩
theorem OwnAt.monoA {o : O} (e : Ex G G') (k : ∀ a, Ads H p o a → H' a = H a ∧ F' a) (h : OwnAt K F G H p o) : OwnAt K F' G' H' p o := h.upA (Up.ex e) k
theorem pln_t {u : HO} (h : pln u = true) : noTup u = true := by cases u <;> first | rfl | cases h
theorem pln2_t {p : Addr} {u : HO} (h : pln2 p u = true) : noTup u = true := by cases u <;> first | rfl | cases h
theorem OwnAt.mono {o : O} (e : Ex G G') (k : ∀ a, F a → (∃ u, H a = some u ∧ noTup u = true) → H' a = H a ∧ F' a) (h : OwnAt K F G H p o) : OwnAt K F' G' H' p o :=
  h.monoA e fun a ha => by
    obtain ⟨f, u, hu, hk⟩ := h.ads ha
    exact k a f ⟨u, hu, pln2_t hk⟩
theorem Ads.eq {o : O} {a : Addr} (hp : H' p = H p) (h : Ads H' p o a) : Ads H p o a := by
  cases o with
  | one o => exact h
  | nest its => rcases h with h | ⟨vs, e, k⟩; exact .inl h; exact .inr ⟨vs, hp.symm.trans e, k⟩
  | ins pa C fs => rcases h with h | ⟨dx, fv, e, k⟩; exact .inl h; exact .inr ⟨dx, fv, hp.symm.trans e, k⟩
end
/-! ### what a name, a value is -/
inductive S where
  | no | dat (d : D) | own (o : O) | vw (o : O) | at_ (p : Addr) | xc (C a d : Addr) (fs : List (Str × D)) | el (i j : Nat) | lk (o : O1)
def S.frz : S → S
  | .own o => .dat o.frz
  | s => s
section
variable {ι : Type}
def Fr (W : Wd ι) (H0 G : Hp) (q : Addr) : Prop := H0 q = none ∧ G q = none ∧ ¬ W.M q
def Fv (W : Wd ι) (G : Hp) (q : Addr) : Prop := G q = none ∧ ¬ W.M q
/-- a dict that is locked, as the world knows -/
def LkOb (K : PySem.W.Frag) (G : Hp) (u : HO) : O1 → Prop
  | .lst _ => False
  | .dK ds => ∃ kvs, u = .dK kvs ∧ kvs.map (·.1) = ds.map (·.1) ∧ RpL K G (kvs.map (·.2)) (ds.map (·.2))
  | .dT ds => ∃ kvs, u = .dT kvs ∧ kvs.map (·.1) = ds.map (·.1) ∧ RpL K G (kvs.map (·.2)) (ds.map (·.2))
theorem LkOb.up {K : PySem.W.Frag} {G G' : Hp} {u : HO} {o : O1} (e : Up K G G') (h : LkOb K G u o) : LkOb K G' u o := by
  cases o with
  | lst ds => exact h.elim
  | dK ds => obtain ⟨kvs, a, b, c⟩ := h; exact ⟨kvs, a, b, c.up e⟩
  | dT ds => obtain ⟨kvs, a, b, c⟩ := h; exact ⟨kvs, a, b, c.up e⟩
def RelS (K : PySem.W.Frag) (W : Wd ι) (H0 G H : Hp) (v : V) : S → Prop
  | .no => True
  | .dat d => Rp K G v d
  | .own o => ∃ p, v = .ref p ∧ OwnAt K (Fr W H0 G) G H p o
  | .vw o => ∃ p, v = .ref p ∧ OwnAt K (Fv W G) G H p o
  | .at_ p => v = .ref p
  | .xc _ a d fs => v = .ref a ∧ G d = none ∧ ¬ W.M d ∧ ∃ fv, H d = some (.xd fv) ∧ fv.map (·.1) = fs.map (·.1) ∧ RpL K G (fv.map (·.2)) (fs.map (·.2))
  | .el _ _ => True
  | .lk o => ∃ p x u, v = .ref p ∧ W.pin p (.frz x u) ∧ LkOb K G u o
variable {K : PySem.W.Frag} {W : Wd ι} {m m' m1 m2 : ι} {H0 G H G' H' G1 H1 G2 H2 : Hp} {v : V} {s : S}
theorem grow_at (g : Grow W G H m' G' H') {p : Addr} (m : ¬ W.M p) (h : H p ≠ none) : H' p = H p := by
  cases e : H p with
  | none => exact absurd e h
  | some o => exact g.keep p o m e
theorem Grow.fr (g : Grow W G H m' G' H') (a : Addr) (f : Fr W H0 G a) (h : ∃ u, H a = some u ∧ noTup u = true) : H' a = H a ∧ Fr W H0 G' a := by
  obtain ⟨u, e, t⟩ := h
  exact ⟨grow_at g f.2.2 (by rw [e]; exact fun z => by cases z), f.1, g.fresh a u e t f.2.1, f.2.2⟩
theorem Grow.fv (g : Grow W G H m' G' H') (a : Addr) (f : Fv W G a) (h : ∃ u, H a = some u ∧ noTup u = true) : H' a = H a ∧ Fv W G' a := by
  obtain ⟨u, e, t⟩ := h
  exact ⟨grow_at g f.2 (by rw [e]; exact fun z => by cases z), g.fresh a u e t f.1, f.2⟩
theorem RelS.grow (g : Grow W G H m' G' H') (r : RelS K W H0 G H v s) : RelS K W H0 G' H' v s := by
  cases s with
  | no => trivial
  | el i j => trivial
  | dat d => exact Rp.mono g.ex r
  | own o => obtain ⟨p, rfl, ob⟩ := r; exact ⟨p, rfl, ob.mono g.ex g.fr⟩
  | vw o => obtain ⟨p, rfl, ob⟩ := r; exact ⟨p, rfl, ob.mono g.ex g.fv⟩
  | lk o => obtain ⟨p, x, u, rfl, n, ob⟩ := r; exact ⟨p, x, u, rfl, n, ob.up (Up.ex g.ex)⟩
  | at_ p => exact r
  | xc C a d fs =>
    obtain ⟨e, n, m, fv, h, k, b⟩ := r
    exact ⟨e, g.fresh d _ h rfl n, m, fv, g.keep d _ m h, k, b.mono g.ex⟩
theorem RelS.back (g : Grow W G H m1 G1 H1) (r : RelS K W H1 G2 H2 v s) : RelS K W H G2 H2 v s := by
  cases s with
  | own o =>
    obtain ⟨p, rfl, ob⟩ := r
    exact ⟨p, rfl, ob.mono (Ex.refl _) fun a f _ => ⟨rfl, g.back f.1, f.2⟩⟩
  | no => trivial
  | el i j => trivial
  | dat d => exact r
  | vw o => exact r
  | lk o => exact r
  | at_ p => exact r
  | xc C a d fs => exact r
/-- what an object of one's own is as data -/
theorem frz_1 {p : Addr} {o : O1} (g : Grow W G H m1 G1 H1) (f : Fr W H G1 p) (ob : Ob1 K G1 H1 p o) : ∃ G2, Grow W G H m1 G2 H1 ∧ Rp K G2 (.ref p) o.frz ∧ Ex G1 G2 ∧ ∀ q, q ≠ p → G2 q = G1 q := by
  obtain ⟨u, hu, hk⟩ := ob.at
  have nf : ∀ x y, u ≠ .frz x y := fun x y z => by rw [z] at hk; cases hk
  have x : Ex G1 (upd G1 p u) := Ex.new f.2.1
  refine ⟨upd G1 p u, g.frz f.1 f.2.1 hu nf, ?_, x, fun q hq => upd_ne hq⟩
  cases o with
  | lst ds => obtain ⟨xs, e, b⟩ := ob; rw [hu] at e; cases e; exact Rp.lst upd_same (b.mono x)
  | dK ds => obtain ⟨xs, e, k, b⟩ := ob; rw [hu] at e; cases e; exact Rp.dic (.inl upd_same) k (b.mono x)
  | dT ds => obtain ⟨xs, e, k, b⟩ := ob; rw [hu] at e; cases e; exact Rp.dit (.inl upd_same) k (b.mono x)
theorem frz_its : ∀ {vs : List V} {is : List It} {G1 : Hp}, Grow W G H m1 G1 H1 → RIts K (Fr W H G1) G1 H1 vs is → (kids vs is).Nodup →
    ∃ G2, Grow W G H m1 G2 H1 ∧ RpL K G2 vs (is.map It.frz) ∧ Ex G1 G2 ∧ ∀ q, q ∉ kids vs is → G2 q = G1 q
  | [], [], G1, g, _, _ => ⟨G1, g, .nil, Ex.refl _, fun _ _ => rfl⟩
  | [], _ :: _, _, _, z, _ => by cases z
  | _ :: _, [], _, _, z, _ => by cases z
  | v :: vs, .d d :: is, G1, g, z, nd => by
    cases z with
    | cons r rs =>
      rw [kids_d] at nd
      obtain ⟨G2, g2, r2, e2, k2⟩ := frz_its g rs nd
      exact ⟨G2, g2, .cons (Rp.mono e2 r) r2, e2, fun q hq => k2 q (by rw [kids_d] at hq; exact hq)⟩
  | v :: vs, .o o :: is, G1, g, z, nd => by
    cases z with
    | cons r rs =>
      obtain ⟨p, rfl, f, ob⟩ := r
      rw [kids_o] at nd
      obtain ⟨n1, n2⟩ := List.nodup_cons.mp nd
      obtain ⟨G2, g2, r2, e2, k2⟩ := frz_its g rs n2
      have f2 : Fr W H G2 p := ⟨f.1, by rw [k2 p n1]; exact f.2.1, f.2.2⟩
      obtain ⟨G3, g3, r3, e3, k3⟩ := frz_1 g2 f2 (ob.mono e2 rfl)
      refine ⟨G3, g3, .cons r3 (r2.mono e3), e2.trans e3, fun q hq => ?_⟩
      rw [kids_o, List.mem_cons, not_or] at hq
      rw [k3 q hq.1, k2 q hq.2]
theorem zip_map_eq {α β γ : Type} {l : List (α × β)} {f : β → γ} : (l.map fun x => (x.1, f x.2)).map (·.1) = l.map (·.1) ∧ (l.map fun x => (x.1, f x.2)).map (·.2) = (l.map (·.2)).map f := by simp [List.map_map, Function.comp_def]
theorem frz_own {p : Addr} {o : O} (g : Grow W G H m1 G1 H1) (ob : OwnAt K (Fr W H G1) G1 H1 p o) : ∃ G2, Grow W G H m1 G2 H1 ∧ Rp K G2 (.ref p) o.frz ∧ Ex G1 G2 ∧ ∀ q, ¬ Ads H1 p o q → G2 q = G1 q := by
  cases o with
  | one o =>
    obtain ⟨G2, a, b, c, d⟩ := frz_1 g ob.1 ob.2
    exact ⟨G2, a, b, c, fun q hq => d q hq⟩
  | nest its =>
    obtain ⟨f, vs, e, r, nd⟩ := ob
    obtain ⟨n1, n2⟩ := List.nodup_cons.mp nd
    obtain ⟨G2, g2, r2, e2, k2⟩ := frz_its g r n2
    have n : G2 p = none := by rw [k2 p n1]; exact f.2.1
    refine ⟨upd G2 p (.lst vs), g2.frz f.1 n e (fun _ _ z => by cases z), Rp.lst upd_same (r2.mono (Ex.new n)), e2.trans (Ex.new n), fun q hq => ?_⟩
    have q1 : q ≠ p := fun z => hq (.inl z)
    rw [upd_ne q1, k2 q fun z => hq (.inr ⟨vs, e, z⟩)]
  | ins pa C fs =>
    obtain ⟨f, _, dx, fv, fx, e, ex, kk, r, nd⟩ := ob
    obtain ⟨G2, g2, r2, e2, k2⟩ := frz_its g r nd
    have nk : p ∉ kids (fv.map (·.2)) (fs.map (·.2)) := fun z => by
      obtain ⟨_, u, hu, hk⟩ := r.kid z
      rw [e] at hu
      cases hu
      have : ∀ {vs is}, RIts K (Fr W H G1) G1 H1 vs is → p ∈ kids vs is → False := fun {vs is} rr => by
        induction rr with
        | nil => intro h; cases h
        | @cons v vs i is r1 _ ih =>
          intro h
          cases i with
          | d d => rw [kids_d] at h; exact ih h
          | o o =>
            obtain ⟨q, rfl, _, ob⟩ := r1
            rw [kids_o] at h
            rcases List.mem_cons.mp h with rfl | h
            · cases o with
              | lst ds => obtain ⟨_, z, _⟩ := ob; rw [e] at z; cases z
              | dK ds => obtain ⟨_, z, _⟩ := ob; rw [e] at z; cases z
              | dT ds => obtain ⟨_, z, _⟩ := ob; rw [e] at z; cases z
            · exact ih h
      exact this r z
    have nx : dx ∉ kids (fv.map (·.2)) (fs.map (·.2)) := fun z => by
      obtain ⟨_, u, hu, hk⟩ := r.kid z
      rw [ex] at hu
      cases hu
      cases hk
    have pd : p ≠ dx := fun z => by rw [z, ex] at e; cases e
    have n : G2 p = none := by rw [k2 p nk]; exact f.2.1
    have n2 : upd G2 p (.ins C dx fv) dx = none := by rw [upd_ne (Ne.symm pd), k2 dx nx]; exact fx.2.1
    have g3 := (g2.frz f.1 n e (fun _ _ z => by cases z)).frz fx.1 n2 ex (fun _ _ z => by cases z)
    have e3 : Ex G2 (upd (upd G2 p (.ins C dx fv)) dx (.own p)) := (Ex.new n).trans (Ex.new n2)
    refine ⟨_, g3, Rp.ins (dx := dx) (fv := fv) (by rw [upd_ne pd]; exact upd_same) upd_same (by rw [zip_map_eq.1]; exact kk) (by rw [zip_map_eq.2]; exact r2.mono e3), e2.trans e3, fun q hq => ?_⟩
    have q1 : q ≠ p := fun z => hq (.inl z)
    have q2 : q ≠ dx := fun z => hq (.inr ⟨dx, fv, e, .inl z⟩)
    rw [upd_ne q2, upd_ne q1, k2 q fun z => hq (.inr ⟨dx, fv, e, .inr z⟩)]
theorem RelS.freezeX (g : Grow W G H m1 G1 H1) (r : RelS K W H G1 H1 v s) : ∃ G2, Grow W G H m1 G2 H1 ∧ RelS K W H G2 H1 v s.frz ∧ Ex G1 G2 := by
  cases s with
  | own o => obtain ⟨p, rfl, ob⟩ := r; obtain ⟨G2, a, b, x, _⟩ := frz_own g ob; exact ⟨G2, a, b, x⟩
  | no => exact ⟨G1, g, trivial, Ex.refl _⟩
  | el i j => exact ⟨G1, g, trivial, Ex.refl _⟩
  | dat d => exact ⟨G1, g, r, Ex.refl _⟩
  | vw o => exact ⟨G1, g, r, Ex.refl _⟩
  | lk o => exact ⟨G1, g, r, Ex.refl _⟩
  | at_ p => exact ⟨G1, g, r, Ex.refl _⟩
  | xc C a d fs => exact ⟨G1, g, r, Ex.refl _⟩
theorem RelS.freeze (g : Grow W G H m1 G1 H1) (r : RelS K W H G1 H1 v s) : ∃ G2, Grow W G H m1 G2 H1 ∧ RelS K W H G2 H1 v s.frz := by
  obtain ⟨G2, a, b, _⟩ := r.freezeX g
  exact ⟨G2, a, b⟩
end
end DL
set_option Elab.async false
set_option linter.all false
set_option maxRecDepth 100000
set_option maxHeartbeats 1000000
namespace DL
open PySem L2 Evl
/-! ### where one stands -/
abbrev Xp (ι : Type) := ι → Addr → List (Str × D) → Prop
section
variable {ι : Type}
def ExcQ (K : PySem.W.Frag) (W : Wd ι) (G H : Hp) (Ξ : Xp ι) (E : XK) : Prop := ∀ (C d : Addr) (fv : List (Str × V)) (fs : List (Str × D)) (m' : ι) (G' H' : Hp), Grow W G H m' G' H' → G' d = none → ¬ W.M d → H' d = some (.xd fv) → fv.map (·.1) = fs.map (·.1) → RpL K G' (fv.map (·.2)) (fs.map (·.2)) → Ξ m' C fs → E (.ref C) (some d) H'
theorem ExcQ.grow {K : PySem.W.Frag} {W : Wd ι} {m' : ι} {G H G' H' : Hp} {Ξ : Xp ι} {E : XK} (g : Grow W G H m' G' H') (h : ExcQ K W G H Ξ E) : ExcQ K W G' H' Ξ E :=
  fun C d fv fs m2 G2 H2 g2 => h C d fv fs m2 G2 H2 (g.trans g2)
end
structure Cc (ι : Type) where
  K : PySem.W.Frag
  W : Wd ι
  E : XK
  Ξ : Xp ι
  m0 : ι
  G0 : Hp
  H0 : Hp
section
variable {ι : Type}
/-- slot k is item j of the list in slot i -/
def ElAt (H : Hp) (σ : L2.St) (ρ : List S) (k i j : Nat) : Prop := ∃ its p vs q o, ρ[i]? = some (.own (.nest its)) ∧ σ[i]? = some (some (.ref p)) ∧ H p = some (.lst vs) ∧ vs[j]? = some (.ref q) ∧ its[j]? = some (.o o) ∧ σ[k]? = some (some (.ref q))
structure EnvOk (c : Cc ι) (m : ι) (G H : Hp) (σ : L2.St) (ρ : List S) : Prop where
  ok0 : Ok c.W c.m0 c.G0 c.H0
  gr : Grow c.W c.G0 c.H0 m G H
  exc : ExcQ c.K c.W c.G0 c.H0 c.Ξ c.E
  len : σ.length = ρ.length
  at_ : ∀ (i : Nat) (s : S), ρ[i]? = some s → (s = .no ∨ ∃ v, σ[i]? = some (some v) ∧ RelS c.K c.W c.H0 G H v s)
  sep : ∀ (i j : Nat) (o o' : O) (p q : Addr), i ≠ j → ρ[i]? = some (.own o) → ρ[j]? = some (.own o') → σ[i]? = some (some (.ref p)) → σ[j]? = some (some (.ref q)) → ∀ a, Ads H p o a → ¬ Ads H q o' a
  els : ∀ (k i j : Nat), ρ[k]? = some (.el i j) → ElAt H σ ρ k i j
  vws : ∀ (k : Nat) (o : O) (p : Addr), ρ[k]? = some (.vw o) → σ[k]? = some (some (.ref p)) → ∀ a, Ads H p o a → c.H0 a ≠ none
variable {c : Cc ι} {m m' m1 : ι} {G H G' H' : Hp} {σ : L2.St} {ρ : List S}
theorem EnvOk.ok (e : EnvOk c m G H σ ρ) : Ok c.W m G H := e.gr.ok e.ok0
theorem EnvOk.refl (e : EnvOk c m G H σ ρ) : Grow c.W G H m G H := e.ok.refl
theorem EnvOk.own (e : EnvOk c m G H σ ρ) {i : Nat} {o : O} (hi : ρ[i]? = some (.own o)) : ∃ p, σ[i]? = some (some (.ref p)) ∧ OwnAt c.K (Fr c.W c.H0 G) G H p o := by
  rcases e.at_ i _ hi with z | ⟨v, a, p, rfl, ob⟩
  · cases z
  · exact ⟨p, a, ob⟩
theorem OwnAt.here {K : PySem.W.Frag} {F : Addr → Prop} {p : Addr} {o : O} (h : OwnAt K F G H p o) : H p ≠ none := by
  obtain ⟨_, u, e, _⟩ := h.root
  rw [e]; exact fun z => by cases z
theorem OwnAt.hereT {K : PySem.W.Frag} {F : Addr → Prop} {p : Addr} {o : O} (h : OwnAt K F G H p o) : ∃ u, H p = some u ∧ noTup u = true := by
  obtain ⟨_, u, e, t⟩ := h.root
  exact ⟨u, e, pln_t t⟩
theorem EnvOk.grow (g : Grow c.W G H m' G' H') (e : EnvOk c m G H σ ρ) : EnvOk c m' G' H' σ ρ := by
  have kp : ∀ {i : Nat} {o : O} {p : Addr}, ρ[i]? = some (.own o) → σ[i]? = some (some (.ref p)) → H' p = H p := fun {i o p} hi hp => by
    obtain ⟨p', hp', ob⟩ := e.own hi
    rw [hp] at hp'
    cases hp'
    exact (g.fr p ob.root.1 ob.hereT).1
  refine ⟨e.ok0, e.gr.trans g, e.exc, e.len, fun i s h => (e.at_ i s h).imp_right fun ⟨v, a, r⟩ => ⟨v, a, r.grow g⟩, fun i j o o' p q hij hi hj pi pj a ha hb => ?_, fun k i j h => ?_, fun k o p hk hp a ha => ?_⟩
  · exact e.sep i j o o' p q hij hi hj pi pj a (ha.eq (kp hi pi)) (hb.eq (kp hj pj))
  · obtain ⟨its, p, vs, q, o, h1, h2, h3, h4⟩ := e.els k i j h
    exact ⟨its, p, vs, q, o, h1, h2, (kp h1 h2).trans h3, h4⟩
  · rcases e.at_ k _ hk with z | ⟨v, hv, p', rfl, ob⟩
    · cases z
    · rw [hp] at hv
      cases hv
      exact e.vws k o p hk hp a (ha.eq (g.fv p ob.root.1 ob.hereT).1)
theorem EnvOk.excq (e : EnvOk c m G H σ ρ) : ExcQ c.K c.W G H c.Ξ c.E := e.exc.grow e.gr
/-! ### judgements -/
def De (c : Cc ι) (m : ι) (te : TE) (ρ : List S) (Φ : ι → S → Prop) : Prop := ∀ σ G H, EnvOk c m G H σ ρ → ∀ Q : VK, (∀ v s m' G' H', Grow c.W G H m' G' H' → RelS c.K c.W H G' H' v s → Φ m' s → Q v H') → te σ H Q
def DT (c : Cc ι) (m : ι) (tt : TT) (ρ : List S) (Φ : ι → Bool → Prop) : Prop := ∀ σ G H, EnvOk c m G H σ ρ → ∀ Q : Bool → Hp → Prop, (∀ b m' G' H', Grow c.W G H m' G' H' → Φ m' b → Q b H') → tt σ H Q
inductive RelSs (K : PySem.W.Frag) (W : Wd ι) (H0 G H : Hp) : List V → List S → Prop
  | nil : RelSs K W H0 G H [] []
  | cons {v : V} {vs : List V} {s : S} {ss : List S} : RelS K W H0 G H v s → RelSs K W H0 G H vs ss → RelSs K W H0 G H (v :: vs) (s :: ss)
theorem RelSs.grow {K : PySem.W.Frag} {W : Wd ι} {H0 G H G' H' : Hp} (g : Grow W G H m' G' H') : ∀ {vs : List V} {ss : List S}, RelSs K W H0 G H vs ss → RelSs K W H0 G' H' vs ss
  | _, _, .nil => .nil
  | _, _, .cons h r => .cons (h.grow g) (r.grow g)
theorem RelSs.back {K : PySem.W.Frag} {W : Wd ι} {G H G1 H1 G2 H2 : Hp} (g : Grow W G H m1 G1 H1) : ∀ {vs : List V} {ss : List S}, RelSs K W H1 G2 H2 vs ss → RelSs K W H G2 H2 vs ss
  | _, _, .nil => .nil
  | _, _, .cons h r => .cons (h.back g) (r.back g)
theorem RelSs.length {K : PySem.W.Frag} {W : Wd ι} {H0 G H : Hp} : ∀ {vs : List V} {ss : List S}, RelSs K W H0 G H vs ss → vs.length = ss.length
  | _, _, .nil => rfl
  | _, _, .cons _ r => by simp [RelSs.length r]
def DA (c : Cc ι) (m : ι) (ta : TA) (ρ : List S) (Φ : ι → List S → Prop) : Prop := ∀ σ G H, EnvOk c m G H σ ρ → ∀ Q : List V → Hp → Prop, (∀ vs ss m' G' H', Grow c.W G H m' G' H' → RelSs c.K c.W H G' H' vs ss → Φ m' ss → Q vs H') → ta σ H Q
def Ds (c : Cc ι) (m : ι) (ts : TS) (ρ : List S) (N : ι → List S → Prop) (R : ι → S → Prop) (B C : ι → List S → Prop) : Prop := ∀ (D : Ends) σ G H, EnvOk c m G H σ ρ →
  (∀ ρ' σ' m' G' H', N m' ρ' → Ex G G' → EnvOk c m' G' H' σ' ρ' → D.nx σ' H') →
  (∀ s v m' G' H', R m' s → Ex G G' → Grow c.W c.G0 c.H0 m' G' H' → RelS c.K c.W c.H0 G' H' v s → D.rt v H') →
  (∀ ρ' σ' m' G' H', B m' ρ' → Ex G G' → EnvOk c m' G' H' σ' ρ' → D.bk σ' H') →
  (∀ ρ' σ' m' G' H', C m' ρ' → Ex G G' → EnvOk c m' G' H' σ' ρ' → D.ct σ' H') → ts D σ H
variable {Φ : ι → S → Prop} {te ta tb : TE}
theorem De.imp {Ψ : ι → S → Prop} (h : De c m te ρ Φ) (i : ∀ m s, Φ m s → Ψ m s) : De c m te ρ Ψ := fun σ G H e Q q => h σ G H e Q fun v s m' G' H' g r p => q v s m' G' H' g r (i m' s p)
theorem de_frz (h : De c m te ρ fun m s => Φ m s.frz) : De c m te ρ Φ := fun σ G H e Q q => h σ G H e Q fun v s m1 G1 H1 g r p => by
  obtain ⟨G2, g2, r2⟩ := r.freeze g
  exact q v _ m1 G2 H1 g2 r2 p
theorem OwnAt.vw {K : PySem.W.Frag} {W : Wd ι} {H0 : Hp} {p : Addr} {o : O} (h : OwnAt K (Fr W H0 G) G H p o) : OwnAt K (Fv W G) G H p o := h.mono (Ex.refl _) fun a f _ => ⟨rfl, f.2⟩
theorem de_varD {i : Nat} {d : D} (hs : ρ[i]? = some (.dat d)) (h : Φ m (.dat d)) : De c m (tVar i) ρ Φ := fun σ G H e Q q => by
  rcases e.at_ i _ hs with hz | ⟨v, a, r⟩
  · cases hz
  · exact ⟨v, a, q v (.dat d) m G H e.refl r h⟩
theorem de_varO {i : Nat} {o : O} (hs : ρ[i]? = some (.own o)) (h : Φ m (.vw o)) : De c m (tVar i) ρ Φ := fun σ G H e Q q => by
  obtain ⟨p, a, ob⟩ := e.own hs
  exact ⟨.ref p, a, q _ (.vw o) m G H e.refl ⟨p, rfl, ob.vw⟩ h⟩
theorem de_varV {i : Nat} {o : O} (hs : ρ[i]? = some (.vw o)) (h : Φ m (.vw o)) : De c m (tVar i) ρ Φ := fun σ G H e Q q => by
  rcases e.at_ i _ hs with hz | ⟨v, a, r⟩
  · cases hz
  · exact ⟨v, a, q v (.vw o) m G H e.refl r h⟩
theorem de_varA {i : Nat} {p : Addr} (hs : ρ[i]? = some (.at_ p)) (h : Φ m (.at_ p)) : De c m (tVar i) ρ Φ := fun σ G H e Q q => by
  rcases e.at_ i _ hs with hz | ⟨v, a, r⟩
  · cases hz
  · exact ⟨v, a, q v (.at_ p) m G H e.refl r h⟩
/-- an item of an own list -/
theorem de_varE {k i j : Nat} {its : List It} {o : O1} (hs : ρ[k]? = some (.el i j)) (hi : ρ[i]? = some (.own (.nest its))) (hj : its[j]? = some (.o o)) (h : Φ m (.vw (.one o))) : De c m (tVar k) ρ Φ := fun σ G H e Q q => by
  obtain ⟨its', p, vs, a, o', h1, h2, h3, h4, h5, h6⟩ := e.els k i j hs
  rw [hi] at h1
  cases h1
  rw [hj] at h5
  cases h5
  obtain ⟨p', hp', f, vs', e', r, nd⟩ := e.own hi
  rw [h2] at hp'
  cases hp'
  rw [h3] at e'
  cases e'
  obtain ⟨v, hv, a', ev, fa, ob⟩ := r.getD hj
  rw [h4] at hv
  cases hv
  cases ev
  exact ⟨.ref a, h6, q _ (.vw (.one o)) m G H e.refl ⟨a, rfl, fa.2, ob⟩ h⟩
theorem de_int {i : Int} (h : Φ m (.dat (.int i))) : De c m (tC (.int i)) ρ Φ := fun σ G H e Q q => q _ (.dat (.int i)) m G H e.refl (Rp.int i) h
theorem de_bl {b : Bool} (h : Φ m (.dat (.bl b))) : De c m (tC (.bl b)) ρ Φ := fun σ G H e Q q => q _ (.dat (.bl b)) m G H e.refl (Rp.bl b) h
theorem de_str {x : Str} (h : Φ m (.dat (.str x))) : De c m (tC (.str x)) ρ Φ := fun σ G H e Q q => q _ (.dat (.str x)) m G H e.refl (Rp.str x) h
theorem de_non (h : Φ m (.dat .non)) : De c m (tC .non) ρ Φ := fun σ G H e Q q => q _ (.dat .non) m G H e.refl Rp.non h
/-! operations on values -/
def OpS (K : PySem.W.Frag) (W : Wd ι) (m : ι) (r : R2) (s1 s2 : S) (Φ : ι → S → Prop) : Prop := ∀ H0 G H v1 v2, Ok W m G H → RelS K W H0 G H v1 s1 → RelS K W H0 G H v2 s2 → ∀ Q : VK, (∀ v s m' G' H', Grow W G H m' G' H' → RelS K W H G' H' v s → Φ m' s → Q v H') → r v1 v2 H Q
theorem de_op {r : R2} (h : De c m ta ρ fun m s1 => De c m tb ρ fun m s2 => OpS c.K c.W m r s1 s2 Φ) : De c m (tOp r ta tb) ρ Φ := fun σ G H e Q q =>
  h σ G H e _ fun v1 s1 m1 G1 H1 g1 r1 h1 => h1 σ G1 H1 (e.grow g1) _ fun v2 s2 m2 G2 H2 g2 r2 h2 =>
    h2 H G2 H2 v1 v2 ((e.grow g1).grow g2).ok (r1.grow g2) (r2.back g1) Q fun v s m3 G3 H3 g3 r3 p => q v s m3 G3 H3 ((g1.trans g2).trans g3) ((r3.back g2).back g1) p
theorem de_un {r : V → Hp → VK → Prop} (h : De c m ta ρ fun m s1 => ∀ H0 G H v1, Ok c.W m G H → RelS c.K c.W H0 G H v1 s1 → ∀ Q : VK, (∀ v s m' G' H', Grow c.W G H m' G' H' → RelS c.K c.W H G' H' v s → Φ m' s → Q v H') → r v1 H Q) : De c m (tUn r ta) ρ Φ := fun σ G H e Q q =>
  h σ G H e _ fun v1 s1 m1 G1 H1 g1 r1 h1 => h1 H G1 H1 v1 (e.grow g1).ok r1 Q fun v s m3 G3 H3 g3 r3 p => q v s m3 G3 H3 (g1.trans g3) (r3.back g1) p
theorem de_neg (h : De c m ta ρ fun m s => ∃ i, s = .dat (.int i) ∧ Φ m (.dat (.int (-i)))) : De c m (tUn (rU fun i => .int (-i)) ta) ρ Φ := de_un (h.imp fun m s ⟨i, e, p⟩ H0 G H v1 ok r Q q => by
  subst e
  cases r
  exact ⟨i, rfl, q _ (.dat (.int (-i))) m G H ok.refl (Rp.int (-i)) p⟩)
end
end DL
set_option Elab.async false
set_option linter.all false
set_option maxRecDepth 100000
set_option maxHeartbeats 1000000
namespace DL
open PySem L2 Evl
variable {ι : Type} {m m' m1 m2 : ι}
section
variable {K : PySem.W.Frag} {W : Wd ι} {Φ : ι → S → Prop}
theorem ops_int {f : Int → Int → Int} {i j : Int} (h : Φ m (.dat (.int (f i j)))) : OpS K W m (rI0 fun i j => .int (f i j)) (.dat (.int i)) (.dat (.int j)) Φ := fun H0 G H v1 v2 ok r1 r2 Q q => by
  cases r1; cases r2
  exact ⟨i, j, rfl, rfl, q _ (.dat (.int (f i j))) m G H ok.refl (Rp.int _) h⟩
theorem ops_bool {f : Int → Int → Bool} {i j : Int} (h : Φ m (.dat (.bl (f i j)))) : OpS K W m (rI0 fun i j => .bl (f i j)) (.dat (.int i)) (.dat (.int j)) Φ := fun H0 G H v1 v2 ok r1 r2 Q q => by
  cases r1; cases r2
  exact ⟨i, j, rfl, rfl, q _ (.dat (.bl (f i j))) m G H ok.refl (Rp.bl _) h⟩
theorem ops_intC {C : Int → Int → Prop} {f : Int → Int → Int} {i j : Int} (hc : C i j) (h : Φ m (.dat (.int (f i j)))) : OpS K W m (rI C fun i j => .int (f i j)) (.dat (.int i)) (.dat (.int j)) Φ := fun H0 G H v1 v2 ok r1 r2 Q q => by
  cases r1; cases r2
  exact ⟨i, j, rfl, rfl, hc, q _ (.dat (.int (f i j))) m G H ok.refl (Rp.int _) h⟩
/-! ### == of data -/
mutual
def D.py : D → Option PyData
  | .non => some .none
  | .bl b => some (.bool b)
  | .int i => some (.int i)
  | .str x => some (.str x)
  | .lst ds => (D.pys ds).map .list
  | .tup ds => (D.pys ds).map .tuple
  | .scr ns => some (.list (ns.map .int))
  | _ => none
def D.pys : List D → Option (List PyData)
  | [] => some []
  | d :: ds => (D.py d).bind fun x => (D.pys ds).map fun xs => x :: xs
end
theorem dp_ints {K : PySem.W.Frag} {H : Hp} : ∀ ns : List Int, DpAll K H (ns.map V.int) (ns.map PyData.int)
  | [] => .nil
  | n :: ns => .cons (.int n) (dp_ints ns)
mutual
theorem Rp.dp {K : PySem.W.Frag} {G H : Hp} (e : Ex G H) : ∀ {v : V} {d : D} {x : PyData}, Rp K G v d → d.py = some x → Dp K H v x
  | _, _, x, .non, q => by unfold D.py at q; cases q; exact .non
  | _, _, x, .bl b, q => by unfold D.py at q; cases q; exact .bl b
  | _, _, x, .int i, q => by unfold D.py at q; cases q; exact .int i
  | _, _, x, .str s, q => by unfold D.py at q; cases q; exact .str s
  | _, _, x, .lst (ds := ds) h r, q => by
    unfold D.py at q
    cases z : D.pys ds with
    | none => rw [z] at q; cases q
    | some xs => rw [z] at q; cases q; exact .lst (SqL.of (e _ _ h)) (RpL.dp e r z)
  | _, _, x, .tup (ds := ds) h r, q => by
    unfold D.py at q
    cases z : D.pys ds with
    | none => rw [z] at q; cases q
    | some xs => rw [z] at q; cases q; exact .tup (SqT.of (e _ _ h)) (RpL.dp e r z)
  | _, _, x, .dic _ _ _, q => by unfold D.py at q; cases q
  | _, _, x, .dit _ _ _, q => by unfold D.py at q; cases q
  | _, _, x, .scr h, q => by unfold D.py at q; cases q; exact .lst (ex_l e h) (dp_ints _)
theorem RpL.dp {K : PySem.W.Frag} {G H : Hp} (e : Ex G H) : ∀ {vs : List V} {ds : List D} {xs : List PyData}, RpL K G vs ds → D.pys ds = some xs → DpAll K H vs xs
  | _, _, xs, .nil, q => by unfold D.pys at q; cases q; exact .nil
  | _, _, xs, .cons (d := d) (ds := ds) h r, q => by
    unfold D.pys at q
    cases z : d.py with
    | none => rw [z] at q; cases q
    | some y =>
      rw [z] at q
      cases z2 : D.pys ds with
      | none => rw [z2] at q; cases q
      | some ys => rw [z2] at q; cases q; exact .cons (Rp.dp e h z) (RpL.dp e r z2)
end
/-- data of a value that is read -/
def S.view : S → Option D
  | .dat d => some d
  | .own o => some o.frz
  | .vw o => some o.frz
  | .lk o => some o.frz
  | _ => none
theorem Ob1.rp {G H : Hp} {p : Addr} {o : O1} (e : Ex G H) (h : Ob1 K G H p o) : Rp K H (.ref p) o.frz := by
  cases o with
  | lst ds => obtain ⟨xs, a, b⟩ := h; exact .lst a (b.mono e)
  | dK ds => obtain ⟨xs, a, k, b⟩ := h; exact .dic (.inl a) k (b.mono e)
  | dT ds => obtain ⟨xs, a, k, b⟩ := h; exact .dit (.inl a) k (b.mono e)
theorem RIts.rp {F : Addr → Prop} {G H : Hp} (e : Ex G H) : ∀ {vs : List V} {is : List It}, RIts K F G H vs is → RpL K H vs (is.map It.frz)
  | _, _, .nil => .nil
  | _, _, .cons (i := .d d) r rs => .cons (Rp.mono e r) (rs.rp e)
  | _, _, .cons (i := .o o) r rs => .cons (by obtain ⟨q, rfl, _, ob⟩ := r; exact ob.rp e) (rs.rp e)
theorem OwnAt.rp {F : Addr → Prop} {G H : Hp} {p : Addr} {o : O} (e : Ex G H) (h : OwnAt K F G H p o) : Rp K H (.ref p) o.frz := by
  cases o with
  | one o => exact h.2.rp e
  | nest its => obtain ⟨_, vs, a, r, _⟩ := h; exact .lst a (r.rp e)
  | ins pa C fs =>
    obtain ⟨_, _, dx, fv, _, a, b, k, r, _⟩ := h
    exact .ins a b (by rw [zip_map_eq.1]; exact k) (by rw [zip_map_eq.2]; exact r.rp e)
/-- what is read is data of the heap -/
theorem RelS.rd {H0 G H : Hp} {v : V} {s : S} {d : D} (ok : Ok W m G H) (r : RelS K W H0 G H v s) (hs : s.view = some d) : Rp K H v d := by
  cases s with
  | dat d' => cases hs; exact Rp.mono ok.ex r
  | own o => cases hs; obtain ⟨p, rfl, ob⟩ := r; exact ob.rp ok.ex
  | vw o => cases hs; obtain ⟨p, rfl, ob⟩ := r; exact ob.rp ok.ex
  | lk o =>
    cases hs
    obtain ⟨p, x, u, rfl, n, ob⟩ := r
    have e := W.pinned _ _ _ _ _ ok.inv n
    cases o with
    | lst ds => exact ob.elim
    | dK ds => obtain ⟨kvs, rfl, b, c⟩ := ob; exact .dic (.inr ⟨x, e⟩) b (c.mono ok.ex)
    | dT ds => obtain ⟨kvs, rfl, b, c⟩ := ob; exact .dit (.inr ⟨x, e⟩) b (c.mono ok.ex)
  | no => cases hs
  | el i j => cases hs
  | at_ p => cases hs
  | xc _ _ _ _ => cases hs
theorem RelS.dp {H0 G H : Hp} {v : V} {s : S} {d : D} {x : PyData} (ok : Ok W m G H) (r : RelS K W H0 G H v s) (hs : s.view = some d) (hx : d.py = some x) : Dp K H v x := Rp.dp (Ex.refl H) (r.rd ok hs) hx
theorem ops_eqD {s1 s2 : S} {d1 d2 : D} {x1 x2 : PyData} (h1 : s1.view = some d1) (h2 : s2.view = some d2) (e1 : d1.py = some x1) (e2 : d2.py = some x2) (c1 : SeqAt.shaped x1 = true) (c2 : SeqAt.shaped x2 = true) (h : Φ m (.dat (.bl (PyData.eqv x1 x2)))) :
    OpS K W m (rEqD K) s1 s2 Φ := fun H0 G H v1 v2 ok r1 r2 Q q => ⟨x1, x2, r1.dp ok h1 e1, r2.dp ok h2 e2, c1, c2, q _ (.dat (.bl _)) m G H ok.refl (Rp.bl _) h⟩
theorem ops_neD {s1 s2 : S} {d1 d2 : D} {x1 x2 : PyData} (h1 : s1.view = some d1) (h2 : s2.view = some d2) (e1 : d1.py = some x1) (e2 : d2.py = some x2) (c1 : SeqAt.shaped x1 = true) (c2 : SeqAt.shaped x2 = true) (h : Φ m (.dat (.bl (!PyData.eqv x1 x2)))) :
    OpS K W m (rNeD K) s1 s2 Φ := fun H0 G H v1 v2 ok r1 r2 Q q => ⟨x1, x2, r1.dp ok h1 e1, r2.dp ok h2 e2, c1, c2, q _ (.dat (.bl _)) m G H ok.refl (Rp.bl _) h⟩
/-! ### sequences -/
/-- a list that is read: its items -/
def S.lst? : S → Option (List D)
  | .dat (.lst ds) => some ds
  | .dat (.scr ns) => some (ns.map .int)
  | .own (.one (.lst ds)) => some ds
  | .vw (.one (.lst ds)) => some ds
  | _ => none
def S.tup? : S → Option (List D)
  | .dat (.tup ds) => some ds
  | _ => none
theorem RelS.lstV {H0 G H : Hp} {v : V} {s : S} {ds : List D} (ok : Ok W m G H) (r : RelS K W H0 G H v s) (h : s.lst? = some ds) : ∃ p xs, v = .ref p ∧ SqL K H p xs ∧ RpL K G xs ds := by
  cases s with
  | no => cases h
  | at_ p => cases h
  | xc _ _ _ _ => cases h
  | dat d =>
    cases d <;> first | cases h | skip
    · have r : Rp K G v _ := r
      cases r with
      | lst a b => exact ⟨_, _, rfl, SqL.of (ok.ex _ _ a), b⟩
    · have r : Rp K G v _ := r
      cases r with
      | scr a => exact ⟨_, _, rfl, ex_l ok.ex a, RpL.ofInts _⟩
  | el i j => cases h
  | lk o => cases h
  | own o =>
    cases o <;> first | cases h | skip
    rename_i o
    cases o <;> first | cases h | skip
    obtain ⟨p, rfl, _, xs, a, b⟩ := r
    exact ⟨p, xs, rfl, SqL.of a, b⟩
  | vw o =>
    cases o <;> first | cases h | skip
    rename_i o
    cases o <;> first | cases h | skip
    obtain ⟨p, rfl, _, xs, a, b⟩ := r
    exact ⟨p, xs, rfl, SqL.of a, b⟩
theorem RelS.tupV {H0 G H : Hp} {v : V} {s : S} {ds : List D} (ok : Ok W m G H) (r : RelS K W H0 G H v s) (h : s.tup? = some ds) : ∃ p xs, v = .ref p ∧ SqT K H p xs ∧ RpL K G xs ds := by
  cases s with
  | dat d =>
    cases d <;> first | cases h | skip
    have r : Rp K G v _ := r
    cases r with
    | tup a b => exact ⟨_, _, rfl, SqT.of (ok.ex _ _ a), b⟩
  | no => cases h
  | at_ p => cases h
  | xc _ _ _ _ => cases h
  | own o => cases h
  | vw o => cases h
  | el i j => cases h
  | lk o => cases h
/-- a plain list (tracked) -/
def S.raw? : S → Option (List D)
  | .dat (.lst ds) => some ds
  | .own (.one (.lst ds)) => some ds
  | .vw (.one (.lst ds)) => some ds
  | _ => none
theorem RelS.rawV {H0 G H : Hp} {v : V} {s : S} {ds : List D} (ok : Ok W m G H) (r : RelS K W H0 G H v s) (h : s.raw? = some ds) : ∃ p xs, v = .ref p ∧ H p = some (.lst xs) ∧ RpL K G xs ds := by
  cases s with
  | no => cases h
  | at_ p => cases h
  | xc _ _ _ _ => cases h
  | dat d =>
    cases d <;> first | cases h | skip
    have r : Rp K G v _ := r
    cases r with
    | lst a b => exact ⟨_, _, rfl, ok.ex _ _ a, b⟩
  | el i j => cases h
  | lk o => cases h
  | own o =>
    cases o <;> first | cases h | skip
    rename_i o
    cases o <;> first | cases h | skip
    obtain ⟨p, rfl, _, xs, a, b⟩ := r
    exact ⟨p, xs, rfl, a, b⟩
  | vw o =>
    cases o <;> first | cases h | skip
    rename_i o
    cases o <;> first | cases h | skip
    obtain ⟨p, rfl, _, xs, a, b⟩ := r
    exact ⟨p, xs, rfl, a, b⟩
theorem sz {n : Nat} (h : n ≤ 1000000) : n ≤ sizeLine := Nat.le_trans h (by decide)
theorem szl {n : Nat} (h : n < 1000000) : n < sizeLine := Nat.lt_of_lt_of_le h (by decide)
/-- a new list, one's own -/
theorem new_lst {H0 G H : Hp} {xs : List V} {ds : List D} {Q : VK} (ok : Ok W m G H) (r : RpL K G xs ds) (h : Φ m (.own (.lst ds))) (q : ∀ v s m' G' H', Grow W G H m' G' H' → RelS K W H G' H' v s → Φ m' s → Q v H') (p : Addr) (hp : H p = none) : Q (.ref p) (upd H p (.lst xs)) :=
  q (.ref p) (.own (.lst ds)) m G _ (Grow.new ok hp) ⟨p, rfl, ⟨hp, fresh_back ok.ex hp, fun m => W.ne ok.inv m hp⟩, xs, upd_same, r⟩ h
/-- a new tuple -/
theorem new_tup {H0 G H : Hp} {xs : List V} {ds : List D} {Q : VK} (ok : Ok W m G H) (r : RpL K G xs ds) (h : Φ m (.dat (.tup ds))) (q : ∀ v s m' G' H', Grow W G H m' G' H' → RelS K W H G' H' v s → Φ m' s → Q v H') (p : Addr) (hp : H p = none) : Q (.ref p) (upd H p (.tup xs)) :=
  q (.ref p) (.dat (.tup ds)) m (upd G p (.tup xs)) _ (Grow.newD ok hp fun _ _ z => by cases z) (Rp.tup upd_same (r.mono (Ex.new (fresh_back ok.ex hp)))) h
theorem ops_cat {s1 s2 : S} {ds es : List D} (h1 : s1.raw? = some ds) (h2 : s2.raw? = some es) (hl : ds.length + es.length ≤ 1000000) (h : Φ m (.own (.lst (ds ++ es)))) : OpS K W m rCat s1 s2 Φ := fun H0 G H v1 v2 ok r1 r2 Q q => by
  obtain ⟨p, xs, rfl, a1, b1⟩ := r1.rawV ok h1
  obtain ⟨p2, ys, rfl, a2, b2⟩ := r2.rawV ok h2
  exact ⟨p, p2, xs, ys, rfl, rfl, a1, a2, by rw [b1.length, b2.length]; exact sz hl, new_lst (H0 := H0) ok (b1.append b2) h q⟩
theorem atI_rp {G : Hp} {xs : List V} {ds : List D} {i : Int} {d : D} (r : RpL K G xs ds) (h : atI ds i = some d) : ∃ v, atI xs i = some v ∧ Rp K G v d := by
  unfold atI at h ⊢
  rw [r.length]
  cases e : ixN ds.length i with
  | none => rw [e] at h; cases h
  | some j =>
    rw [e] at h
    exact r.getD h
theorem ops_ixL {s1 : S} {ds : List D} {i : Int} {d : D} (h1 : s1.lst? = some ds) (hi : atI ds i = some d) (h : Φ m (.dat d)) : OpS K W m (rIxL K) s1 (.dat (.int i)) Φ := fun H0 G H v1 v2 ok r1 r2 Q q => by
  obtain ⟨p, xs, rfl, a1, b1⟩ := r1.lstV ok h1
  cases r2
  obtain ⟨v, e, r⟩ := atI_rp b1 hi
  exact ⟨p, xs, i, v, rfl, rfl, a1, e, q v (.dat d) m G H ok.refl r h⟩
theorem ops_ixT {ds : List D} {i : Int} {d : D} (hi : atI ds i = some d) (h : Φ m (.dat d)) : OpS K W m (rIxT K) (.dat (.tup ds)) (.dat (.int i)) Φ := fun H0 G H v1 v2 ok r1 r2 Q q => by
  obtain ⟨p, xs, rfl, a1, b1⟩ := r1.tupV ok rfl
  cases r2
  obtain ⟨v, e, r⟩ := atI_rp b1 hi
  exact ⟨p, xs, i, v, rfl, rfl, a1, e, q v (.dat d) m G H ok.refl r h⟩
end
section
variable {c : Cc ι} {ρ : List S} {Φ : ι → S → Prop} {te ta tb : TE}
/-! ### tests -/
theorem de_andV (h : De c m ta ρ fun m s => (s = .dat (.bl true) ∧ De c m tb ρ Φ) ∨ (s = .dat (.bl false) ∧ Φ m (.dat (.bl false)))) : De c m (tAndV ta tb) ρ Φ := fun σ G H e Q q =>
  h σ G H e _ fun v s m1 G1 H1 g1 r1 h1 => by
    rcases h1 with ⟨rfl, h1⟩ | ⟨rfl, h1⟩
    · cases r1
      exact ⟨true, rfl, by rw [if_pos rfl]; exact h1 σ G1 H1 (e.grow g1) Q fun v s m' G' H' g r p => q v s m' G' H' (g1.trans g) (r.back g1) p⟩
    · cases r1
      exact ⟨false, rfl, by rw [if_neg Bool.false_ne_true]; exact q _ (.dat (.bl false)) m1 G1 H1 g1 (Rp.bl false) h1⟩
theorem de_orV (h : De c m ta ρ fun m s => (s = .dat (.bl false) ∧ De c m tb ρ Φ) ∨ (s = .dat (.bl true) ∧ Φ m (.dat (.bl true)))) : De c m (tOrV ta tb) ρ Φ := fun σ G H e Q q =>
  h σ G H e _ fun v s m1 G1 H1 g1 r1 h1 => by
    rcases h1 with ⟨rfl, h1⟩ | ⟨rfl, h1⟩
    · cases r1
      exact ⟨false, rfl, by rw [if_neg Bool.false_ne_true]; exact h1 σ G1 H1 (e.grow g1) Q fun v s m' G' H' g r p => q v s m' G' H' (g1.trans g) (r.back g1) p⟩
    · cases r1
      exact ⟨true, rfl, by rw [if_pos rfl]; exact q _ (.dat (.bl true)) m1 G1 H1 g1 (Rp.bl true) h1⟩
/-- by cases on a known bool -/
theorem de_andB (h : De c m ta ρ fun m s => ∃ b, s = .dat (.bl b) ∧ (b = true → De c m tb ρ Φ) ∧ (b = false → Φ m (.dat (.bl false)))) : De c m (tAndV ta tb) ρ Φ := de_andV (h.imp fun m s ⟨b, e, h1, h2⟩ => by
  cases b with
  | true => exact .inl ⟨e, h1 rfl⟩
  | false => exact .inr ⟨e, h2 rfl⟩)
theorem de_orB (h : De c m ta ρ fun m s => ∃ b, s = .dat (.bl b) ∧ (b = false → De c m tb ρ Φ) ∧ (b = true → Φ m (.dat (.bl true)))) : De c m (tOrV ta tb) ρ Φ := de_orV (h.imp fun m s ⟨b, e, h1, h2⟩ => by
  cases b with
  | true => exact .inr ⟨e, h2 rfl⟩
  | false => exact .inl ⟨e, h1 rfl⟩)
theorem de_notV (h : De c m ta ρ fun m s => ∃ b, s = .dat (.bl b) ∧ Φ m (.dat (.bl (!b)))) : De c m (tNotV ta) ρ Φ := fun σ G H e Q q =>
  h σ G H e _ fun v s m1 G1 H1 g1 r1 ⟨b, e1, h1⟩ => by
    subst e1
    cases r1
    exact ⟨b, rfl, q _ (.dat (.bl (!b))) m1 G1 H1 g1 (Rp.bl _) h1⟩
variable {tt tu : TT} {Ψ : ι → Bool → Prop}
theorem DT.imp {Ψ' : ι → Bool → Prop} (h : DT c m tt ρ Ψ) (i : ∀ m b, Ψ m b → Ψ' m b) : DT c m tt ρ Ψ' := fun σ G H e Q q => h σ G H e Q fun b m' G' H' g p => q b m' G' H' g (i m' b p)
theorem dt_test (h : De c m te ρ fun m s => ∃ b, s = .dat (.bl b) ∧ Ψ m b) : DT c m (tTest te) ρ Ψ := fun σ G H e Q q => h σ G H e _ fun v s m1 G1 H1 g1 r1 ⟨b, e1, h1⟩ => by
  subst e1
  cases r1
  exact ⟨b, rfl, q b m1 G1 H1 g1 h1⟩
theorem dt_B (h : De c m te ρ fun m s => ∃ b, s = .dat (.bl b) ∧ Ψ m b) : DT c m (tB te) ρ Ψ := dt_test h
theorem dt_not (h : DT c m tt ρ fun m b => Ψ m (!b)) : DT c m (tNot tt) ρ Ψ := fun σ G H e Q q => h σ G H e _ fun b m1 G1 H1 g1 h1 => q (!b) m1 G1 H1 g1 h1
theorem dt_and (h : DT c m tt ρ fun m b => (b = true → DT c m tu ρ Ψ) ∧ (b = false → Ψ m false)) : DT c m (tAnd tt tu) ρ Ψ := fun σ G H e Q q => h σ G H e _ fun b m1 G1 H1 g1 ⟨h1, h2⟩ => by
  cases b with
  | true => rw [if_pos rfl]; exact h1 rfl σ G1 H1 (e.grow g1) Q fun b m' G' H' g p => q b m' G' H' (g1.trans g) p
  | false => rw [if_neg Bool.false_ne_true]; exact q false m1 G1 H1 g1 (h2 rfl)
theorem dt_or (h : DT c m tt ρ fun m b => (b = false → DT c m tu ρ Ψ) ∧ (b = true → Ψ m true)) : DT c m (tOr tt tu) ρ Ψ := fun σ G H e Q q => h σ G H e _ fun b m1 G1 H1 g1 ⟨h1, h2⟩ => by
  cases b with
  | false => rw [if_neg Bool.false_ne_true]; exact h1 rfl σ G1 H1 (e.grow g1) Q fun b m' G' H' g p => q b m' G' H' (g1.trans g) p
  | true => rw [if_pos rfl]; exact q true m1 G1 H1 g1 (h2 rfl)
theorem dt_yes (h : Ψ m true) : DT c m tYes ρ Ψ := fun σ G H e Q q => q true m G H e.refl h
theorem de_ifE (h : DT c m tt ρ fun m b => (b = true → De c m ta ρ Φ) ∧ (b = false → De c m tb ρ Φ)) : De c m (tIf tt ta tb) ρ Φ := fun σ G H e Q q => h σ G H e _ fun b m1 G1 H1 g1 ⟨h1, h2⟩ => by
  cases b with
  | true => rw [if_pos rfl]; exact h1 rfl σ G1 H1 (e.grow g1) Q fun v s m' G' H' g r p => q v s m' G' H' (g1.trans g) (r.back g1) p
  | false => rw [if_neg Bool.false_ne_true]; exact h2 rfl σ G1 H1 (e.grow g1) Q fun v s m' G' H' g r p => q v s m' G' H' (g1.trans g) (r.back g1) p
theorem de_chain {r r' : R2} {tc : TE} (h : De c m ta ρ fun m s1 => De c m tb ρ fun m s2 => OpS c.K c.W m r s1 s2 fun m s => ∃ k, s = .dat (.bl k) ∧ (k = true → De c m tc ρ fun m s3 => OpS c.K c.W m r' s2 s3 Φ) ∧ (k = false → Φ m (.dat (.bl false)))) : De c m (tChain r r' ta tb tc) ρ Φ := fun σ G H e Q q =>
  h σ G H e _ fun v1 s1 m1 G1 H1 g1 r1 h1 => h1 σ G1 H1 (e.grow g1) _ fun v2 s2 m2 G2 H2 g2 r2 h2 =>
    h2 H G2 H2 v1 v2 ((e.grow g1).grow g2).ok (r1.grow g2) (r2.back g1) _ fun v s m3 G3 H3 g3 r3 ⟨k, ek, h3, h4⟩ => by
      subst ek
      cases r3
      refine ⟨k, rfl, ?_⟩
      cases k with
      | true =>
        rw [if_pos rfl]
        exact h3 rfl σ G3 H3 (((e.grow g1).grow g2).grow g3) _ fun v3 s3 m4 G4 H4 g4 r4 h5 => h5 H G4 H4 v2 v3 ((((e.grow g1).grow g2).grow g3).grow g4).ok ((((r2.back g1).grow g3)).grow g4) (((r4.back g3).back g2).back g1) Q fun v s m5 G5 H5 g5 r5 p =>
          q v s m5 G5 H5 ((((g1.trans g2).trans g3).trans g4).trans g5) ((((r5.back g4).back g3).back g2).back g1) p
      | false =>
        rw [if_neg Bool.false_ne_true]
        exact q _ (.dat (.bl false)) m3 G3 H3 ((g1.trans g2).trans g3) (Rp.bl false) (h4 rfl)
/-! ### argument lists, displays -/
variable {tr : TA} {Θ : ι → List S → Prop}
theorem da_nil (h : Θ m []) : DA c m tNil ρ Θ := fun σ G H e Q q => q [] [] m G H e.refl .nil h
theorem da_cons (h : De c m ta ρ fun m s => DA c m tr ρ fun m ss => Θ m (s :: ss)) : DA c m (tCons ta tr) ρ Θ := fun σ G H e Q q =>
  h σ G H e _ fun v s m1 G1 H1 g1 r1 h1 => h1 σ G1 H1 (e.grow g1) _ fun vs ss m2 G2 H2 g2 r2 h2 => q (v :: vs) (s :: ss) m2 G2 H2 (g1.trans g2) (.cons (r1.grow g2) (r2.back g1)) h2
theorem relss_dat {K : PySem.W.Frag} {W : Wd ι} {H0 G H : Hp} : ∀ {vs : List V} {ds : List D}, RelSs K W H0 G H vs (ds.map S.dat) → RpL K G vs ds
  | _, [], .nil => .nil
  | _, _ :: _, .cons h r => .cons h (relss_dat r)
theorem de_tup (h : DA c m tr ρ fun m ss => ∃ ds : List D, ss = ds.map S.dat ∧ ds.length ≤ 1000000 ∧ Φ m (.dat (.tup ds))) : De c m (tTup tr) ρ Φ := fun σ G H e Q q => h σ G H e _ fun vs ss m1 G1 H1 g1 r1 ⟨ds, es, hl, p⟩ => by
  subst es
  have r2 := relss_dat r1
  exact ⟨by rw [r2.length]; exact sz hl, new_tup (H0 := H) (e.grow g1).ok r2 p fun v s m' G' H' g r p => q v s m' G' H' (g1.trans g) (r.back g1) p⟩
theorem de_lst (h : DA c m tr ρ fun m ss => ∃ ds : List D, ss = ds.map S.dat ∧ ds.length ≤ 1000000 ∧ Φ m (.own (.lst ds))) : De c m (tLst tr) ρ Φ := fun σ G H e Q q => h σ G H e _ fun vs ss m1 G1 H1 g1 r1 ⟨ds, es, hl, p⟩ => by
  subst es
  have r2 := relss_dat r1
  exact ⟨by rw [r2.length]; exact sz hl, new_lst (H0 := H) (e.grow g1).ok r2 p fun v s m' G' H' g r p => q v s m' G' H' (g1.trans g) (r.back g1) p⟩
theorem da_star (h : De c m ta ρ fun m s => ∃ ds, (s.tup? = some ds ∨ s.lst? = some ds) ∧ DA c m tr ρ fun m ss => Θ m (ds.map S.dat ++ ss)) : DA c m (StX.tStar c.K ta tr) ρ Θ := fun σ G H e Q q =>
  h σ G H e _ fun v s m1 G1 H1 g1 r1 ⟨ds, hs, h1⟩ => by
    have key : ∃ p xs, v = .ref p ∧ (SqT c.K H1 p xs ∨ SqL c.K H1 p xs) ∧ RpL c.K G1 xs ds := by
      rcases hs with hs | hs
      · obtain ⟨p, xs, a, b, d⟩ := r1.tupV (e.grow g1).ok hs
        exact ⟨p, xs, a, .inl b, d⟩
      · obtain ⟨p, xs, a, b, d⟩ := r1.lstV (e.grow g1).ok hs
        exact ⟨p, xs, a, .inr b, d⟩
    obtain ⟨p, xs, ev, hx, r⟩ := key
    refine ⟨p, xs, ev, hx, h1 σ G1 H1 (e.grow g1) _ fun vs ss m2 G2 H2 g2 r2 h2 => q (xs ++ vs) _ m2 G2 H2 (g1.trans g2) ?_ h2⟩
    have app : ∀ {xs : List V} {ds : List D}, RpL c.K G1 xs ds → RelSs c.K c.W H G2 H2 (xs ++ vs) (ds.map S.dat ++ ss) := by
      intro xs ds r
      induction xs generalizing ds with
      | nil => cases r; exact r2.back g1
      | cons x xs ih =>
        cases r with
        | cons a b => exact .cons (Rp.mono g2.ex a) (ih b)
    exact app r
/-! ### calls of defs -/
abbrev Fc := (ι : Type) → Wd ι → ι → List S → (ι → S → Prop) → Xp ι → Prop
def argS : S → Bool
  | .dat _ => true
  | .at_ _ => true
  | .vw _ => true
  | _ => false
def spF (K : PySem.W.Frag) (C : Fc) : Sp := fun vs H Q E => ∃ (κ : Type) (W : Wd κ) (m : κ) (G : Hp) (ss : List S) (Φ : κ → S → Prop) (Ξ : Xp κ), Ok W m G H ∧ RelSs K W H G H vs ss ∧ ss.all argS = true ∧ C κ W m ss Φ Ξ ∧ (∀ v s m' G' H', Grow W G H m' G' H' → RelS K W H G' H' v s → Φ m' s → Q v H') ∧ ExcQ K W G H Ξ E
theorem relss_arg {K : PySem.W.Frag} {W : Wd ι} {H0 H1 G H : Hp} : ∀ {vs : List V} {ss : List S}, RelSs K W H0 G H vs ss → ss.all argS = true → RelSs K W H1 G H vs ss
  | _, _, .nil, _ => .nil
  | _, s :: ss, .cons h r, q => by
    rw [List.all_cons] at q
    obtain ⟨q1, q2⟩ := Bool.and_eq_true_iff.mp q
    refine .cons ?_ (relss_arg r q2)
    cases s <;> first | exact h | cases q1
theorem de_call {C : Fc} (h : DA c m tr ρ fun m ss => ss.all argS = true ∧ C ι c.W m ss Φ c.Ξ) : De c m (tCall (spF c.K C) [] c.E tr) ρ Φ := fun σ G H e Q q => h σ G H e _ fun vs ss m1 G1 H1 g1 r1 ⟨ha, hc⟩ => by
  rw [List.append_nil]
  exact ⟨ι, c.W, m1, G1, ss, Φ, c.Ξ, (e.grow g1).ok, relss_arg r1 ha, ha, hc, fun v s m' G' H' g r p => q v s m' G' H' (g1.trans g) (r.back g1) p, (e.grow g1).excq⟩
/-- a call that raises nothing -/
theorem de_call0 {C : Fc} (h : DA c m tr ρ fun m ss => ss.all argS = true ∧ C ι c.W m ss Φ fun _ _ _ => False) : De c m (tCall (spF c.K C) [] E0 tr) ρ Φ := fun σ G H e Q q => h σ G H e _ fun vs ss m1 G1 H1 g1 r1 ⟨ha, hc⟩ => by
  rw [List.append_nil]
  exact ⟨ι, c.W, m1, G1, ss, Φ, _, (e.grow g1).ok, relss_arg r1 ha, ha, hc, fun v s m' G' H' g r p => q v s m' G' H' (g1.trans g) (r.back g1) p, fun _ _ _ _ _ _ _ _ _ _ _ _ _ z => z.elim⟩
/-! ### calls of built-ins -/
def CbS (K : PySem.W.Frag) (W : Wd ι) (m : ι) (r : List V → Hp → VK → Prop) (ss : List S) (Φ : ι → S → Prop) : Prop := ∀ H0 G H vs, Ok W m G H → RelSs K W H0 G H vs ss → ∀ Q : VK, (∀ v s m' G' H', Grow W G H m' G' H' → RelS K W H G' H' v s → Φ m' s → Q v H') → r vs H Q
theorem de_cb {r : List V → Hp → VK → Prop} (h : DA c m tr ρ fun m ss => CbS c.K c.W m r ss Φ) : De c m (tCB r tr) ρ Φ := fun σ G H e Q q => h σ G H e _ fun vs ss m1 G1 H1 g1 r1 h1 => h1 H G1 H1 vs (e.grow g1).ok r1 Q fun v s m' G' H' g r p => q v s m' G' H' (g1.trans g) (r.back g1) p
end
end DL
set_option Elab.async false
set_option linter.all false
set_option maxRecDepth 100000
set_option maxHeartbeats 1000000
namespace DL
open PySem L2 Evl
variable {ι : Type} {m m' m1 m2 : ι}
/-! ### what is walked -/
def ItD (K : PySem.W.Frag) (W : Wd ι) (G1 : Hp) (J : L2.It) (ds : List D) : Prop := ∀ m G H, Ex G1 G → Ok W m G H → ∀ i : Nat, (∀ d, ds[i]? = some d → J.go i H ∧ ∀ x H', J.yld i H x H' → ∃ G', Grow W G H m G' H' ∧ Rp K G' x d) ∧ (i = ds.length → J.stop i H)
def DI (c : Cc ι) (m : ι) (wi : TI) (ρ : List S) (Φ : ι → List D → Prop) : Prop := ∀ σ G H, EnvOk c m G H σ ρ → ∀ R : L2.It → Hp → Prop, (∀ J ds m' G' H', Grow c.W G H m' G' H' → ItD c.K c.W G' J ds → Φ m' ds → R J H') → wi σ H R
section
variable {c : Cc ι} {ρ : List S} {te ta tb : TE} {tr : TA} {Φ : ι → List D → Prop}
theorem itd_list' {K : PySem.W.Frag} {W : Wd ι} {G1 : Hp} {a : Addr} {xs : List V} {ds : List D} (h : SqL K G1 a xs) (r : RpL K G1 xs ds) : ItD K W G1 (Itl K a) ds := fun m G H e ok i => by
  have hx : SqL K H a xs := ex_l (e.trans ok.ex) h
  refine ⟨fun d hd => ?_, fun hl => ⟨xs, hx, by rw [r.length]; exact Nat.le_of_eq hl.symm⟩⟩
  obtain ⟨v, hv, rv⟩ := r.getD hd
  refine ⟨⟨xs, v, hx, hv⟩, fun x H' y => ?_⟩
  obtain ⟨eh, y⟩ := y
  have z := y xs hx
  rw [hv] at z
  cases z
  subst eh
  exact ⟨G, ok.refl, rv.mono e⟩
theorem itd_tup {K : PySem.W.Frag} {W : Wd ι} {G1 : Hp} {a : Addr} {xs : List V} {ds : List D} (h : SqT K G1 a xs) (r : RpL K G1 xs ds) : ItD K W G1 (Itt K a) ds := fun m G H e ok i => by
  have hx : SqT K H a xs := ex_t (e.trans ok.ex) h
  refine ⟨fun d hd => ?_, fun hl => ⟨xs, hx, by rw [r.length]; exact Nat.le_of_eq hl.symm⟩⟩
  obtain ⟨v, hv, rv⟩ := r.getD hd
  refine ⟨⟨xs, v, hx, hv⟩, fun x H' y => ?_⟩
  obtain ⟨eh, y⟩ := y
  have z := y xs hx
  rw [hv] at z
  cases z
  subst eh
  exact ⟨G, ok.refl, rv.mono e⟩
/-- a list that is data -/
def S.dlst? : S → Option (List D)
  | .dat (.lst ds) => some ds
  | .dat (.scr ns) => some (ns.map .int)
  | _ => none
theorem RelS.dlst {K : PySem.W.Frag} {W : Wd ι} {H0 G H : Hp} {v : V} {s : S} {ds : List D} (r : RelS K W H0 G H v s) (h : s.dlst? = some ds) : ∃ p xs, v = .ref p ∧ SqL K G p xs ∧ RpL K G xs ds := by
  cases s with
  | dat d =>
    cases d <;> first | cases h | skip
    · have r : Rp K G v _ := r
      cases r with
      | lst a b => exact ⟨_, _, rfl, SqL.of a, b⟩
    · have r : Rp K G v _ := r
      cases r with
      | scr a => exact ⟨_, _, rfl, a, RpL.ofInts _⟩
  | no => cases h
  | at_ p => cases h
  | xc _ _ _ _ => cases h
  | own o => cases h
  | vw o => cases h
  | el i j => cases h
  | lk o => cases h
theorem di_list (h : De c m te ρ fun m s => ∃ ds, s.frz.dlst? = some ds ∧ Φ m ds) : DI c m (iList c.K te) ρ Φ := fun σ G H e R q => h σ G H e _ fun v s m1 G1 H1 g1 r1 ⟨ds, hs, p⟩ => by
  obtain ⟨G2, g2, r2⟩ := r1.freeze g1
  obtain ⟨a, xs, rfl, hx, rx⟩ := r2.dlst hs
  exact ⟨a, rfl, ⟨xs, ex_l g2.sub hx⟩, q _ ds m1 G2 H1 g2 (itd_list' hx rx) p⟩
theorem di_tup (h : De c m te ρ fun m s => ∃ ds, s = .dat (.tup ds) ∧ Φ m ds) : DI c m (iTup c.K te) ρ Φ := fun σ G H e R q => h σ G H e _ fun v s m1 G1 H1 g1 r1 ⟨ds, hs, p⟩ => by
  subst hs
  have r1 : Rp c.K G1 v _ := r1
  cases r1 with
  | tup hx rx => exact ⟨_, rfl, ⟨_, SqT.of (g1.sub _ _ hx)⟩, q _ ds m1 G1 H1 g1 (itd_tup (SqT.of hx) rx) p⟩
def rngD (lo : Int) (n : Nat) : List D := (List.range n).map fun i => .int (lo + (i : Nat))
theorem itd_rng {K : PySem.W.Frag} {W : Wd ι} {G1 : Hp} {lo : Int} {n : Nat} : ItD K W G1 (Itr lo n) (rngD lo n) := fun m G H e ok i => by
  refine ⟨fun d hd => ?_, fun hl => by
    have hl' : n ≤ i := by rw [hl]; simp [rngD]
    exact hl'⟩
  have hi : i < n := by
    have := (List.getElem?_eq_some_iff.mp hd).1
    simpa [rngD] using this
  refine ⟨hi, fun x H' y => ?_⟩
  obtain ⟨eh, ex⟩ := y
  subst eh ex
  have : d = .int (lo + (i : Nat)) := by
    unfold rngD at hd
    rw [List.getElem?_map, List.getElem?_range hi] at hd
    exact (Option.some.inj hd).symm
  subst this
  exact ⟨G, ok.refl, .int _⟩
theorem di_rng1 (h : DA c m tr ρ fun m ss => ∃ n : Int, ss = [.dat (.int n)] ∧ -(2 ^ 62) ≤ n ∧ n < 2 ^ 62 ∧ Φ m (rngD 0 n.toNat)) : DI c m (iRng1 tr) ρ Φ := fun σ G H e R q => h σ G H e _ fun vs ss m1 G1 H1 g1 r1 ⟨n, es, h1, h2, p⟩ => by
  subst es
  cases r1 with
  | cons a b =>
    cases b
    cases a
    exact ⟨n, rfl, h1, h2, q _ _ m1 G1 H1 g1 itd_rng p⟩
theorem di_rng2 (h : DA c m tr ρ fun m ss => ∃ l n : Int, ss = [.dat (.int l), .dat (.int n)] ∧ (-(2 ^ 62) ≤ l ∧ l < 2 ^ 62 ∧ -(2 ^ 62) ≤ n ∧ n < 2 ^ 62) ∧ Φ m (rngD l (n - l).toNat)) : DI c m (iRng2 tr) ρ Φ := fun σ G H e R q => h σ G H e _ fun vs ss m1 G1 H1 g1 r1 ⟨m, n, es, h1, p⟩ => by
  subst es
  cases r1 with
  | cons a b =>
    cases b with
    | cons b d =>
      cases d
      cases a
      cases b
      exact ⟨m, n, rfl, h1, q _ _ m1 G1 H1 g1 itd_rng p⟩
end
/-! ### slots -/
def wipeS (ρ : List S) : List Nat → List S
  | [] => ρ
  | v :: vs => (wipeS ρ vs).set v .no
theorem wipe_get (σ : L2.St) : ∀ (vs : List Nat) (i : Nat), (wipe σ vs)[i]? = if i ∈ vs then (σ[i]?).map (fun _ => none) else σ[i]?
  | [], i => by simp [wipe]
  | v :: vs, i => by
    have ih := wipe_get σ vs i
    unfold wipe
    by_cases hi : v = i
    · subst hi
      rw [if_pos List.mem_cons_self, List.getElem?_set_self', wipe_get σ vs v]
      by_cases hm : v ∈ vs
      · rw [if_pos hm]; cases σ[v]? <;> rfl
      · rw [if_neg hm]
        cases σ[v]? <;> rfl
    · rw [List.getElem?_set_ne hi, ih]
      have : (i ∈ v :: vs) ↔ i ∈ vs := by simp [Ne.symm hi]
      simp only [this]
theorem wipe_wipe (σ : L2.St) (vs : List Nat) : wipe (wipe σ vs) vs = wipe σ vs := by
  apply List.ext_getElem?
  intro i
  rw [wipe_get, wipe_get]
  by_cases h : i ∈ vs
  · rw [if_pos h, if_pos h]; cases σ[i]? <;> rfl
  · rw [if_neg h, if_neg h]
/-- no item's name speaks of slot i -/
def noEl (i : Nat) (ρ : List S) : Bool := ρ.all fun s => match s with
  | .el a _ => a != i
  | _ => true
def noEls (vs : List Nat) (ρ : List S) : Bool := vs.all fun v => noEl v ρ
theorem noEl_ok {i : Nat} {ρ : List S} (h : noEl i ρ = true) {k a j : Nat} (hk : ρ[k]? = some (.el a j)) : a ≠ i := by
  have := List.all_eq_true.mp h _ (List.mem_of_getElem? hk)
  simpa using this
section
variable {c : Cc ι} {G H G' H' : Hp} {σ : L2.St} {ρ : List S}
theorem set_get {α : Type} {l : List α} {i j : Nat} {x y : α} (h : (l.set i x)[j]? = some y) : (i = j ∧ y = x ∧ i < l.length) ∨ (i ≠ j ∧ l[j]? = some y) := by
  by_cases hi : i = j
  · subst hi
    rw [List.getElem?_set] at h
    simp only [if_true] at h
    split at h
    · rename_i hl; cases h; exact .inl ⟨rfl, rfl, hl⟩
    · cases h
  · rw [List.getElem?_set_ne hi] at h
    exact .inr ⟨hi, h⟩
/-- a slot gets a value: all that is to be shown -/
theorem EnvOk.set0 {i : Nat} {x : Option V} {s : S} (e : EnvOk c m G H σ ρ) (hr : s = .no ∨ ∃ v, x = some v ∧ RelS c.K c.W c.H0 G H v s) (hs : ∀ o p, s = .own o → x = some (.ref p) → ∀ j o' q, j ≠ i → ρ[j]? = some (.own o') → σ[j]? = some (some (.ref q)) → ∀ a, Ads H p o a → ¬ Ads H q o' a)
    (hn : noEl i ρ = true) (he : ∀ a j, s = .el a j → a ≠ i ∧ ∃ q, x = some (.ref q) ∧ ∃ its p vs o, ρ[a]? = some (.own (.nest its)) ∧ σ[a]? = some (some (.ref p)) ∧ H p = some (.lst vs) ∧ vs[j]? = some (.ref q) ∧ its[j]? = some (.o o)) (hv : ∀ o, s ≠ .vw o) : EnvOk c m G H (σ.set i x) (ρ.set i s) := by
  have sg : ∀ {k : Nat} {y : Option V}, i ≠ k → σ[k]? = some y → (σ.set i x)[k]? = some y := fun hk h => by rw [List.getElem?_set_ne hk]; exact h
  have gs : ∀ {k : Nat} {y : Option V}, i ≠ k → (σ.set i x)[k]? = some y → σ[k]? = some y := fun hk h => by rwa [List.getElem?_set_ne hk] at h
  have here : i < ρ.length → (σ.set i x)[i]? = some x := fun hl => by rw [List.getElem?_set]; simp only [if_true]; rw [if_pos (by rw [e.len]; exact hl)]
  refine ⟨e.ok0, e.gr, e.exc, by rw [List.length_set, List.length_set]; exact e.len, fun j t ht => ?_, fun j k o o' p q hjk hj hk pj pk => ?_, fun k a j hk => ?_, fun k o p hk hp a ha => ?_⟩
  · rcases set_get ht with ⟨rfl, rfl, hl⟩ | ⟨hi, ht⟩
    · rcases hr with hr | ⟨v, rfl, hr⟩
      · exact .inl hr
      · exact .inr ⟨v, here hl, hr⟩
    · exact (e.at_ j t ht).imp_right fun ⟨v, a, r⟩ => ⟨v, sg hi a, r⟩
  · rcases set_get hj with ⟨rfl, h1, hl⟩ | ⟨h1, hj⟩
    · rcases set_get hk with ⟨rfl, _⟩ | ⟨h2, hk⟩
      · exact absurd rfl hjk
      · rw [here hl] at pj
        exact hs o p h1.symm (Option.some.inj pj) k o' q (Ne.symm h2) hk (gs h2 pk)
    · rcases set_get hk with ⟨rfl, h2, hl⟩ | ⟨h2, hk⟩
      · rw [here hl] at pk
        intro a ha hb
        exact hs o' q h2.symm (Option.some.inj pk) j o p (Ne.symm h1) hj (gs h1 pj) a hb ha
      · exact e.sep j k o o' p q hjk hj hk (gs h1 pj) (gs h2 pk)
  · rcases set_get hk with ⟨rfl, h1, hl⟩ | ⟨h1, hk⟩
    · obtain ⟨na, q, rfl, its, p, vs, o, e1, e2, e3, e4, e5⟩ := he a j h1.symm
      exact ⟨its, p, vs, q, o, by rw [List.getElem?_set_ne (Ne.symm na)]; exact e1, sg (Ne.symm na) e2, e3, e4, e5, here hl⟩
    · have na := noEl_ok hn hk
      obtain ⟨its, p, vs, q, o, e1, e2, e3, e4, e5, e6⟩ := e.els k a j hk
      exact ⟨its, p, vs, q, o, by rw [List.getElem?_set_ne (Ne.symm na)]; exact e1, sg (Ne.symm na) e2, e3, e4, e5, sg h1 e6⟩
  · rcases set_get hk with ⟨rfl, h1, hl⟩ | ⟨h1, hk⟩
    · exact absurd h1.symm (hv o)
    · exact e.vws k o p hk (gs h1 hp) a ha
theorem EnvOk.set {i : Nat} {v : V} {s : S} (e : EnvOk c m G H σ ρ) (r : RelS c.K c.W c.H0 G H v s) (hn : noEl i ρ = true) (ho : ∀ o, s ≠ .own o) (he : ∀ a j, s ≠ .el a j) (hv : ∀ o, s ≠ .vw o) : EnvOk c m G H (σ.set i (some v)) (ρ.set i s) :=
  e.set0 (.inr ⟨v, rfl, r⟩) (fun o p z => absurd z (ho o)) hn (fun a j z => absurd z (he a j)) hv
theorem EnvOk.setD {i : Nat} {v : V} {d : D} (e : EnvOk c m G H σ ρ) (hn : noEl i ρ = true) (r : Rp c.K G v d) : EnvOk c m G H (σ.set i (some v)) (ρ.set i (.dat d)) := e.set (s := .dat d) r hn (fun o z => by cases z) (fun _ _ z => by cases z) (fun _ z => by cases z)
/-- a fresh own thing into a slot -/
theorem EnvOk.setF {i : Nat} {v : V} {s : S} (e : EnvOk c m G H σ ρ) (g : Grow c.W G H m' G' H') (r : RelS c.K c.W H G' H' v s) (hn : noEl i ρ = true) (he : ∀ a j, s ≠ .el a j) (hv : ∀ o, s ≠ .vw o) : EnvOk c m' G' H' (σ.set i (some v)) (ρ.set i s) := by
  refine (e.grow g).set0 (.inr ⟨v, rfl, r.back e.gr⟩) (fun o p es ev j o' q hj hs hσ a ha hb => ?_) hn (fun a j z => absurd z (he a j)) hv
  subst es
  cases ev
  obtain ⟨p', e1, ob⟩ := r
  cases e1
  obtain ⟨f1, _⟩ := ob.ads ha
  obtain ⟨q', hq', ob2⟩ := e.own hs
  rw [hσ] at hq'
  cases hq'
  have hb' := hb.eq (grow_at g ob2.root.1.2.2 ob2.here)
  obtain ⟨_, u, hu, _⟩ := ob2.ads hb'
  rw [f1.1] at hu
  cases hu
/-- a slot is forgotten -/
theorem EnvOk.unset {i : Nat} (e : EnvOk c m G H σ ρ) (x : Option V) (hn : noEl i ρ = true) : EnvOk c m G H (σ.set i x) (ρ.set i .no) :=
  e.set0 (.inl rfl) (fun o p z => by cases z) hn (fun a j z => by cases z) (fun _ z => by cases z)
theorem noEl_set {i k : Nat} {ρ : List S} (h : noEl i ρ = true) : noEl i (ρ.set k .no) = true := by
  unfold noEl at h ⊢
  rw [List.all_eq_true] at h ⊢
  intro s hs
  rcases List.mem_or_eq_of_mem_set hs with hs | rfl
  · exact h s hs
  · rfl
theorem noEl_wipe {i : Nat} {ρ : List S} (h : noEl i ρ = true) : ∀ vs, noEl i (wipeS ρ vs) = true
  | [] => h
  | v :: vs => noEl_set (noEl_wipe h vs)
theorem EnvOk.wipe (e : EnvOk c m G H σ ρ) : ∀ vs : List Nat, noEls vs ρ = true → EnvOk c m G H (wipe σ vs) (wipeS ρ vs)
  | [], _ => e
  | v :: vs, h => by
    have h : (noEl v ρ && noEls vs ρ) = true := h
    obtain ⟨h1, h2⟩ := Bool.and_eq_true_iff.mp h
    exact (EnvOk.wipe e vs h2).unset none (noEl_wipe h1 vs)
end
/-! ### targets -/
def DG (c : Cc ι) (m : ι) (g : TG) (vs : List Nat) (d : D) (ρ ρ' : List S) : Prop := ∀ v σ G H, EnvOk c m G H σ ρ → Rp c.K G v d → ∀ Q : L2.St → Hp → Prop, (∀ σ', (∀ m' G' H', Ex G G' → EnvOk c m' G' H' σ ρ → EnvOk c m' G' H' σ' ρ') → wipe σ' vs = wipe σ vs → Q σ' H) → g v σ H Q
theorem wipe_set {σ : L2.St} {vs : List Nat} {i : Nat} {x : Option V} (h : i ∈ vs) : wipe (σ.set i x) vs = wipe σ vs := by
  apply List.ext_getElem?
  intro j
  rw [wipe_get, wipe_get]
  by_cases hj : j ∈ vs
  · rw [if_pos hj, if_pos hj, List.getElem?_set]
    split
    · rename_i z
      subst z
      split
      · rename_i hl
        rw [List.getElem?_eq_getElem hl]
        rfl
      · rename_i hl
        rw [List.getElem?_eq_none (by omega)]
    · rfl
  · rw [if_neg hj, if_neg hj, List.getElem?_set_ne fun z => hj (by rw [← z]; exact h)]
theorem dg_name {c : Cc ι} {j : Nat} {vs : List Nat} {d : D} {ρ : List S} (hj : j ∈ vs) (hn : noEl j ρ = true := by with_unfolding_all rfl) : DG c m (gName j) vs d ρ (ρ.set j (.dat d)) := fun v σ G H e r Q q => q _ (fun _ _ _ x e => e.setD hn (r.mono x)) (wipe_set hj)
theorem noEl_dat {i k : Nat} {d : D} {ρ : List S} (h : noEl i ρ = true) : noEl i (ρ.set k (.dat d)) = true := by
  unfold noEl at h ⊢
  rw [List.all_eq_true] at h ⊢
  intro s hs
  rcases List.mem_or_eq_of_mem_set hs with hs | rfl
  · exact h s hs
  · rfl
theorem dg_tup2 {c : Cc ι} {i j : Nat} {vs : List Nat} {d1 d2 : D} {ρ : List S} (hi : i ∈ vs) (hj : j ∈ vs) (n1 : noEl i ρ = true := by with_unfolding_all rfl) (n2 : noEl j ρ = true := by with_unfolding_all rfl) : DG c m (gTup c.K 2 (gCons (gName i) (gCons (gName j) gNil))) vs (.tup [d1, d2]) ρ ((ρ.set i (.dat d1)).set j (.dat d2)) := fun v σ G H e r Q q => by
  cases r with
  | tup h r =>
    cases r with
    | cons a r =>
      cases r with
      | cons b r =>
        cases r
        exact ⟨_, _, rfl, SqT.of (e.ok.ex _ _ h), rfl, _, _, rfl, _, _, rfl, rfl, q _ (fun _ _ _ x e => (e.setD n1 (Rp.mono x a)).setD (noEl_dat n2) (Rp.mono x b)) ((wipe_set hj).trans (wipe_set hi))⟩
/-! ### comprehensions -/
section
variable {c : Cc ι} {ρ : List S} {Φ : ι → S → Prop} {te : TE} {tt : TT} {wi : TI} {g : TG} {vs : List Nat}
theorem lc_run {σ : L2.St} {m1 : ι} {G H G1 H1 : Hp} {I : L2.It} {ds : List D} {Q : VK} (e1 : EnvOk c m1 G1 H1 σ ρ) (g1 : Grow c.W G H m1 G1 H1) (it : ItD c.K c.W G1 I ds) (q : ∀ v s m' G' H', Grow c.W G H m' G' H' → RelS c.K c.W H G' H' v s → Φ m' s → Q v H')
    (hw : noEls vs ρ = true) (hl : ds.length < 1000000) (J : Nat → ι → List D → Prop) (j0 : J 0 m1 [])
    (jt : ∀ i d m acc, ds[i]? = some d → J i m acc → ∃ ρ', DG c m g vs d (wipeS ρ vs) ρ' ∧ DT c m tt ρ' fun m b => (b = true → De c m te ρ' fun m s => ∃ d', s.frz = .dat d' ∧ J (i + 1) m (acc ++ [d'])) ∧ (b = false → J (i + 1) m acc))
    (jd : ∀ m acc, J ds.length m acc → Φ m (.own (.lst acc))) (Dd : Addr) (hD : H1 Dd = none) :
    ∃ W : Nat → Nat → Hp → Prop, (∃ m, W 0 m (upd H1 Dd (.lst []))) ∧ ∀ i m H, W i m H →
      (I.stop i H ∧ Q (.ref Dd) H) ∨ (I.go i H ∧ ∃ Nx : Hp → Prop, (∀ H', Nx H' → ∃ m', m' < m ∧ W (i + 1) m' H') ∧ ∀ x H', I.yld i H x H' → g x (wipe σ vs) H' fun σ2 H2 => wipe σ2 vs = wipe σ vs ∧ tt σ2 H2 fun b H3 =>
        if b = true then te σ2 H3 fun y H4 => ∃ acc, H4 Dd = some (.lst acc) ∧ acc.length < sizeLine ∧ Nx (upd H4 Dd (.lst (acc ++ [y]))) else Nx H3) := by
  let W : Nat → Nat → Hp → Prop := fun i m H2 => m = ds.length - i ∧ i ≤ ds.length ∧ ∃ m2 G2 xs acc, Grow c.W G1 H1 m2 G2 H2 ∧ H2 Dd = some (.lst xs) ∧ G2 Dd = none ∧ RpL c.K G2 xs acc ∧ acc.length ≤ i ∧ J i m2 acc
  have mD : ¬ c.W.M Dd := fun m => c.W.ne e1.ok.inv m hD
  have up : ∀ {m2 : ι} {G2 H2 : Hp} {ys : List V}, Grow c.W G1 H1 m2 G2 H2 → G2 Dd = none → Grow c.W G1 H1 m2 G2 (upd H2 Dd (.lst ys)) := fun {m2 G2 H2 ys} g2 n =>
    ⟨g2.ex, g2.sub.mut n, g2.fresh, fun a o m q => by rw [upd_ne (ne_of_none q hD)]; exact g2.keep a o m q, c.W.dep _ _ _ _ _ (Ex.refl _) (fun a m => upd_ne fun z => mD (by rw [← z]; exact m)) g2.inv, g2.lk⟩
  refine ⟨W, ⟨ds.length, by simp, Nat.zero_le _, m1, G1, [], [], up e1.refl (fresh_back e1.ok.ex hD), upd_same, fresh_back e1.ok.ex hD, .nil, Nat.le_refl _, j0⟩, ?_⟩
  rintro i m H2 ⟨em, hi, m2, G2, xs, acc, g2, hx, hn, rx, ha, j⟩
  have e2 := e1.grow g2
  obtain ⟨ih1, ih2⟩ := it m2 G2 H2 g2.ex e2.ok i
  by_cases hlt : i < ds.length
  · right
    have hd : ds[i]? = some ds[i] := by simp [hlt]
    obtain ⟨go, yl⟩ := ih1 _ hd
    refine ⟨go, W (i + 1) (m - 1), fun H' w => ⟨m - 1, by omega, w⟩, fun x H' y => ?_⟩
    obtain ⟨G3, g3, r3⟩ := yl x H' y
    obtain ⟨ρ', dg, ht⟩ := jt i _ m2 acc hd j
    have e3 := (e2.grow g3).wipe vs hw
    have keepD : ∀ {m4 : ι} {G4 H4 : Hp}, Grow c.W G2 H2 m4 G4 H4 → H4 Dd = some (.lst xs) ∧ G4 Dd = none := fun g4 => ⟨g4.keep _ _ mD hx, g4.fresh _ _ hx rfl hn⟩
    refine dg x _ G3 H' e3 r3 _ fun σ' f4 hw => ⟨hw.trans (wipe_wipe σ vs), ?_⟩
    have e4 := f4 _ _ _ (Ex.refl _) e3
    refine ht σ' G3 H' e4 _ fun b m4 G4 H4 g4 ⟨hb1, hb2⟩ => ?_
    cases b with
    | true =>
      rw [if_pos rfl]
      refine hb1 rfl σ' G4 H4 (e4.grow g4) _ fun v s m5 G5 H5 g5 r5 ⟨d', es, j'⟩ => ?_
      obtain ⟨G6, g6, r6⟩ := r5.freeze g5
      rw [es] at r6
      obtain ⟨k1, k2⟩ := keepD ((g3.trans g4).trans g6)
      refine ⟨xs, k1, szl (by rw [rx.length]; omega), by omega, hlt, m5, G6, xs ++ [v], acc ++ [d'], up (((g2.trans g3).trans g4).trans g6) k2, upd_same, k2, (rx.mono ((g3.trans g4).trans g6).ex).append (.one r6), by rw [List.length_append]; show acc.length + 1 ≤ i + 1; omega, j'⟩
    | false =>
      rw [if_neg Bool.false_ne_true]
      obtain ⟨k1, k2⟩ := keepD (g3.trans g4)
      exact ⟨by omega, hlt, m4, G4, xs, acc, (g2.trans g3).trans g4, k1, k2, rx.mono (g3.trans g4).ex, by omega, hb2 rfl⟩
  · left
    have hl2 : i = ds.length := by omega
    refine ⟨ih2 hl2, ?_⟩
    subst hl2
    exact q (.ref Dd) (.own (.lst acc)) m2 G2 H2 (g1.trans g2) ⟨Dd, rfl, ⟨g1.back hD, hn, mD⟩, xs, hx, rx⟩ (jd m2 acc j)
theorem de_lc (hw : noEls vs ρ = true) (h : DI c m wi ρ fun m ds => ds.length < 1000000 ∧ ∃ J : Nat → ι → List D → Prop, J 0 m [] ∧
    (∀ i d m acc, ds[i]? = some d → J i m acc → ∃ ρ', DG c m g vs d (wipeS ρ vs) ρ' ∧ DT c m tt ρ' fun m b => (b = true → De c m te ρ' fun m s => ∃ d', s.frz = .dat d' ∧ J (i + 1) m (acc ++ [d'])) ∧ (b = false → J (i + 1) m acc)) ∧
    ∀ m acc, J ds.length m acc → Φ m (.own (.lst acc))) : De c m (tLc wi g tt te vs) ρ Φ := fun σ G H e Q q => h σ G H e _ fun I ds m1 G1 H1 g1 it ⟨hl, J, j0, jt, jd⟩ => fun Dd hD => lc_run (e.grow g1) g1 it q hw hl J j0 jt jd Dd hD
/-- [f x for x in ..] -/
theorem de_lcMap {f : D → D} (h : DI c m wi ρ fun m ds => ds.length < 1000000 ∧ (∀ d ∈ ds, ∃ ρ', DG c m g vs d (wipeS ρ vs) ρ' ∧ De c m te ρ' fun m' s => m' = m ∧ s.frz = .dat (f d)) ∧ Φ m (.own (.lst (ds.map f)))) (hw : noEls vs ρ = true := by with_unfolding_all rfl) : De c m (tLc wi g tYes te vs) ρ Φ :=
  de_lc hw fun σ G H e R q => h σ G H e R fun J ds m' G' H' gg it ⟨hl, h1, h2⟩ => q J ds m' G' H' gg it ⟨hl, fun i m2 acc => m2 = m' ∧ acc = (ds.take i).map f, by simp, fun i d m2 acc hd ⟨em, ha⟩ => by
    subst em
    obtain ⟨ρ', h3, h4⟩ := h1 d (List.mem_of_getElem? hd)
    refine ⟨ρ', h3, dt_yes ⟨fun _ => h4.imp fun m3 s ⟨em, hs⟩ => ⟨f d, hs, em, ?_⟩, fun z => by cases z⟩⟩
    show acc ++ [f d] = (ds.take (i + 1)).map f
    rw [ha, List.take_add_one, hd]
    simp, fun m2 acc ⟨em, ha⟩ => by rw [em, ha, List.take_length]; exact h2⟩
/-- [f x for x in .. if t x] -/
theorem de_lcIf {f : D → D} {t : D → Bool} (h : DI c m wi ρ fun m ds => ds.length < 1000000 ∧ (∀ d ∈ ds, ∃ ρ', DG c m g vs d (wipeS ρ vs) ρ' ∧ DT c m tt ρ' fun m' b => m' = m ∧ b = t d ∧ (t d = true → De c m te ρ' fun m' s => m' = m ∧ s.frz = .dat (f d))) ∧ Φ m (.own (.lst ((ds.filter t).map f)))) (hw : noEls vs ρ = true := by with_unfolding_all rfl) : De c m (tLc wi g tt te vs) ρ Φ :=
  de_lc hw fun σ G H e R q => h σ G H e R fun J ds m' G' H' gg it ⟨hl, h1, h2⟩ => q J ds m' G' H' gg it ⟨hl, fun i m2 acc => m2 = m' ∧ acc = ((ds.take i).filter t).map f, by simp, fun i d m2 acc hd ⟨em, ha⟩ => by
    subst em
    obtain ⟨ρ', h3, h4⟩ := h1 d (List.mem_of_getElem? hd)
    refine ⟨ρ', h3, h4.imp fun m3 b ⟨em3, eb, h5⟩ => ?_⟩
    subst em3
    refine ⟨fun ht => (h5 (by rw [← eb]; exact ht)).imp fun m4 s ⟨em, hs⟩ => ⟨f d, hs, em, ?_⟩, fun hf => ⟨rfl, ?_⟩⟩
    · show acc ++ [f d] = ((ds.take (i + 1)).filter t).map f
      rw [ha, List.take_add_one, hd]
      have : t d = true := by rw [← eb]; exact ht
      simp [List.filter_append, this]
    · show acc = ((ds.take (i + 1)).filter t).map f
      rw [ha, List.take_add_one, hd]
      have : t d = false := by rw [← eb]; exact hf
      simp [List.filter_append, this], fun m2 acc ⟨em, ha⟩ => by rw [em, ha, List.take_length]; exact h2⟩
end
end DL
set_option Elab.async false
set_option linter.all false
set_option maxRecDepth 100000
set_option maxHeartbeats 1000000
namespace DL
open PySem L2 Evl
variable {ι : Type} {m m' m1 m2 : ι}
/-! ### statements -/
def S.ok : S → Bool
  | .vw _ => false
  | .no => false
  | .el _ _ => false
  | .lk _ => false
  | _ => true
section
variable {c : Cc ι} {ρ : List S} {te ta tb : TE} {t u : TS} {tt : TT} {N B C : ι → List S → Prop} {R : ι → S → Prop} {wi : TI} {g : TG}
theorem Ds.imp {N' : ι → List S → Prop} {R' : ι → S → Prop} {B' C' : ι → List S → Prop} (h : Ds c m t ρ N R B C) (hn : ∀ m ρ, N m ρ → N' m ρ) (hr : ∀ m s, R m s → R' m s) (hb : ∀ m ρ, B m ρ → B' m ρ) (hc : ∀ m ρ, C m ρ → C' m ρ) : Ds c m t ρ N' R' B' C' := fun D σ G H e k1 k2 k3 k4 =>
  h D σ G H e (fun ρ' σ' m' G' H' n => k1 ρ' σ' m' G' H' (hn _ _ n)) (fun s v m' G' H' r => k2 s v m' G' H' (hr _ _ r)) (fun ρ' σ' m' G' H' n => k3 ρ' σ' m' G' H' (hb _ _ n)) (fun ρ' σ' m' G' H' n => k4 ρ' σ' m' G' H' (hc _ _ n))
theorem ds_seq (h : Ds c m t ρ (fun m ρ' => Ds c m u ρ' N R B C) R B C) : Ds c m (tSeq t u) ρ N R B C := fun D σ G H e k1 k2 k3 k4 =>
  h { D with nx := u D } σ G H e (fun ρ' σ' m' G' H' n x e' => n D σ' G' H' e' (fun a b m c' d n y z => k1 a b m c' d n (x.trans y) z) (fun s v m' G' H' r y gg rr => k2 s v m' G' H' r (x.trans y) gg rr) (fun a b m c' d n y z => k3 a b m c' d n (x.trans y) z) (fun a b m c' d n y z => k4 a b m c' d n (x.trans y) z)) k2 k3 k4
theorem ds_next (h : N m ρ) : Ds c m tNext ρ N R B C := fun D σ G H e k1 _ _ _ => k1 ρ σ m G H h (Ex.refl G) e
theorem ds_ret (h : De c m te ρ fun m s => s.ok = true ∧ R m s) : Ds c m (tRet te) ρ N R B C := fun D σ G H e _ k2 _ _ => h σ G H e _ fun v s m' G' H' g r ⟨_, p⟩ => k2 s v m' G' H' p g.ex (e.gr.trans g) (r.back e.gr)
theorem ds_retN (h : R m (.dat .non)) : Ds c m tRetN ρ N R B C := fun D σ G H e _ k2 _ _ => k2 (.dat .non) .non m G H h (Ex.refl G) e.gr Rp.non
theorem ds_retVar {i : Nat} {o : O} (hi : ρ[i]? = some (.own o)) (h : R m (.own o)) : Ds c m (tRet (tVar i)) ρ N R B C := fun D σ G H e _ k2 _ _ => by
  rcases e.at_ i _ hi with z | ⟨v, a, r⟩
  · cases z
  · exact ⟨v, a, k2 _ v m G H h (Ex.refl G) e.gr r⟩
theorem ds_asg {i : Nat} (h : De c m te ρ fun m s => s.ok = true ∧ N m (ρ.set i s)) (hn : noEl i ρ = true := by with_unfolding_all rfl) : Ds c m (tAsg te (gName i)) ρ N R B C := fun D σ G H e k1 _ _ _ => h σ G H e _ fun v s m' G' H' g r ⟨hs, p⟩ =>
  k1 _ _ m' G' H' p g.ex (e.setF g r hn (fun a j z => by rw [z] at hs; cases hs) (fun o z => by rw [z] at hs; cases hs))
theorem ds_drop (h : De c m te ρ fun m _ => N m ρ) : Ds c m (tDrop te) ρ N R B C := fun D σ G H e k1 _ _ _ => h σ G H e _ fun v s m' G' H' g r p => k1 ρ σ m' G' H' p g.ex (e.grow g)
theorem ds_if (h : DT c m tt ρ fun m b => (b = true → Ds c m t ρ N R B C) ∧ (b = false → Ds c m u ρ N R B C)) : Ds c m (tIfS tt t u) ρ N R B C := fun D σ G H e k1 k2 k3 k4 => h σ G H e _ fun b m' G' H' g ⟨h1, h2⟩ => by
  cases b with
  | true => rw [if_pos rfl]; exact h1 rfl D σ G' H' (e.grow g) (fun a b m c' d n y z => k1 a b m c' d n (g.ex.trans y) z) (fun s v m' G' H' r y gg rr => k2 s v m' G' H' r (g.ex.trans y) gg rr) (fun a b m c' d n y z => k3 a b m c' d n (g.ex.trans y) z) (fun a b m c' d n y z => k4 a b m c' d n (g.ex.trans y) z)
  | false => rw [if_neg Bool.false_ne_true]; exact h2 rfl D σ G' H' (e.grow g) (fun a b m c' d n y z => k1 a b m c' d n (g.ex.trans y) z) (fun s v m' G' H' r y gg rr => k2 s v m' G' H' r (g.ex.trans y) gg rr) (fun a b m c' d n y z => k3 a b m c' d n (g.ex.trans y) z) (fun a b m c' d n y z => k4 a b m c' d n (g.ex.trans y) z)
/-- an own thing is from here on data -/
theorem ds_frz {i : Nat} {o : O} (hi : ρ[i]? = some (.own o)) (h : Ds c m t (ρ.set i (.dat o.frz)) N R B C) (hn : noEl i ρ = true := by with_unfolding_all rfl) : Ds c m t ρ N R B C := fun D σ G H e k1 k2 k3 k4 => by
  obtain ⟨p, hp, ob⟩ := e.own hi
  have ob0 : OwnAt c.K (Fr c.W c.H0 G) G H p o := ob
  obtain ⟨G2, g2, r2, x, nq⟩ := frz_own e.gr ob
  have hl : i < ρ.length := (List.getElem?_eq_some_iff.mp hi).1
  have e2 : EnvOk c m G2 H σ (ρ.set i (.dat o.frz)) := by
    refine ⟨e.ok0, g2, e.exc, by rw [List.length_set]; exact e.len, fun j s hs => ?_, fun j k o1 o2 p1 p2 hjk hj hk pj pk => ?_, fun k a j hk => ?_, fun k o1 p1 hk hp1 => ?_⟩
    · rcases set_get hs with ⟨rfl, rfl, _⟩ | ⟨hj, hs⟩
      · exact .inr ⟨_, hp, r2⟩
      · rcases e.at_ j s hs with z | ⟨w, aw, rw'⟩
        · exact .inl z
        · refine .inr ⟨w, aw, ?_⟩
          cases s with
          | no => trivial
          | el a b => trivial
          | dat d => exact Rp.mono x rw'
          | at_ q => exact rw'
          | own o' =>
            obtain ⟨q, rfl, zo⟩ := rw'
            refine ⟨q, rfl, zo.monoA x fun a ha => ⟨rfl, ?_⟩⟩
            have na : ¬ Ads H p o a := fun z => e.sep i j o o' p q hj hi hs hp aw a z ha
            obtain ⟨f, _⟩ := zo.ads ha
            exact ⟨f.1, by rw [nq a na]; exact f.2.1, f.2.2⟩
          | vw o' =>
            obtain ⟨q, rfl, zo⟩ := rw'
            refine ⟨q, rfl, zo.monoA x fun a ha => ⟨rfl, ?_⟩⟩
            have na : ¬ Ads H p o a := fun z => e.vws j o' q hs aw a ha (ob0.ads z).1.1
            obtain ⟨f, _⟩ := zo.ads ha
            exact ⟨by rw [nq a na]; exact f.1, f.2⟩
          | lk o' => obtain ⟨q, xq, uq, e1, e2, zo⟩ := rw'; exact ⟨q, xq, uq, e1, e2, zo.up (Up.ex x)⟩
          | xc C a d fs =>
            obtain ⟨e1, e2, e3, fv, e4, e5, e6⟩ := rw'
            have na : ¬ Ads H p o d := fun z => by obtain ⟨_, u, hu, hk⟩ := ob0.ads z; rw [e4] at hu; cases hu; cases hk
            exact ⟨e1, by rw [nq d na]; exact e2, e3, fv, e4, e5, e6.mono x⟩
    · rcases set_get hj with ⟨_, z, _⟩ | ⟨h1, hj⟩
      · cases z
      · rcases set_get hk with ⟨_, z, _⟩ | ⟨h2, hk⟩
        · cases z
        · exact e.sep j k o1 o2 p1 p2 hjk hj hk pj pk
    · rcases set_get hk with ⟨_, z, _⟩ | ⟨h1, hk⟩
      · cases z
      · obtain ⟨its, p', vs, q, o', e1, e2⟩ := e.els k a j hk
        exact ⟨its, p', vs, q, o', by rw [List.getElem?_set_ne (Ne.symm (noEl_ok hn hk))]; exact e1, e2⟩
    · rcases set_get hk with ⟨_, z, _⟩ | ⟨h1, hk⟩
      · cases z
      · exact e.vws k o1 p1 hk hp1
  exact h D σ G2 H e2 (fun a b m c' d n y z => k1 a b m c' d n (x.trans y) z) (fun s v m' G' H' r y gg rr => k2 s v m' G' H' r (x.trans y) gg rr) (fun a b m c' d n y z => k3 a b m c' d n (x.trans y) z) (fun a b m c' d n y z => k4 a b m c' d n (x.trans y) z)
/-! ### loops -/
theorem for_run {vs : List Nat} {m1 : ι} {σ : L2.St} {G1 H1 : Hp} {I : L2.It} {ds : List D} {D0 : Ends} (e1 : EnvOk c m1 G1 H1 σ ρ) (it : ItD c.K c.W G1 I ds) (J : Nat → ι → List S → Prop) (j0 : J 0 m1 ρ)
    (jt : ∀ i d m ρ', ds[i]? = some d → J i m ρ' → ∃ ρ2, DG c m g vs d ρ' ρ2 ∧ Ds c m t ρ2 (J (i + 1)) R N (J (i + 1))) (jd : ∀ m ρ', J ds.length m ρ' → N m ρ')
    (k1 : ∀ ρ' σ' m' G' H', N m' ρ' → Ex G1 G' → EnvOk c m' G' H' σ' ρ' → D0.nx σ' H') (k2 : ∀ s v m' G' H', R m' s → Ex G1 G' → Grow c.W c.G0 c.H0 m' G' H' → RelS c.K c.W c.H0 G' H' v s → D0.rt v H') :
    ∃ W : Nat → Nat → L2.St → Hp → Prop, (∃ m, W 0 m σ H1) ∧ ∀ i m σ H, W i m σ H → (I.stop i H ∧ D0.nx σ H) ∨ (I.go i H ∧ ∃ N : L2.St → Hp → Prop, (∀ σ' H', N σ' H' → ∃ m', m' < m ∧ W (i + 1) m' σ' H') ∧ ∀ x H', I.yld i H x H' → g x σ H' fun σ2 H2 => t { D0 with nx := N, ct := N, bk := D0.nx } σ2 H2) := by
  refine ⟨fun i m σ2 H2 => m = ds.length - i ∧ i ≤ ds.length ∧ ∃ m2 ρ2 G2, Ex G1 G2 ∧ EnvOk c m2 G2 H2 σ2 ρ2 ∧ J i m2 ρ2, ⟨ds.length, by simp, Nat.zero_le _, m1, ρ, G1, Ex.refl _, e1, j0⟩, ?_⟩
  rintro i m σ2 H2 ⟨em, hi, m2, ρ2, G2, x2, e2, j⟩
  obtain ⟨ih1, ih2⟩ := it m2 G2 H2 x2 e2.ok i
  by_cases hlt : i < ds.length
  · right
    have hd : ds[i]? = some ds[i] := by simp [hlt]
    obtain ⟨go, yl⟩ := ih1 _ hd
    refine ⟨go, fun σ' H' => ∃ m3 ρ3 G3, Ex G1 G3 ∧ EnvOk c m3 G3 H' σ' ρ3 ∧ J (i + 1) m3 ρ3, fun σ' H' ⟨m3, ρ3, G3, x3, e3, j3⟩ => ⟨m - 1, by omega, by omega, hlt, m3, ρ3, G3, x3, e3, j3⟩, fun v H' y => ?_⟩
    obtain ⟨G3, g3, r3⟩ := yl v H' y
    obtain ⟨ρ3, dg, hb⟩ := jt i _ m2 ρ2 hd j
    refine dg v σ2 G3 H' (e2.grow g3) r3 _ fun σ' f4 _ => ?_
    have e4 := f4 _ _ _ (Ex.refl _) (e2.grow g3)
    exact hb _ σ' G3 H' e4 (fun ρ' σ'' m' G' H'' n y z => ⟨_, ρ', G', (x2.trans g3.ex).trans y, z, n⟩) (fun s v m' G' H' r y gg rr => k2 s v m' G' H' r ((x2.trans g3.ex).trans y) gg rr) (fun ρ' σ'' m' G' H'' n y z => k1 ρ' σ'' m' G' H'' n ((x2.trans g3.ex).trans y) z) (fun ρ' σ'' m' G' H'' n y z => ⟨_, ρ', G', (x2.trans g3.ex).trans y, z, n⟩)
  · left
    have hl2 : i = ds.length := by omega
    subst hl2
    exact ⟨ih2 rfl, k1 ρ2 σ2 m2 G2 H2 (jd m2 ρ2 j) x2 e2⟩
theorem ds_for {vs : List Nat} (h : DI c m wi ρ fun m ds => ∃ J : Nat → ι → List S → Prop, J 0 m ρ ∧ (∀ i d m ρ', ds[i]? = some d → J i m ρ' → ∃ ρ2, DG c m g vs d ρ' ρ2 ∧ Ds c m t ρ2 (J (i + 1)) R N (J (i + 1))) ∧ ∀ m ρ', J ds.length m ρ' → N m ρ') : Ds c m (tFor wi g t) ρ N R B C := fun D σ G H e k1 k2 k3 k4 =>
  h σ G H e _ fun I ds m1 G1 H1 g1 it ⟨J, j0, jt, jd⟩ => for_run (e.grow g1) it J j0 jt jd (fun ρ' σ' m' G' H' n x z => k1 ρ' σ' m' G' H' n (g1.ex.trans x) z) (fun s v m' G' H' r y gg rr => k2 s v m' G' H' r (g1.ex.trans y) gg rr)
theorem ds_while (J : Nat → ι → List S → Prop) (n0 : Nat) (h0 : J n0 m ρ) (h : ∀ n m ρ', J n m ρ' → DT c m tt ρ' fun m b => (b = true → Ds c m t ρ' (fun m ρ2 => ∃ n', n' < n ∧ J n' m ρ2) R N (fun m ρ2 => ∃ n', n' < n ∧ J n' m ρ2)) ∧ (b = false → N m ρ')) : Ds c m (tWhile tt t) ρ N R B C := fun D σ G H e k1 k2 k3 k4 => by
  refine ⟨fun n σ2 H2 => ∃ m2 ρ2 G2, Ex G G2 ∧ EnvOk c m2 G2 H2 σ2 ρ2 ∧ J n m2 ρ2, ⟨n0, m, ρ, G, Ex.refl _, e, h0⟩, ?_⟩
  rintro n σ2 H2 ⟨m2, ρ2, G2, x2, e2, j⟩
  refine h n m2 ρ2 j σ2 G2 H2 e2 _ fun b m3 G3 H3 g3 ⟨h1, h2⟩ => ?_
  cases b with
  | true =>
    rw [if_pos rfl]
    refine ⟨fun σ' H' => ∃ n', n' < n ∧ ∃ m3 ρ3 G3, Ex G G3 ∧ EnvOk c m3 G3 H' σ' ρ3 ∧ J n' m3 ρ3, fun σ' H' z => z, ?_⟩
    exact h1 rfl _ σ2 G3 H3 (e2.grow g3) (fun ρ' σ'' m' G' H'' ⟨n', hm, n⟩ y z => ⟨n', hm, _, ρ', G', (x2.trans g3.ex).trans y, z, n⟩) (fun s v m' G' H' r y gg rr => k2 s v m' G' H' r ((x2.trans g3.ex).trans y) gg rr) (fun ρ' σ'' m' G' H'' n y z => k1 ρ' σ'' m' G' H'' n ((x2.trans g3.ex).trans y) z) (fun ρ' σ'' m' G' H'' ⟨n', hm, n⟩ y z => ⟨n', hm, _, ρ', G', (x2.trans g3.ex).trans y, z, n⟩)
  | false =>
    rw [if_neg Bool.false_ne_true]
    exact k1 ρ2 σ2 m3 G3 H3 (h2 rfl) (x2.trans g3.ex) (e2.grow g3)
/-- x += e, x an int -/
theorem ds_augI {i : Nat} {f : Int → Int → Int} {a : Int} (hi : ρ[i]? = some (.dat (.int a))) (h : De c m te ρ fun m s => ∃ b, s = .dat (.int b) ∧ N m (ρ.set i (.dat (.int (f a b))))) (hn : noEl i ρ = true := by with_unfolding_all rfl) : Ds c m (tAug i te (ipI f)) ρ N R B C := fun D σ G H e k1 _ _ _ => by
  rcases e.at_ i _ hi with z | ⟨v, ha, r⟩
  · cases z
  · have r : Rp c.K G v (.int a) := r
    cases r
    refine ⟨_, ha, h σ G H e _ fun v s m' G' H' g r ⟨b, es, p⟩ => ?_⟩
    subst es
    cases r
    exact ⟨a, b, rfl, rfl, k1 _ _ m' G' H' p g.ex ((e.grow g).setD hn (.int _))⟩
/-! ### an own thing changes -/
theorem EnvOk.mut {G H : Hp} {σ : L2.St} {i : Nat} {o o' : O} {p a0 : Addr} {u : HO} (e : EnvOk c m G H σ ρ) (hi : ρ[i]? = some (.own o)) (hp : σ[i]? = some (some (.ref p))) (ha : Ads H p o a0) (hu : OwnAt c.K (Fr c.W c.H0 G) G (upd H a0 u) p o')
    (hA : ∀ a, Ads (upd H a0 u) p o' a → Ads H p o a) (hel : ∀ (its : List It) (vs : List V), o = .nest its → H p = some (.lst vs) → ∃ (its' : List It) (vs' : List V), o' = .nest its' ∧ upd H a0 u p = some (.lst vs') ∧ ∀ (j : Nat) (q : Addr) (o1 : O1), vs[j]? = some (V.ref q) → its[j]? = some (It.o o1) → vs'[j]? = some (V.ref q) ∧ ∃ o2, its'[j]? = some (It.o o2)) : EnvOk c m G (upd H a0 u) σ (ρ.set i (.own o')) := by
  obtain ⟨p', hp', ob⟩ := e.own hi
  rw [hp] at hp'
  cases hp'
  obtain ⟨f0, u0, hu0, hk0⟩ := ob.ads ha
  have hl : i < ρ.length := (List.getElem?_eq_some_iff.mp hi).1
  have ne : ∀ {j : Nat} {o2 : O} {q : Addr}, i ≠ j → ρ[j]? = some (.own o2) → σ[j]? = some (some (.ref q)) → ∀ a, Ads H q o2 a → a ≠ a0 := fun hij hj hq a h z => by
    rw [z] at h
    exact e.sep i _ o _ p _ hij hi hj hp hq a0 ha h
  refine ⟨e.ok0, e.gr.mut f0.1 f0.2.1 f0.2.2, e.exc, by rw [List.length_set]; exact e.len, fun j s hs => ?_, fun j k o1 o2 p1 p2 hjk hj hk pj pk a h1 h2 => ?_, fun k a j hk => ?_, fun k o1 p1 hk hp1 a ha1 => ?_⟩
  · rcases set_get hs with ⟨rfl, rfl, _⟩ | ⟨hj, hs⟩
    · exact .inr ⟨_, hp, p, rfl, hu⟩
    · rcases e.at_ j s hs with z | ⟨w, aw, rw'⟩
      · exact .inl z
      · refine .inr ⟨w, aw, ?_⟩
        cases s with
        | no => trivial
        | el a b => trivial
        | dat d => exact rw'
        | at_ q => exact rw'
        | own o2 =>
          obtain ⟨q, rfl, zo⟩ := rw'
          exact ⟨q, rfl, zo.monoA (Ex.refl G) fun a h => ⟨upd_ne (ne hj hs aw a h), (zo.ads h).1⟩⟩
        | vw o2 =>
          obtain ⟨q, rfl, zo⟩ := rw'
          exact ⟨q, rfl, zo.monoA (Ex.refl G) fun a h => ⟨upd_ne (fun z => e.vws j o2 q hs aw a h (by rw [z]; exact f0.1)), (zo.ads h).1⟩⟩
        | lk o2 => exact rw'
        | xc C a d fs =>
          obtain ⟨e1, e2, e3, fv, e4, e5, e6⟩ := rw'
          exact ⟨e1, e2, e3, fv, (upd_ne (fun z => by rw [z, hu0] at e4; cases e4; cases hk0)).trans e4, e5, e6⟩
  · have back : ∀ {j : Nat} {o1 : O} {p1 : Addr}, i ≠ j → ρ[j]? = some (.own o1) → σ[j]? = some (some (.ref p1)) → Ads (upd H a0 u) p1 o1 a → Ads H p1 o1 a := fun hij hj pj h => h.eq (upd_ne (ne hij hj pj _ (Ads.root _)))
    rcases set_get hj with ⟨rfl, z, _⟩ | ⟨n1, hj⟩
    · cases z
      rw [hp] at pj
      cases pj
      rcases set_get hk with ⟨rfl, _⟩ | ⟨n2, hk⟩
      · exact hjk rfl
      · exact e.sep i k o o2 p p2 hjk hi hk hp pk a (hA a h1) (back n2 hk pk h2)
    · rcases set_get hk with ⟨rfl, z, _⟩ | ⟨n2, hk⟩
      · cases z
        rw [hp] at pk
        cases pk
        exact e.sep j i o1 o p1 p hjk hj hi pj hp a (back n1 hj pj h1) (hA a h2)
      · exact e.sep j k o1 o2 p1 p2 hjk hj hk pj pk a (back n1 hj pj h1) (back n2 hk pk h2)
  · rcases set_get hk with ⟨_, z, _⟩ | ⟨n1, hk⟩
    · cases z
    · obtain ⟨its, p1, vs, q, o1, e1, e2, e3, e4, e5, e6⟩ := e.els k a j hk
      by_cases hai : i = a
      · subst hai
        rw [hi] at e1
        cases e1
        rw [hp] at e2
        cases e2
        obtain ⟨its', vs', rfl, h4, h5⟩ := hel its vs rfl e3
        obtain ⟨h6, o2, h7⟩ := h5 j q o1 e4 e5
        exact ⟨its', p, vs', q, o2, by rw [List.getElem?_set]; simp only [if_true]; rw [if_pos hl], hp, h4, h6, h7, e6⟩
      · exact ⟨its, p1, vs, q, o1, by rw [List.getElem?_set_ne hai]; exact e1, e2, (upd_ne (ne hai e1 e2 p1 (Ads.root _))).trans e3, e4, e5, e6⟩
  · rcases set_get hk with ⟨_, z, _⟩ | ⟨n1, hk⟩
    · cases z
    · have np : p1 ≠ a0 := fun z => e.vws k o1 p1 hk hp1 p1 (Ads.root _) (by rw [z]; exact f0.1)
      exact e.vws k o1 p1 hk hp1 a (ha1.eq (upd_ne np))
/-- a plain own thing changes -/
theorem EnvOk.mut1 {G H : Hp} {σ : L2.St} {i : Nat} {o o' : O1} {p : Addr} {u : HO} (e : EnvOk c m G H σ ρ) (hi : ρ[i]? = some (.own (.one o))) (hp : σ[i]? = some (some (.ref p))) (hu : Ob1 c.K G (upd H p u) p o') : EnvOk c m G (upd H p u) σ (ρ.set i (.own (.one o'))) := by
  obtain ⟨p', hp', ob⟩ := e.own hi
  rw [hp] at hp'
  cases hp'
  exact e.mut hi hp rfl ⟨ob.root.1, hu⟩ (fun a h => h) (fun its vs z => by cases z)
/-- kids as a place -/
theorem kid_at {K : PySem.W.Frag} {F : Addr → Prop} {G H : Hp} : ∀ {vs : List V} {is : List It}, RIts K F G H vs is → ∀ {j : Nat} {q : Addr} {o : O1}, vs[j]? = some (.ref q) → is[j]? = some (.o o) → q ∈ kids vs is
  | _, _, .nil, j, q, o, h, _ => by simp at h
  | _, _, .cons (i := i) r rs, 0, q, o, h, h2 => by simp at h h2; subst h h2; rw [kids_o]; simp
  | v :: vs, i :: is, .cons r rs, j + 1, q, o, h, h2 => by
    have ih := kid_at rs (j := j) (q := q) (o := o) (by simpa using h) (by simpa using h2)
    cases i with
    | d d => rw [kids_d]; exact ih
    | o o1 => obtain ⟨q1, rfl, _⟩ := r; rw [kids_o]; simp [ih]
theorem kid_put {K : PySem.W.Frag} {F : Addr → Prop} {G H H' : Hp} {q : Addr} {o o' : O1} (hne : ∀ a, a ≠ q → H' a = H a) (ob : Ob1 K G H' q o') : ∀ {vs : List V} {is : List It}, RIts K F G H vs is → (kids vs is).Nodup → ∀ {j : Nat}, vs[j]? = some (.ref q) → is[j]? = some (.o o) →
    RIts K F G H' vs (is.set j (.o o')) ∧ kids vs (is.set j (.o o')) = kids vs is
  | [], [], _, _, j, h, _ => by simp at h
  | [], _ :: _, z, _, _, _, _ => by cases z
  | _ :: _, [], z, _, _, _, _ => by cases z
  | v :: vs, i :: is, z, nd, 0, h, h2 => by
    cases z with
    | cons r rs =>
      simp at h h2
      subst h h2
      obtain ⟨q1, e1, f1, _⟩ := r
      cases e1
      rw [kids_o] at nd
      obtain ⟨n1, n2⟩ := List.nodup_cons.mp nd
      rw [List.set_cons_zero]
      exact ⟨.cons ⟨q, rfl, f1, ob⟩ (rs.monoA (Ex.refl _) fun a ha => ⟨hne a fun z => n1 (by rw [← z]; exact ha), (rs.kid ha).1⟩), rfl⟩
  | v :: vs, i :: is, z, nd, j + 1, h, h2 => by
    cases z with
    | cons r rs =>
      have h : vs[j]? = some (.ref q) := by simpa using h
      have h2 : is[j]? = some (.o o) := by simpa using h2
      rw [List.set_cons_succ]
      cases i with
      | d d =>
        rw [kids_d] at nd
        obtain ⟨a, b⟩ := kid_put hne ob rs nd h h2
        exact ⟨.cons r a, by rw [kids_d, kids_d, b]⟩
      | o o1 =>
        obtain ⟨q1, rfl, f1, ob1⟩ := r
        rw [kids_o] at nd
        obtain ⟨n1, n2⟩ := List.nodup_cons.mp nd
        obtain ⟨a, b⟩ := kid_put hne ob rs n2 h h2
        have hq : q1 ≠ q := fun z => n1 (by rw [z]; exact kid_at rs h h2)
        exact ⟨.cons ⟨q1, rfl, f1, ob1.mono (Ex.refl _) (hne q1 hq)⟩ a, by rw [kids_o, kids_o, b]⟩
/-- an item of an own list changes -/
theorem EnvOk.mutE {G H : Hp} {σ : L2.St} {k i j : Nat} {its : List It} {o o' : O1} {q : Addr} {u : HO} (e : EnvOk c m G H σ ρ) (hk : ρ[k]? = some (.el i j)) (hi : ρ[i]? = some (.own (.nest its))) (hj : its[j]? = some (.o o)) (hq : σ[k]? = some (some (.ref q))) (hu : Ob1 c.K G (upd H q u) q o') :
    EnvOk c m G (upd H q u) σ (ρ.set i (.own (.nest (its.set j (.o o'))))) := by
  obtain ⟨its', p, vs, q', o1, h1, h2, h3, h4, h5, h6⟩ := e.els k i j hk
  rw [hi] at h1
  cases h1
  rw [hq] at h6
  cases h6
  rw [hj] at h5
  cases h5
  obtain ⟨p', hp', f, vs', e', r, nd⟩ := e.own hi
  rw [h2] at hp'
  cases hp'
  rw [h3] at e'
  cases e'
  obtain ⟨n1, n2⟩ := List.nodup_cons.mp nd
  have hkid := kid_at r h4 hj
  have pq : p ≠ q := fun z => n1 (by rw [z]; exact hkid)
  obtain ⟨r2, k2⟩ := kid_put (H' := upd H q u) (fun a ha => upd_ne ha) hu r n2 h4 hj
  refine e.mut hi h2 (.inr ⟨vs, h3, hkid⟩) ⟨f, vs, (upd_ne pq).trans h3, r2, by rw [k2]; exact nd⟩ (fun a ha => ?_) (fun its2 vs2 z hz => ?_)
  · rcases ha with ha | ⟨vs2, hv, ha⟩
    · exact .inl ha
    · rw [upd_ne pq, h3] at hv
      cases hv
      rw [k2] at ha
      exact .inr ⟨vs, h3, ha⟩
  · cases z
    rw [h3] at hz
    cases hz
    refine ⟨_, vs, rfl, (upd_ne pq).trans h3, fun j2 q2 o2 a b => ⟨a, ?_⟩⟩
    by_cases hjj : j = j2
    · subst hjj
      exact ⟨o', by rw [List.getElem?_set]; simp only [if_true]; rw [if_pos (List.getElem?_eq_some_iff.mp b).1]⟩
    · exact ⟨o2, by rw [List.getElem?_set_ne hjj]; exact b⟩
/-- x = rows[e] -/
theorem ds_asgEl {k i : Nat} {its : List It} (hi : ρ[i]? = some (.own (.nest its))) (hki : i ≠ k) (h : De c m te ρ fun m s => ∃ (n : Int) (j : Nat) (o : O1), s = .dat (.int n) ∧ ixN its.length n = some j ∧ its[j]? = some (.o o) ∧ N m (ρ.set k (.el i j))) (hn : noEl k ρ = true := by with_unfolding_all rfl) :
    Ds c m (tAsg (tOp (rIxL c.K) (tVar i) te) (gName k)) ρ N R B C := fun D σ G H e k1 _ _ _ => by
  obtain ⟨p, hp, ob⟩ := e.own hi
  refine ⟨_, hp, h σ G H e _ fun v s m1 G1 H1 g1 r1 ⟨n, j, o, es, hj, ho, hN⟩ => ?_⟩
  subst es
  cases r1
  have e1 := e.grow g1
  obtain ⟨p', hp', f, vs, ev, r, nd⟩ := e1.own hi
  rw [hp] at hp'
  cases hp'
  obtain ⟨w, hw, q, rfl, fq, obq⟩ := r.getD ho
  refine ⟨p, vs, n, .ref q, rfl, rfl, SqL.of ev, ?_, k1 _ _ m1 G1 H1 hN g1.ex ?_⟩
  · unfold atI
    rw [r.length, hj]
    exact hw
  · exact e1.set0 (.inr ⟨_, rfl, trivial⟩) (fun o p z => by cases z) hn (fun a b z => by
      cases z
      exact ⟨hki, q, rfl, its, p, vs, o, hi, hp, ev, hw, ho⟩) (fun _ z => by cases z)
/-- xs.append(e) -/
theorem ds_app {i : Nat} {ds : List D} (hi : ρ[i]? = some (.own (.lst ds))) (hl : ds.length < 1000000) (h : De c m te ρ fun m s => ∃ d, s.frz = .dat d ∧ N m (ρ.set i (.own (.lst (ds ++ [d]))))) : Ds c m (tDrop (tBM c.K "list" rAppend (tVar i) (tCons te tNil))) ρ N R B C := fun D σ G H e k1 _ _ _ => by
  obtain ⟨p, a, f, xs, hx, rx⟩ := e.own hi
  refine ⟨_, a, .inl ⟨rfl, xs, SqL.of hx⟩, h σ G H e _ fun v s m' G' H' g r ⟨d, es, hn⟩ => ?_⟩
  obtain ⟨G2, g2, r2⟩ := r.freeze g
  rw [es] at r2
  have e2 := e.grow g2
  have hx2 := g2.keep _ _ f.2.2 hx
  exact ⟨p, xs, v, rfl, rfl, hx2, szl (by rw [rx.length]; exact hl), k1 _ σ _ G2 _ hn g2.ex (e2.mut1 hi a ⟨_, upd_same, (rx.mono g2.ex).append (.one r2)⟩)⟩
/-! ### a def's body -/
theorem relss_get {K : PySem.W.Frag} {W : Wd ι} {H0 G H : Hp} : ∀ {vs : List V} {ss : List S}, RelSs K W H0 G H vs ss → ∀ {i : Nat} {s : S}, ss[i]? = some s → ∃ v, vs[i]? = some v ∧ RelS K W H0 G H v s
  | _, _, .nil, i, s, h => by simp at h
  | _, _, .cons h r, 0, s, e => by simp at e; subst e; exact ⟨_, rfl, h⟩
  | _, _, .cons h r, i + 1, s, e => by
    obtain ⟨v, h1, h2⟩ := relss_get r (i := i) (s := s) (by simpa using e)
    exact ⟨v, by simpa using h1, h2⟩
theorem run_fn {K : PySem.W.Frag} {F : Fc} {Nm : List Str} {t : TS} {vs : List V} {H : Hp} {Q : VK} {E : XK} (hl : vs.length ≤ Nm.length) (h : spF K F vs H Q E)
    (body : ∀ κ W m ss Φ Ξ G, F κ W m ss Φ Ξ → Ds ⟨K, W, E, Ξ, m, G, H⟩ m t (ss ++ List.replicate (Nm.length - ss.length) .no) (fun m _ => Φ m (.dat .non)) Φ (fun _ _ => False) (fun _ _ => False)) :
    t { nx := fun _ H' => Q .non H', rt := Q } (L2.start Nm vs) H := by
  obtain ⟨κ, W, m, G, ss, Φ, Ξ, ok, rs, ha, hf, hq, he⟩ := h
  have hlen := rs.length
  refine body κ W m ss Φ Ξ G hf _ (L2.start Nm vs) G H ?_ (fun ρ' σ' m' G' H' n x e' => hq .non (.dat .non) m' G' H' e'.gr Rp.non n) (fun s v m' G' H' r _ g rr => hq v s m' G' H' g rr r) (fun _ _ _ _ _ z => z.elim) (fun _ _ _ _ _ z => z.elim)
  have arg : ∀ {i : Nat} {s : S}, (ss ++ List.replicate (Nm.length - ss.length) S.no)[i]? = some s → (argS s = true ∧ ss[i]? = some s) ∨ s = .no := fun {i s} z => by
    by_cases hi : i < ss.length
    · rw [List.getElem?_append_left hi] at z
      exact .inl ⟨List.all_eq_true.mp ha _ (List.mem_of_getElem? z), z⟩
    · rw [List.getElem?_append_right (by omega), List.getElem?_replicate] at z
      split at z <;> first | (cases z; exact .inr rfl) | cases z
  have sig : ∀ {i : Nat} {v : V}, vs[i]? = some v → (L2.start Nm vs)[i]? = some (some v) := fun {i v} hv => by
    unfold L2.start
    rw [List.getElem?_append_left (by rw [List.length_map]; exact (List.getElem?_eq_some_iff.mp hv).1), List.getElem?_map, hv]
    rfl
  refine ⟨ok, ok.refl, he, ?_, fun i s hs => ?_, fun i j o o' p q _ hi => ?_, fun k i j hk => ?_, fun k o p hk hp a ha2 => ?_⟩
  · unfold L2.start
    rw [List.length_append, List.length_append, List.length_map, List.length_replicate, List.length_replicate, hlen]
  · rcases arg hs with ⟨_, h1⟩ | rfl
    · obtain ⟨v, hv, r⟩ := relss_get rs h1
      exact .inr ⟨v, sig hv, r⟩
    · exact .inl rfl
  · rcases arg hi with ⟨z, _⟩ | z <;> cases z
  · rcases arg hk with ⟨z, _⟩ | z <;> cases z
  · rcases arg hk with ⟨_, h1⟩ | z
    · obtain ⟨v, hv, p', rfl, ob⟩ := relss_get rs h1
      have e := sig hv
      rw [hp] at e
      cases e
      obtain ⟨_, u, hu, _⟩ := ob.ads ha2
      rw [show (Cc.H0 _) = H from rfl, hu]
      exact fun z => by cases z
    · cases z
end
end DL
set_option Elab.async false
set_option linter.all false
set_option maxRecDepth 100000
set_option maxHeartbeats 1000000
namespace DL
open PySem L2 Evl
/-! ### a dict is locked while it is walked -/
def lkH (X : Hp) (d : Addr) (o : HO) : Hp := fun b => if b = d ∧ X d ≠ none then some o else X b
section
variable {X : Hp} {d b : Addr} {o : HO}
theorem lkH_ne (h : b ≠ d) : lkH X d o b = X b := if_neg fun z => h z.1
theorem lkH_none (h : X d = none) : lkH X d o = X := by
  funext b
  exact if_neg fun z => z.2 h
theorem lkH_some (h : X d ≠ none) : lkH X d o = upd X d o := by
  funext b
  by_cases e : b = d
  · subst e; rw [upd_same]; exact if_pos ⟨rfl, h⟩
  · rw [upd_ne e]; exact lkH_ne e
end
def lockW {ι : Type} (W : Wd ι) (d : Addr) : Wd ι := { W with L := fun a => W.L a ∨ a = d }
theorem dct_frz {u : HO} (h : isDct u = true) : (∀ x w, u ≠ .frz x w) ∧ noTup u = true ∧ ∀ xs, u ≠ .lst xs := by
  cases u with
  | dK kvs => exact ⟨(fun _ _ z => by cases z), rfl, (fun _ z => by cases z)⟩
  | dT kvs => exact ⟨(fun _ _ z => by cases z), rfl, (fun _ z => by cases z)⟩
  | _ => cases h
theorem swp_lk {G : Hp} {d : Addr} {u : HO} {od : Obj} (hu : isDct u = true) (h : G d = some u) : Swp G (upd G d (.frz od u)) d u := ⟨hu, fun b hb => upd_ne hb, .inl h, .inr ⟨od, upd_same⟩⟩
theorem swp_un {G : Hp} {d : Addr} {u : HO} {od : Obj} (hu : isDct u = true) (h : G d = some (.frz od u)) : Swp G (upd G d u) d u := ⟨hu, fun b hb => upd_ne hb, .inr ⟨od, h⟩, .inl upd_same⟩
section
variable {ι : Type} {W : Wd ι} {m m0 m' : ι} {A B G H G' H' : Hp} {d : Addr} {u : HO} {od : Obj}
theorem up_lk {K : PySem.W.Frag} (hu : isDct u = true) (h : G d = some u ∨ G d = none) : Up K G (lkH G d (.frz od u)) := by
  rcases h with h | h
  · rw [lkH_some (by rw [h]; exact fun z => by cases z)]; exact Up.sw (swp_lk hu h)
  · rw [lkH_none h]; exact Up.ex (Ex.refl _)
theorem up_un {K : PySem.W.Frag} (hu : isDct u = true) (h : G d = some (.frz od u) ∨ G d = none) : Up K G (lkH G d u) := by
  rcases h with h | h
  · rw [lkH_some (by rw [h]; exact fun z => by cases z)]; exact Up.sw (swp_un hu h)
  · rw [lkH_none h]; exact Up.ex (Ex.refl _)
theorem inv_lk (hu : isDct u = true) (md : ¬ W.M d) (hg : G d = some u ∨ G d = none) (h : W.I m G H) : W.I m (lkH G d (.frz od u)) (lkH H d (.frz od u)) := by
  have h1 : W.I m G (lkH H d (.frz od u)) := W.dep _ _ _ _ _ (Ex.refl _) (fun a ha => lkH_ne fun z => md (by rw [← z]; exact ha)) h
  rcases hg with hg | hg
  · rw [lkH_some (X := G) (by rw [hg]; exact fun z => by cases z)]; exact W.sw _ _ _ _ d u (swp_lk hu hg) h1
  · rw [lkH_none (X := G) hg]; exact h1
theorem inv_un (hu : isDct u = true) (md : ¬ W.M d) (hg : G d = some (.frz od u) ∨ G d = none) (h : W.I m G H) : W.I m (lkH G d u) (upd H d u) := by
  have h1 : W.I m G (upd H d u) := W.dep _ _ _ _ _ (Ex.refl _) (fun a ha => upd_ne fun z => md (by rw [← z]; exact ha)) h
  rcases hg with hg | hg
  · rw [lkH_some (X := G) (by rw [hg]; exact fun z => by cases z)]; exact W.sw _ _ _ _ d u (swp_un hu hg) h1
  · rw [lkH_none (X := G) hg]; exact h1
theorem lock_ok (hu : isDct u = true) (md : ¬ W.M d) (ok : Ok W m A B) (ha : A d = some u ∨ A d = none) (hb : A d = some u → B d ≠ none) : Ok (lockW W d) m (lkH A d (.frz od u)) (lkH B d (.frz od u)) := by
  refine ⟨fun b o h => ?_, inv_lk hu md ha ok.inv, fun a h => ?_, fun a o w h n => ?_⟩
  · by_cases z : b = d
    · subst z
      rcases ha with ha | ha
      · rw [lkH_some (by rw [ha]; exact fun z => by cases z), upd_same] at h
        rw [lkH_some (hb ha), upd_same]; exact h
      · rw [lkH_none ha, ha] at h; cases h
    · rw [lkH_ne z] at h ⊢; exact ok.ex b o h
  · rw [lkH_ne fun z => md (by rw [← z]; exact h)]; exact ok.off a h
  · by_cases z : a = d
    · exact .inr z
    · rw [lkH_ne z] at h; exact .inl (ok.lk a o w h n)
theorem lock_grow (hu : isDct u = true) (md : ¬ W.M d) (g : Grow W A B m G H) (hd : H d = some u) (hg : G d = some u ∨ G d = none) (ok : Ok W m0 A B) : Grow (lockW W d) (lkH A d (.frz od u)) (lkH B d (.frz od u)) m (lkH G d (.frz od u)) (lkH H d (.frz od u)) := by
  have hA : A d = some u ∨ A d = none := by
    cases e : A d with
    | none => exact .inr rfl
    | some o => have := g.sub d o (g.ex d o e); rw [hd] at this; exact .inl (by rw [← Option.some.inj this])
  have hH : H d ≠ none := by rw [hd]; exact fun z => by cases z
  refine ⟨fun b o h => ?_, fun b o h => ?_, fun b o h t n => ?_, fun b o mb h => ?_, inv_lk hu md hg g.inv, fun b o w h n => ?_⟩
  · by_cases z : b = d
    · subst z
      rcases hA with ha | ha
      · rw [lkH_some (by rw [ha]; exact fun z => by cases z), upd_same] at h
        rw [lkH_some (by rw [g.ex _ _ ha]; exact fun z => by cases z), upd_same]; exact h
      · rw [lkH_none ha, ha] at h; cases h
    · rw [lkH_ne z] at h ⊢; exact g.ex b o h
  · by_cases z : b = d
    · subst z
      rcases hg with hg | hg
      · rw [lkH_some (by rw [hg]; exact fun z => by cases z), upd_same] at h
        rw [lkH_some hH, upd_same]; exact h
      · rw [lkH_none hg, hg] at h; cases h
    · rw [lkH_ne z] at h ⊢; exact g.sub b o h
  · by_cases z : b = d
    · subst z
      have na : A b = none := by
        rcases hA with ha | ha
        · rw [lkH_some (by rw [ha]; exact fun z => by cases z), upd_same] at n; cases n
        · exact ha
      have nb : B b = some u := by
        cases e : B b with
        | none => rw [lkH_none e, e] at h; cases h
        | some o2 => have := g.keep b o2 md e; rw [hd] at this; rw [← Option.some.inj this]
      have ng := g.fresh b u nb (dct_frz hu).2.1 na
      rw [lkH_none ng]; exact ng
    · rw [lkH_ne z] at h n ⊢; exact g.fresh b o h t n
  · by_cases z : b = d
    · subst z
      cases e : B b with
      | none => rw [lkH_none e, e] at h; cases h
      | some o2 =>
        rw [lkH_some (by rw [e]; exact fun z => by cases z), upd_same] at h
        rw [lkH_some hH, upd_same]; exact h
    · rw [lkH_ne z] at h ⊢; exact g.keep b o mb h
  · by_cases z : b = d
    · exact .inl (.inr z)
    · rw [lkH_ne z] at h ⊢
      exact (g.lk b o w h n).imp .inl fun q => q
theorem unlock_grow (hu : isDct u = true) (md : ¬ W.M d) (hA : A d = some u ∨ A d = none) (hB : B d = some u ∨ B d = none) (hAB : A d = some u → B d = some u) (g : Grow (lockW W d) (lkH A d (.frz od u)) (lkH B d (.frz od u)) m' G' H') (hH' : H' d = some (.frz od u)) (hG' : G' d = some (.frz od u) ∨ G' d = none) :
    Grow W A B m' (lkH G' d u) (upd H' d u) := by
  have su : ∀ {x : Option HO}, x = some u → x ≠ none := fun h => by rw [h]; exact fun z => by cases z
  refine ⟨fun b o h => ?_, fun b o h => ?_, fun b o h t n => ?_, fun b o mb h => ?_, inv_un hu md hG' g.inv, fun b o w h n => ?_⟩
  · by_cases z : b = d
    · subst z
      rcases hA with ha | ha
      · have e : lkH A b (.frz od u) b = some (.frz od u) := by rw [lkH_some (su ha), upd_same]
        have e2 := g.ex b _ e
        rw [lkH_some (by rw [e2]; exact fun z => by cases z), upd_same, ← h, ha]
      · rw [ha] at h; cases h
    · rw [lkH_ne z]; exact g.ex b o (by rw [lkH_ne z]; exact h)
  · by_cases z : b = d
    · subst z
      rw [upd_same]
      rcases hG' with hg | hg
      · rw [lkH_some (by rw [hg]; exact fun z => by cases z), upd_same] at h; exact h
      · rw [lkH_none hg, hg] at h; cases h
    · rw [lkH_ne z] at h; rw [upd_ne z]; exact g.sub b o h
  · by_cases z : b = d
    · subst z
      have e : lkH B b (.frz od u) b = some (.frz od u) := by rw [lkH_some (by rw [h]; exact fun z => by cases z), upd_same]
      have ng := g.fresh b _ e rfl (by rw [lkH_none n]; exact n)
      rw [lkH_none ng]; exact ng
    · rw [lkH_ne z]; exact g.fresh b o (by rw [lkH_ne z]; exact h) t (by rw [lkH_ne z]; exact n)
  · by_cases z : b = d
    · subst z
      rw [upd_same]
      rcases hB with hb | hb
      · rw [← h, hb]
      · rw [hb] at h; cases h
    · rw [upd_ne z]; exact g.keep b o mb (by rw [lkH_ne z]; exact h)
  · have z : b ≠ d := fun z => by
      subst z
      rcases hG' with hg | hg
      · rw [lkH_some (by rw [hg]; exact fun z => by cases z), upd_same] at h; exact (dct_frz hu).1 _ _ (Option.some.inj h)
      · rw [lkH_none hg, hg] at h; cases h
    rw [lkH_ne z] at h
    rcases g.lk b o w h n with (q | q) | q
    · exact .inl q
    · exact absurd q z
    · rw [lkH_ne z] at q; exact .inr q
end
section
variable {ι : Type} {c : Cc ι} {m m' : ι} {ρ : List S} {G H G' H' : Hp} {σ : L2.St} {d : Addr} {u : HO} {od : Obj}
/-- within the lock -/
abbrev lockC (c : Cc ι) (d : Addr) (F : HO) : Cc ι := ⟨c.K, lockW c.W d, c.E, fun _ _ _ => False, c.m0, lkH c.G0 d F, lkH c.H0 d F⟩
/-- what is known of a dict that may be locked -/
structure Lkb (c : Cc ι) (G H : Hp) (d : Addr) (u : HO) : Prop where
  hu : isDct u = true
  md : ¬ c.W.M d
  hd : H d = some u
  hg : G d = some u ∨ G d = none
theorem Lkb.base (k : Lkb c G H d u) (e : EnvOk c m G H σ ρ) : (c.G0 d = some u ∨ c.G0 d = none) ∧ (c.H0 d = some u ∨ c.H0 d = none) ∧ (c.G0 d = some u → c.H0 d = some u) := by
  have h2 : c.H0 d = some u ∨ c.H0 d = none := by
    cases q : c.H0 d with
    | none => exact .inr rfl
    | some o => have := e.gr.keep d o k.md q; rw [k.hd] at this; exact .inl (by rw [← Option.some.inj this])
  refine ⟨?_, h2, fun h => e.ok0.ex _ _ h⟩
  cases q : c.G0 d with
  | none => exact .inr rfl
  | some o =>
    have := e.gr.sub d o (e.gr.ex d o q)
    rw [k.hd] at this
    exact .inl (by rw [← Option.some.inj this])
/-- the slots within the lock, if those of own things and views have nothing to do with the dict -/
theorem EnvOk.lock {ρ1 : List S} (k : Lkb c G H d u) (e : EnvOk c m G H σ ρ) (hl : ρ1.length = ρ.length)
    (hs : ∀ (j : Nat) (s : S), ρ1[j]? = some s → s = .no ∨ (∃ v, σ[j]? = some (some v) ∧ RelS c.K (lockW c.W d) (lkH c.H0 d (.frz od u)) (lkH G d (.frz od u)) (lkH H d (.frz od u)) v s) ∧ ((∃ o, s = .lk o) ∨ ρ[j]? = some s))
    (hel : ∀ (k i j : Nat), ρ1[k]? = some (S.el i j) → ∀ its, ρ[i]? = some (S.own (.nest its)) → ρ1[i]? = some (S.own (.nest its)))
    (hne : ∀ (j : Nat) (o : O) (p : Addr), (ρ1[j]? = some (.own o) ∨ ρ1[j]? = some (.vw o)) → σ[j]? = some (some (.ref p)) → ∀ a, Ads H p o a → a ≠ d) : EnvOk (lockC c d (.frz od u)) m (lkH G d (.frz od u)) (lkH H d (.frz od u)) σ ρ1 := by
  obtain ⟨b1, b2, b3⟩ := k.base e
  have down : ∀ {j : Nat} {s : S}, ρ1[j]? = some s → s ≠ .no → (∀ o, s ≠ .lk o) → ρ[j]? = some s := fun h n1 n2 => by
    rcases hs _ _ h with z | ⟨_, ⟨o, z⟩ | z⟩
    · exact absurd z n1
    · exact absurd z (n2 o)
    · exact z
  refine ⟨lock_ok k.hu k.md e.ok0 b1 (fun z => by rw [b3 z]; exact fun z => by cases z), lock_grow k.hu k.md e.gr k.hd k.hg e.ok0, fun _ _ _ _ _ _ _ _ _ _ _ _ _ z => z.elim, by rw [hl]; exact e.len, fun j s h => (hs j s h).imp_right fun z => z.1, fun i j o o' p q hij hi hj pi pj a ha hb => ?_, fun kk i j hk => ?_, fun kk o p hk hp a ha => ?_⟩
  · have hi' := down hi (fun z => by cases z) (fun _ z => by cases z)
    have hj' := down hj (fun z => by cases z) (fun _ z => by cases z)
    exact e.sep i j o o' p q hij hi' hj' pi pj a (ha.eq (lkH_ne (hne i o p (.inl hi) pi p (Ads.root _)))) (hb.eq (lkH_ne (hne j o' q (.inl hj) pj q (Ads.root _))))
  · obtain ⟨its, p, vs, q, o, h1, h2, h3, h4, h5, h6⟩ := e.els kk i j (down hk (fun z => by cases z) (fun _ z => by cases z))
    have h1' := hel kk i j hk its h1
    exact ⟨its, p, vs, q, o, h1', h2, (lkH_ne (hne i _ p (.inl h1') h2 p (Ads.root _))).trans h3, h4, h5, h6⟩
  · have hk' := down hk (fun z => by cases z) (fun _ z => by cases z)
    have hp' := hne kk o p (.inr hk) hp
    have q := e.vws kk o p hk' hp a (ha.eq (lkH_ne (hp' p (Ads.root _))))
    show lkH c.H0 d (.frz od u) a ≠ none
    by_cases z : a = d
    · subst z; rw [lkH_some q, upd_same]; exact fun z => by cases z
    · rw [lkH_ne z]; exact q
/-- a value, locked and unlocked -/
theorem RelS.lock {K : PySem.W.Frag} {W : Wd ι} {H0 : Hp} {v : V} {s : S} (hu : isDct u = true) (hd : H d = some u) (hg : G d = some u ∨ G d = none) (hne : ∀ o p, (s = .own o ∨ s = .vw o) → v = .ref p → ∀ a, Ads H p o a → a ≠ d) (r : RelS K W H0 G H v s) : RelS K (lockW W d) (lkH H0 d (.frz od u)) (lkH G d (.frz od u)) (lkH H d (.frz od u)) v s := by
  have up := up_lk (K := K) (od := od) hu hg
  cases s with
  | no => trivial
  | el i j => trivial
  | at_ p => exact r
  | dat x => exact up _ _ r
  | own o =>
    obtain ⟨p, rfl, ob⟩ := r
    refine ⟨p, rfl, ob.upA up fun a ha => ?_⟩
    have n := hne o p (.inl rfl) rfl a ha
    obtain ⟨f, _⟩ := ob.ads ha
    exact ⟨lkH_ne n, (lkH_ne n).trans f.1, (lkH_ne n).trans f.2.1, f.2.2⟩
  | vw o =>
    obtain ⟨p, rfl, ob⟩ := r
    refine ⟨p, rfl, ob.upA up fun a ha => ?_⟩
    have n := hne o p (.inr rfl) rfl a ha
    obtain ⟨f, _⟩ := ob.ads ha
    exact ⟨lkH_ne n, (lkH_ne n).trans f.1, f.2⟩
  | lk o => obtain ⟨p, x, w, e1, e2, ob⟩ := r; exact ⟨p, x, w, e1, e2, ob.up up⟩
  | xc C a x fs =>
    obtain ⟨e, n, mp, fv, h, k, b⟩ := r
    have z : x ≠ d := fun z => by rw [z, hd] at h; cases h; cases hu
    exact ⟨e, (lkH_ne z).trans n, mp, fv, (lkH_ne z).trans h, k, b.up up⟩
theorem RelS.unlock {K : PySem.W.Frag} {W : Wd ι} {H0 : Hp} {v : V} {s : S} (hu : isDct u = true) (hd : H' d = some (.frz od u)) (hg : G' d = some (.frz od u) ∨ G' d = none) (r : RelS K (lockW W d) (lkH H0 d (.frz od u)) G' H' v s) : RelS K W H0 (lkH G' d u) (upd H' d u) v s := by
  have up := up_un (K := K) hu hg
  have ne : ∀ {a : Addr} {w : HO} {p : Addr}, H' a = some w → pln2 p w = true → a ≠ d := fun h t z => by rw [z, hd] at h; cases h; cases t
  have h0 : ∀ a, lkH H0 d (.frz od u) a = none → H0 a = none := fun a h => by
    by_cases z : a = d
    · subst z
      cases q : H0 a with
      | none => rfl
      | some o => rw [lkH_some (by rw [q]; exact fun z => by cases z), upd_same] at h; cases h
    · rw [lkH_ne z] at h; exact h
  cases s with
  | no => trivial
  | el i j => trivial
  | at_ p => exact r
  | dat x => exact up _ _ r
  | own o =>
    obtain ⟨p, rfl, ob⟩ := r
    refine ⟨p, rfl, ob.upA up fun a ha => ?_⟩
    obtain ⟨f, w, hw, t⟩ := ob.ads ha
    have n := ne hw t
    exact ⟨upd_ne n, h0 a f.1, (lkH_ne n).trans f.2.1, f.2.2⟩
  | vw o =>
    obtain ⟨p, rfl, ob⟩ := r
    refine ⟨p, rfl, ob.upA up fun a ha => ?_⟩
    obtain ⟨f, w, hw, t⟩ := ob.ads ha
    have n := ne hw t
    exact ⟨upd_ne n, (lkH_ne n).trans f.1, f.2⟩
  | lk o => obtain ⟨p, x, w, e1, e2, ob⟩ := r; exact ⟨p, x, w, e1, e2, ob.up up⟩
  | xc C a x fs =>
    obtain ⟨e, n, mp, fv, h, k, b⟩ := r
    have z : x ≠ d := fun z => by rw [z, hd] at h; cases h
    exact ⟨e, (lkH_ne z).trans n, mp, fv, (upd_ne z).trans h, k, b.up up⟩
end
end DL
set_option Elab.async false
set_option linter.all false
set_option maxRecDepth 100000
set_option maxHeartbeats 1000000
namespace DL
open PySem L2 Evl
/-! ### keys -/
def keyD : Key → D
  | .inl i => .int i
  | .inr x => .str x
def keyT (k : List Key) : D := .tup (k.map keyD)
theorem rp_key {K : PySem.W.Frag} {G : Hp} : ∀ k : Key, Rp K G (kV k) (keyD k)
  | .inl i => .int i
  | .inr x => .str x
theorem rp_keys {K : PySem.W.Frag} {G : Hp} : ∀ k : List Key, RpL K G (k.map kV) (k.map keyD)
  | [] => .nil
  | a :: k => .cons (rp_key a) (rp_keys k)
section
variable {ι : Type} {W : Wd ι} {m : ι} {G H : Hp}
/-- a tuple of the heap is data -/
theorem Grow.tup {q : Addr} {xs : List V} (ok : Ok W m G H) (hq : H q = some (.tup xs)) : ∃ G', Grow W G H m G' H ∧ G' q = some (.tup xs) ∧ Ex G G' := by
  cases e : G q with
  | some o =>
    have := ok.ex q o e
    rw [hq] at this
    cases this
    exact ⟨G, ok.refl, e, Ex.refl _⟩
  | none =>
    have x : Ex G (upd G q (.tup xs)) := Ex.new e
    refine ⟨upd G q (.tup xs), ⟨x, fun a o h => ?_, fun a o h t n => ?_, fun _ _ _ h => h, W.dep _ _ _ _ _ x (fun _ _ => rfl) ok.inv, fun a o u h n => ?_⟩, upd_same, x⟩
    · by_cases z : a = q
      · subst z; rw [upd_same] at h; rw [hq]; exact h
      · rw [upd_ne z] at h; exact ok.ex a o h
    · have z : a ≠ q := fun z => by subst z; rw [hq] at h; cases h; cases t
      rw [upd_ne z]; exact n
    · by_cases z : a = q
      · subst z; rw [upd_same] at h; cases h
      · rw [upd_ne z] at h; exact .inr h
end
/-! ### paths: what is read without a call -/
/-! ### walks over a locked dict -/
def RpU (K : PySem.W.Frag) (G : Hp) (u : HO) : D → Prop
  | .dic ds => ∃ kvs, u = .dK kvs ∧ kvs.map (·.1) = ds.map (·.1) ∧ RpL K G (kvs.map (·.2)) (ds.map (·.2))
  | .dit ds => ∃ kvs, u = .dT kvs ∧ kvs.map (·.1) = ds.map (·.1) ∧ RpL K G (kvs.map (·.2)) (ds.map (·.2))
  | _ => False
theorem RpU.up {K : PySem.W.Frag} {G G' : Hp} {u : HO} {d : D} (e : Up K G G') (h : RpU K G u d) : RpU K G' u d := by
  cases d <;> first | exact h.elim | (obtain ⟨kvs, a, b, c⟩ := h; exact ⟨kvs, a, b, c.up e⟩)
def Walks (wi : TI) (td : TE) (dd : D) (ds : List D) : Prop := ∀ {κ : Type} {K : PySem.W.Frag} {W : Wd κ} {G H : Hp} {σ : L2.St} {d : Addr} {od : Obj} {u : HO}, (∀ m G' H', Ex G G' → Ok W m G' H' → H' d = some (.frz od u)) → H d = some (.frz od u) → RpU K G u dd → (∀ Q : VK, Q (.ref d) H → td σ H Q) → ∀ R : L2.It → Hp → Prop, (∀ J, ItD K W G J ds → R J H) → wi σ H R
/-! ### locks: data -/
section
variable {ι : Type} {c : Cc ι} {m m' : ι} {ρ : List S} {G H G' H' : Hp} {σ : L2.St} {d : Addr} {u : HO} {od : Obj}
theorem EnvOk.lockD (k : Lkb c G H d u) (hg : G d = some u) (e : EnvOk c m G H σ ρ) : EnvOk (lockC c d (.frz od u)) m (lkH G d (.frz od u)) (lkH H d (.frz od u)) σ ρ := by
  have gd : ∀ {a : Addr}, G a = none → a ≠ d := fun h z => by rw [z, hg] at h; cases h
  have ne : ∀ (j : Nat) (o : O) (p : Addr), (ρ[j]? = some (.own o) ∨ ρ[j]? = some (.vw o)) → σ[j]? = some (some (.ref p)) → ∀ a, Ads H p o a → a ≠ d := fun j o p hj hp a ha => by
    rcases hj with hj | hj
    · obtain ⟨p', hp', ob⟩ := e.own hj
      rw [hp] at hp'
      cases hp'
      exact gd (ob.ads ha).1.2.1
    · rcases e.at_ j _ hj with z | ⟨v, hv, p', rfl, ob⟩
      · cases z
      · rw [hp] at hv
        cases hv
        exact gd (ob.ads ha).1.1
  refine e.lock k rfl (fun j s h => (e.at_ j s h).imp_right fun ⟨v, a, r⟩ => ⟨⟨v, a, r.lock k.hu k.hd k.hg fun o p ho hv => ?_⟩, .inr h⟩) (fun _ _ _ _ _ h => h) ne
  subst hv
  rcases ho with rfl | rfl
  · exact ne j o p (.inl h) a
  · exact ne j o p (.inr h) a
theorem EnvOk.unlock {σ' : L2.St} {ρ' : List S} (k : Lkb c G H d u) (e : EnvOk c m G H σ ρ) (hH' : H' d = some (.frz od u)) (hG' : G' d = some (.frz od u) ∨ G' d = none) (e' : EnvOk (lockC c d (.frz od u)) m' G' H' σ' ρ') : EnvOk c m' (lkH G' d u) (upd H' d u) σ' ρ' := by
  obtain ⟨b1, b2, b3⟩ := k.base e
  have ne : ∀ {j : Nat} {o : O} {p : Addr}, ρ'[j]? = some (.own o) → σ'[j]? = some (some (.ref p)) → p ≠ d := fun hj hp z => by
    obtain ⟨p', hp', ob⟩ := e'.own hj
    rw [hp] at hp'
    cases hp'
    obtain ⟨_, w, hw, t⟩ := ob.root
    rw [z, hH'] at hw
    cases hw
    cases t
  have nv : ∀ {j : Nat} {o : O} {p : Addr}, ρ'[j]? = some (.vw o) → σ'[j]? = some (some (.ref p)) → p ≠ d := fun hj hp z => by
    rcases e'.at_ _ _ hj with y | ⟨v, hv, p', rfl, ob⟩
    · cases y
    · rw [hp] at hv
      cases hv
      obtain ⟨_, w, hw, t⟩ := ob.root
      rw [z, hH'] at hw
      cases hw
      cases t
  refine ⟨e.ok0, unlock_grow k.hu k.md b1 b2 b3 e'.gr hH' hG', e.exc, e'.len, fun j s h => (e'.at_ j s h).imp_right fun ⟨v, a, r⟩ => ⟨v, a, r.unlock k.hu hH' hG'⟩, fun i j o o' p q hij hi hj pi pj a ha hb => ?_, fun kk i j hk => ?_, fun kk o p hk hp a ha => ?_⟩
  · exact e'.sep i j o o' p q hij hi hj pi pj a (ha.eq (upd_ne (ne hi pi))) (hb.eq (upd_ne (ne hj pj)))
  · obtain ⟨its, p, vs, q, o, h1, h2, h3, h4, h5, h6⟩ := e'.els kk i j hk
    exact ⟨its, p, vs, q, o, h1, h2, (upd_ne (ne h1 h2)).trans h3, h4, h5, h6⟩
  · have q := e'.vws kk o p hk hp a (ha.eq (upd_ne (nv hk hp)))
    intro z
    have q : lkH c.H0 d (.frz od u) a ≠ none := q
    by_cases y : a = d
    · subst y; rw [lkH_none z] at q; exact q z
    · rw [lkH_ne y] at q; exact q z
/-- a data dict that may be locked -/
theorem lkb_of {dd : D} {v : V} (e : EnvOk c m G H σ ρ) (hL : ∀ a, ¬ c.W.L a) (r : Rp c.K G v dd) (hd : (∃ ds, dd = .dic ds) ∨ ∃ ds, dd = .dit ds) : ∃ d u, v = .ref d ∧ Lkb c G H d u ∧ G d = some u ∧ RpU c.K G u dd ∧ Mut (some u) := by
  have mk : ∀ {d u}, isDct u = true → Rd G d u → Lkb c G H d u ∧ G d = some u := fun {d u} hu hr => by
    have h : G d = some u := by
      rcases hr with h | ⟨o, h⟩
      · exact h
      · exact absurd (e.ok.lk d o u h fun xs z => by rw [z] at hu; cases hu) (hL d)
    exact ⟨⟨hu, (fun z => by rw [e.ok.off d z] at h; cases h), e.ok.ex _ _ h, .inl h⟩, h⟩
  rcases hd with ⟨ds, rfl⟩ | ⟨ds, rfl⟩
  · cases r with
    | dic h k rv => obtain ⟨a, b⟩ := mk (u := .dK _) rfl h; exact ⟨_, _, rfl, a, b, ⟨_, rfl, k, rv⟩, trivial⟩
  · cases r with
    | dit h k rv => obtain ⟨a, b⟩ := mk (u := .dT _) rfl h; exact ⟨_, _, rfl, a, b, ⟨_, rfl, k, rv⟩, trivial⟩
variable {Φ : ι → S → Prop} {td te : TE} {tt : TT} {wi : TI} {g : TG} {vs : List Nat} {t : TS} {N B C : ι → List S → Prop} {R : ι → S → Prop}
end
end DL
set_option Elab.async false
set_option linter.all false
set_option maxRecDepth 100000
set_option maxHeartbeats 1000000
namespace DL
open PySem L2 Evl
/-! ### dicts -/
section
variable {κ : Type} [DecidableEq κ]
def valD (kvs : List (κ × D)) (k : κ) : Option D := (kvs.find? fun kv => decide (kv.1 = k)).map (·.2)
def putD (kvs : List (κ × D)) (k : κ) (v : D) : List (κ × D) :=
  if (kvs.any fun kv => decide (kv.1 = k)) = true then kvs.map (fun kv => if kv.1 = k then (kv.1, v) else kv) else kvs ++ [(k, v)]
theorem rpk_val {K : PySem.W.Frag} {G : Hp} : ∀ {kvs : List (κ × V)} {ds : List (κ × D)} (k : κ), kvs.map (·.1) = ds.map (·.1) → RpL K G (kvs.map (·.2)) (ds.map (·.2)) → (valV kvs k = none ∧ valD ds k = none) ∨ ∃ v d, valV kvs k = some v ∧ valD ds k = some d ∧ Rp K G v d
  | [], [], k, _, _ => .inl ⟨rfl, rfl⟩
  | [], _ :: _, k, h, _ => by cases h
  | _ :: _, [], k, h, _ => by cases h
  | (a, v) :: kvs, (b, d) :: ds, k, h, r => by
    rw [List.map_cons, List.map_cons] at h r
    obtain ⟨h1, h2⟩ := List.cons.inj h
    cases r with
    | cons r1 r2 =>
      have h1 : a = b := h1
      subst h1
      by_cases e : a = k
      · exact .inr ⟨v, d, by simp [valV, e], by simp [valD, e], r1⟩
      · have ih := rpk_val k h2 r2
        have e1 : valV ((a, v) :: kvs) k = valV kvs k := by simp [valV, e]
        have e2 : valD ((a, d) :: ds) k = valD ds k := by simp [valD, e]
        rw [e1, e2]
        exact ih
theorem rpk_any : ∀ {kvs : List (κ × V)} {ds : List (κ × D)} (k : κ), kvs.map (·.1) = ds.map (·.1) → (kvs.any fun kv => decide (kv.1 = k)) = (ds.any fun kv => decide (kv.1 = k))
  | [], [], k, _ => rfl
  | [], _ :: _, k, h => by cases h
  | _ :: _, [], k, h => by cases h
  | (a, v) :: kvs, (b, d) :: ds, k, h => by
    rw [List.map_cons, List.map_cons] at h
    obtain ⟨h1, h2⟩ := List.cons.inj h
    have h1 : a = b := h1
    subst h1
    rw [List.any_cons, List.any_cons, rpk_any k h2]
theorem rpk_put {K : PySem.W.Frag} {G : Hp} {kvs : List (κ × V)} {ds : List (κ × D)} {k : κ} {v : V} {d : D} (h : kvs.map (·.1) = ds.map (·.1)) (r : RpL K G (kvs.map (·.2)) (ds.map (·.2))) (rv : Rp K G v d) :
    (putK kvs k v).map (·.1) = (putD ds k d).map (·.1) ∧ RpL K G ((putK kvs k v).map (·.2)) ((putD ds k d).map (·.2)) := by
  unfold putK putD
  rw [rpk_any k h]
  split
  · constructor
    · have key : ∀ {α : Type} (l : List (κ × α)) (x : α), (l.map fun kv => if kv.1 = k then (kv.1, x) else kv).map (·.1) = l.map (·.1) := by
        intro α l x
        rw [List.map_map]
        apply List.map_congr_left
        intro a _
        show (if a.1 = k then (a.1, x) else a).1 = a.1
        split <;> rfl
      rw [key, key]
      exact h
    · rename_i hx
      clear hx
      induction kvs generalizing ds with
      | nil =>
        cases ds with
        | nil => exact .nil
        | cons _ _ => cases h
      | cons p kvs ih =>
        cases ds with
        | nil => cases h
        | cons q ds =>
          rw [List.map_cons, List.map_cons] at h r
          obtain ⟨h1, h2⟩ := List.cons.inj h
          cases r with
          | cons r1 r2 =>
            rw [List.map_cons, List.map_cons, List.map_cons, List.map_cons]
            refine .cons ?_ (ih h2 r2)
            have h1 : p.1 = q.1 := h1
            rw [h1]
            split
            · exact rv
            · exact r1
  · rw [List.map_append, List.map_append, List.map_append, List.map_append, h]
    exact ⟨rfl, r.append (.one rv)⟩
end
/-- a dict as it is read -/
inductive DV where
  | K (ds : List (Key × D)) | T (ds : List (List Key × D))
def S.dct? : S → Option DV
  | .dat (.dic ds) => some (.K ds)
  | .dat (.dit ds) => some (.T ds)
  | .own (.one (.dK ds)) => some (.K ds)
  | .vw (.one (.dK ds)) => some (.K ds)
  | .own (.one (.dT ds)) => some (.T ds)
  | .vw (.one (.dT ds)) => some (.T ds)
  | .lk (.dK ds) => some (.K ds)
  | .lk (.dT ds) => some (.T ds)
  | _ => none
/-- what is found at a key -/
inductive Look : DV → D → Option D → Prop
  | k {ds : List (Key × D)} (k : Key) : Look (.K ds) (keyD k) (valD ds k)
  | t {ds : List (List Key × D)} (k : List Key) : Look (.T ds) (keyT k) (valD ds k)
def RpDV (K : PySem.W.Frag) (G H : Hp) (a : Addr) : DV → Prop
  | .K ds => ∃ kvs, Rd H a (.dK kvs) ∧ kvs.map (·.1) = ds.map (·.1) ∧ RpL K G (kvs.map (·.2)) (ds.map (·.2))
  | .T ds => ∃ kvs, Rd H a (.dT kvs) ∧ kvs.map (·.1) = ds.map (·.1) ∧ RpL K G (kvs.map (·.2)) (ds.map (·.2))
section
variable {ι : Type} {m : ι} {K : PySem.W.Frag} {W : Wd ι} {Φ : ι → S → Prop} {H0 G H : Hp} {v : V} {s : S}
theorem RelS.dct {dv : DV} (ok : Ok W m G H) (r : RelS K W H0 G H v s) (h : s.dct? = some dv) : ∃ a, v = .ref a ∧ RpDV K G H a dv := by
  have o1 : ∀ {p o}, Ob1 K G H p o → (∀ dv, (match o with | .dK ds => some (DV.K ds) | .dT ds => some (.T ds) | _ => none) = some dv → RpDV K G H p dv) := fun {p o} ob dv h => by
    cases o with
    | lst ds => cases h
    | dK ds => cases h; obtain ⟨kvs, a, k, b⟩ := ob; exact ⟨kvs, .inl a, k, b⟩
    | dT ds => cases h; obtain ⟨kvs, a, k, b⟩ := ob; exact ⟨kvs, .inl a, k, b⟩
  cases s with
  | dat d =>
    have r : Rp K G v d := r
    cases d <;> first | cases h | skip
    · cases r with
      | dic a k b => exact ⟨_, rfl, _, ex_rd ok.ex a, k, b⟩
    · cases r with
      | dit a k b => exact ⟨_, rfl, _, ex_rd ok.ex a, k, b⟩
  | own o =>
    obtain ⟨p, rfl, ob⟩ := r
    cases o <;> first | cases h | skip
    rename_i o
    refine ⟨p, rfl, o1 ob.2 dv ?_⟩
    cases o <;> exact h
  | vw o =>
    obtain ⟨p, rfl, ob⟩ := r
    cases o <;> first | cases h | skip
    rename_i o
    refine ⟨p, rfl, o1 ob.2 dv ?_⟩
    cases o <;> exact h
  | lk o =>
    obtain ⟨p, x, u, rfl, n, ob⟩ := r
    have e := W.pinned _ _ _ _ _ ok.inv n
    cases o <;> first | cases h | skip
    · obtain ⟨kvs, rfl, k, b⟩ := ob; exact ⟨p, rfl, kvs, .inr ⟨x, e⟩, k, b⟩
    · obtain ⟨kvs, rfl, k, b⟩ := ob; exact ⟨p, rfl, kvs, .inr ⟨x, e⟩, k, b⟩
  | no => cases h
  | el i j => cases h
  | at_ p => cases h
  | xc _ _ _ _ => cases h
theorem RpDV.isD {a : Addr} {dv : DV} (h : RpDV K G H a dv) : IsD H a := by
  cases dv with
  | K ds => obtain ⟨kvs, e, _⟩ := h; exact .inl ⟨kvs, e⟩
  | T ds => obtain ⟨kvs, e, _⟩ := h; exact .inr ⟨kvs, e⟩
theorem key_inv {k : Key} {v : V} (r : Rp K G v (keyD k)) : v = kV k := by cases k <;> (cases r; rfl)
theorem keys_inv : ∀ {k : List Key} {vs : List V}, RpL K G vs (k.map keyD) → vs = k.map kV
  | [], _, .nil => rfl
  | a :: k, _, .cons h r => by rw [key_inv h, keys_inv r]; rfl
theorem keyT_inv {k : List Key} {v : V} (r : Rp K G v (keyT k)) : ∃ b, v = .ref b ∧ G b = some (.tup (k.map kV)) := by
  unfold keyT at r
  cases r with
  | tup h rx => rw [keys_inv rx] at h; exact ⟨_, rfl, h⟩
/-- a look at a dict -/
theorem look_get {a : Addr} {dv : DV} {kd : D} {o : Option D} {y : V} (e : Ex G H) (h : RpDV K G H a dv) (l : Look dv kd o) (ry : Rp K G y kd) : ∃ w, DGet H a y w ∧ ((w = none ∧ o = none) ∨ ∃ v d, w = some v ∧ o = some d ∧ Rp K G v d) := by
  cases l with
  | k k =>
    obtain ⟨kvs, hd, hk, rv⟩ := h
    refine ⟨valV kvs k, .inl ⟨kvs, k, hd, key_inv ry, rfl⟩, ?_⟩
    exact rpk_val k hk rv
  | t k =>
    obtain ⟨kvs, hd, hk, rv⟩ := h
    obtain ⟨b, rfl, hb⟩ := keyT_inv ry
    refine ⟨valV kvs k, .inr ⟨kvs, k, b, hd, rfl, e _ _ hb, rfl⟩, ?_⟩
    exact rpk_val k hk rv
end
section
variable {ι : Type} {c : Cc ι} {m : ι} {ρ : List S} {Φ : ι → S → Prop} {td ty tx te : TE} {N B C : ι → List S → Prop} {R : ι → S → Prop}
/-- d[k] -/
theorem de_dget (h : De c m td ρ fun m s => De c m ty ρ fun m s2 => ∃ dv kd d, s.dct? = some dv ∧ s2 = .dat kd ∧ Look dv kd (some d) ∧ Φ m (.dat d)) : De c m (tDGet td ty) ρ Φ := fun σ G H e Q q =>
  h σ G H e _ fun v s m1 G1 H1 g1 r1 h1 => h1 σ G1 H1 (e.grow g1) _ fun v2 s2 m2 G2 H2 g2 r2 ⟨dv, kd, d, hs, es, hl, p⟩ => by
    subst es
    have e2 := (e.grow g1).grow g2
    obtain ⟨a, rfl, hd⟩ := (r1.grow g2).dct e2.ok hs
    obtain ⟨w, hw, ⟨_, z⟩ | ⟨x, d', rfl, hd', rx⟩⟩ := look_get e2.ok.ex hd hl r2
    · cases z
    · cases hd'
      exact ⟨a, x, rfl, hw, q x (.dat d) m2 G2 H2 (g1.trans g2) rx p⟩
/-- d.get(k, x) -/
theorem de_dget2 (h : De c m td ρ fun m s => (∃ dv, s.dct? = some dv ∧ De c m ty ρ fun m s2 => De c m tx ρ fun m s3 => ∃ kd o x, s2 = .dat kd ∧ s3 = .dat x ∧ Look dv kd o ∧ Φ m (.dat (o.getD x)))) : De c m (tDGet2 td ty tx) ρ Φ := fun σ G H e Q q =>
  h σ G H e _ fun v s m1 G1 H1 g1 r1 ⟨dv, hs, h1⟩ => by
    obtain ⟨a, rfl, hd0⟩ := r1.dct (e.grow g1).ok hs
    refine ⟨a, rfl, hd0.isD, h1 σ G1 H1 (e.grow g1) _ fun v2 s2 m2 G2 H2 g2 r2 h2 => h2 σ G2 H2 ((e.grow g1).grow g2) _ fun v3 s3 m3 G3 H3 g3 r3 ⟨kd, o, x, es, es3, hl, p⟩ => ?_⟩
    subst es es3
    have e3 := ((e.grow g1).grow g2).grow g3
    obtain ⟨a', ea, hd⟩ := ((r1.grow g2).grow g3).dct e3.ok hs
    cases ea
    obtain ⟨w, hw, z⟩ := look_get e3.ok.ex hd hl (r2.grow g3)
    refine ⟨w, hw, ?_⟩
    rcases z with ⟨rfl, rfl⟩ | ⟨y, d, rfl, rfl, ry⟩
    · exact q v3 (.dat x) m3 G3 H3 ((g1.trans g2).trans g3) r3 p
    · exact q y (.dat d) m3 G3 H3 ((g1.trans g2).trans g3) ry p
/-- k in d -/
theorem de_din (h : De c m ty ρ fun m s2 => De c m td ρ fun m s => ∃ dv kd o, s.dct? = some dv ∧ s2 = .dat kd ∧ Look dv kd o ∧ Φ m (.dat (.bl o.isSome))) : De c m (tDIn ty td) ρ Φ := fun σ G H e Q q =>
  h σ G H e _ fun v2 s2 m1 G1 H1 g1 r2 h1 => h1 σ G1 H1 (e.grow g1) _ fun v s m2 G2 H2 g2 r1 ⟨dv, kd, o, hs, es, hl, p⟩ => by
    subst es
    have e2 := (e.grow g1).grow g2
    obtain ⟨a, rfl, hd⟩ := r1.dct e2.ok hs
    obtain ⟨w, hw, z⟩ := look_get e2.ok.ex hd hl (r2.grow g2)
    have ew : w.isSome = o.isSome := by rcases z with ⟨rfl, rfl⟩ | ⟨y, d, rfl, rfl, _⟩ <;> rfl
    exact ⟨a, w, rfl, hw, by rw [ew]; exact q _ (.dat (.bl _)) m2 G2 H2 (g1.trans g2) (Rp.bl _) p⟩
/-- k not in d -/
theorem de_dnotin (h : De c m ty ρ fun m s2 => De c m td ρ fun m s => ∃ dv kd o, s.dct? = some dv ∧ s2 = .dat kd ∧ Look dv kd o ∧ Φ m (.dat (.bl (!o.isSome)))) : De c m (tDNotIn ty td) ρ Φ := fun σ G H e Q q =>
  h σ G H e _ fun v2 s2 m1 G1 H1 g1 r2 h1 => h1 σ G1 H1 (e.grow g1) _ fun v s m2 G2 H2 g2 r1 ⟨dv, kd, o, hs, es, hl, p⟩ => by
    subst es
    have e2 := (e.grow g1).grow g2
    obtain ⟨a, rfl, hd⟩ := r1.dct e2.ok hs
    obtain ⟨w, hw, z⟩ := look_get e2.ok.ex hd hl (r2.grow g2)
    have ew : w.isSome = o.isSome := by rcases z with ⟨rfl, rfl⟩ | ⟨y, d, rfl, rfl, _⟩ <;> rfl
    exact ⟨a, w, rfl, hw, by rw [ew]; exact q _ (.dat (.bl _)) m2 G2 H2 (g1.trans g2) (Rp.bl _) p⟩
theorem de_dnew (h : Φ m (.own (.dK []))) : De c m tDNewK ρ Φ := fun σ G H e Q q p hp =>
  q (.ref p) (.own (.dK [])) m G _ (Grow.new e.ok hp) ⟨p, rfl, ⟨hp, fresh_back e.ok.ex hp, fun m => c.W.ne e.ok.inv m hp⟩, [], upd_same, rfl, .nil⟩ h
theorem de_dnewT (h : Φ m (.own (.dT []))) : De c m tDNewT ρ Φ := fun σ G H e Q q p hp =>
  q (.ref p) (.own (.dT [])) m G _ (Grow.new e.ok hp) ⟨p, rfl, ⟨hp, fresh_back e.ok.ex hp, fun m => c.W.ne e.ok.inv m hp⟩, [], upd_same, rfl, .nil⟩ h
/-- what a store makes of a dict -/
inductive PutS : O1 → D → D → O1 → Prop
  | k {ds : List (Key × D)} (k : Key) (d : D) : PutS (.dK ds) (keyD k) d (.dK (putD ds k d))
  | t {ds : List (List Key × D)} (k : List Key) (d : D) : PutS (.dT ds) (keyT k) d (.dT (putD ds k d))
def O1.few : O1 → Prop
  | .dK ds => ds.length < 1000000
  | .dT ds => ds.length < 1000000
  | .lst _ => True
theorem put_dput {K : PySem.W.Frag} {G H : Hp} {a : Addr} {o o' : O1} {kd d : D} {y v : V} (e : Ex G H) (ob : Ob1 K G H a o) (hf : o.few) (p : PutS o kd d o') (ry : Rp K G y kd) (rv : Rp K G v d) : ∃ u, DPut H a y v (upd H a u) ∧ Ob1 K G (upd H a u) a o' := by
  cases p with
  | k k d =>
    obtain ⟨kvs, hd, hk, rx⟩ := ob
    have hl : kvs.length < sizeLine := by
      have := congrArg List.length hk
      rw [List.length_map, List.length_map] at this
      exact szl (by rw [this]; exact hf)
    obtain ⟨k1, k2⟩ := rpk_put (k := k) hk rx rv
    exact ⟨_, .inl ⟨kvs, k, hd, key_inv ry, hl, rfl⟩, _, upd_same, k1, k2⟩
  | t k d =>
    obtain ⟨kvs, hd, hk, rx⟩ := ob
    have hl : kvs.length < sizeLine := by
      have := congrArg List.length hk
      rw [List.length_map, List.length_map] at this
      exact szl (by rw [this]; exact hf)
    obtain ⟨b, rfl, hb⟩ := keyT_inv ry
    obtain ⟨k1, k2⟩ := rpk_put (k := k) hk rx rv
    exact ⟨_, .inr ⟨kvs, k, b, hd, rfl, e _ _ hb, hl, rfl⟩, _, upd_same, k1, k2⟩
/-- d[k] = e, d one's own -/
theorem ds_dput {i : Nat} {o : O1} {tv : TE} (hi : ρ[i]? = some (.own (.one o))) (hf : o.few) (h : De c m tv ρ fun m s => De c m ty ρ fun m s2 => ∃ d kd o', s.frz = .dat d ∧ s2 = .dat kd ∧ PutS o kd d o' ∧ N m (ρ.set i (.own (.one o')))) : Ds c m (sDPut (tVar i) ty tv) ρ N R B C := fun D σ G H e k1 _ _ _ =>
  h σ G H e _ fun v s m1 G1 H1 g1 r1 h1 => by
    obtain ⟨p, a, _⟩ := e.own hi
    refine ⟨_, a, h1 σ G1 H1 (e.grow g1) _ fun v2 s2 m2 G2 H2 g2 r2 ⟨d, kd, o', es, es2, hp, hn⟩ => ?_⟩
    subst es2
    obtain ⟨G3, g3, r3, x3⟩ := (r1.grow g2).freezeX (g1.trans g2)
    rw [es] at r3
    have e3 := e.grow g3
    obtain ⟨p', a', f, ob⟩ := e3.own hi
    rw [a] at a'
    cases a'
    obtain ⟨u, hu, ob'⟩ := put_dput e3.ok.ex ob hf hp (Rp.mono x3 r2) r3
    exact ⟨p, _, rfl, hu, k1 _ σ m2 G3 _ hn g3.ex (e3.mut1 hi a ob')⟩
theorem EnvOk.elAt {G H : Hp} {σ : L2.St} {k i j : Nat} {its : List It} {o : O1} (e : EnvOk c m G H σ ρ) (hk : ρ[k]? = some (.el i j)) (hi : ρ[i]? = some (.own (.nest its))) (hj : its[j]? = some (.o o)) : ∃ q, σ[k]? = some (some (.ref q)) ∧ Ob1 c.K G H q o := by
  obtain ⟨its', p, vs, q, o1, h1, h2, h3, h4, h5, h6⟩ := e.els k i j hk
  rw [hi] at h1
  cases h1
  obtain ⟨p', hp', f, vs', e', r, nd⟩ := e.own hi
  rw [h2] at hp'
  cases hp'
  rw [h3] at e'
  cases e'
  obtain ⟨w, hw, q', rfl, fq, ob⟩ := r.getD hj
  rw [h4] at hw
  cases hw
  exact ⟨q, h6, ob⟩
end
end DL
set_option Elab.async false
set_option linter.all false
set_option maxRecDepth 100000
set_option maxHeartbeats 1000000
namespace DL
open PySem PySem.Spec PyProof.Rows L2 Evl
variable {ι : Type} {m m' m1 m2 : ι}
/-! ### a def that is called by its name -/
structure Cl (P : Program) (w : World) (K : PySem.W.Frag) (mg : Str → Option Value) (base : Heap) (CX : CXT) (k : Nat) (x : Str) (ps : List Str) (C : Fc) : Prop where
  ex : ∃ (f : Addr) (fd : FuncData), FnOk P w K mg base CX k f fd ps (spF K C) ∧ mg x = some (.ref f) ∧ PySem.W.keepIn K (.ref f) = true ∧ Binds K fd ps []
section
variable {X : Cx} {k j : Nat} {x : Str} {ps : List Str} {C : Fc} {p pos : Pos} {e : Expr} {es : List Expr} {t : TA}
theorem pcl {CX : CXT} {E : XK} (c : Cl X.prog X.w X.K X.mg X.base CX k x ps C) (hr : Room j X.A) (hx : Passes CX X E) (ha : PA X (e :: es) t) (hk : k ≤ j := by decide) (hg : Gl X x := by rfl) (hdb : (x == ("__debug__" : Str)) = false := by decide)
    (he : starEach (e :: es) X.env = (false, eval e X.env) :: starEach es X.env := by rfl) (hpl : (backTo pos (starEach es X.env)).any (·.1) = false := by rfl) :
    PE X (.Call (.Name x p) (e :: es) [] pos) (tCall (spF X.K C) [] E t) := by
  obtain ⟨f, fd, F, hm, kp, hb⟩ := c.ex
  exact pe_call F (hr.mono hk) hg hm kp hb .nil hx ha hdb he hpl
theorem pclS {W : WX} (c : Cl X.prog X.w X.K X.mg X.base (L2.CX X.prog X.w) k x ps C) (hr : Room j X.A) (tk : Takes X W) (ha : PA X (e :: es) t) (hk : k ≤ j := by decide) (hg : Gl X x := by rfl) (hdb : (x == ("__debug__" : Str)) = false := by decide)
    (he : starEach (e :: es) X.env = (false, eval e X.env) :: starEach es X.env := by rfl) (hpl : (backTo pos (starEach es X.env)).any (·.1) = false := by rfl) :
    PE X (.Call (.Name x p) (e :: es) [] pos) (tCallS (spF X.K C) (WE W) t) := by
  obtain ⟨f, fd, F, hm, kp, hb⟩ := c.ex
  exact pe_callS F (hr.mono hk) hg hm kp hb (fun σ => passAt tk σ) ha hdb he hpl
end
/-! ### built-ins, wider -/
section
variable {X : Cx}
def rLenA (K : PySem.W.Frag) : List V → Hp → VK → Prop := fun xs H Q => (∃ p ys, xs = [V.ref p] ∧ (SqL K H p ys ∨ SqT K H p ys) ∧ Q (.int ys.length) H) ∨ ∃ (a : Addr) (kvs : List (Key × V)), xs = [V.ref a] ∧ Rd H a (.dK kvs) ∧ Q (.int kvs.length) H
theorem call_lenA : CallR X (.builtin "len") (rLenA X.K) := call_len_seq.or fun pins s σ H xs us Q I r h => by
  obtain ⟨a, kvs, rfl, ha, q⟩ := h
  obtain ⟨u, rfl, ru⟩ := vals1 r
  cases ru
  exact d_len I ha fun t s' I' => ⟨.int kvs.length, H, I', ⟨t, rfl⟩, q⟩
def rSumA (K : PySem.W.Frag) : List V → Hp → VK → Prop := fun vs H Q => ∃ (a : Addr) (ns : List Int), vs = [V.ref a] ∧ (SqL K H a (ns.map V.int) ∨ SqT K H a (ns.map V.int)) ∧ Q (.int ns.sum) H
theorem call_sumA (hc : X.calm = true) : CallR X (.builtin "sum") (rSumA X.K) := fun pins s σ H vs us Q I r h => by
  obtain ⟨a, ns, rfl, hs, q⟩ := h
  rcases hs with hs | hs
  · exact cr_sum hc pins s σ H _ us Q I r ⟨a, ns, rfl, hs, q⟩
  · obtain ⟨its, rv, hl, _⟩ := I.tuple hs
    rw [Vals.ref1 r]
    have hi := rv.ints
    obtain ⟨xs, ex⟩ := hi.allInts.items
    have hn : numsOf (intItems xs).toList = ns := by rw [← ex]; exact hi.numsOf
    rw [nums_intItems] at hn
    have hl2 : s.heap.IsTuple a (intItems xs) := by rw [← ex]; exact hl
    refine PySem.W.ktm_sumG (I.ok.hd hc) hl2 fun h' tk t' hk => ?_
    rw [preSum_eq, List.take_of_length_le (by simp), hn]
    exact ⟨.int ns.sum, H, I.kept hk, ⟨_, rfl⟩, q⟩
end
/-! ### their readings over data -/
section
variable {K : PySem.W.Frag} {W : Wd ι} {Φ : ι → S → Prop} {H0 G H : Hp} {v : V} {s : S}
theorem RelS.dicV {ds : List (Key × D)} (ok : Ok W m G H) (r : RelS K W H0 G H v s) (h : s.dct? = some (.K ds)) : ∃ a kvs, v = .ref a ∧ Rd H a (.dK kvs) ∧ kvs.map (·.1) = ds.map (·.1) ∧ RpL K G (kvs.map (·.2)) (ds.map (·.2)) := by
  obtain ⟨a, rfl, kvs, b, c, d⟩ := r.dct ok h
  exact ⟨a, kvs, rfl, b, c, d⟩
theorem relss1 {vs : List V} {s : S} (r : RelSs K W H0 G H vs [s]) : ∃ v, vs = [v] ∧ RelS K W H0 G H v s := by
  cases r with
  | cons a b => cases b; exact ⟨_, rfl, a⟩
theorem relss2 {vs : List V} {s s2 : S} (r : RelSs K W H0 G H vs [s, s2]) : ∃ v v2, vs = [v, v2] ∧ RelS K W H0 G H v s ∧ RelS K W H0 G H v2 s2 := by
  cases r with
  | cons a b =>
    cases b with
    | cons b d => cases d; exact ⟨_, _, rfl, a, b⟩
theorem cb_lenL {s : S} {ds : List D} (h1 : s.lst? = some ds) (h : Φ m (.dat (.int ds.length))) : CbS K W m (rLenA K) [s] Φ := fun H0 G H vs ok rr Q q => by
  obtain ⟨v, rfl, r⟩ := relss1 rr
  obtain ⟨p, xs, rfl, a, b⟩ := r.lstV ok h1
  exact .inl ⟨p, xs, rfl, .inl a, by rw [b.length]; exact q _ (.dat (.int _)) m G H ok.refl (Rp.int _) h⟩
theorem cb_lenT {s : S} {ds : List D} (h1 : s.tup? = some ds) (h : Φ m (.dat (.int ds.length))) : CbS K W m (rLenA K) [s] Φ := fun H0 G H vs ok rr Q q => by
  obtain ⟨v, rfl, r⟩ := relss1 rr
  obtain ⟨p, xs, rfl, a, b⟩ := r.tupV ok h1
  exact .inl ⟨p, xs, rfl, .inr a, by rw [b.length]; exact q _ (.dat (.int _)) m G H ok.refl (Rp.int _) h⟩
theorem cb_lenK {s : S} {ds : List (Key × D)} (h1 : s.dct? = some (.K ds)) (h : Φ m (.dat (.int ds.length))) : CbS K W m (rLenA K) [s] Φ := fun H0 G H vs ok rr Q q => by
  obtain ⟨v, rfl, r⟩ := relss1 rr
  obtain ⟨p, kvs, rfl, a, k, b⟩ := r.dicV ok h1
  have e : kvs.length = ds.length := by
    have := congrArg List.length k
    rwa [List.length_map, List.length_map] at this
  exact .inr ⟨p, kvs, rfl, a, by rw [e]; exact q _ (.dat (.int _)) m G H ok.refl (Rp.int _) h⟩
theorem cb_sum {s : S} {ns : List Int} (h1 : s.lst? = some (ns.map D.int) ∨ s.tup? = some (ns.map D.int)) (h : Φ m (.dat (.int ns.sum))) : CbS K W m (rSumA K) [s] Φ := fun H0 G H vs ok rr Q q => by
  obtain ⟨v, rfl, r⟩ := relss1 rr
  rcases h1 with h1 | h1
  · obtain ⟨p, xs, rfl, a, b⟩ := r.lstV ok h1
    exact ⟨p, ns, rfl, .inl (by rw [← b.ints]; exact a), q _ (.dat (.int _)) m G H ok.refl (Rp.int _) h⟩
  · obtain ⟨p, xs, rfl, a, b⟩ := r.tupV ok h1
    exact ⟨p, ns, rfl, .inr (by rw [← b.ints]; exact a), q _ (.dat (.int _)) m G H ok.refl (Rp.int _) h⟩
theorem cb_all {s : S} {bs : List Bool} (h1 : s.lst? = some (bs.map D.bl)) (h : Φ m (.dat (.bl (bs.all id)))) : CbS K W m (rAll K) [s] Φ := fun H0 G H vs ok rr Q q => by
  obtain ⟨v, rfl, r⟩ := relss1 rr
  obtain ⟨p, xs, rfl, a, b⟩ := r.lstV ok h1
  exact ⟨p, bs, rfl, by rw [← b.bools]; exact a, q _ (.dat (.bl _)) m G H ok.refl (Rp.bl _) h⟩
theorem cb_max2 {i j : Int} (h : Φ m (.dat (.int (max i j)))) : CbS K W m (fun xs H Q => ∃ i j, xs = [V.int i, V.int j] ∧ Q (.int (if j > i then j else i)) H) [.dat (.int i), .dat (.int j)] Φ := fun H0 G H vs ok rr Q q => by
  obtain ⟨v, v2, rfl, r, r2⟩ := relss2 rr
  cases r; cases r2
  have e : (if j > i then j else i) = max i j := by rw [Int.max_def]; split <;> split <;> omega
  exact ⟨i, j, rfl, by rw [e]; exact q _ (.dat (.int _)) m G H ok.refl (Rp.int _) h⟩
theorem cb_min2 {i j : Int} (h : Φ m (.dat (.int (min i j)))) : CbS K W m (fun xs H Q => ∃ i j, xs = [V.int i, V.int j] ∧ Q (.int (if j < i then j else i)) H) [.dat (.int i), .dat (.int j)] Φ := fun H0 G H vs ok rr Q q => by
  obtain ⟨v, v2, rfl, r, r2⟩ := relss2 rr
  cases r; cases r2
  have e : (if j < i then j else i) = min i j := by rw [Int.min_def]; split <;> split <;> omega
  exact ⟨i, j, rfl, by rw [e]; exact q _ (.dat (.int _)) m G H ok.refl (Rp.int _) h⟩
theorem cb_int {i : Int} (h : Φ m (.dat (.int i))) : CbS K W m (fun xs H Q => (∃ i, xs = [V.int i] ∧ Q (.int i) H) ∨ ∃ k, xs = [V.bl k] ∧ Q (.int (if k then 1 else 0)) H) [.dat (.int i)] Φ := fun H0 G H vs ok rr Q q => by
  obtain ⟨v, rfl, r⟩ := relss1 rr
  cases r
  exact .inl ⟨i, rfl, q _ (.dat (.int _)) m G H ok.refl (Rp.int _) h⟩
theorem cb_list {s : S} {ds : List D} (h1 : s.lst? = some ds ∨ s.tup? = some ds) (h : Φ m (.own (.lst ds))) : CbS K W m (fun xs H Q => ∃ p ys, xs = [V.ref p] ∧ (SqL K H p ys ∨ SqT K H p ys) ∧ ∀ l, H l = none → Q (.ref l) (upd H l (.lst ys))) [s] Φ := fun H0 G H vs ok rr Q q => by
  obtain ⟨v, rfl, r⟩ := relss1 rr
  rcases h1 with h1 | h1
  · obtain ⟨p, xs, rfl, a, b⟩ := r.lstV ok h1
    exact ⟨p, xs, rfl, .inl a, new_lst (H0 := H0) ok b h q⟩
  · obtain ⟨p, xs, rfl, a, b⟩ := r.tupV ok h1
    exact ⟨p, xs, rfl, .inr a, new_lst (H0 := H0) ok b h q⟩
theorem cb_tuple {s : S} {ds : List D} (h1 : s.lst? = some ds ∨ s = .dat (.tup ds)) (h : Φ m (.dat (.tup ds))) : CbS K W m (fun xs H Q => ∃ p ys, xs = [V.ref p] ∧ ((SqL K H p ys ∧ ∀ l, H l = none → Q (.ref l) (upd H l (.tup ys))) ∨ (SqT K H p ys ∧ Q (.ref p) H))) [s] Φ := fun H0 G H vs ok rr Q q => by
  obtain ⟨v, rfl, r⟩ := relss1 rr
  rcases h1 with h1 | h1
  · obtain ⟨p, xs, rfl, a, b⟩ := r.lstV ok h1
    exact ⟨p, xs, rfl, .inl ⟨a, new_tup (H0 := H0) ok b h q⟩⟩
  · subst h1
    obtain ⟨p, xs, rfl, a, b⟩ := r.tupV ok rfl
    exact ⟨p, xs, rfl, .inr ⟨a, q _ (.dat (.tup ds)) m G H ok.refl r h⟩⟩
/-- a value's type -/
def D.ty : D → String
  | .non => "NoneType" | .bl _ => "bool" | .int _ => "int" | .str _ => "str" | .lst _ => "list" | .tup _ => "tuple" | .dic _ => "dict" | .dit _ => "dict" | .scr _ => "list" | .ins _ _ => "object"
/-- isinstance(x, T), x a locked dict with tuple keys among others -/
def rIsiW (K : PySem.W.Frag) : List V → Hp → VK → Prop := fun xs H Q => rIsi K xs H Q ∨ ∃ (a : Addr) (o : Obj) (kvs : List (List Key × V)) (T : String) (b : Bool), xs = [.ref a, .ty T] ∧ H a = some (.frz o (.dT kvs)) ∧ kitB "dict" T = some b ∧ Q (.bl b) H
/-- no dict with tuple keys that is locked, no instance -/
def D.ty? : D → Bool
  | .ins _ _ => false | _ => true
theorem Rp.tyx {d : D} (ok : Ok W m G H) (hL : ∀ ds, d = .dit ds → ∀ a, ¬ W.L a) (r : Rp K G v d) (hd : d.ty? = true) : TyX K H v (.type d.ty) := by
  cases r with
  | non => exact .base .non
  | bl b => exact .base (.bl b)
  | int i => exact .base (.int i)
  | str x => exact .base (.str x)
  | lst a b => exact .base (.lst (ok.ex _ _ a))
  | tup a b => exact .base (.tup (ok.ex _ _ a))
  | dic a k b =>
    rcases ex_rd ok.ex a with a | ⟨o, a⟩
    · exact .base (.dK a)
    · exact .fDict a
  | dit a k b =>
    rcases a with a | ⟨o, a⟩
    · exact .base (.dT (ok.ex _ _ a))
    · exact absurd (ok.lk _ o _ a fun xs z => by cases z) (hL _ rfl _)
  | scr a =>
    rcases ex_l ok.ex a with a | ⟨o, its, n, a, b, _⟩
    · rcases a with a | ⟨o, a⟩
      · exact .base (.lst a)
      · exact .base (.frz a)
    · exact .kList a b
  | ins a b c e => cases hd
end
section
variable {c : Cc ι} {ρ : List S} {Φ : ι → S → Prop} {te : TE}
/-- isinstance(e, T) -/
theorem de_isi {T : String} (h : De c m te ρ fun m s => ∃ d b, s = .dat d ∧ d.ty? = true ∧ (∀ ds, d = .dit ds → ∀ a, ¬ c.W.L a) ∧ kitB d.ty T = some b ∧ Φ m (.dat (.bl b))) : De c m (tCB (rIsiW c.K) (tCons te (tCons (tC (.ty T)) tNil))) ρ Φ := fun σ G H e Q q =>
  h σ G H e _ fun v s m1 G1 H1 g1 r1 ⟨d, b, es, hd, hL, hb, p⟩ => by
    subst es
    exact .inl ⟨v, .ty T, _, _, b, rfl, .ty T, Rp.tyx (e.grow g1).ok hL r1 hd, kit_ty hb, q _ (.dat (.bl b)) m1 G1 H1 g1 (Rp.bl b) p⟩
end
end DL
set_option Elab.async false
set_option linter.all false
set_option maxRecDepth 100000
set_option maxHeartbeats 1000000
namespace DL
open PySem PySem.Spec PyProof.Rows L2 Evl
variable {ι : Type} {m m' m1 m2 : ι}
/-! ### own exceptions with fields -/
/-- __init__(self, f1, ..): self.f1 = f1; .. -/
def spX (C : Addr) : List Str → Sp := fun fs vs H Q _ => ∃ (a : Addr) (ws : List V), vs = .ref a :: ws ∧ ws.length = fs.length ∧ H a = some (exo a C none) ∧ ∀ dx, H dx = none → dx ≠ a → Q .non (upd (upd H dx (exd dx (fs.zip ws).reverse)) a (exo a C (some dx)))
structure Xc (P : Program) (w : World) (K : PySem.W.Frag) (mg : Str → Option Value) (base : Heap) (x : Str) (C : Addr) (fs : List Str) : Prop where
  oex : OexC K C
  xf : XfC K C
  gC : mg x = some (.ref C)
  te : PySem.W.exmOne K (.ref C) (.ref C) = some true
  ini : ∃ (fI : Addr) (fd : FuncData), PySem.W.findIn K (.ref C) "__init__" = some (some (.ref fI)) ∧ PySem.W.typeIn K (.ref fI) = some (.type "function") ∧ FnOk P w K mg base CX0 1 fI fd ("self" :: fs) (spX C fs) ∧ Binds K fd ("self" :: fs) []
  noat : ∀ f ∈ fs, PySem.W.findIn K (.ref C) f = some none
section
variable {X : Cx} {x : Str} {C : Addr} {fs : List Str} {j : Nat} {E : XK} {e : Expr} {es : List Expr} {p pos pos2 : Pos} {ta : TA}
def tRz (C : Addr) (fs : List Str) (E : XK) (ta : TA) : TS := fun _ σ H => tMkO C (spX C fs) [] ta σ H fun cls d H' => (fun (cls : Value) (d : Option Addr) (_ : L2.St) (H : Hp) => E cls d H) cls d σ H'
theorem raiseX (T : Xc X.prog X.w X.K X.mg X.base x C fs) (hr : Room j X.A) (tk : Takes X (fun cls d _ H => E cls d H)) (ha : PA X (e :: es) ta) (hj : 2 ≤ j := by decide) (hc : X.calm = true := by rfl) (hg : Gl X x := by rfl)
    (hdb : (x == ("__debug__" : Str)) = false := by decide) (he : starEach (e :: es) X.env = (false, eval e X.env) :: starEach es X.env := by rfl) (hpl : (backTo pos (starEach es X.env)).any (·.1) = false := by rfl) :
    PS X (.Raise (some (.Call (.Name x p) (e :: es) [] pos)) none pos2) (tRz C fs E ta) := by
  obtain ⟨fI, fd, h1, h2, h3, h4⟩ := T.ini
  exact ps_raise hc tk (pmk_oex T.oex h1 h2 h3 (hr.mono hj) h4 .nil pass0 hg T.gC ha hdb he hpl)
end
theorem upd_del {H : Hp} {a d : Addr} {o o1 o2 o3 : HO} (ha : H a = none) (ne : d ≠ a) : upd (del (upd (upd (upd H a o1) d o2) a o3) a) d o = upd H d o := by
  funext b
  by_cases h1 : b = d
  · rw [h1, upd_same, upd_same]
  · rw [upd_ne h1, upd_ne h1]
    by_cases h2 : b = a
    · rw [h2, del_same, ha]
    · rw [del_ne h2, upd_ne h2, upd_ne h1, upd_ne h2]
theorem zip_keys {α : Type} : ∀ {fs : List Str} {ws : List α}, ws.length = fs.length → (fs.zip ws).map (·.1) = fs ∧ (fs.zip ws).map (·.2) = ws
  | [], [], _ => ⟨rfl, rfl⟩
  | [], _ :: _, h => by simp at h
  | _ :: _, [], h => by simp at h
  | f :: fs, w :: ws, h => by
    obtain ⟨a, b⟩ := zip_keys (fs := fs) (ws := ws) (by simpa using h)
    simp [a, b]
section
variable {c : Cc ι} {ρ : List S} {ta : TA} {N B C' : ι → List S → Prop} {R : ι → S → Prop} {C : Addr} {fs : List Str}
theorem ds_raise (h : DA c m ta ρ fun m ss => ∃ ds : List D, ss = ds.map S.dat ∧ ds.length = fs.length ∧ ds.length ≤ 1000 ∧ c.Ξ m C (fs.zip ds).reverse) : Ds c m (tRz C fs c.E ta) ρ N R B C' := fun D σ G H e _ _ _ _ => h σ G H e _ fun vs ss m1 G1 H1 g1 r1 ⟨ds, es, hl, hk, hx⟩ => by
  subst es
  have r2 := relss_dat r1
  have e1 := e.grow g1
  refine ⟨by rw [r2.length]; exact hk, fun a ha => ⟨a, vs, by rw [List.append_nil], by rw [r2.length]; exact hl, upd_same, fun dx hdx ne => ?_⟩⟩
  have hd1 : H1 dx = none := by
    rw [upd_ne ne] at hdx
    exact hdx
  refine ⟨rfl, dx, _, upd_same, by rw [upd_ne ne]; exact upd_same, hd1, ?_⟩
  rw [upd_del ha ne]
  have hlen : vs.length = fs.length := by rw [r2.length]; exact hl
  obtain ⟨k1, k2⟩ := zip_keys hlen
  obtain ⟨k3, k4⟩ := zip_keys hl
  refine e1.excq C dx _ (fs.zip ds).reverse m1 G1 _ (Grow.new e1.ok hd1) (fresh_back e1.ok.ex hd1) (fun m => c.W.ne e1.ok.inv m hd1) upd_same ?_ ?_ hx
  · rw [List.map_reverse, List.map_reverse, k1, k3]
  · rw [List.map_reverse, List.map_reverse, k2, k4]
    exact r2.reverse
/-- e.f in the suite -/
theorem de_xf {i : Nat} {a C d : Addr} {fs : List (Str × D)} {f : Str} {v : D} {Φ : ι → S → Prop} (hi : ρ[i]? = some (.xc C a d fs)) (hv : fs.lookup f = some v) (h : Φ m (.dat v)) : De c m (tXf a (.ref C) (some d) C f (tVar i)) ρ Φ := fun σ G H e Q q => by
  rcases e.at_ i _ hi with z | ⟨w, aw, ew, n, nm, fv, hd, hk, hr⟩
  · cases z
  · subst ew
    have key : ∀ {fv : List (Str × V)} {fs : List (Str × D)}, fv.map (·.1) = fs.map (·.1) → RpL c.K G (fv.map (·.2)) (fs.map (·.2)) → fs.lookup f = some v → ∃ w, fv.lookup f = some w ∧ Rp c.K G w v := by
      intro fv
      induction fv with
      | nil =>
        intro fs h1 h2 h3
        cases fs with
        | nil => cases h3
        | cons _ _ => cases h1
      | cons p fv ih =>
        intro fs h1 h2 h3
        cases fs with
        | nil => cases h1
        | cons q fs =>
          rw [List.map_cons, List.map_cons] at h1 h2
          obtain ⟨h4, h5⟩ := List.cons.inj h1
          obtain ⟨f1, v1⟩ := p
          obtain ⟨f2, v2⟩ := q
          have h4 : f1 = f2 := h4
          subst h4
          cases h2 with
          | cons r1 r2 =>
            by_cases z : f = f1
            · subst z
              have e1 : List.lookup f ((f, v2) :: fs) = some v2 := by simp [List.lookup]
              rw [e1] at h3
              cases h3
              exact ⟨v1, by simp [List.lookup], r1⟩
            · have zb : (f == f1) = false := by simpa using z
              have e1 : List.lookup f ((f1, v2) :: fs) = List.lookup f fs := by simp [List.lookup, zb]
              rw [e1] at h3
              obtain ⟨w, hw, rw'⟩ := ih h5 r2 h3
              exact ⟨w, by simp [List.lookup, zb]; exact hw, rw'⟩
    obtain ⟨w, hw, rw'⟩ := key hk hr hv
    exact ⟨_, aw, rfl, rfl, d, fv, w, rfl, hd, hw, q w (.dat v) m G H e.refl rw' h⟩
end
/-! ### list or tuple -/
section
variable {X : Cx} {tg l : Expr} {tl : TE}
def iSeq (K : PySem.W.Frag) (tl : TE) : TI := fun σ H R => tl σ H fun x H1 => ∃ a, x = .ref a ∧ ((∃ xs, SqL K H1 a xs ∧ R (Itl K a) H1) ∨ ∃ xs, SqT K H1 a xs ∧ R (Itt K a) H1)
theorem pi_seq (hl : PE X l tl) : PI X tg l (iSeq X.K tl) := ⟨fun pins s σ H R I h => by
  have key := hl.run pins s σ H _ I h
  refine thn key fun v s1 ⟨x, H1, I1, r1, a, ex, hh⟩ => ?_
  subst ex
  obtain rfl : v = Value.ref a := r1
  rcases hh with ⟨xs, hx, hR⟩ | ⟨xs, hx, hR⟩
  · obtain ⟨its, rv, pl, _⟩ := I1.list hx
    exact wpAny_pyIter_list pl.isList (pi_one I1 _ (turn_list a s1.heap.objs.size) ⟨_, Heap.get?_push_size _ rfl, rfl, rfl⟩ hR)
  · obtain ⟨its, rv, pl, _⟩ := I1.tuple hx
    exact wpAny_pyIter_tuple (show s1.heap.IsTuple a its.toArray from pl) (pi_one I1 _ (turn_tuple a s1.heap.objs.size) ⟨_, Heap.get?_push_size _ rfl, rfl, rfl⟩ hR)⟩
end
section
variable {c : Cc ι} {ρ : List S} {te : TE} {Φ : ι → List D → Prop}
def S.seq? : S → Option (List D)
  | .dat (.lst ds) => some ds
  | .dat (.tup ds) => some ds
  | .dat (.scr ns) => some (ns.map .int)
  | _ => none
theorem di_seq (h : De c m te ρ fun m s => ∃ ds, s.frz.seq? = some ds ∧ Φ m ds) : DI c m (iSeq c.K te) ρ Φ := fun σ G H e R q => h σ G H e _ fun v s m1 G1 H1 g1 r1 ⟨ds, hs, p⟩ => by
  obtain ⟨G2, g2, r2⟩ := r1.freeze g1
  cases hz : s.frz with
  | dat d =>
    rw [hz] at hs r2
    cases d <;> first | cases hs | skip
    · obtain ⟨a, xs, rfl, hx, rx⟩ := r2.dlst (ds := ds) rfl
      exact ⟨a, rfl, .inl ⟨xs, ex_l g2.sub hx, q _ ds m1 G2 H1 g2 (itd_list' hx rx) p⟩⟩
    · have r2 : Rp c.K G2 v (.tup ds) := r2
      cases r2 with
      | tup hx rx => exact ⟨_, rfl, .inr ⟨_, SqT.of (g2.sub _ _ hx), q _ ds m1 G2 H1 g2 (itd_tup (SqT.of hx) rx) p⟩⟩
    · obtain ⟨a, xs, rfl, hx, rx⟩ := r2.dlst (ds := _) rfl
      exact ⟨a, rfl, .inl ⟨xs, ex_l g2.sub hx, q _ _ m1 G2 H1 g2 (itd_list' hx rx) p⟩⟩
  | no => rw [hz] at hs; cases hs
  | own o => rw [hz] at hs; cases hs
  | vw o => rw [hz] at hs; cases hs
  | at_ a => rw [hz] at hs; cases hs
  | xc _ _ _ _ => rw [hz] at hs; cases hs
  | el _ _ => rw [hz] at hs; cases hs
  | lk _ => rw [hz] at hs; cases hs
end
end DL
set_option Elab.async false
set_option linter.all false
set_option maxRecDepth 100000
set_option maxHeartbeats 1000000
namespace DL
open PySem PySem.Spec PyProof.Rows L2 Evl
variable {ι : Type} {m m' m1 m2 : ι}
/-! ### zip of two lists or tuples, in any mixture -/
inductive SK | l | t
def SqK (K : PySem.W.Frag) (H : Hp) : SK → Addr → List V → Prop
  | .l => SqL K H
  | .t => SqT K H
def IterK (h : Heap) : SK → Addr → Addr → Nat → Prop
  | .l => h.IsListIter
  | .t => h.IsTupleIter
def SeqK (h : Heap) : SK → Addr → Array Value → Prop
  | .l => h.IsList
  | .t => h.IsTuple
def objK : SK → Addr → Obj
  | .l, a => { cls := .type "list_iterator", data := .fields #[.ref a, .int 0 0] }
  | .t, a => { cls := .type "tuple_iterator", data := .fields #[.ref a, .int 0 0] }
theorem drawsK {prog : Program} {w : World} {A : Around} (k : SK) (hh : A.handled = none) (it l : Addr) (hne : l ≠ it) (items : Array Value) :
    Draws prog w A it [it, l] items.size (fun i v => items[i]? = some v) (fun i h => IterK h k it l i ∧ SeqK h k l items) := by
  cases k with
  | l => exact Draws.list hh it l hne items
  | t => exact Draws.tuple hh it l hne items
theorem beginsK (k : SK) (l : Addr) (items : Array Value) : Begins (.ref l) (objK k l) fun h => SeqK h k l items := by
  cases k with
  | l => exact begins_list l items
  | t => exact begins_tuple l items
theorem seqK_at {k : SK} {X : Cx} {pins : List (Addr × Obj)} {σ : L2.St} {H : Hp} {s : Shared} {a : Addr} {xs : List V} (I : Inv X pins σ H s) (h : SqK X.K H k a xs) : ∃ its : List Value, Vals xs its ∧ SeqK s.heap k a its.toArray := by
  cases k with
  | l => obtain ⟨its, r, p, _⟩ := I.list h; exact ⟨its, r, p.isList⟩
  | t => obtain ⟨its, r, p, _⟩ := I.tuple h; exact ⟨its, r, p⟩
theorem seqK_inj {k : SK} {X : Cx} {pins : List (Addr × Obj)} {σ : L2.St} {H : Hp} {s : Shared} {a : Addr} {xs ys : List V} (I : Inv X pins σ H s) (h : SqK X.K H k a xs) (h' : SqK X.K H k a ys) : xs = ys := by
  cases k with
  | l => exact I.list_inj h h'
  | t => exact I.tuple_inj h h'
theorem iterK_obj {h : Heap} {k : SK} {it l : Addr} {i : Nat} (q : IterK h k it l i) : ∃ o, h.get? it = some o ∧ ∀ v, o.data ≠ .cell v := by
  cases k with
  | l => obtain ⟨o, e, _, d⟩ := q; exact ⟨o, e, fun v z => by rw [d] at z; cases z⟩
  | t => obtain ⟨o, e, _, d⟩ := q; exact ⟨o, e, fun v z => by rw [d] at z; cases z⟩
theorem iterK_keep {h h' : Heap} {k : SK} {it l : Addr} {i : Nat} (q : IterK h k it l i) (kp : ∀ o, h.get? it = some o → h'.get? it = some o) : IterK h' k it l i := by
  cases k with
  | l => exact q.at kp
  | t => exact q.at kp
def ItS (K : PySem.W.Frag) (k1 k2 : SK) (a b : Addr) : L2.It :=
  ⟨fun i H => ∃ (xs ys : List V) (x y : V), SqK K H k1 a xs ∧ SqK K H k2 b ys ∧ xs[i]? = some x ∧ ys[i]? = some y,
   fun i H v H' => ∃ T x y, v = .ref T ∧ H T = none ∧ H' = upd H T (.tup [x, y]) ∧ (∀ xs, SqK K H k1 a xs → xs[i]? = some x) ∧ ∀ ys, SqK K H k2 b ys → ys[i]? = some y,
   fun i H => ∃ xs ys : List V, SqK K H k1 a xs ∧ SqK K H k2 b ys ∧ i = min xs.length ys.length⟩
abbrev ZipSt (z TI TO i1 i2 a b : Addr) (k1 k2 : SK) (i : Nat) (h : Heap) : Prop := IsZip h z TI TO .none ∧ IsTupOf2 h TI (.ref i1) (.ref i2) ∧ (∃ a1 a2, IsTupOf2 h TO a1 a2) ∧ IterK h k1 i1 a i ∧ IterK h k2 i2 b i
theorem turn_zipS {P : Program} {w : World} {K : PySem.W.Frag} {elts : List Expr} {kk : Nat} {tpos : Pos} {k1 k2 : SK} {a b z TI TO i1 i2 : Addr} (S : ZipSep2 z TI TO i1 i2 [i1, a] [i2, b]) (ha : a ≠ i1) (hb : b ≠ i2) :
    Turn P w K (.Tuple elts kk tpos) (ItS K k1 k2 a b) [z, TI, TO, i1, i2] z (ZipSt z TI TO i1 i2 a b k1 k2) where
  mem := by simp
  obj := fun i h st c hc => by
    obtain ⟨hz, hTI, ⟨x, y, hTO⟩, h1, h2⟩ := st
    simp only [List.mem_cons, List.not_mem_nil, or_false] at hc
    rcases hc with rfl | rfl | rfl | rfl | rfl
    · exact ⟨_, hz, fun v q => nomatch q⟩
    · exact ⟨_, hTI, fun v q => nomatch q⟩
    · exact ⟨_, hTO, fun v q => nomatch q⟩
    · exact iterK_obj h1
    · exact iterK_obj h2
  keep := fun i h h' st k => by
    obtain ⟨hz, hTI, ⟨x, y, hTO⟩, h1, h2⟩ := st
    exact ⟨k z (by simp) _ hz, k TI (by simp) _ hTI, ⟨x, y, k TO (by simp) _ hTO⟩, iterK_keep h1 fun o q => k i1 (by simp) o q, iterK_keep h2 fun o q => k i2 (by simp) o q⟩
  item := by
    intro X hP hw hK hc i pins s σ H E I hf st hg
    subst hP hw hK
    obtain ⟨xs, ys, x, y, hqx, hqy, hx, hy⟩ := hg
    obtain ⟨its, rv, p1⟩ := seqK_at I hqx
    obtain ⟨its2, rv2, p2⟩ := seqK_at I hqy
    obtain ⟨u, hu, ru⟩ := rv.get hx
    obtain ⟨u2, hu2, ru2⟩ := rv2.get hy
    have hh : X.A.in1.handled = none := I.ok.hd hc
    have W := GoesN.zip2 (prog := X.prog) (w := X.w) (A := X.A) (elts := elts) (x1 := kk) (pos := tpos) S (drawsK k1 hh i1 a ha its.toArray) (drawsK k2 hh i2 b hb its2.toArray)
    obtain ⟨hz, hTI, hTO, h1, h2⟩ := st
    have hi : i < min its.toArray.size its2.toArray.size := by
      have q1 := (List.getElem?_eq_some_iff.mp hu).1
      have q2 := (List.getElem?_eq_some_iff.mp hu2).1
      simp only [List.size_toArray]
      omega
    refine W.goes i s (fun v s2 => ∃ x H', Inv X pins σ H' s2 ∧ RelV x v ∧ (ItS X.K k1 k2 a b).yld i H x H' ∧ ZipSt z TI TO i1 i2 a b k1 k2 (i + 1) s2.heap ∧ ∀ c ∈ [z, TI, TO, i1, i2], H' c = none) E hi ⟨hz, hTI, hTO, ⟨h1, p1⟩, ⟨h2, p2⟩⟩ fun v h' tk hY st' hk htk => ?_
    obtain ⟨T, x', y', rfl, hT, hx', hy', tup⟩ := hY
    have ex : x' = u := by
      have hx' : its.toArray[i]? = some x' := hx'
      rw [show its.toArray[i]? = its[i]? by simp, hu] at hx'
      exact (Option.some.inj hx').symm
    have ey : y' = u2 := by
      have hy' : its2.toArray[i]? = some y' := hy'
      rw [show its2.toArray[i]? = its2[i]? by simp, hu2] at hy'
      exact (Option.some.inj hy').symm
    subst ex ey
    obtain ⟨hz', hTI', hTO', ⟨h1', _⟩, ⟨h2', _⟩⟩ := st'
    have new : ObjOk X.prog X.w (upd H T (.tup [x, y])) h' T (.tup [x, y]) := by
      obtain ⟨o, ho, hcl, n, hd⟩ := tup
      exact ⟨by show 2 ≤ sizeLine; decide, [x', y'], .cons ru (.cons ru2 .nil), ⟨o, ho, hcl, n, hd⟩⟩
    have I1 : Inv X pins σ (upd H T (.tup [x, y])) { s with heap := h', toks := tk } := I.turnedNew (t' := tk) (ch := [z, TI, TO, i1, i2]) (fun c o hb' q => hk c o (fun z' => hb' (by simp at z' ⊢; rcases z' with z' | z' | z' | z' <;> simp [z'])) q) hf hT new
    refine ⟨.ref T, _, I1, rfl, ⟨T, x, y, rfl, I.hok.fresh hT, rfl, fun l hl => by rw [seqK_inj I hl hqx]; exact hx, fun l hl => by rw [seqK_inj I hl hqy]; exact hy⟩, ⟨hz', hTI', hTO', h1', h2'⟩, fun c hcm => ?_⟩
    have hlt : c < s.heap.objs.size := by
      simp only [List.mem_cons, List.not_mem_nil, or_false] at hcm
      rcases hcm with rfl | rfl | rfl | rfl | rfl
      · exact Heap.lt_size hz
      · exact Heap.lt_size hTI
      · obtain ⟨_, _, q⟩ := hTO; exact Heap.lt_size q
      · obtain ⟨_, q, _⟩ := iterK_obj h1; exact Heap.lt_size q
      · obtain ⟨_, q, _⟩ := iterK_obj h2; exact Heap.lt_size q
    rw [upd_ne (Nat.ne_of_lt (Nat.lt_of_lt_of_le hlt hT))]
    exact (hf c hcm).1
  done := by
    intro X hP hw hK hc i pins s σ H E I hf st hg
    subst hP hw hK
    obtain ⟨xs, ys, hqx, hqy, hend⟩ := hg
    obtain ⟨its, rv, p1⟩ := seqK_at I hqx
    obtain ⟨its2, rv2, p2⟩ := seqK_at I hqy
    have hh : X.A.in1.handled = none := I.ok.hd hc
    have W := GoesN.zip2 (prog := X.prog) (w := X.w) (A := X.A) (elts := elts) (x1 := kk) (pos := tpos) S (drawsK k1 hh i1 a ha its.toArray) (drawsK k2 hh i2 b hb its2.toArray)
    obtain ⟨hz, hTI, hTO, h1, h2⟩ := st
    have hi : i = min its.toArray.size its2.toArray.size := by
      rw [List.size_toArray, List.size_toArray, ← rv.length, ← rv2.length]
      exact hend
    rw [hi] at h1 h2
    exact W.stops s (fun s1 => Inv X pins σ H s1) E ⟨hz, hTI, hTO, ⟨h1, p1⟩, ⟨h2, p2⟩⟩ fun h' tk hk htk => I.turnedL (t' := tk) (ch := [z, TI, TO, i1, i2]) (fun c o hb' q => hk c o (fun z' => hb' (by simp at z' ⊢; rcases z' with z' | z' | z' | z' <;> simp [z'])) q) hf
  self := fun A i s Q E st h => wpAny_pyIter_zip st.1 h
def iZipS (K : PySem.W.Frag) (ta : TA) : TI := fun σ H R => ta σ H fun vs H1 => ∃ a b k1 k2 xs ys, vs = [V.ref a, V.ref b] ∧ SqK K H1 k1 a xs ∧ SqK K H1 k2 b ys ∧ R (ItS K k1 k2 a b) H1
theorem iterK_new {h : Heap} {k : SK} {it a : Addr} (q : h.get? it = some (objK k a)) : IterK h k it a 0 := by
  cases k with
  | l => exact ⟨_, q, rfl, rfl⟩
  | t => exact ⟨_, q, rfl, rfl⟩
theorem seqK_lt {h : Heap} {k : SK} {a : Addr} {its : Array Value} (q : SeqK h k a its) : a < h.objs.size := by
  cases k with
  | l => obtain ⟨o, e, _⟩ := q; exact Heap.lt_size e
  | t => obtain ⟨o, e, _⟩ := q; exact Heap.lt_size e
theorem pi_zipS {X : Cx} {e e2 : Expr} {ta : TA} {p pos tpos : Pos} {elts : List Expr} {kk : Nat} (hg : Gl X "zip") (hm : X.mg "zip" = none) (ha : PA X [e, e2] ta)
    (hs : starEach [e, e2] X.env = (false, eval e X.env) :: starEach [e2] X.env := by rfl) (hpl : (backTo pos (starEach [e2] X.env)).any (·.1) = false := by rfl) :
    PI X (.Tuple elts kk tpos) (.Call (.Name "zip" p) [e, e2] [] pos) (iZipS X.K ta) := by
  refine ⟨fun pins s σ H R I h => ?_⟩
  refine Call_ (ld_blt I hg hm PyProof.Rows.boot_zip (PyProof.Rows.callWith_type1 (thn (ha.run pos pins s σ H _ I h) fun us s1 ⟨vs, H1, I1, r1, q1⟩ => ?_) hs hpl))
  obtain ⟨a, b, k1, k2, xs, ys, ex, hqx, hqy, q⟩ := q1
  subst ex
  obtain ⟨u1, u2, rfl, q1, q2⟩ := vals2 r1
  obtain rfl : u1 = Value.ref a := q1
  obtain rfl : u2 = Value.ref b := q2
  obtain ⟨its, rv, p1⟩ := seqK_at I1 hqx
  obtain ⟨its2, rv2, p2⟩ := seqK_at I1 hqy
  have la := seqK_lt p1
  have lb := seqK_lt p2
  refine zip_begins2 (beginsK k1 a its.toArray) (beginsK k2 b its2.toArray) p1 p2 fun h' hz hTI hTO h1 h2 hsz hk => wpAny_pyIter_zip hz ?_
  have I2 : Inv X pins σ H1 { s1 with heap := h' } := I1.kept (t' := s1.toks) hk
  have S := zip_sep2 (N := s1.heap.objs.size) (fp1 := [a]) (fp2 := [b]) (fun c hc => by simp at hc; subst hc; exact la) (fun c hc => by simp at hc; subst hc; exact lb)
  refine ⟨s1.heap.objs.size + 4, [s1.heap.objs.size + 4, s1.heap.objs.size + 2, s1.heap.objs.size + 3, s1.heap.objs.size, s1.heap.objs.size + 1], _, _, H1, rfl, I2, turn_zipS S (Nat.ne_of_lt la) (Nat.ne_of_lt (Nat.lt_succ_of_lt lb)), ⟨hz, hTI, ⟨_, _, hTO⟩, iterK_new h1, iterK_new h2⟩, fun c hcm => ?_, q⟩
  have hle : s1.heap.objs.size ≤ c := by
    simp only [List.mem_cons, List.not_mem_nil, or_false] at hcm
    rcases hcm with rfl | rfl | rfl | rfl | rfl
    all_goals first | exact Nat.le_add_right _ _ | exact Nat.le_refl _
  exact I1.fpOk hle (I1.hok.fresh hle)
/-! over data -/
def zipD (ds es : List D) : List D := (ds.zip es).map fun p => .tup [p.1, p.2]
section
variable {c : Cc ι} {ρ : List S} {tr : TA} {Φ : ι → List D → Prop}
theorem RelS.seqG {K : PySem.W.Frag} {W : Wd ι} {H0 G H : Hp} {v : V} {s : S} {ds : List D} (r : RelS K W H0 G H v s) (h : s.seq? = some ds) : ∃ p k xs, v = .ref p ∧ SqK K G k p xs ∧ RpL K G xs ds := by
  cases s with
  | dat d =>
    cases d <;> first | cases h | skip
    · have r : Rp K G v _ := r
      cases r with
      | lst a b => exact ⟨_, .l, _, rfl, SqL.of a, b⟩
    · have r : Rp K G v _ := r
      cases r with
      | tup a b => exact ⟨_, .t, _, rfl, SqT.of a, b⟩
    · have r : Rp K G v _ := r
      cases r with
      | scr a => exact ⟨_, .l, _, rfl, a, RpL.ofInts _⟩
  | no => cases h
  | own o => cases h
  | vw o => cases h
  | at_ a => cases h
  | xc _ _ _ _ => cases h
  | el _ _ => cases h
  | lk _ => cases h
theorem sqK_mono {K : PySem.W.Frag} {G G' : Hp} {k : SK} {a : Addr} {xs : List V} (e : Ex G G') (h : SqK K G k a xs) : SqK K G' k a xs := by
  cases k with
  | l => exact ex_l e h
  | t => exact ex_t e h
theorem zipD_get {ds es : List D} {i : Nat} {d : D} (h : (zipD ds es)[i]? = some d) : ∃ a b, ds[i]? = some a ∧ es[i]? = some b ∧ d = .tup [a, b] := by
  unfold zipD at h
  rw [List.getElem?_map] at h
  cases z : (ds.zip es)[i]? with
  | none => rw [z] at h; cases h
  | some p =>
    rw [z] at h
    cases h
    have := List.getElem?_zip_eq_some.mp z
    exact ⟨p.1, p.2, this.1, this.2, rfl⟩
theorem itd_zip {K : PySem.W.Frag} {W : Wd ι} {G1 : Hp} {k1 k2 : SK} {a b : Addr} {xs ys : List V} {ds es : List D} (h1 : SqK K G1 k1 a xs) (r1 : RpL K G1 xs ds) (h2 : SqK K G1 k2 b ys) (r2 : RpL K G1 ys es) : ItD K W G1 (ItS K k1 k2 a b) (zipD ds es) := fun m G H e ok i => by
  have hx : SqK K H k1 a xs := sqK_mono (e.trans ok.ex) h1
  have hy : SqK K H k2 b ys := sqK_mono (e.trans ok.ex) h2
  refine ⟨fun d hd => ?_, fun hl => ⟨xs, ys, hx, hy, by rw [hl, r1.length, r2.length]; simp [zipD, List.length_zip]⟩⟩
  obtain ⟨d1, d2, e1, e2, rfl⟩ := zipD_get hd
  obtain ⟨v, hv, rv⟩ := r1.getD e1
  obtain ⟨u, hu, ru⟩ := r2.getD e2
  refine ⟨⟨xs, ys, v, u, hx, hy, hv, hu⟩, fun x H' y => ?_⟩
  obtain ⟨T, x', y', rfl, hT, rfl, q1, q2⟩ := y
  have e3 := q1 xs hx
  rw [hv] at e3
  cases e3
  have e4 := q2 ys hy
  rw [hu] at e4
  cases e4
  have x1 : Ex G (upd G T (.tup [v, u])) := Ex.new (fresh_back ok.ex hT)
  exact ⟨upd G T (.tup [v, u]), Grow.newD ok hT (fun _ _ z => by cases z), Rp.tup upd_same (.cons (rv.mono (e.trans x1)) (.cons (ru.mono (e.trans x1)) .nil))⟩
theorem di_zip (h : DA c m tr ρ fun m ss => ∃ s1 s2 ds es, ss = [s1, s2] ∧ s1.seq? = some ds ∧ s2.seq? = some es ∧ Φ m (zipD ds es)) : DI c m (iZipS c.K tr) ρ Φ := fun σ G H e R q => h σ G H e _ fun vs ss m1 G1 H1 g1 r1 ⟨s1, s2, ds, es, hs, h1, h2, p⟩ => by
  subst hs
  obtain ⟨v1, v2, rfl, q1, q2⟩ := relss2 r1
  obtain ⟨a, k1, xs, rfl, x1, y1⟩ := q1.seqG h1
  obtain ⟨b, k2, ys, rfl, x2, y2⟩ := q2.seqG h2
  exact ⟨a, b, k1, k2, xs, ys, rfl, sqK_mono g1.sub x1, sqK_mono g1.sub x2, q _ _ m1 G1 H1 g1 (itd_zip x1 y1 x2 y2) p⟩
end
end DL
set_option Elab.async false
set_option linter.all false
set_option maxRecDepth 100000
set_option maxHeartbeats 1000000
namespace DL
open PySem PySem.Spec PyProof.Rows L2 Evl
variable {ι : Type} {m m' m1 m2 : ι}
/-! ### slices, sums of tuples, repeats, membership -/
def cutD (ds : List D) (lo hi : Option Int) : List D := (ds.drop (HT.sIx ds.length 0 lo)).take (HT.sIx ds.length ds.length hi - HT.sIx ds.length 0 lo)
theorem RpL.cut {K : PySem.W.Frag} {G : Hp} {xs : List V} {ds : List D} (r : RpL K G xs ds) (lo hi : Option Int) : RpL K G (cutV xs lo hi) (cutD ds lo hi) := by
  unfold cutV cutD
  rw [r.length]
  exact (r.drop _).take _
def DO (c : Cc ι) (m : ι) (t : TO) (ρ : List S) (Φ : ι → Option Int → Prop) : Prop := ∀ σ G H, EnvOk c m G H σ ρ → ∀ Q : Option Int → Hp → Prop, (∀ o m' G' H', Grow c.W G H m' G' H' → Φ m' o → Q o H') → t σ H Q
section
variable {c : Cc ι} {ρ : List S} {Φ : ι → S → Prop} {te : TE} {tl th : TO} {Ψ : ι → Option Int → Prop}
theorem do_none (h : Ψ m none) : DO c m tNoPart ρ Ψ := fun σ G H e Q q => q none m G H e.refl h
theorem do_some (h : De c m te ρ fun m s => ∃ i, s = .dat (.int i) ∧ Ψ m (some i)) : DO c m (tPart te) ρ Ψ := fun σ G H e Q q => h σ G H e _ fun v s m1 G1 H1 g1 r1 ⟨i, es, p⟩ => by
  subst es
  cases r1
  exact ⟨i, rfl, q _ m1 G1 H1 g1 p⟩
theorem de_slL (h : De c m te ρ fun m s => ∃ ds, s.lst? = some ds ∧ DO c m tl ρ fun m lo => DO c m th ρ fun m hi => Φ m (.own (.lst (cutD ds lo hi)))) : De c m (tSl (rSlL c.K) te tl th) ρ Φ := fun σ G H e Q q =>
  h σ G H e _ fun v s m1 G1 H1 g1 r1 ⟨ds, hs, h1⟩ => h1 σ G1 H1 (e.grow g1) _ fun lo m2 G2 H2 g2 h2 => h2 σ G2 H2 ((e.grow g1).grow g2) _ fun hi m3 G3 H3 g3 h3 => by
    have e3 := ((e.grow g1).grow g2).grow g3
    obtain ⟨p, xs, rfl, a, b⟩ := ((r1.grow g2).grow g3).lstV e3.ok hs
    exact ⟨p, xs, rfl, a, fun l hl => new_lst (H0 := H) e3.ok (b.cut lo hi) h3 (fun v s m' G' H' g r p => q v s m' G' H' (((g1.trans g2).trans g3).trans g) (((r.back g3).back g2).back g1) p) l hl⟩
theorem de_slT (h : De c m te ρ fun m s => ∃ ds, s = .dat (.tup ds) ∧ DO c m tl ρ fun m lo => DO c m th ρ fun m hi => Φ m (.dat (.tup (cutD ds lo hi)))) : De c m (tSl (rSlA c.K) te tl th) ρ Φ := fun σ G H e Q q =>
  h σ G H e _ fun v s m1 G1 H1 g1 r1 ⟨ds, hs, h1⟩ => h1 σ G1 H1 (e.grow g1) _ fun lo m2 G2 H2 g2 h2 => h2 σ G2 H2 ((e.grow g1).grow g2) _ fun hi m3 G3 H3 g3 h3 => by
    subst hs
    have e3 := ((e.grow g1).grow g2).grow g3
    have r3 := (r1.grow g2).grow g3
    obtain ⟨p, xs, rfl, a, b⟩ := r3.tupV e3.ok rfl
    refine ⟨p, xs, rfl, a, fun hw => ?_, fun _ l hl => new_tup (H0 := H) e3.ok (b.cut lo hi) h3 (fun v s m' G' H' g r p => q v s m' G' H' (((g1.trans g2).trans g3).trans g) (((r.back g3).back g2).back g1) p) l hl⟩
    rw [b.length] at hw
    have ec : cutD ds lo hi = ds := by unfold cutD; rw [hw.1, hw.2]; simp
    have h3 : Φ m3 (.dat (.tup (cutD ds lo hi))) := h3
    rw [ec] at h3
    exact q _ (.dat (.tup ds)) m3 G3 H3 ((g1.trans g2).trans g3) r3 h3
end
section
variable {K : PySem.W.Frag} {W : Wd ι} {Φ : ι → S → Prop}
theorem ops_catA {ds es : List D} (hl : ds.length + es.length ≤ 1000000) (h : Φ m (.dat (.tup (ds ++ es)))) : OpS K W m (rCatA K) (.dat (.tup ds)) (.dat (.tup es)) Φ := fun H0 G H v1 v2 ok r1 r2 Q q => by
  obtain ⟨p, xs, rfl, a1, b1⟩ := r1.tupV ok rfl
  obtain ⟨p2, ys, rfl, a2, b2⟩ := r2.tupV ok rfl
  refine ⟨p, p2, xs, ys, rfl, rfl, a1, a2, by rw [b1.length, b2.length]; exact sz hl, fun z => ?_, fun _ z => ?_, fun _ _ => new_tup (H0 := H0) ok (b1.append b2) h q⟩
  · subst z
    cases b1
    exact q _ (.dat (.tup es)) m G H ok.refl r2 h
  · subst z
    cases b2
    rw [List.append_nil] at h
    exact q _ (.dat (.tup ds)) m G H ok.refl r1 h
end
/-! ### two loops in a comprehension -/
section
variable {ι : Type} {m : ι} {c : Cc ι} {ρ : List S} {Φ : ι → S → Prop} {te : TE} {tt1 : TT} {wi wi1 : TI} {g0 g1 : TG} {vs vs1 : List Nat}
theorem DI.imp {Ψ Ψ' : ι → List D → Prop} (h : DI c m wi ρ Ψ) (i : ∀ m ds, Ψ m ds → Ψ' m ds) : DI c m wi ρ Ψ' := fun σ G H e R q => h σ G H e R fun J ds m' G' H' g it p => q J ds m' G' H' g it (i m' ds p)
end
end DL
set_option Elab.async false
set_option linter.all false
set_option maxRecDepth 100000
set_option maxHeartbeats 1000000
namespace DL
open PySem PySem.Spec PyProof.Rows L2 Evl
/-! ### plain data of some depth -/
inductive Pl : Nat → D → Prop
  | non {n : Nat} : Pl n .non
  | bl {n : Nat} (b : Bool) : Pl n (.bl b)
  | int {n : Nat} (i : Int) : Pl n (.int i)
  | str {n : Nat} {x : Str} : PyData.strOk x = true → Pl n (.str x)
  | lst {n : Nat} {ds : List D} : (∀ d ∈ ds, Pl n d) → Pl (n + 1) (.lst ds)
  | tup {n : Nat} {ds : List D} : (∀ d ∈ ds, Pl n d) → Pl (n + 1) (.tup ds)
  | scr {n : Nat} {ns : List Int} : Pl (n + 1) (.scr ns)
theorem Pl.up {n k : Nat} (h : n ≤ k) {d : D} (p : Pl n d) : Pl k d := by
  induction p generalizing k with
  | non => exact .non
  | bl b => exact .bl b
  | int i => exact .int i
  | str hx => exact .str hx
  | lst _ ih =>
    obtain ⟨j, rfl⟩ : ∃ j, k = j + 1 := ⟨k - 1, by omega⟩
    exact .lst fun d hd => ih d hd (by omega)
  | tup _ ih =>
    obtain ⟨j, rfl⟩ : ∃ j, k = j + 1 := ⟨k - 1, by omega⟩
    exact .tup fun d hd => ih d hd (by omega)
  | scr =>
    obtain ⟨j, rfl⟩ : ∃ j, k = j + 1 := ⟨k - 1, by omega⟩
    exact .scr
def PyOk (n : Nat) (x : PyData) : Prop := x.canLay0 = true ∧ x.depth ≤ n ∧ PyData.eqv x x = true
theorem pys_ok {n : Nat} : ∀ {ds : List D}, (∀ d ∈ ds, ∃ x, d.py = some x ∧ PyOk n x) → ∃ xs, D.pys ds = some xs ∧ PyData.canLayAll0 xs = true ∧ PyData.depthAll xs ≤ n ∧ PyData.eqvAll xs xs = true
  | [], _ => ⟨[], by unfold D.pys; rfl, rfl, Nat.zero_le _, by rw [PyData.eqvAll]⟩
  | d :: ds, h => by
    obtain ⟨x, e1, a1, b1, c1⟩ := h d (by simp)
    obtain ⟨xs, e2, a2, b2, c2⟩ := pys_ok (ds := ds) fun d hd => h d (by simp [hd])
    refine ⟨x :: xs, by unfold D.pys; rw [e1, e2]; rfl, ?_, ?_, ?_⟩
    · rw [PyData.canLayAll0, a1, a2]; rfl
    · rw [PyData.depthAll]; exact Nat.max_le.mpr ⟨b1, b2⟩
    · rw [PyData.eqvAll, c1, c2]; rfl
theorem ints_ok : ∀ ns : List Int, PyData.canLayAll0 (ns.map PyData.int) = true ∧ PyData.depthAll (ns.map PyData.int) = 0 ∧ PyData.eqvAll (ns.map PyData.int) (ns.map PyData.int) = true
  | [] => ⟨rfl, rfl, by rw [List.map_nil, PyData.eqvAll]⟩
  | n :: ns => by
    obtain ⟨a, b, c⟩ := ints_ok ns
    refine ⟨?_, ?_, ?_⟩
    · rw [List.map_cons, PyData.canLayAll0, a]; rfl
    · rw [List.map_cons, PyData.depthAll, b]; rfl
    · rw [List.map_cons, PyData.eqvAll, c]; simp [PyData.eqv]
theorem Pl.py {n : Nat} {d : D} (p : Pl n d) : ∃ x, d.py = some x ∧ PyOk n x := by
  induction p with
  | non => exact ⟨.none, by unfold D.py; rfl, rfl, Nat.zero_le _, by rw [PyData.eqv]⟩
  | bl b => exact ⟨.bool b, by unfold D.py; rfl, rfl, Nat.zero_le _, by simp [PyData.eqv]⟩
  | int i => exact ⟨.int i, by unfold D.py; rfl, rfl, Nat.zero_le _, by simp [PyData.eqv]⟩
  | str h => exact ⟨.str _, by unfold D.py; rfl, h, Nat.zero_le _, by simp [PyData.eqv]⟩
  | lst _ ih =>
    obtain ⟨xs, e, a, b, c⟩ := pys_ok ih
    exact ⟨.list xs, by unfold D.py; rw [e]; rfl, by rw [PyData.canLay0]; exact a, by rw [PyData.depth]; omega, by rw [PyData.eqv]; exact c⟩
  | tup _ ih =>
    obtain ⟨xs, e, a, b, c⟩ := pys_ok ih
    exact ⟨.tuple xs, by unfold D.py; rw [e]; rfl, by rw [PyData.canLay0]; exact a, by rw [PyData.depth]; omega, by rw [PyData.eqv]; exact c⟩
  | @scr n ns =>
    obtain ⟨a, b, c⟩ := ints_ok ns
    exact ⟨.list (ns.map .int), by unfold D.py; rfl, by rw [PyData.canLay0]; exact a, by rw [PyData.depth, b]; omega, by rw [PyData.eqv]; exact c⟩
theorem PyOk.shaped {n : Nat} {x : PyData} (h : PyOk n x) (hn : n ≤ 64) : SeqAt.shaped x = true := by
  unfold SeqAt.shaped
  rw [h.1, Bool.true_and, decide_eq_true_iff]
  exact Nat.le_trans h.2.1 hn
section
variable {ι : Type} {K : PySem.W.Frag} {W : Wd ι} {m : ι} {Φ : ι → S → Prop}
theorem ops_eqSelf {s1 s2 : S} {d : D} (p : Pl 64 d) (h1 : s1.view = some d) (h2 : s2.view = some d) (h : Φ m (.dat (.bl true))) : OpS K W m (rEqD K) s1 s2 Φ := by
  obtain ⟨x, e, k⟩ := p.py
  refine ops_eqD h1 h2 e e (k.shaped (by omega)) (k.shaped (by omega)) ?_
  rw [k.2.2]; exact h
theorem ops_neSelf {s1 s2 : S} {d : D} (p : Pl 64 d) (h1 : s1.view = some d) (h2 : s2.view = some d) (h : Φ m (.dat (.bl false))) : OpS K W m (rNeD K) s1 s2 Φ := by
  obtain ⟨x, e, k⟩ := p.py
  refine ops_neD h1 h2 e e (k.shaped (by omega)) (k.shaped (by omega)) ?_
  rw [k.2.2]; exact h
theorem ops_eqI {i j : Int} (h : Φ m (.dat (.bl (decide (i = j))))) : OpS K W m (rEqD K) (.dat (.int i)) (.dat (.int j)) Φ := by
  refine ops_eqD (d1 := .int i) (d2 := .int j) (x1 := .int i) (x2 := .int j) rfl rfl (by unfold D.py; rfl) (by unfold D.py; rfl) (by rfl) (by rfl) ?_
  have e : PyData.eqv (.int i) (.int j) = decide (i = j) := by rw [PyData.eqv]; rfl
  rw [e]; exact h
theorem ops_neI {i j : Int} (h : Φ m (.dat (.bl (!decide (i = j))))) : OpS K W m (rNeD K) (.dat (.int i)) (.dat (.int j)) Φ := by
  refine ops_neD (d1 := .int i) (d2 := .int j) (x1 := .int i) (x2 := .int j) rfl rfl (by unfold D.py; rfl) (by unfold D.py; rfl) (by rfl) (by rfl) ?_
  have e : PyData.eqv (.int i) (.int j) = decide (i = j) := by rw [PyData.eqv]; rfl
  rw [e]; exact h
end
end DL
set_option Elab.async false
set_option linter.all false
set_option maxRecDepth 100000
set_option maxHeartbeats 1000000
namespace DL
open PySem PySem.Spec PyProof.Rows L2 Evl
/-! ### a source: a list of three numbers that is changed by each draw -/
def SrcOk (p : Addr) (m : Nat) (H : Hp) : Prop := ∃ a b n : Int, H p = some (.lst [.int a, .int b, .int n]) ∧ 0 ≤ n ∧ n + m ≤ 1048576
/-- the world has a source at p: how many draws are left, what a draw makes of the state -/
structure Src {ι : Type} (W : Wd ι) (p : Addr) where
  left : ι → Nat
  dec : ι → ι
  mem : W.M p
  out : ∀ m G H, W.I m G H → SrcOk p (left m) H
  upd : ∀ m G H H', W.I m G H → 0 < left m → (∀ x, x ≠ p → H' x = H x) → SrcOk p (left m - 1) H' → W.I (dec m) G H'
  less : ∀ m, 0 < left m → left (dec m) = left m - 1
def srcW {κ : Type} (V : Wd κ) (p : Addr) : Wd (κ × Nat) where
  M := fun a => V.M a ∨ a = p
  L := V.L
  I := fun m G H => V.I m.1 G H ∧ SrcOk p m.2 H
  dep := fun m G G' H H' x k ⟨h1, a, b, n, h2, h3, h4⟩ => ⟨V.dep _ _ _ _ _ x (fun y hy => k y (.inl hy)) h1, a, b, n, (k p (.inr rfl)).trans h2, h3, h4⟩
  has := fun m G H a ⟨h1, x, y, n, h2, _⟩ hm => by
    rcases hm with hm | rfl
    · exact V.has _ _ _ _ h1 hm
    · exact ⟨_, h2, rfl⟩
  sw := fun m G G' H a u s ⟨h1, h2⟩ => ⟨V.sw _ _ _ _ _ _ s h1, h2⟩
  pin := V.pin
  pinned := fun m G H a o ⟨h1, _⟩ hp => V.pinned _ _ _ _ _ h1 hp
def Src.up {κ : Type} {V : Wd κ} {p q : Addr} (L : Src V q) (np : ¬ V.M p) : Src (srcW V p) q where
  left := fun m => L.left m.1
  dec := fun m => (L.dec m.1, m.2)
  mem := .inl L.mem
  out := fun m G H h => L.out _ _ _ h.1
  upd := fun m G H H' h hl ne ok => by
    have hpq : p ≠ q := fun z => np (by rw [z]; exact L.mem)
    obtain ⟨a, b, n, h2, h3, h4⟩ := h.2
    exact ⟨L.upd _ _ _ _ h.1 hl ne ok, a, b, n, (ne p hpq).trans h2, h3, h4⟩
  less := fun m h => L.less _ h
def Src.lk {κ : Type} {V : Wd κ} {q : Addr} (L : Src V q) (d : Addr) : Src (lockW V d) q := ⟨L.left, L.dec, L.mem, L.out, L.upd, L.less⟩
/-! steps over heaps -/
section
variable {σ : L2.St} {H : Hp} {Q : VK} {K : PySem.W.Frag}
theorem h_var {i : Nat} {v : V} (h : σ[i]? = some (some v)) (q : Q v H) : tVar i σ H Q := ⟨v, h, q⟩
theorem h_ix {p : Addr} {xs : List V} {i : Int} {v : V} (hp : H p = some (.lst xs)) (hi : atI xs i = some v) (q : Q v H) : rIxL K (.ref p) (.int i) H Q := ⟨p, xs, i, v, rfl, rfl, SqL.of hp, hi, q⟩
theorem h_i0 {f : Int → Int → V} {i j : Int} (q : Q (f i j) H) : rI0 f (.int i) (.int j) H Q := ⟨i, j, rfl, rfl, q⟩
theorem h_i {C : Int → Int → Prop} {f : Int → Int → V} {i j : Int} (hc : C i j) (q : Q (f i j) H) : rI C f (.int i) (.int j) H Q := ⟨i, j, rfl, rfl, hc, q⟩
theorem h_set {p : Addr} {xs : List V} {k : Int} {j : Nat} {v : V} {R : Hp → Prop} (hp : H p = some (.lst xs)) (hj : ixN xs.length k = some j) (q : R (upd H p (.lst (xs.set j v)))) : rSetL (.ref p) (.int k) v H R := ⟨p, xs, k, j, rfl, rfl, hp, hj, q⟩
end
/-! a source that is one's own is from here on a source -/
section
variable {ι : Type} {c : Cc ι} {ρ : List S} {m : ι} {t : TS} {N B C : ι → List S → Prop} {R : ι → S → Prop}
def plS : S → Bool
  | .no => true | .dat _ => true | .at_ _ => true | .lk _ => true | _ => false
def noVw (ρ : List S) : Bool := ρ.all fun s => match s with
  | .vw _ => false
  | _ => true
theorem noVw_ok {ρ : List S} (h : noVw ρ = true) (j : Nat) (w : O) : ρ[j]? ≠ some (S.vw w) := fun z => by
  have := List.all_eq_true.mp h _ (List.mem_of_getElem? z)
  cases this
end
end DL
set_option Elab.async false
set_option linter.all false
set_option maxRecDepth 100000
set_option maxHeartbeats 1000000
namespace DL
open PySem PySem.Spec PyProof.Rows L2 Evl
variable {ι : Type} {m m' m1 : ι}
/-! ### items and arguments: own things become data -/
section
variable {c : Cc ι} {ρ : List S} {Φ : ι → S → Prop} {ta : TE} {tr : TA} {Θ : ι → List S → Prop}
theorem da_imp {Θ' : ι → List S → Prop} (h : DA c m tr ρ Θ) (i : ∀ m ss, Θ m ss → Θ' m ss) : DA c m tr ρ Θ' := fun σ G H e Q q => h σ G H e Q fun vs ss m1 G1 H1 g r p => q vs ss m1 G1 H1 g r (i m1 ss p)
def DAF (c : Cc ι) (m : ι) (tr : TA) (ρ : List S) (Θ : ι → List S → Prop) : Prop := DA c m tr ρ fun m ss' => ∃ ss, ss' = ss.map S.frz ∧ Θ m ss
theorem daf_nil (h : Θ m []) : DAF c m tNil ρ Θ := da_nil ⟨[], rfl, h⟩
theorem daf_cons (h : De c m ta ρ fun m s => DAF c m tr ρ fun m ss => Θ m (s :: ss)) : DAF c m (tCons ta tr) ρ Θ :=
  da_cons (fun σ G H e Q q => h σ G H e _ fun v s m1 G1 H1 g r p => by
    obtain ⟨G2, g2, r2⟩ := r.freeze g
    exact q v s.frz m1 G2 H1 g2 r2 (da_imp p fun m2 ss' ⟨ss, e1, h1⟩ => ⟨s :: ss, by rw [e1]; rfl, h1⟩))
theorem daf_star (h : De c m ta ρ fun m s => ∃ ds, (s.tup? = some ds ∨ s.lst? = some ds) ∧ DAF c m tr ρ fun m ss => Θ m (ds.map S.dat ++ ss)) : DAF c m (StX.tStar c.K ta tr) ρ Θ :=
  da_star (h.imp fun m s ⟨ds, hs, p⟩ => ⟨ds, hs, da_imp p fun m2 ss' ⟨ss, e1, h1⟩ => ⟨ds.map S.dat ++ ss, by rw [e1, List.map_append, List.map_map]; rfl, h1⟩⟩)
/-! items -/
def isD : S → Bool
  | .dat _ => true | .own _ => true | _ => false
def unD : S → D
  | .dat d => d | .own o => o.frz | _ => .non
def LstK (n : Nat) (ss : List S) (P : List D → Prop) : Prop := ss.all isD = true ∧ ss.length ≤ n ∧ P (ss.map unD)
theorem lk_nil {n : Nat} {P : List D → Prop} (h : P []) : LstK n [] P := ⟨rfl, Nat.zero_le _, h⟩
theorem lk_dat {n : Nat} {d : D} {ss : List S} {P : List D → Prop} (h : LstK n ss fun ds => P (d :: ds)) : LstK (n + 1) (.dat d :: ss) P := ⟨by rw [List.all_cons, h.1]; rfl, by have := h.2.1; rw [List.length_cons]; omega, h.2.2⟩
theorem lk_own {n : Nat} {o : O} {ss : List S} {P : List D → Prop} (h : LstK n ss fun ds => P (o.frz :: ds)) : LstK (n + 1) (.own o :: ss) P := ⟨by rw [List.all_cons, h.1]; rfl, by have := h.2.1; rw [List.length_cons]; omega, h.2.2⟩
theorem lk_lst {n : Nat} {es : List D} {ss : List S} {P : List D → Prop} (h : LstK n ss fun ds => P (.lst es :: ds)) : LstK (n + 1) (.own (.lst es) :: ss) P := lk_own h
theorem lk_dK {n : Nat} {es : List (Key × D)} {ss : List S} {P : List D → Prop} (h : LstK n ss fun ds => P (.dic es :: ds)) : LstK (n + 1) (.own (.dK es) :: ss) P := lk_own h
theorem lk_dT {n : Nat} {es : List (List Key × D)} {ss : List S} {P : List D → Prop} (h : LstK n ss fun ds => P (.dit es :: ds)) : LstK (n + 1) (.own (.dT es) :: ss) P := lk_own h
theorem isD_frz {ss : List S} (h : ss.all isD = true) : ss.map S.frz = (ss.map unD).map S.dat := by
  induction ss with
  | nil => rfl
  | cons s ss ih =>
    rw [List.all_cons] at h
    obtain ⟨q1, q2⟩ := Bool.and_eq_true_iff.mp h
    rw [List.map_cons, List.map_cons, List.map_cons, ih q2]
    cases s <;> first | rfl | cases q1
theorem de_tupG (h : DAF c m tr ρ fun m ss => LstK 1000 ss fun ds => Φ m (.dat (.tup ds))) : De c m (tTup tr) ρ Φ :=
  de_tup (da_imp h fun m ss' ⟨ss, e, a, b, p⟩ => ⟨_, e.trans (isD_frz a), by rw [List.length_map]; omega, p⟩)
theorem de_lstG (h : DAF c m tr ρ fun m ss => LstK 1000 ss fun ds => Φ m (.own (.lst ds))) : De c m (tLst tr) ρ Φ :=
  de_lst (da_imp h fun m ss' ⟨ss, e, a, b, p⟩ => ⟨_, e.trans (isD_frz a), by rw [List.length_map]; omega, p⟩)
/-! arguments -/
def frzOk : S → Bool
  | .own _ => true | .dat _ => true | .at_ _ => true | .vw _ => true | _ => false
def ArgK (ss : List S) (P : List S → Prop) : Prop := ss.all frzOk = true ∧ P (ss.map S.frz)
theorem ak_nil {P : List S → Prop} (h : P []) : ArgK [] P := ⟨rfl, h⟩
theorem ak_dat {d : D} {ss : List S} {P : List S → Prop} (h : ArgK ss fun ds => P (.dat d :: ds)) : ArgK (.dat d :: ss) P := ⟨by rw [List.all_cons, h.1]; rfl, h.2⟩
theorem ak_at {p : Addr} {ss : List S} {P : List S → Prop} (h : ArgK ss fun ds => P (.at_ p :: ds)) : ArgK (.at_ p :: ss) P := ⟨by rw [List.all_cons, h.1]; rfl, h.2⟩
theorem ak_vw {o : O} {ss : List S} {P : List S → Prop} (h : ArgK ss fun ds => P (.vw o :: ds)) : ArgK (.vw o :: ss) P := ⟨by rw [List.all_cons, h.1]; rfl, h.2⟩
theorem ak_own {o : O} {ss : List S} {P : List S → Prop} (h : ArgK ss fun ds => P (.dat o.frz :: ds)) : ArgK (.own o :: ss) P := ⟨by rw [List.all_cons, h.1]; rfl, h.2⟩
theorem ak_lst {es : List D} {ss : List S} {P : List S → Prop} (h : ArgK ss fun ds => P (.dat (.lst es) :: ds)) : ArgK (.own (.lst es) :: ss) P := ak_own h
theorem ak_dK {es : List (Key × D)} {ss : List S} {P : List S → Prop} (h : ArgK ss fun ds => P (.dat (.dic es) :: ds)) : ArgK (.own (.dK es) :: ss) P := ak_own h
theorem ak_dT {es : List (List Key × D)} {ss : List S} {P : List S → Prop} (h : ArgK ss fun ds => P (.dat (.dit es) :: ds)) : ArgK (.own (.dT es) :: ss) P := ak_own h
theorem frz_arg {s : S} (h : frzOk s = true) : argS s.frz = true := by cases s <;> first | rfl | cases h
theorem all_arg : ∀ {ss : List S}, ss.all frzOk = true → (ss.map S.frz).all argS = true
  | [], _ => rfl
  | s :: ss, h => by
    rw [List.all_cons] at h
    obtain ⟨q1, q2⟩ := Bool.and_eq_true_iff.mp h
    rw [List.map_cons, List.all_cons, frz_arg q1, all_arg q2]
    rfl
theorem de_callG {C : Fc} (h : DAF c m tr ρ fun m ss => ArgK ss fun ss => C ι c.W m ss Φ c.Ξ) : De c m (tCall (spF c.K C) [] c.E tr) ρ Φ :=
  de_call (da_imp h fun m ss' ⟨ss, e, a, b⟩ => by subst e; exact ⟨all_arg a, b⟩)
theorem de_call0G {C : Fc} (h : DAF c m tr ρ fun m ss => ArgK ss fun ss => C ι c.W m ss Φ fun _ _ _ => False) : De c m (tCall (spF c.K C) [] E0 tr) ρ Φ :=
  de_call0 (da_imp h fun m ss' ⟨ss, e, a, b⟩ => by subst e; exact ⟨all_arg a, b⟩)
end
/-! ### a value that is dropped -/
section
variable {c : Cc ι} {ρ : List S} {N B C : ι → List S → Prop} {R : ι → S → Prop} {K : PySem.W.Frag} {sp : Sp} {ds : List V} {E : XK} {tr : TA} {T : String} {te : TE} {r : V → List V → Hp → VK → Prop} {rb : List V → Hp → VK → Prop}
theorem ds_dropC (h : De c m (tCall sp ds E tr) ρ fun m _ => N m ρ) : Ds c m (tDrop (tCall sp ds E tr)) ρ N R B C := ds_drop h
theorem ds_dropB (h : De c m (tCB rb tr) ρ fun m _ => N m ρ) : Ds c m (tDrop (tCB rb tr)) ρ N R B C := ds_drop h
theorem ds_drop0 (h : De c m (tBM0 K T r te) ρ fun m _ => N m ρ) : Ds c m (tDrop (tBM0 K T r te)) ρ N R B C := ds_drop h
end
/-! ### slots that are forgotten -/
inductive Wk : List S → List S → Prop
  | nil : Wk [] []
  | keep {s : S} {a b : List S} : Wk a b → Wk (s :: a) (s :: b)
  | drop {s : S} {a b : List S} : Wk a b → Wk (s :: a) (.no :: b)
theorem Wk.refl : ∀ a : List S, Wk a a
  | [] => .nil
  | _ :: a => .keep (Wk.refl a)
theorem Wk.len {a b : List S} (h : Wk a b) : b.length = a.length := by
  induction h with
  | nil => rfl
  | keep _ ih => simp [ih]
  | drop _ ih => simp [ih]
theorem Wk.get {a b : List S} (h : Wk a b) : ∀ {i : Nat} {s : S}, b[i]? = some s → s = .no ∨ a[i]? = some s := by
  induction h with
  | nil => intro i s h; simp at h
  | keep _ ih =>
    intro i s h
    cases i with
    | zero => exact .inr h
    | succ i => exact ih (i := i) (by simpa using h)
  | drop _ ih =>
    intro i s h
    cases i with
    | zero => left; simp at h; exact h.symm
    | succ i => exact ih (i := i) (by simpa using h)
def elsOk (b : List S) : Bool := b.all fun s => match s with
  | .el i _ => (match b[i]? with
    | some (.own (.nest _)) => true
    | _ => false)
  | _ => true
theorem elsOk_ok {b : List S} (h : elsOk b = true) {k i j : Nat} (hk : b[k]? = some (.el i j)) : ∃ its, b[i]? = some (.own (.nest its)) := by
  have h1 := List.all_eq_true.mp h _ (List.mem_of_getElem? hk)
  have h1 : (match b[i]? with
    | some (.own (.nest _)) => true
    | _ => false) = true := h1
  cases e : b[i]? with
  | none => rw [e] at h1; cases h1
  | some s =>
    rw [e] at h1
    cases s with
    | own o => cases o with
      | nest its => exact ⟨its, rfl⟩
      | one o => cases h1
      | ins pa C fs => cases h1
    | _ => cases h1
theorem EnvOk.wk {c : Cc ι} {G H : Hp} {σ : L2.St} {a b : List S} (w : Wk a b) (he : elsOk b = true) (e : EnvOk c m G H σ a) : EnvOk c m G H σ b := by
  refine ⟨e.ok0, e.gr, e.exc, by rw [w.len]; exact e.len, fun i s h => ?_, fun i j o o' p q hij hi hj pi pj => ?_, fun k i j hk => ?_, fun k o p hk hp => ?_⟩
  · rcases w.get h with z | z
    · exact .inl z
    · exact e.at_ i s z
  · rcases w.get hi with z | z
    · cases z
    · rcases w.get hj with z2 | z2
      · cases z2
      · exact e.sep i j o o' p q hij z z2 pi pj
  · rcases w.get hk with z | z
    · cases z
    · obtain ⟨its, p, vs, q, o, e1, e2⟩ := e.els k i j z
      obtain ⟨its', h2⟩ := elsOk_ok he hk
      rcases w.get h2 with y | y
      · cases y
      · rw [e1] at y
        cases y
        exact ⟨its, p, vs, q, o, h2, e2⟩
  · rcases w.get hk with z | z
    · cases z
    · exact e.vws k o p z hp
def WkJ (ρ : List S) (P : List S → Prop) : Prop := ∃ ρ', Wk ρ ρ' ∧ elsOk ρ' = true ∧ P ρ'
section
variable {c : Cc ι} {ρ : List S} {t u : TS} {tt : TT} {N B C : ι → List S → Prop} {R : ι → S → Prop} {wi : TI} {g : TG}
theorem DG.wk {vs : List Nat} {d : D} {ρ1 ρ2 ρ3 : List S} (w : Wk ρ1 ρ2) (we : elsOk ρ2 = true) (h : DG c m g vs d ρ2 ρ3) : DG c m g vs d ρ1 ρ3 := fun v σ G H e r Q q => h v σ G H (e.wk w we) r Q fun σ' k z => q σ' (fun m' G' H' x f => k m' G' H' x (f.wk w we)) z
theorem DT.wk {ρ1 ρ2 : List S} {Φ : ι → Bool → Prop} (w : Wk ρ1 ρ2) (we : elsOk ρ2 = true) (h : DT c m tt ρ2 Φ) : DT c m tt ρ1 Φ := fun σ G H e Q q => h σ G H (e.wk w we) Q q
theorem De.wk {te : TE} {ρ1 ρ2 : List S} {Φ : ι → S → Prop} (w : Wk ρ1 ρ2) (we : elsOk ρ2 = true) (h : De c m te ρ2 Φ) : De c m te ρ1 Φ := fun σ G H e Q q => h σ G H (e.wk w we) Q q
theorem ds_forget {ρ' : List S} (w : Wk ρ ρ') (h : Ds c m t ρ' N R B C) (we : elsOk ρ' = true := by with_unfolding_all rfl) : Ds c m t ρ N R B C := fun D σ G H e k1 k2 k3 k4 => h D σ G H (e.wk w we) k1 k2 k3 k4
theorem ds_forW {vs : List Nat} (h : DI c m wi ρ fun m ds => ∃ J : Nat → ι → List S → Prop, WkJ ρ (J 0 m) ∧ (∀ i d m ρ', ds[i]? = some d → J i m ρ' → ∃ ρ2, DG c m g vs d ρ' ρ2 ∧ Ds c m t ρ2 (fun m ρ' => WkJ ρ' (J (i + 1) m)) R N (fun m ρ' => WkJ ρ' (J (i + 1) m))) ∧ ∀ m ρ', J ds.length m ρ' → N m ρ') : Ds c m (tFor wi g t) ρ N R B C := by
  have key : Ds c m (tFor wi g t) ρ (fun m ρ => N m ρ ∨ WkJ ρ (N m)) R B C := by
    refine ds_for (vs := vs) fun σ G H e R' q => h σ G H e R' fun I ds m' G' H' gg it ⟨J, ⟨ρ0, w0, we0, j0⟩, jt, jd⟩ => ?_
    refine q I ds m' G' H' gg it ⟨fun i m ρ => WkJ ρ (J i m), ⟨ρ0, w0, we0, j0⟩, ?_, ?_⟩
    · rintro i d m ρ1 hd ⟨ρ2, w, we, j⟩
      obtain ⟨ρ3, dg, hs⟩ := jt i d m ρ2 hd j
      exact ⟨ρ3, dg.wk w we, hs.imp (fun _ _ n => n) (fun _ _ n => n) (fun _ ρ n => .inl n) (fun _ _ n => n)⟩
    · rintro m ρ1 ⟨ρ2, w, we, j⟩
      exact .inr ⟨ρ2, w, we, jd m ρ2 j⟩
  exact fun D σ G H e k1 k2 k3 k4 => key D σ G H e (fun ρ' σ' m' G' H' n x f => by
    rcases n with n | ⟨ρ2, w, we, n⟩
    · exact k1 ρ' σ' m' G' H' n x f
    · exact k1 ρ2 σ' m' G' H' n x (f.wk w we)) k2 k3 k4
theorem ds_whileW (J : Nat → ι → List S → Prop) (n0 : Nat) (h0 : WkJ ρ (J n0 m)) (h : ∀ n m ρ', J n m ρ' → DT c m tt ρ' fun m b => (b = true → Ds c m t ρ' (fun m ρ2 => ∃ n', n' < n ∧ WkJ ρ2 (J n' m)) R N (fun m ρ2 => ∃ n', n' < n ∧ WkJ ρ2 (J n' m))) ∧ (b = false → N m ρ')) : Ds c m (tWhile tt t) ρ N R B C := by
  have key : Ds c m (tWhile tt t) ρ (fun m ρ => N m ρ ∨ WkJ ρ (N m)) R B C := by
    refine ds_while (fun n m ρ => WkJ ρ (J n m)) n0 h0 ?_
    rintro n m ρ1 ⟨ρ2, w, we, j⟩
    have hh := (h n m ρ2 j).wk w we
    refine hh.imp fun m b ⟨h1, h2⟩ => ⟨fun hb => ?_, fun hb => .inr ⟨ρ2, w, we, h2 hb⟩⟩
    exact ds_forget w ((h1 hb).imp (fun _ _ n => n) (fun _ _ n => n) (fun _ ρ n => .inl n) (fun _ _ n => n)) we
  exact fun D σ G H e k1 k2 k3 k4 => key D σ G H e (fun ρ' σ' m' G' H' n x f => by
    rcases n with n | ⟨ρ2, w, we, n⟩
    · exact k1 ρ' σ' m' G' H' n x f
    · exact k1 ρ2 σ' m' G' H' n x (f.wk w we)) k2 k3 k4
/-- a block in two parts -/
theorem ds_cut (M : ι → List S → Prop) (h1 : Ds c m t ρ (fun m ρ => WkJ ρ (M m)) R B C) (h2 : ∀ m ρ, M m ρ → Ds c m u ρ N R B C) : Ds c m (tSeq t u) ρ N R B C :=
  ds_seq (h1.imp (fun m ρ ⟨ρ', w, we, n⟩ => ds_forget w (h2 m ρ' n) we) (fun _ _ n => n) (fun _ _ n => n) (fun _ _ n => n))
end
/-! ### a def's body -/
theorem run_fnP {K : PySem.W.Frag} {F : Fc} {Nm : List Str} {t : TS} {vs : List V} {H : Hp} {Q : VK} {E : XK} {n k : Nat} (pad : List S) (hN : Nm.length = n + k) (hv : vs.length = n) (hpad : pad = List.replicate k .no) (h : spF K F vs H Q E)
    (body : ∀ κ W m ss Φ Ξ G, F κ W m ss Φ Ξ → Ds ⟨K, W, E, Ξ, m, G, H⟩ m t (ss ++ pad) (fun m _ => Φ m (.dat .non)) Φ (fun _ _ => False) (fun _ _ => False)) :
    t { nx := fun _ H' => Q .non H', rt := Q } (L2.start Nm vs) H := by
  obtain ⟨κ, W, m, G, ss, Φ, Ξ, ok, rs, rest⟩ := h
  have hl : ss.length = n := by rw [← rs.length]; exact hv
  refine run_fn (F := fun κ W m ss Φ Ξ => ss.length = n ∧ F κ W m ss Φ Ξ) (by omega) ⟨κ, W, m, G, ss, Φ, Ξ, ok, rs, rest.1, ⟨hl, rest.2.1⟩, rest.2.2⟩ fun κ W m ss Φ Ξ G ⟨hl2, hf⟩ => ?_
  have e : Nm.length - ss.length = k := by omega
  rw [e, ← hpad]
  exact body κ W m ss Φ Ξ G hf
end DL
set_option Elab.async false
set_option linter.all false
set_option maxRecDepth 100000
set_option maxHeartbeats 1000000
namespace DL
open PySem PySem.Spec PyProof.Rows L2 Evl
/-! rules whose readings name the given heap K, and not a context's field: these also fit within a block -/
section
variable {X : Cx} {K : PySem.W.Frag}
theorem k_isi (hK : X.K = K) : CallR X (.builtin "isinstance") (rIsiW K) := by
  subst hK
  intro pins s σ H xs us Q I r h
  rcases h with h | ⟨a, o, kvs, T, b, rfl, ea, hb, q⟩
  · exact call_isi pins s σ H xs us Q I r h
  · obtain ⟨u1, u2, rfl, r1, r2⟩ := vals2 r
    cases (show u1 = Value.ref a from r1)
    cases (show u2 = Value.type T from r2)
    obtain ⟨_, _, _, _, _, ob, _, _, h1, h2, _⟩ := (show ObjOk X.prog X.w H s.heap a (.frz o (.dT kvs)) from I.hok a _ ea)
    exact PySem.W.kia_one (x := .ref a) PySem.W.kitx_dict I.kIn ⟨ob, h1, h2.1⟩ (kit_ty hb) (fun z => nomatch z) fun tk => ⟨.bl b, H, I.tok tk, rfl, q⟩
theorem k_len (hK : X.K = K) : CallR X (.builtin "len") (rLenA K) := by subst hK; exact call_lenA
theorem k_sum (hK : X.K = K) (hc : X.calm = true) : CallR X (.builtin "sum") (rSumA K) := by subst hK; exact call_sumA hc
theorem k_all (hK : X.K = K) (hc : X.calm = true) : CallR X (.builtin "all") (rAll K) := by subst hK; exact cr_all hc
theorem k_listOf (hK : X.K = K) : CallR X (.type "list") (fun xs H Q => ∃ p ys, xs = [V.ref p] ∧ (SqL K H p ys ∨ SqT K H p ys) ∧ ∀ l, H l = none → Q (.ref l) (upd H l (.lst ys))) := by subst hK; exact call_list_of
theorem k_tupleOf (hK : X.K = K) : CallR X (.type "tuple") (fun xs H Q => ∃ p ys, xs = [V.ref p] ∧ ((SqL K H p ys ∧ ∀ l, H l = none → Q (.ref l) (upd H l (.tup ys))) ∨ (SqT K H p ys ∧ Q (.ref p) H))) := by subst hK; exact call_tuple_of
theorem k_ixL (hK : X.K = K) : IxR X (rIxL K) := by subst hK; exact ix_list
theorem k_ixT (hK : X.K = K) : IxR X (rIxT K) := by subst hK; exact ix_tup
theorem k_slL (hK : X.K = K) : SlR X (rSlL K) := by subst hK; exact sl_list
theorem k_eqD (hK : X.K = K) (hu : X.A.units + 64 < cLine) : OpR X (compareOp .Eq) (rEqD K) := by subst hK; exact op_eqD hu
theorem k_neD (hK : X.K = K) (hu : X.A.units + 64 < cLine) : OpR X (compareOp .NotEq) (rNeD K) := by subst hK; exact op_neD hu
variable {tg l e : Expr} {es : List Expr} {tl te : TE} {t : TA} {p pos : Pos}
theorem k_piL (hK : X.K = K) (hl : PE X l tl) : PI X tg l (iList K tl) := by subst hK; exact pi_list hl
theorem k_piS (hK : X.K = K) (hl : PE X l tl) : PI X tg l (iSeq K tl) := by subst hK; exact pi_seq hl
theorem k_gTup {es : List Expr} {k : Nat} {t : TGs} {n : Nat} (hK : X.K = K) (hc : X.calm = true) (h : PGs X es t)
    (hn : (assignEach es X.env).length = n := by rfl) (hst : (assignEach es X.env).findIdx? (·.1) = none := by rfl) : PG X (.Tuple es k pos) (gTup K n t) := by subst hK; exact pg_tup hc h hn hst
theorem k_zip {e2 : Expr} {ta : TA} {tpos : Pos} {elts : List Expr} {kk : Nat} (hK : X.K = K) (hg : Gl X "zip") (hm : X.mg "zip" = none) (ha : PA X [e, e2] ta)
    (hs : starEach [e, e2] X.env = (false, eval e X.env) :: starEach [e2] X.env := by rfl) (hpl : (backTo pos (starEach [e2] X.env)).any (·.1) = false := by rfl) :
    PI X (.Tuple elts kk tpos) (.Call (.Name "zip" p) [e, e2] [] pos) (iZipS K ta) := by subst hK; exact pi_zipS hg hm ha hs hpl
variable {T name : Str} {id : String} {r : V → List V → Hp → VK → Prop} {o : Expr} {to : TE} {apos cpos : Pos}
theorem k_app (hK : X.K = K) (ho : PE X o to) (ha : PA X (e :: es) t)
    (hbase : attributeBase o "append" X.env (eval o X.env) = eval o X.env := by rfl)
    (hfew : ((backTo cpos (starEach (e :: es) X.env)).all (fun x => !x.1) && (backToKw cpos (keywordEach [] X.env)).all (fun x => x.1.isSome)
      && decide ((e :: es).length + ([] : List Keyword).length + (if ([] : List Keyword).isEmpty then 0 else 1) < 30)) = true := by rfl)
    (hline : (apos.endLine == cpos.line) = true := by rfl) (hs : starEach (e :: es) X.env = (false, eval e X.env) :: starEach es X.env := by rfl) (hplain : (backTo cpos (starEach es X.env)).any (·.1) = false := by rfl) :
    PE X (.Call (.Attribute o "append" apos) (e :: es) [] cpos) (tBM K "list" rAppend to t) := by subst hK; exact pe_bm PySem.F.plainAttrs_list PySem.F.slot_list_append PySem.F.type_list_append mt_append ho ha hbase hfew hline hs hplain
variable {k j : Nat} {x : Str} {ps : List Str} {C : Fc}
theorem k_cl {CX : CXT} {E : XK} (c : Cl X.prog X.w K X.mg X.base CX k x ps C) (hK : X.K = K) (hr : Room j X.A) (hx : Passes CX X E) (ha : PA X (e :: es) t) (hk : k ≤ j := by decide) (hg : Gl X x := by rfl) (hdb : (x == ("__debug__" : Str)) = false := by decide)
    (he : starEach (e :: es) X.env = (false, eval e X.env) :: starEach es X.env := by rfl) (hpl : (backTo pos (starEach es X.env)).any (·.1) = false := by rfl) :
    PE X (.Call (.Name x p) (e :: es) [] pos) (tCall (spF K C) [] E t) := by subst hK; exact pcl c hr hx ha hk hg hdb he hpl
theorem k_cl0 (c : Cl X.prog X.w K X.mg X.base CX0 k x ps C) (hK : X.K = K) (hr : Room j X.A) (ha : PA X (e :: es) t) (hk : k ≤ j := by decide) (hg : Gl X x := by rfl) (hdb : (x == ("__debug__" : Str)) = false := by decide)
    (he : starEach (e :: es) X.env = (false, eval e X.env) :: starEach es X.env := by rfl) (hpl : (backTo pos (starEach es X.env)).any (·.1) = false := by rfl) :
    PE X (.Call (.Name x p) (e :: es) [] pos) (tCall (spF K C) [] E0 t) := by subst hK; exact pcl c hr pass0 ha hk hg hdb he hpl
theorem k_clL (c : Cl X.prog X.w K X.mg X.base (L2.CX X.prog X.w) k x ps C) (hK : X.K = K) (hr : Room j X.A) (ha : PA X (e :: es) t) (hk : k ≤ j := by decide) (hg : Gl X x := by rfl) (hdb : (x == ("__debug__" : Str)) = false := by decide)
    (he : starEach (e :: es) X.env = (false, eval e X.env) :: starEach es X.env := by rfl) (hpl : (backTo pos (starEach es X.env)).any (·.1) = false := by rfl) :
    PE X (.Call (.Name x p) (e :: es) [] pos) (tCall (spF K C) [] E0 t) := by subst hK; exact pcl c hr passL ha hk hg hdb he hpl
theorem k_clS {W : WX} (c : Cl X.prog X.w K X.mg X.base (L2.CX X.prog X.w) k x ps C) (hK : X.K = K) (hr : Room j X.A) (tk : Takes X W) (ha : PA X (e :: es) t) (hk : k ≤ j := by decide) (hg : Gl X x := by rfl) (hdb : (x == ("__debug__" : Str)) = false := by decide)
    (he : starEach (e :: es) X.env = (false, eval e X.env) :: starEach es X.env := by rfl) (hpl : (backTo pos (starEach es X.env)).any (·.1) = false := by rfl) :
    PE X (.Call (.Name x p) (e :: es) [] pos) (tCallS (spF K C) (WE W) t) := by subst hK; exact pclS c hr tk ha hk hg hdb he hpl
end
end DL
set_option Elab.async false
set_option linter.all false
set_option maxRecDepth 100000
set_option maxHeartbeats 1000000
namespace DL
open PySem PySem.Spec PyProof.Rows L2 Evl
/-! ### an exception's __init__ -/
section
variable {K : PySem.W.Frag} {C : Addr} {H : Hp} {Q : VK} {E : XK} {vs : List V} {f g k : Str}
theorem init1 (T : OexC K C) (n1 : PySem.W.findIn K (.ref C) f = some none) (h : spX C [f] vs H Q E) : tOst K f (tVar 0) (tVar 1) { nx := fun _ H' => Q .non H', rt := Q } (L2.start ["self", f] vs) H := by
  obtain ⟨a, ws, rfl, hl, ha, hq⟩ := h
  match ws, hl with
  | [w], _ => exact ⟨w, rfl, _, rfl, a, C, rfl, T, n1, .inl ⟨ha, fun dx hd ne => hq dx hd ne⟩⟩
end
def oexB1 (o : Obj) (C : Addr) : Bool := match o with
  | ⟨.type t, _, .cls cd, sl⟩ => (match cd.mro, sl.toList with
    | .ref C' :: bm, [_, _, _, _, some (.builtin n), _] => decide (t = "type") && (decide (C' = C) && (decide (n = "ValueError.__new__") && (!cd.hasDel && (cd.hasDict && PySem.HandSPX.refsVE bm))))
    | _, _ => false)
  | _ => false
def oexB (K : PySem.W.Frag) (C : Addr) : Bool := (match K.lookup C with
  | some o => oexB1 o C
  | _ => false) && (He.eqO (PySem.W.findIn K (.ref C) "__setattr__") (some (some (.builtin "object.__setattr__"))) && (decide (PySem.W.subIn K (.ref C) (.type "BaseException") = some true) && (decide (PySem.W.typeIn K (.ref C) = some (.type "type")) && (PySem.W.keepIn K (.ref C) && xfB K C))))
theorem oexB1_ok {o : Obj} {C : Addr} (h : oexB1 o C = true) : ∃ nm q N bs bm sn sub ab col dd k0 k1 k2 k3 k5, o = excClassObj nm q C N bs bm true sn sub ab col dd k0 k1 k2 k3 k5 "ValueError.__new__" ∧ PySem.HandSPX.refsVE bm = true := by
  obtain ⟨oc, od, dt, sl⟩ := o
  cases oc with
  | type t =>
    cases dt with
    | cls cd =>
      obtain ⟨nm, bs, mro, ns, qn, hd, sn, sb, ab, col, del⟩ := cd
      obtain ⟨sl⟩ := sl
      unfold oexB1 at h
      dsimp only at h
      split at h
      · obtain ⟨h1, h⟩ := He.ba h
        obtain ⟨h2, h⟩ := He.ba h
        obtain ⟨h3, h⟩ := He.ba h
        obtain ⟨h4, h⟩ := He.ba h
        obtain ⟨h5, h6⟩ := He.ba h
        have e1 := of_decide_eq_true h1
        have e2 := of_decide_eq_true h2
        have e3 := of_decide_eq_true h3
        subst e1 e2 e3 h5
        cases del with
        | true => cases h4
        | false => exact ⟨_, _, _, _, _, _, _, _, _, _, _, _, _, _, _, rfl, h6⟩
      · cases h
    | _ => cases h
  | _ => cases dt <;> cases h
theorem oexB_ok {K : PySem.W.Frag} {C : Addr} (h : oexB K C = true) : OexC K C ∧ XfC K C := by
  obtain ⟨h1, h⟩ := He.ba h
  obtain ⟨h2, h⟩ := He.ba h
  obtain ⟨h3, h⟩ := He.ba h
  obtain ⟨h4, h⟩ := He.ba h
  obtain ⟨h5, h6⟩ := He.ba h
  refine ⟨⟨?_, He.eqO_ok h2, of_decide_eq_true h3, of_decide_eq_true h4, h5⟩, xfB_ok h6⟩
  cases e : K.lookup C with
  | none => rw [e] at h1; cases h1
  | some o =>
    rw [e] at h1
    obtain ⟨nm, q, N, bs, bm, sn, sub, ab, col, dd, k0, k1, k2, k3, k5, e2, e3⟩ := oexB1_ok h1
    exact ⟨nm, q, N, bs, bm, sn, sub, ab, col, dd, k0, k1, k2, k3, k5, by rw [e2], e3⟩
theorem isFn_ok {K : PySem.W.Frag} {v : Value} (h : PySem.W.isFn K v = true) : PySem.W.typeIn K v = some (.type "function") := by
  unfold PySem.W.isFn at h
  exact beq_iff_eq.mp h
/-! ### the start of a law -/
def scrOf (H : Hp) : Hp := fun b => match H b with
  | some (.lst xs) => some (.lst xs)
  | some (.frz o (.lst xs)) => some (.frz o (.lst xs))
  | _ => none
theorem start_law {K : PySem.W.Frag} {F : Fc} {H : Hp} {a : Addr} {ns : List Int} (hS : SqL K H a (ns.map V.int)) (hF : F Unit W0 () [.dat (.scr ns)] (fun _ s => s = .dat (.bl true)) fun _ _ _ => False) :
    spF K F [.ref a] H (fun v _ => v = .bl true) fun _ _ _ => False := by
  have ex : Ex (scrOf H) H := fun b o h => by
    unfold scrOf at h
    split at h
    · rename_i e; rw [e]; exact h
    · rename_i e; rw [e]; exact h
    · cases h
  refine ⟨Unit, W0, (), scrOf H, [.dat (.scr ns)], fun _ s => s = .dat (.bl true), fun _ _ _ => False, ⟨ex, trivial, fun _ z => z.elim, fun b o u h hu => ?_⟩, ?_, rfl, hF, ?_, fun _ _ _ _ _ _ _ _ _ _ _ _ _ z => z.elim⟩
  · unfold scrOf at h
    split at h
    · cases h
    · rename_i xs e; cases h; exact (hu xs rfl).elim
    · cases h
  · refine .cons (Rp.scr ?_) .nil
    rcases hS with hS | hS
    · left
      rcases hS with hS | ⟨o, hS⟩
      · exact .inl (by unfold scrOf; rw [hS])
      · exact .inr ⟨o, by unfold scrOf; rw [hS]⟩
    · exact .inr hS
  · intro v s m' G' H' _ r e
    subst e
    cases r
    rfl
end DL
set_option Elab.async false
set_option linter.all false
set_option maxRecDepth 100000
set_option maxHeartbeats 1000000
namespace DL
open PySem PySem.Spec PyProof.Rows L2 Evl
variable {ι : Type} {m m' m1 : ι}
/-! ### a list of new own things -/
section
variable {K : PySem.W.Frag} {F : Addr → Prop} {G H : Hp}
theorem RIts.append : ∀ {vs ws : List V} {is js : List It}, RIts K F G H vs is → RIts K F G H ws js → RIts K F G H (vs ++ ws) (is ++ js)
  | _, _, _, _, .nil, s => s
  | _, _, _, _, .cons h r, s => .cons h (RIts.append r s)
theorem kids_append {vs ws : List V} {is js : List It} (h : vs.length = is.length) : kids (vs ++ ws) (is ++ js) = kids vs is ++ kids ws js := by
  induction vs generalizing is with
  | nil =>
    cases is with
    | nil => rfl
    | cons _ _ => simp at h
  | cons v vs ih =>
    cases is with
    | nil => simp at h
    | cons i is =>
      have h2 : vs.length = is.length := by simpa using h
      cases i with
      | d d => rw [List.cons_append, List.cons_append, kids_d, kids_d, ih h2]
      | o o =>
        cases v with
        | ref q => rw [List.cons_append, List.cons_append, kids_o, kids_o, ih h2]; rfl
        | _ =>
          have e : ∀ (w : V) (l : List V) (k : List It), (∀ q, w ≠ .ref q) → kids (w :: l) (.o o :: k) = kids l k := fun w l k hw => by cases w <;> first | rfl | exact absurd rfl (hw _)
          rw [List.cons_append, List.cons_append, e _ _ _ (fun _ z => by cases z), e _ _ _ (fun _ z => by cases z), ih h2]
end
section
variable {c : Cc ι} {ρ : List S} {Φ : ι → S → Prop} {te : TE} {tt : TT} {wi : TI} {g : TG} {vs : List Nat}
theorem de_lcN (h : DI c m wi ρ fun m ds => ds.length < 1000000 ∧ ∃ J : Nat → ι → List O1 → Prop, J 0 m [] ∧
    (∀ i d m acc, ds[i]? = some d → J i m acc → ∃ ρ', DG c m g vs d (wipeS ρ vs) ρ' ∧ De c m te ρ' fun m s => ∃ o, s = .own (.one o) ∧ J (i + 1) m (acc ++ [o])) ∧
    ∀ m acc, J ds.length m acc → Φ m (.own (.nest (acc.map It.o)))) (hw : noEls vs ρ = true := by with_unfolding_all rfl) : De c m (tLc wi g tYes te vs) ρ Φ := fun σ G H e Q q => h σ G H e _ fun I ds m1 G1 H1 g1 it ⟨hl, J, j0, jt, jd⟩ => fun Dd hD => by
  have e1 := e.grow g1
  have mD : ¬ c.W.M Dd := fun m => c.W.ne e1.ok.inv m hD
  have gD : G1 Dd = none := fresh_back e1.ok.ex hD
  let W : Nat → Nat → Hp → Prop := fun i m H2 => m = ds.length - i ∧ i ≤ ds.length ∧ ∃ m2 G2 xs acc, Grow c.W G1 H1 m2 G2 H2 ∧ H2 Dd = some (.lst xs) ∧ G2 Dd = none ∧ RIts c.K (Fr c.W H1 G2) G2 H2 xs (acc.map It.o) ∧ (Dd :: kids xs (acc.map It.o)).Nodup ∧ acc.length ≤ i ∧ J i m2 acc
  refine ⟨W, ⟨ds.length, by simp, Nat.zero_le _, m1, G1, [], [], (e1.refl).mut hD gD mD, upd_same, gD, .nil, by simp [kids], Nat.le_refl _, j0⟩, ?_⟩
  rintro i m H2 ⟨em, hi, m2, G2, xs, acc, g2, hx, hn, rx, nd, ha, j⟩
  have e2 := e1.grow g2
  obtain ⟨ih1, ih2⟩ := it m2 G2 H2 g2.ex e2.ok i
  by_cases hlt : i < ds.length
  · right
    have hd : ds[i]? = some ds[i] := by simp [hlt]
    obtain ⟨go, yl⟩ := ih1 _ hd
    refine ⟨go, W (i + 1) (m - 1), fun H' w => ⟨m - 1, by omega, w⟩, fun x H' y => ?_⟩
    obtain ⟨G3, g3, r3⟩ := yl x H' y
    obtain ⟨ρ', dg, ht⟩ := jt i _ m2 acc hd j
    have e3 := (e2.grow g3).wipe vs hw
    refine dg x _ G3 H' e3 r3 _ fun σ' f4 hw' => ⟨hw'.trans (wipe_wipe σ vs), ?_⟩
    have e4 := f4 _ _ _ (Ex.refl _) e3
    dsimp only [tYes]
    rw [if_pos rfl]
    refine ht σ' G3 H' e4 _ fun v s m5 G5 H5 g5 r5 ⟨o, es, j'⟩ => ?_
    subst es
    obtain ⟨p, rfl, fp, ob⟩ := r5
    have g35 := g3.trans g5
    have k1 : H5 Dd = some (.lst xs) := g35.keep _ _ mD hx
    have k2 : G5 Dd = none := g35.fresh _ _ hx rfl hn
    have rk := rx.monoA g35.ex (F' := Fr c.W H1 G5) (H' := H5) fun a ha => by
      obtain ⟨f, u, hu, t⟩ := rx.kid ha
      exact g35.fr a f ⟨u, hu, pln_t t⟩
    have new : ∀ a, H' a ≠ none → a ≠ p := fun a ha z => ha (by rw [z]; exact fp.1)
    have pD : Dd ≠ p := new Dd (by rw [g3.keep _ _ mD hx]; exact fun z => by cases z)
    have pk : p ∉ kids xs (acc.map It.o) := fun z => by
      obtain ⟨f, u, hu, t⟩ := rx.kid z
      exact new p (by rw [(g3.fr p f ⟨u, hu, pln_t t⟩).1, hu]; exact fun z => by cases z) rfl
    have p1 : H1 p = none := (g2.trans g3).back fp.1
    have len := rx.length
    rw [List.length_map] at len
    obtain ⟨n1, n2⟩ := List.nodup_cons.mp nd
    have ndk : (kids xs (acc.map It.o) ++ kids [V.ref p] [It.o o]).Nodup := by
      rw [List.nodup_append]
      refine ⟨n2, by simp [kids], fun a ha b hb z => ?_⟩
      simp [kids] at hb
      exact pk (by rw [← hb, ← z]; exact ha)
    have up : RIts c.K (Fr c.W H1 G5) G5 (upd H5 Dd (.lst (xs ++ [V.ref p]))) (xs ++ [V.ref p]) ((acc ++ [o]).map It.o) := by
      rw [List.map_append]
      refine RIts.append (rk.monoA (Ex.refl _) fun a ha => ⟨upd_ne fun z => n1 (by rw [← z]; exact ha), (rk.kid ha).1⟩) (.cons ⟨p, rfl, ⟨p1, fp.2⟩, ob.mono (Ex.refl _) (upd_ne (Ne.symm pD))⟩ .nil)
    refine ⟨xs, k1, szl (by omega), by omega, hlt, m5, G5, xs ++ [V.ref p], acc ++ [o], (g2.trans g35).mut hD k2 mD, upd_same, k2, up, ?_, by rw [List.length_append]; show acc.length + 1 ≤ i + 1; omega, j'⟩
    rw [List.map_append, kids_append (by rw [List.length_map]; exact len)]
    refine List.nodup_cons.mpr ⟨fun z => ?_, ndk⟩
    rcases List.mem_append.mp z with z | z
    · exact n1 z
    · simp [kids] at z; exact pD z
  · left
    have hl2 : i = ds.length := by omega
    refine ⟨ih2 hl2, ?_⟩
    subst hl2
    refine q (.ref Dd) (.own (.nest (acc.map It.o))) m2 G2 H2 (g1.trans g2) ⟨Dd, rfl, ⟨g1.back hD, hn, mD⟩, xs, hx, rx.monoA (Ex.refl _) fun a ha => ⟨rfl, ?_⟩, nd⟩ (jd m2 acc j)
    obtain ⟨f, _⟩ := rx.kid ha
    exact ⟨g1.back f.1, f.2⟩
/-- [f x for x in ..], each f x a new own thing -/
theorem de_lcNM {f : D → O1} (h : DI c m wi ρ fun m ds => ds.length < 1000000 ∧ (∀ d ∈ ds, ∃ ρ', DG c m g vs d (wipeS ρ vs) ρ' ∧ De c m te ρ' fun m' s => m' = m ∧ s = .own (.one (f d))) ∧ Φ m (.own (.nest (ds.map fun d => It.o (f d))))) (hw : noEls vs ρ = true := by with_unfolding_all rfl) : De c m (tLc wi g tYes te vs) ρ Φ :=
  de_lcN (h.imp fun m ds ⟨hl, h1, h2⟩ => ⟨hl, fun i m2 acc => m2 = m ∧ acc = (ds.take i).map f, by simp, fun i d m2 acc hd ⟨em, ha⟩ => by
    subst em
    obtain ⟨ρ', h3, h4⟩ := h1 d (List.mem_of_getElem? hd)
    refine ⟨ρ', h3, h4.imp fun m3 s ⟨em, hs⟩ => ⟨f d, hs, em, ?_⟩⟩
    rw [ha, List.take_add_one, hd]
    simp, fun m2 acc ⟨em, ha⟩ => by rw [em, ha, List.take_length, List.map_map]; exact h2⟩) hw
end
end DL
set_option Elab.async false
set_option linter.all false
set_option maxRecDepth 100000
set_option maxHeartbeats 1000000
/-! plain mathematics: binomials -/
namespace KM
def ch : Nat → Nat → Nat
  | _, 0 => 1
  | 0, _ + 1 => 0
  | n + 1, k + 1 => ch n k + ch n (k + 1)
@[simp] theorem ch_zero (n : Nat) : ch n 0 = 1 := by cases n <;> rfl
@[simp] theorem ch_zs (k : Nat) : ch 0 (k + 1) = 0 := rfl
theorem ch_ss (n k : Nat) : ch (n + 1) (k + 1) = ch n k + ch n (k + 1) := rfl
theorem succ_mul : ∀ n k : Nat, (n + 1) * ch n k = ch (n + 1) (k + 1) * (k + 1)
  | 0, 0 => rfl
  | 0, k + 1 => by simp [ch_ss]
  | n + 1, 0 => by
    have h := succ_mul n 0
    rw [ch_zero] at h
    rw [ch_zero, ch_ss (n + 1) 0, ch_zero]
    omega
  | n + 1, k + 1 => by
    have h1 := succ_mul n k
    have h2 := succ_mul n (k + 1)
    rw [ch_ss (n + 1) (k + 1), Nat.add_mul (ch (n + 1) (k + 1)), ← h2]
    have e : ch (n + 1) (k + 1) * (k + 1 + 1) = ch (n + 1) (k + 1) * (k + 1) + ch (n + 1) (k + 1) := Nat.mul_succ _ _
    rw [e, ← h1]
    have e2 : (n + 1 + 1) * ch (n + 1) (k + 1) = (n + 1) * ch (n + 1) (k + 1) + ch (n + 1) (k + 1) := Nat.succ_mul _ _
    rw [e2, ch_ss n k, Nat.mul_add]
    omega
end KM
/-! the dues come to all teams -/
namespace KM
def G : Nat → (Nat → Nat) → Nat
  | 0, f => f 0
  | n + 1, f => G n f + G n fun j => f (j + 1)
def rs (s : Nat) (g : Nat → Nat) : Nat → Nat
  | 0 => 0
  | k + 1 => rs s g k + ch s k * g k
end KM
set_option Elab.async false
set_option linter.all false
set_option maxRecDepth 100000
set_option maxHeartbeats 1000000
namespace Pf
open PySem PySem.Spec PyProof.Rows L2 DL
abbrev FnP (K : PySem.W.Frag) (x : Str) (st : Stmt) (f : Addr) (fd : FuncData) : Prop := FunD K x x (defArgs st) (defBody st) (defScope st) [] [] f fd
structure BI (mg : Str → Option Value) : Prop where
  len : mg "len" = none
  isinstance : mg "isinstance" = none
  int_ : mg "int" = none
  bool_ : mg "bool" = none
  list_ : mg "list" = none
  tuple_ : mg "tuple" = none
  dict_ : mg "dict" = none
  range : mg "range" = none
  max : mg "max" = none
  min : mg "min" = none
  sum : mg "sum" = none
  all : mg "all" = none
  any : mg "any" = none
  sorted : mg "sorted" = none
  zip : mg "zip" = none
  enumerate : mg "enumerate" = none
  str_ : mg "str" = none
  set_ : mg "set" = none
  repr : mg "repr" = none
  reversed : mg "reversed" = none
theorem spF_len {K : PySem.W.Frag} {C : Fc} {m : Nat} (h : ∀ κ W m' ss Φ Ξ, C κ W m' ss Φ Ξ → ss.length = m) (vs : List V) (H : Hp) (Q : VK) (E : XK) (q : spF K C vs H Q E) : vs.length = m := by
  obtain ⟨κ, W, m', G, ss, Φ, Ξ, _, rs, _, c, _⟩ := q
  rw [rs.length]
  exact h κ W m' ss Φ Ξ c
theorem rng_at {lo : Int} {n i : Nat} {d : D} (h : (rngD lo n)[i]? = some d) : i < n ∧ d = .int (lo + (i : Nat)) := by
  have hi : i < n := by
    have := (List.getElem?_eq_some_iff.mp h).1
    simpa [rngD] using this
  refine ⟨hi, ?_⟩
  unfold rngD at h
  rw [List.getElem?_map, List.getElem?_range hi] at h
  exact (Option.some.inj h).symm
theorem rng_len {lo : Int} {n : Nat} : (rngD lo n).length = n := by simp [rngD]
end Pf
set_option Elab.async false
set_option linter.all false
set_option maxRecDepth 100000
set_option maxHeartbeats 1000000
namespace Pf
open PySem PySem.Spec PyProof.Rows L2 DL
/-! ### lists of numbers as data -/
/-! ### games -/
/-- how often a team of t people plays -/
def gv (gs : List (Nat × Nat)) (t : Nat) : Option Nat := (gs.find? fun p => decide (p.1 = t)).map (·.2)
end Pf
set_option Elab.async false
set_option linter.all false
set_option maxRecDepth 100000
set_option maxHeartbeats 1000000
set_option Elab.async false
set_option linter.all false
set_option maxRecDepth 100000
set_option maxHeartbeats 1000000
set_option Elab.async false
set_option linter.all false
namespace Pf
open PySem PySem.Spec PyProof.Rows L2 DL
def top (i : Nat) : Stmt := PySem.Challenge.pw_allteams_k18_shares_dealt.main.body.getD i (.Pass ⟨0, 0, 0, 0⟩)
end Pf
set_option Elab.async false
set_option linter.all false
set_option maxRecDepth 100000
set_option maxHeartbeats 1000000
namespace DL
open PySem PySem.Spec PyProof.Rows L2 Evl
/-! ### sorted of data -/
end DL
set_option Elab.async false
set_option linter.all false
set_option maxRecDepth 100000
set_option maxHeartbeats 1000000
namespace DL
open PySem PySem.Spec PyProof.Rows L2 Evl
/-! ### instances: an instance under __init__ is in the world's state; afterwards it is data -/
def InsOk (K : PySem.W.Frag) (a dx C : Addr) (fs : List (Str × D)) (G H : Hp) : Prop := H dx = some (.own a) ∧ ∃ fv, H a = some (.ins C dx fv) ∧ fv.map (·.1) = fs.map (·.1) ∧ RpL K G (fv.map (·.2)) (fs.map (·.2))
theorem lookup_none {α β : Type} {f : Str} : ∀ {fv : List (Str × α)} {fs : List (Str × β)}, fv.map (·.1) = fs.map (·.1) → fs.lookup f = none → fv.lookup f = none
  | [], [], _, _ => rfl
  | [], _ :: _, k, _ => by cases k
  | _ :: _, [], k, _ => by cases k
  | (g, x) :: fv, (g', y) :: fs, k, h => by
    simp only [List.map_cons, List.cons.injEq] at k
    obtain ⟨k1, k2⟩ := k
    subst k1
    rw [List.lookup_cons] at h ⊢
    cases e : (f == g) with
    | true => rw [e] at h; cases h
    | false => rw [e] at h; exact lookup_none k2 h
/-- the world has an instance of C at a -/
structure Ins (K : PySem.W.Frag) {ι : Type} (W : Wd ι) (a C : Addr) where
  get : ι → List (Str × D)
  put : ι → List (Str × D) → ι
  mem : W.M a
  out : ∀ m G H, W.I m G H → ∃ dx, InsOk K a dx C (get m) G H
  upd : ∀ m G H H' fs dx, W.I m G H → InsOk K a dx C (get m) G H → (∀ x, x ≠ a → H' x = H x) → InsOk K a dx C fs G H' → W.I (put m fs) G H'
  gp : ∀ m fs, get (put m fs) = fs
  pp : ∀ m fs fs', put (put m fs) fs' = put m fs'
def Ins.lk {κ : Type} {K : PySem.W.Frag} {Vd : Wd κ} {a C : Addr} (L : Ins K Vd a C) (d : Addr) : Ins K (lockW Vd d) a C := ⟨L.get, L.put, L.mem, L.out, L.upd, L.gp, L.pp⟩
section
variable {ι : Type} {c : Cc ι} {ρ : List S} {m : ι} {ta tv : TE} {N B C' : ι → List S → Prop} {R : ι → S → Prop} {Φ : ι → S → Prop} {a C : Addr} {f : Str}
/-- e.f, a property -/
theorem de_prop {F : Fc} (h : De c m ta ρ fun m' s => ∃ fs, s.frz = .dat (.ins C fs) ∧ F ι c.W m' [.dat (.ins C fs)] Φ fun _ _ _ => False) : De c m (tProp C (spF c.K F) [] E0 ta) ρ Φ := fun σ G H e Q q =>
  h σ G H e _ fun v s m1 G1 H1 g r ⟨fs, hs, hF⟩ => by
    obtain ⟨G2, g2, r2, x2⟩ := r.freezeX g
    rw [hs] at r2
    have r2 : Rp c.K G2 v (.ins C fs) := r2
    have r3 := r2
    cases r2 with
    | @ins a dx _ fv _ e1 e2 k rs =>
      refine ⟨a, dx, fv, rfl, g2.sub _ _ e1, ?_⟩
      exact ⟨ι, c.W, m1, G2, _, Φ, _, (e.grow g2).ok, .cons (s := .dat (.ins C fs)) r3 .nil, rfl, hF, fun v s m' G' H' g r p => q v s m' G' H' (g2.trans g) (r.back g2) p, fun _ _ _ _ _ _ _ _ _ _ _ _ _ z => z.elim⟩
theorem hE_0 : ∀ σ G H m, EnvOk c m G H σ ρ → ExcQ c.K c.W G H (fun _ _ _ => False) E0 := fun _ _ _ _ _ _ _ _ _ _ _ _ _ _ _ _ _ _ z => z.elim
end
end DL
set_option Elab.async false
set_option linter.all false
set_option maxRecDepth 100000
set_option maxHeartbeats 1000000
namespace DL
open PySem PySem.Spec PyProof.Rows L2 Evl
section
variable {ι : Type} {c : Cc ι} {ρ : List S} {m : ι} {ta tb te : TE} {tr : TA} {Φ : ι → S → Prop} {K : PySem.W.Frag} {W : Wd ι}
/-! ### list(range(..)) -/
theorem rp_rg {K : PySem.W.Frag} {G : Hp} (a b : Int) : RpL K G (rgV a b) (rngD a (b - a).toNat) := by
  unfold rgV rngD
  have : ∀ l : List Nat, RpL K G (l.map fun i => V.int (a + (i : Nat))) (l.map fun i => D.int (a + (i : Nat))) := fun l => by
    induction l with
    | nil => exact .nil
    | cons x l ih => exact .cons (.int _) ih
  exact this _
theorem own_new {c : Cc ι} {m1 : ι} {G H G1 H1 : Hp} {p : Addr} {xs : List V} {ds : List D} (g1 : Grow c.W G H m1 G1 H1) (ok1 : Ok c.W m1 G1 H1) (hp : H1 p = none) (r : RpL c.K G1 xs ds) : Grow c.W G H m1 G1 (upd H1 p (.lst xs)) ∧ RelS c.K c.W H G1 (upd H1 p (.lst xs)) (.ref p) (.own (.lst ds)) :=
  ⟨g1.trans (Grow.new ok1 hp), p, rfl, ⟨g1.back hp, fresh_back ok1.ex hp, fun z => c.W.ne ok1.inv z hp⟩, xs, upd_same, r⟩
theorem de_lstRg1 (h : De c m ta ρ fun m s => ∃ n : Int, s = .dat (.int n) ∧ RgOk 0 n ∧ Φ m (.own (.lst (rngD 0 n.toNat)))) : De c m (tLstRg (tRg1 ta)) ρ Φ := fun σ G H e Q q => h σ G H e _ fun v s m1 G1 H1 g1 r1 ⟨n, es, ok, p⟩ => by
  subst es
  cases r1
  refine ⟨n, rfl, ok, fun a ha => ?_⟩
  obtain ⟨g2, r2⟩ := own_new (c := c) g1 (e.grow g1).ok ha (rp_rg (K := c.K) 0 n)
  refine q _ _ m1 G1 _ g2 r2 ?_
  rw [Int.sub_zero]; exact p
theorem de_lstRg2 (h : De c m ta ρ fun m s => De c m tb ρ fun m s2 => ∃ l n : Int, s = .dat (.int l) ∧ s2 = .dat (.int n) ∧ RgOk l n ∧ Φ m (.own (.lst (rngD l (n - l).toNat)))) : De c m (tLstRg (tRg2 ta tb)) ρ Φ := fun σ G H e Q q => h σ G H e _ fun v s m1 G1 H1 g1 r1 h2 => h2 σ G1 H1 (e.grow g1) _ fun v2 s2 m2 G2 H2 g2 r2 ⟨l, n, e1, e2, ok, p⟩ => by
  subst e1 e2
  cases r1
  cases r2
  refine ⟨l, n, rfl, rfl, ok, fun a ha => ?_⟩
  obtain ⟨g3, r3⟩ := own_new (c := c) (g1.trans g2) (e.grow (g1.trans g2)).ok ha (rp_rg (K := c.K) l n)
  exact q _ _ m2 G2 _ g3 r3 p
/-! ### xs[::-1] -/
theorem de_revL (h : De c m te ρ fun m s => ∃ ds, s.lst? = some ds ∧ Φ m (.own (.lst ds.reverse))) : De c m (tRevL c.K te) ρ Φ := fun σ G H e Q q => h σ G H e _ fun v s m1 G1 H1 g1 r1 ⟨ds, hs, p⟩ => by
  obtain ⟨a, xs, rfl, h1, h2⟩ := r1.lstV (e.grow g1).ok hs
  refine ⟨a, xs, rfl, h1, fun b hb => ?_⟩
  obtain ⟨g2, r2⟩ := own_new (c := c) g1 (e.grow g1).ok hb h2.reverse
  exact q _ _ m1 G1 _ g2 r2 p
/-! ### enumerate -/
def enumD (ds : List D) : List D := (List.range ds.length).map fun i => .tup [.int (i : Nat), ds.getD i .non]
theorem enumD_len (ds : List D) : (enumD ds).length = ds.length := by simp [enumD]
theorem enumD_at {ds : List D} {i : Nat} {d : D} (h : (enumD ds)[i]? = some d) : ∃ x, ds[i]? = some x ∧ d = .tup [.int (i : Nat), x] := by
  have hi : i < ds.length := by have := (List.getElem?_eq_some_iff.mp h).1; rwa [enumD_len] at this
  unfold enumD at h
  rw [List.getElem?_map, List.getElem?_range hi] at h
  refine ⟨ds[i], by simp [hi], ?_⟩
  have := (Option.some.inj h).symm
  rw [this]
  simp [List.getD, hi]
theorem itd_enum {G1 : Hp} {a : Addr} {xs : List V} {ds : List D} (h : SqL K G1 a xs) (r : RpL K G1 xs ds) : ItD K W G1 (Ite K a) (enumD ds) := fun m G H e ok i => by
  have hx : SqL K H a xs := ex_l (e.trans ok.ex) h
  refine ⟨fun d hd => ?_, fun hl => ⟨xs, hx, by rw [r.length]; rw [enumD_len] at hl; exact Nat.le_of_eq hl.symm⟩⟩
  obtain ⟨x, hx2, rfl⟩ := enumD_at hd
  obtain ⟨v, hv, rv⟩ := r.getD hx2
  refine ⟨⟨xs, v, hx, hv⟩, fun y H' ⟨T, z, ey, hT, eH, hz⟩ => ?_⟩
  have e2 := hz xs hx
  rw [hv] at e2
  cases e2
  subst ey eH
  have gT : G T = none := fresh_back ok.ex hT
  exact ⟨upd G T (.tup [.int (i : Nat), v]), Grow.newD ok hT (fun _ _ z => by cases z), .tup upd_same (.cons (.int _) (.cons ((rv.mono e).mono (Ex.new gT)) .nil))⟩
theorem di_enum {Ψ : ι → List D → Prop} (h : De c m te ρ fun m s => ∃ ds, s.frz.dlst? = some ds ∧ Ψ m (enumD ds)) : DI c m (iEnum c.K (tCons te tNil)) ρ Ψ := fun σ G H e R q => h σ G H e _ fun v s m1 G1 H1 g1 r1 ⟨ds, hs, p⟩ => by
  obtain ⟨G2, g2, r2, x2⟩ := r1.freezeX g1
  obtain ⟨a, xs, rfl, h1, h2⟩ := r2.dlst hs
  exact ⟨a, xs, rfl, ex_l g2.sub h1, q _ _ m1 G2 H1 g2 (itd_enum h1 h2) p⟩
/-! ### min, max of a list of numbers -/
/-! ### the truth of a list, a tuple, a number -/
def S.tru? : S → Option Bool
  | .dat (.int i) => some (i != 0)
  | .dat (.lst ds) => some (!ds.isEmpty)
  | .dat (.tup ds) => some (!ds.isEmpty)
  | .own (.one (.lst ds)) => some (!ds.isEmpty)
  | .vw (.one (.lst ds)) => some (!ds.isEmpty)
  | _ => none
theorem rpl_empty {G : Hp} {xs : List V} {ds : List D} (r : RpL K G xs ds) : xs.isEmpty = ds.isEmpty := by cases r <;> rfl
theorem RelS.tru {H0 G H : Hp} {v : V} {s : S} {b : Bool} (ok : Ok W m G H) (r : RelS K W H0 G H v s) (h : s.tru? = some b) : TruV K v H b := by
  have key : ∀ ds, s.lst? = some ds → b = (!ds.isEmpty) → TruV K v H b := fun ds h1 h2 => by
    obtain ⟨a, xs, rfl, h3, h4⟩ := r.lstV ok h1
    exact .inl ⟨xs, h3, by rw [h2, rpl_empty h4]⟩
  cases s with
  | dat d =>
    cases d with
    | int i => cases r; cases h; rfl
    | lst ds => cases h; exact key ds rfl rfl
    | tup ds =>
      cases h
      obtain ⟨a, xs, rfl, h3, h4⟩ := r.tupV (ds := ds) ok rfl
      exact .inr (.inl ⟨xs, h3, by rw [rpl_empty h4]⟩)
    | _ => cases h
  | own o =>
    cases o with
    | one o =>
      cases o with
      | lst ds => cases h; exact key ds rfl rfl
      | _ => cases h
    | _ => cases h
  | vw o =>
    cases o with
    | one o =>
      cases o with
      | lst ds => cases h; exact key ds rfl rfl
      | _ => cases h
    | _ => cases h
  | _ => cases h
theorem dt_tru {Ψ : ι → Bool → Prop} (h : De c m te ρ fun m s => ∃ b, s.tru? = some b ∧ Ψ m b) : DT c m (fun σ H Q => te σ H fun x H' => ∃ k, TruV c.K x H' k ∧ Q k H') ρ Ψ := fun σ G H e Q q => h σ G H e _ fun v s m1 G1 H1 g1 r1 ⟨b, hs, p⟩ =>
  ⟨b, r1.tru (e.grow g1).ok hs, q b m1 G1 H1 g1 p⟩
/-! ### list.count, list.index of numbers -/
def rCountI (K : PySem.W.Frag) : V → List V → Hp → VK → Prop := fun x xs H Q => ∃ (a : Addr) (ns : List Int) (k : Int), x = V.ref a ∧ xs = [V.int k] ∧ SqL K H a (ns.map V.int) ∧ Q (.int (ns.count k : Nat)) H
theorem tyL {H0 G H : Hp} {v : V} {s : S} {ds : List D} (ok : Ok W m G H) (r : RelS K W H0 G H v s) (h : s.lst? = some ds) : tyV K "list" v H := by
  obtain ⟨a, xs, rfl, h3, h4⟩ := r.lstV ok h
  exact .inl ⟨rfl, xs, h3⟩
theorem de_count (h : De c m te ρ fun m s => ∃ ns : List Int, s.lst? = some (ns.map D.int) ∧ De c m ta ρ fun m s2 => ∃ k : Int, s2 = .dat (.int k) ∧ Φ m (.dat (.int (ns.count k : Nat)))) : De c m (tBM c.K "list" (rCountI c.K) te (tCons ta tNil)) ρ Φ := fun σ G H e Q q => h σ G H e _ fun v s m1 G1 H1 g1 r1 ⟨ns, hs, h2⟩ => by
  refine ⟨tyL (e.grow g1).ok r1 hs, h2 σ G1 H1 (e.grow g1) _ fun v2 s2 m2 G2 H2 g2 r2 ⟨k, e2, p⟩ => ?_⟩
  subst e2
  cases r2
  have e2 := (e.grow g1).grow g2
  obtain ⟨a, xs, rfl, h3, h4⟩ := (r1.grow g2).lstV e2.ok hs
  exact ⟨a, ns, k, rfl, rfl, by rw [← h4.ints]; exact h3, q _ (.dat (.int _)) m2 G2 H2 (g1.trans g2) (Rp.int _) p⟩
theorem de_index (h : De c m te ρ fun m s => ∃ ns : List Int, s.lst? = some (ns.map D.int) ∧ De c m ta ρ fun m s2 => ∃ (k : Int) (j : Nat), s2 = .dat (.int k) ∧ ns[j]? = some k ∧ (∀ i, i < j → ns[i]? ≠ some k) ∧ Φ m (.dat (.int (j : Nat)))) : De c m (tBM c.K "list" (rIndex c.K) te (tCons ta tNil)) ρ Φ := fun σ G H e Q q => h σ G H e _ fun v s m1 G1 H1 g1 r1 ⟨ns, hs, h2⟩ => by
  refine ⟨tyL (e.grow g1).ok r1 hs, h2 σ G1 H1 (e.grow g1) _ fun v2 s2 m2 G2 H2 g2 r2 ⟨k, j, e2, hj, hn, p⟩ => ?_⟩
  subst e2
  cases r2
  have e2 := (e.grow g1).grow g2
  obtain ⟨a, xs, rfl, h3, h4⟩ := (r1.grow g2).lstV e2.ok hs
  refine ⟨a, ns.map V.int, .int k, j, .int k, rfl, rfl, by rw [← h4.ints]; exact h3, rfl, by simp [List.all_map, flatV], by simp [hj], by simp [eqV], fun i z hi hz => ?_, q _ (.dat (.int _)) m2 G2 H2 (g1.trans g2) (Rp.int _) p⟩
  rw [List.getElem?_map] at hz
  cases hx : ns[i]? with
  | none => rw [hx] at hz; cases hz
  | some y =>
    rw [hx] at hz
    cases hz
    have : y ≠ k := fun w => hn i hi (by rw [hx, w])
    simp [eqV, this]
section
variable {X : Cx} {o e : Expr} {es : List Expr} {t : TA} {to : TE} {apos cpos : Pos}
theorem k_revL {e : Expr} {te : TE} {k : Nat} {p1 p2 p3 pos : Pos} (hK : X.K = K) (he : PE X e te) : PE X (.Subscript e (.Slice none none (some (.UnaryOp .USub (.Constant (.int 1) k p1) p2)) p3) pos) (tRevL K te) := by subst hK; exact pe_revL he
theorem k_enum {e : Expr} {ta : TA} {p pos tpos : Pos} {elts : List Expr} {kk : Nat} (hK : X.K = K) (hg : Gl X "enumerate") (hm : X.mg "enumerate" = none) (ha : PA X [e] ta) (hs : starEach [e] X.env = [(false, eval e X.env)] := by rfl) :
    PI X (.Tuple elts kk tpos) (.Call (.Name "enumerate" p) [e] [] pos) (iEnum K ta) := by subst hK; exact pi_enum hg hm ha hs
end
/-! ### part.append(left.pop(e)) -/
end
end DL
set_option Elab.async false
set_option linter.all false
set_option maxRecDepth 100000
set_option maxHeartbeats 1000000
namespace DL
open PySem PySem.Spec PyProof.Rows L2 Evl
section
variable {ι : Type} {c : Cc ι} {ρ : List S} {m : ι} {Φ : ι → S → Prop} {K : PySem.W.Frag} {W : Wd ι}
theorem eqv_ints : ∀ ns ks : List Int, PyData.eqvAll (ns.map PyData.int) (ks.map PyData.int) = decide (ns = ks)
  | [], [] => by rw [List.map_nil, PyData.eqvAll]; rfl
  | [], _ :: _ => by rw [List.map_nil, List.map_cons, PyData.eqvAll] <;> simp
  | _ :: _, [] => by rw [List.map_nil, List.map_cons, PyData.eqvAll] <;> simp
  | a :: ns, b :: ks => by
    rw [List.map_cons, List.map_cons, PyData.eqvAll, eqv_ints ns ks, PyData.eqv]
    by_cases h : a = b
    · subst h; simp
    · simp [h]
theorem pys_ints : ∀ ns : List Int, D.pys (ns.map D.int) = some (ns.map PyData.int)
  | [] => by rw [List.map_nil, D.pys]; rfl
  | a :: ns => by rw [List.map_cons, D.pys, pys_ints ns, D.py]; rfl
theorem py_ints (ns : List Int) : (D.lst (ns.map D.int)).py = some (.list (ns.map PyData.int)) := by rw [D.py, pys_ints]; rfl
theorem ok_ints (ns : List Int) : PyOk 64 (.list (ns.map PyData.int)) := by
  obtain ⟨a, b, c⟩ := ints_ok ns
  exact ⟨by rw [PyData.canLay0]; exact a, by rw [PyData.depth, b]; omega, by rw [PyData.eqv]; exact c⟩
theorem ops_eqInts {s1 s2 : S} {ns ks : List Int} (h1 : s1.view = some (.lst (ns.map D.int))) (h2 : s2.view = some (.lst (ks.map D.int))) (h : Φ m (.dat (.bl (decide (ns = ks))))) : OpS K W m (rEqD K) s1 s2 Φ := by
  refine ops_eqD h1 h2 (py_ints ns) (py_ints ks) ((ok_ints ns).shaped (by omega)) ((ok_ints ks).shaped (by omega)) ?_
  rw [PyData.eqv, eqv_ints]; exact h
end
end DL
set_option Elab.async false
set_option linter.all false
set_option maxRecDepth 100000
set_option maxHeartbeats 1000000
namespace DL
open PySem PySem.Spec PyProof.Rows L2 Evl
/-! ### classes of one's own -/
/-- the class at C, under the name x, with the attributes fs of its instances -/
structure Ci (K : PySem.W.Frag) (C : Addr) (fs : List Str) : Prop where
  cl : Cls K C
  no : ∀ f ∈ fs, NoAttr K C f
section
variable {X : Cx} {K : PySem.W.Frag} {C : Addr} {k j : Nat} {x : Str} {ps : List Str} {F : Fc} {e : Expr} {es : List Expr} {ta : TE} {t : TA} {p pos pos' : Pos} {f : Str} {o value : Expr} {tv : TE}
theorem k_fld (hK : X.K = K) (he : PE X e ta) (hb : attributeBase e f X.env (eval e X.env) = eval e X.env := by rfl) : PE X (.Attribute e f pos) (tFld K ta f) := by subst hK; exact pe_fld he hb
theorem k_sfld (hK : X.K = K) (ha : PE X o ta) (hv : PE X value tv) (hs : swapsWith value (some (.Attribute o f pos')) pos.line X.env = pure false := by rfl) : PS X (.Assign [.Attribute o f pos'] value pos) (sFld K ta tv f) := by subst hK; exact ps_fld ha hv hs
end
end DL
set_option Elab.async false
set_option linter.all false
set_option maxRecDepth 100000
set_option maxHeartbeats 1000000
namespace DL
open PySem PySem.Spec PyProof.Rows L2 Evl
end DL
set_option Elab.async false
set_option linter.all false
set_option maxRecDepth 100000
set_option maxHeartbeats 1000000
namespace DL
open PySem PySem.Spec PyProof.Rows L2 Evl PySem.Calls
end DL
set_option Elab.async false
set_option linter.all false
set_option maxRecDepth 100000
set_option maxHeartbeats 1000000
namespace DL
open PySem PySem.Spec PyProof.Rows L2 Evl PySem.Calls
section
variable {X : Cx} {K : PySem.W.Frag}
theorem k_inS (hK : X.K = K) : OpR X (compareOp .In) (rIn K false) := by subst hK; exact op_in_seq
theorem inV_ints (i : Int) (ns : List Int) : inV (.int i) (ns.map V.int) = ns.any fun a => decide (a = i) := by
  unfold inV
  rw [List.any_map]
  congr 1
theorem flat_ints (ns : List Int) : (ns.map V.int).all flatV = true := by
  rw [List.all_map]
  exact List.all_eq_true.mpr fun _ _ => rfl
end
section
variable {ι : Type} {K : PySem.W.Frag} {W : Wd ι} {m : ι} {Φ : ι → S → Prop}
theorem ops_inI {s : S} {i : Int} {ns : List Int} (h1 : s.lst? = some (ns.map D.int) ∨ s.tup? = some (ns.map D.int)) (h : Φ m (.dat (.bl (ns.any fun a => decide (a = i))))) : OpS K W m (rIn K false) (.dat (.int i)) s Φ := fun H0 G H v1 v2 ok r1 r2 Q q => by
  cases r1
  have fin : ∀ p xs, xs = ns.map V.int → (SqL K H p xs ∨ SqT K H p xs) → rIn K false (.int i) (.ref p) H Q := fun p xs e hs => by
    refine ⟨p, xs, rfl, hs, rfl, by rw [e]; exact flat_ints ns, ?_⟩
    rw [e, inV_ints]
    exact q _ (.dat (.bl _)) m G H ok.refl (Rp.bl _) h
  rcases h1 with h1 | h1
  · obtain ⟨p, xs, rfl, a, b⟩ := r2.lstV ok h1
    exact fin p xs b.ints (.inl a)
  · obtain ⟨p, xs, rfl, a, b⟩ := r2.tupV ok h1
    exact fin p xs b.ints (.inr a)
end
end DL
set_option Elab.async false
set_option linter.all false
set_option maxRecDepth 100000
set_option maxHeartbeats 1000000
namespace DL
open PySem PySem.Spec PyProof.Rows L2
/-! ### the head's facts with properties -/
section
variable {K : PySem.W.Frag}
def gAd (K : PySem.W.Frag) (x f : Str) : Addr := match PySem.W.findIn K (.ref (He.ga K x)) f with
  | some (some (.ref q)) => (match PySem.W.recIn K q "property" with
    | some (.ref g :: _) => g
    | _ => 0)
  | _ => 0
/-- the function that lies at a -/
def gotF (K : PySem.W.Frag) (a : Addr) : Option FuncData := (K.lookup a).bind fun o => match o.data with
  | .func fd => some fd
  | _ => none
theorem gotF_at {a : Addr} {fd : FuncData} (h : gotF K a = some fd) : ∃ c d sl, K.lookup a = some ⟨c, d, .func fd, sl⟩ := by
  unfold gotF at h
  cases q : K.lookup a with
  | none => rw [q] at h; cases h
  | some o =>
    rw [q] at h
    rcases o with ⟨c, d, dt, sl⟩
    cases dt <;> first | (cases h; done) | skip
    cases h
    exact ⟨c, d, sl, rfl⟩
def fnA (K : PySem.W.Frag) (a : Addr) : He.FnW := (gotF K a).map fun z => (z.name, z.qualname, z.params, z.body, z.scope, z.globals, z.closure, z.builtins)
def fnB (K : PySem.W.Frag) (a : Addr) (d : He.DefD) : Bool := PySem.W.keepIn K (.ref a) && (gotF K a).any fun z => PySem.W.codeIn K z.code d.qual && (He.dflB K z.defaults (d.dvs K) && He.kwdB K z.kwdefaults (d.kws K))
theorem fnB_ok {a : Addr} {d : He.DefD} (e : fnA K a = d.val) (c : fnB K a d = true) : ∃ fd, FunD K d.name d.qual d.params d.body d.scope (d.dvs K) (d.kws K) a fd := by
  obtain ⟨kept, tests⟩ := He.ba c
  cases g : gotF K a with
  | none => rw [g] at tests; cases tests
  | some z =>
    obtain ⟨cl, dd, sl, at_⟩ := gotF_at g
    rw [g] at tests
    obtain ⟨t1, t23⟩ := He.ba tests
    obtain ⟨t2, t3⟩ := He.ba t23
    unfold fnA He.DefD.val at e
    rw [g, Option.map_some, Option.some.injEq] at e
    rcases z with ⟨f1, f2, f3, f4, f5, f6, f7, dfl, kwd, y1, y2, y3, cod, y4, f8⟩
    simp only [Prod.mk.injEq] at e
    obtain ⟨rfl, rfl, rfl, rfl, rfl, rfl, rfl, rfl⟩ := e
    exact ⟨_, ⟨cl, dd, dfl, kwd, y1, y2, y3, cod, y4, sl, rfl, at_, t1, He.dflB_ok t2, He.kwdB_ok t3⟩, kept⟩
def propB (K : PySem.W.Frag) (x f : Str) : Bool := match PySem.W.findIn K (.ref (He.ga K x)) f with
  | some (some (.ref q)) => He.eqO (PySem.W.specialIn K (.ref q) "__get__") (some (some (.builtin "property.__get__"))) && (decide (PySem.W.takesIn K (.ref q) = some true) && (match PySem.W.recIn K q "property" with
    | some (.ref _ :: _) => true
    | _ => false))
  | _ => false
/-! a classmethod -/
def isCm (d : He.DefD) : Bool := match d.params.args with
  | a :: _ => a.arg == ("cls" : Str)
  | [] => false
/-- its record, its def -/
def cmQ (K : PySem.W.Frag) (x f : Str) : Addr := match PySem.W.findCls K (.ref (He.ga K x)) (.type "type") f with
  | some (.get _ (.ref q) _ _) => q
  | _ => 0
def cmG (K : PySem.W.Frag) (x f : Str) : Addr := match PySem.W.recIn K (cmQ K x f) "classmethod" with
  | some (.ref g :: _) => g
  | _ => 0
def cmB (K : PySem.W.Frag) (x f : Str) : Bool := PySem.W.readsIn K (He.ga K x) (.type "type") && (He.eqO (PySem.W.specialIn K (.ref (He.ga K x)) "__getattribute__") (some (some (.builtin "type.__getattribute__"))) && ((match PySem.W.findCls K (.ref (He.ga K x)) (.type "type") f with
    | some (.get (.builtin b) (.ref q) .none (.ref D)) => decide (b = "classmethod.__get__") && (decide (q = cmQ K x f) && decide (D = He.ga K x))
    | _ => false) && ((match PySem.W.recIn K (cmQ K x f) "classmethod" with
    | some (.ref _ :: _) => true
    | _ => false) && PySem.W.fnIn K (cmG K x f))))
end
/-- properties and classmethods: class, name, the def -/
abbrev PrD := Str × Str × He.DefD
def pAd (K : PySem.W.Frag) (d : PrD) : Addr := if isCm d.2.2 then cmG K d.1 d.2.1 else gAd K d.1 d.2.1
def pOk (K : PySem.W.Frag) (d : PrD) : Bool := if isCm d.2.2 then cmB K d.1 d.2.1 else propB K d.1 d.2.1
abbrev AlP : Type := He.AlD × (Bool × List He.FnW)
def obsP (fa : List He.Fa) (fn : List He.DefD) (pr : List PrD) (ex : PySem.W.Frag → Bool) (K : PySem.W.Frag) : AlP := (He.obsD fa fn K, ((pr.all fun d => pOk K d && fnB K (pAd K d) d.2.2) && ex K, pr.map fun d => fnA K (pAd K d)))
def valP (fn : List He.DefD) (pr : List PrD) : AlP := (He.valD fn, (true, pr.map fun d => d.2.2.val))
structure SaysP (fa : List He.Fa) (fn : List He.DefD) (pr : List PrD) (ex : PySem.W.Frag → Bool) (K : PySem.W.Frag) : Prop where
  e : obsP fa fn pr ex K = valP fn pr
section
variable {fa : List He.Fa} {fn : List He.DefD} {pr : List PrD} {ex : PySem.W.Frag → Bool} {K : PySem.W.Frag}
theorem SaysP.d (c : SaysP fa fn pr ex K) : He.SaysD fa fn K := congrArg (fun z : AlP => z.1) c.e
theorem SaysP.more (c : SaysP fa fn pr ex K) : ex K = true := (He.ba (show ((pr.all fun d => pOk K d && fnB K (pAd K d) d.2.2) && ex K) = true from congrArg (fun z : AlP => z.2.1) c.e)).2
theorem SaysP.at_ (c : SaysP fa fn pr ex K) (i : Nat) {d : PrD} (h : pr[i]? = some d) : pOk K d = true ∧ ∃ fd, FunD K d.2.2.name d.2.2.qual d.2.2.params d.2.2.body d.2.2.scope (d.2.2.dvs K) (d.2.2.kws K) (pAd K d) fd := by
  have c1 := (He.ba (show ((pr.all fun d => pOk K d && fnB K (pAd K d) d.2.2) && ex K) = true from congrArg (fun z : AlP => z.2.1) c.e)).1
  obtain ⟨b1, b2⟩ := He.ba (List.all_eq_true.mp c1 d (List.mem_of_getElem? h))
  have e : pr.map (fun d => fnA K (pAd K d)) = pr.map fun d => d.2.2.val := congrArg (fun z : AlP => z.2.2) c.e
  have e2 : (pr.map fun d => fnA K (pAd K d))[i]? = (pr.map fun d => d.2.2.val)[i]? := by rw [e]
  rw [List.getElem?_map, List.getElem?_map, h] at e2
  exact ⟨b1, fnB_ok (Option.some.inj e2) b2⟩
end
end DL
set_option Elab.async false
set_option linter.all false
set_option maxRecDepth 100000
set_option maxHeartbeats 1000000
namespace DL
open PySem PySem.Spec PyProof.Rows L2 Evl
section
variable {ι : Type} {c : Cc ι} {m : ι} {ρ : List S} {te ta : TE} {t : TS} {N B C : ι → List S → Prop} {R : ι → S → Prop} {Φ : ι → S → Prop}
/-- an own list without items may take own items -/
theorem ds_nest0 {i : Nat} (hi : ρ[i]? = some (.own (.lst []))) (h : Ds c m t (ρ.set i (.own (.nest []))) N R B C) (hn : noEl i ρ = true := by with_unfolding_all rfl) : Ds c m t ρ N R B C := fun D σ G H e k1 k2 k3 k4 => by
  obtain ⟨p, a, f, xs, hx, rx⟩ := e.own hi
  cases rx
  have ob : OwnAt c.K (Fr c.W c.H0 G) G H p (.nest []) := ⟨f, [], hx, .nil, by simp [kids]⟩
  have e2 : EnvOk c m G H (σ.set i (some (.ref p))) (ρ.set i (.own (.nest []))) := e.set0 (.inr ⟨_, rfl, p, rfl, ob⟩) (fun o q z hq j o' r hj hj1 hj2 x hx1 hx2 => by
    cases z
    cases hq
    have hx1 : x = p := by
      rcases hx1 with z | ⟨vs, _, z⟩
      · exact z
      · rw [show kids vs [] = [] by cases vs with | nil => rfl | cons v vs => cases v <;> rfl] at z
        cases z
    subst hx1
    exact e.sep i j _ _ x r (Ne.symm hj) hi hj1 a hj2 x rfl hx2) hn (fun _ _ z => by cases z) (fun _ z => by cases z)
  have es : σ.set i (some (.ref p)) = σ := by
    apply List.ext_getElem?
    intro j
    rw [List.getElem?_set]
    split
    · rename_i z
      subst z
      split
      · exact a.symm
      · rename_i z
        rw [List.getElem?_eq_none (by omega)]
    · rfl
  rw [es] at e2
  exact h D σ G H e2 k1 k2 k3 k4
/-- found.append(e), e an own thing -/
theorem ds_appN {i : Nat} {its : List It} (hi : ρ[i]? = some (.own (.nest its))) (hl : its.length < 1000000) (h : De c m te ρ fun m s => ∃ o, s = .own (.one o) ∧ N m (ρ.set i (.own (.nest (its ++ [.o o]))))) : Ds c m (tDrop (tBM c.K "list" rAppend (tVar i) (tCons te tNil))) ρ N R B C := fun D σ G H e k1 _ _ _ => by
  obtain ⟨p, a, f, vs, hx, rx, nd⟩ := e.own hi
  refine ⟨_, a, .inl ⟨rfl, vs, SqL.of hx⟩, h σ G H e _ fun v s m' G' H' g r ⟨o, es, hn⟩ => ?_⟩
  subst es
  obtain ⟨q, rfl, fq, ob⟩ := r
  have e2 := e.grow g
  have hx2 := g.keep _ _ f.2.2 hx
  obtain ⟨p', a', f', vs', hx', rx', nd'⟩ := e2.own hi
  rw [a] at a'
  cases a'
  rw [hx2] at hx'
  cases hx'
  have hl2 : vs.length = its.length := rx.length
  have pq : p ≠ q := fun z => by rw [z, fq.1] at hx; cases hx
  have new : ∀ x, H x ≠ none → x ≠ q := fun x hx z => hx (by rw [z]; exact fq.1)
  refine ⟨p, vs, _, rfl, rfl, hx2, szl (by rw [hl2]; exact hl), k1 _ σ _ G' _ hn g.ex ?_⟩
  have kk : kids (vs ++ [V.ref q]) (its ++ [It.o o]) = kids vs its ++ [q] := by rw [kids_append hl2]; rfl
  have ne : ∀ x ∈ kids vs its, x ≠ p := fun x hx z => by
    have := (List.nodup_cons.mp nd').1
    rw [z] at hx
    exact this hx
  have hq : H' q ≠ none := by
    obtain ⟨u, hu, _⟩ := ob.at
    rw [hu]; exact fun z => by cases z
  have nk : q ∉ kids vs its := fun z => by
    obtain ⟨fz, u, hu, _⟩ := rx.kid z
    exact new q (by rw [hu]; exact fun z => by cases z) rfl
  have f0 : Fr c.W c.H0 G' q := ⟨e.gr.back fq.1, fq.2⟩
  have own' : OwnAt c.K (Fr c.W c.H0 G') G' (upd H' p (.lst (vs ++ [V.ref q]))) p (.nest (its ++ [.o o])) := by
    refine ⟨f', _, upd_same, ?_, ?_⟩
    · refine (rx'.monoA (Ex.refl _) (H' := upd H' p (.lst (vs ++ [V.ref q]))) (F' := Fr c.W c.H0 G') fun x hx => ⟨upd_ne (ne x hx), (rx'.kid hx).1⟩).append (.cons ⟨q, rfl, f0, ob.mono (Ex.refl _) (upd_ne (Ne.symm pq))⟩ .nil)
    · rw [kk]
      obtain ⟨n1, n2⟩ := List.nodup_cons.mp nd'
      rw [List.nodup_cons]
      refine ⟨fun z => ?_, ?_⟩
      · rcases List.mem_append.mp z with z | z
        · exact n1 z
        · exact pq (by simpa using z)
      · rw [List.nodup_append]
        exact ⟨n2, by simp, fun x hx y hy z => by simp at hy; subst hy; subst z; exact nk hx⟩
  -- the list first, then the item: what is added is new
  have hl' : i < ρ.length := (List.getElem?_eq_some_iff.mp hi).1
  have sep' : ∀ {j : Nat} {o2 : O} {r : Addr}, i ≠ j → ρ[j]? = some (.own o2) → σ[j]? = some (some (.ref r)) → ∀ x, Ads H' r o2 x → x ≠ p ∧ x ∉ kids vs its ∧ x ≠ q := fun {j o2 r} hij hj hr x hx2' => by
    have s1 := e2.sep i j _ o2 p r hij hi hj a hr
    refine ⟨fun z => s1 p (.inl rfl) (by rw [← z]; exact hx2'), fun z => s1 x (.inr ⟨vs, hx2, z⟩) hx2', fun z => ?_⟩
    obtain ⟨r', hr', ob2⟩ := e.own hj
    rw [hr] at hr'
    cases hr'
    obtain ⟨r2, hr2, ob3⟩ := e2.own hj
    rw [hr] at hr2
    cases hr2
    have hroot : H' r = H r := (g.fr r ob2.root.1 ob2.hereT).1
    have hx1 : Ads H r o2 x := hx2'.eq hroot.symm.symm
    obtain ⟨_, u, hu, _⟩ := ob2.ads hx1
    exact new x (by rw [hu]; exact fun z => by cases z) z
  refine ⟨e2.ok0, e2.gr.mut f'.1 f'.2.1 f'.2.2, e2.exc, by rw [List.length_set]; exact e2.len, fun j s hs => ?_, fun j k o1 o2 p1 p2 hjk hj hk pj pk x h1 h2 => ?_, fun k a2 j hk => ?_, fun k o1 p1 hk hp1 x hx1 => ?_⟩
  · rcases set_get hs with ⟨rfl, rfl, _⟩ | ⟨hj, hs⟩
    · exact .inr ⟨_, a, p, rfl, own'⟩
    · rcases e2.at_ j s hs with z | ⟨w, aw, rw'⟩
      · exact .inl z
      · refine .inr ⟨w, aw, ?_⟩
        cases s with
        | no => trivial
        | el a b => trivial
        | dat d => exact rw'
        | at_ q => exact rw'
        | own o2 =>
          obtain ⟨r, rfl, zo⟩ := rw'
          exact ⟨r, rfl, zo.monoA (Ex.refl _) fun x h => ⟨upd_ne (sep' hj hs aw x h).1, (zo.ads h).1⟩⟩
        | vw o2 =>
          obtain ⟨r, rfl, zo⟩ := rw'
          exact ⟨r, rfl, zo.monoA (Ex.refl _) fun x h => ⟨upd_ne (fun z => e2.vws j o2 r hs aw x h (by rw [z]; exact f'.1)), (zo.ads h).1⟩⟩
        | lk o2 => exact rw'
        | xc C a d fs =>
          obtain ⟨e1, e3, e4, fv, e5, e6, e7⟩ := rw'
          exact ⟨e1, e3, e4, fv, (upd_ne (fun z => by rw [z, hx2] at e5; cases e5)).trans e5, e6, e7⟩
  · have back : ∀ {j : Nat} {o1 : O} {p1 : Addr}, i ≠ j → ρ[j]? = some (.own o1) → σ[j]? = some (some (.ref p1)) → Ads (upd H' p (.lst (vs ++ [V.ref q]))) p1 o1 x → Ads H' p1 o1 x := fun hij hj pj h => h.eq (upd_ne (sep' hij hj pj _ (Ads.root _)).1)
    have inn : ∀ {p1 : Addr}, p1 = p → Ads (upd H' p (.lst (vs ++ [V.ref q]))) p1 (.nest (its ++ [.o o])) x → x = p ∨ x ∈ kids vs its ∨ x = q := fun {p1} ep h => by
      subst ep
      rcases h with z | ⟨vs2, e3, z⟩
      · exact .inl z
      · rw [upd_same] at e3
        cases e3
        rw [kk] at z
        rcases List.mem_append.mp z with z | z
        · exact .inr (.inl z)
        · exact .inr (.inr (by simpa using z))
    have no : ∀ {j : Nat} {o2 : O} {p2 : Addr}, i ≠ j → ρ[j]? = some (.own o2) → σ[j]? = some (some (.ref p2)) → (x = p ∨ x ∈ kids vs its ∨ x = q) → Ads (upd H' p (.lst (vs ++ [V.ref q]))) p2 o2 x → False := fun hij hj pj h h2 => by
      obtain ⟨z1, z2, z3⟩ := sep' hij hj pj x (back hij hj pj h2)
      rcases h with h | h | h
      · exact z1 h
      · exact z2 h
      · exact z3 h
    rcases set_get hj with ⟨rfl, z, _⟩ | ⟨n1, hj⟩
    · cases z
      rw [a] at pj
      cases pj
      rcases set_get hk with ⟨rfl, _⟩ | ⟨n2, hk⟩
      · exact hjk rfl
      · exact no n2 hk pk (inn rfl h1) h2
    · rcases set_get hk with ⟨rfl, z, _⟩ | ⟨n2, hk⟩
      · cases z
        rw [a] at pk
        cases pk
        exact no n1 hj pj (inn rfl h2) h1
      · exact e2.sep j k o1 o2 p1 p2 hjk hj hk pj pk x (back n1 hj pj h1) (back n2 hk pk h2)
  · rcases set_get hk with ⟨_, z, _⟩ | ⟨n1, hk⟩
    · cases z
    · obtain ⟨its2, p1, vs2, q2, o1, e3, e4, e5, e6, e7, e8⟩ := e2.els k a2 j hk
      by_cases hai : i = a2
      · subst hai
        rw [hi] at e3
        cases e3
        rw [a] at e4
        cases e4
        rw [hx2] at e5
        cases e5
        have j1 : j < vs.length := (List.getElem?_eq_some_iff.mp e6).1
        have j2 : j < its.length := (List.getElem?_eq_some_iff.mp e7).1
        exact ⟨its ++ [.o o], p, vs ++ [V.ref q], q2, o1, by rw [List.getElem?_set]; simp only [if_true]; rw [if_pos hl'], a, upd_same, by rw [List.getElem?_append_left j1]; exact e6, by rw [List.getElem?_append_left j2]; exact e7, e8⟩
      · exact ⟨its2, p1, vs2, q2, o1, by rw [List.getElem?_set_ne hai]; exact e3, e4, (upd_ne (sep' hai e3 e4 p1 (Ads.root _)).1).trans e5, e6, e7, e8⟩
  · rcases set_get hk with ⟨_, z, _⟩ | ⟨n1, hk⟩
    · cases z
    · have np : p1 ≠ p := fun z => e2.vws k o1 p1 hk hp1 p1 (Ads.root _) (by rw [z]; exact f'.1)
      exact e2.vws k o1 p1 hk hp1 x (hx1.eq (upd_ne np))
/-! ### what is dropped at once -/
end
end DL
set_option Elab.async false
set_option linter.all false
set_option maxRecDepth 100000
set_option maxHeartbeats 1000000
namespace DL
open PySem PySem.Spec PyProof.Rows L2 Evl
/-! ### pairs of a dict with tuple keys -/
/-- what the walk over the pairs of a locked dict gives -/
def ItPr (d : Addr) (od : Obj) (l : List (List Key × V)) : L2.It where
  go := fun i H => H d = some (.frz od (.dT l)) ∧ i < l.length
  yld := fun i H x H' => ∃ (t q : Addr) (k : List Key) (v : V), l[i]? = some (k, v) ∧ H q = some (.tup (k.map kV)) ∧ x = .ref t ∧ H t = none ∧ H' = upd H t (.tup [.ref q, v])
  stop := fun i H => H d = some (.frz od (.dT l)) ∧ l.length ≤ i
theorem frzPr {X : Cx} {pins : List (Addr × Obj)} {σ : L2.St} {H : Hp} {s : Shared} {d : Addr} {od : Obj} {l : List (List Key × V)} (I : Inv X pins σ H s) (e : H d = some (.frz od (.dT l))) :
    (d == sysModules) = false ∧ s.heap.get? d = some od ∧ od.ExactDict ∧ ∃ (es : Array DictEntry) (ep : Nat), od.data = .dict es ep ∧ es.size = l.length ∧
      ∀ (i : Nat) (k : List Key) (v : V) (h : i < es.size), l[i]? = some (k, v) → ∃ q, es[i].key = .ref q ∧ H q = some (.tup (k.map kV)) ∧ RelV v es[i].val := by
  obtain ⟨g, _, nm, xs, prs, o2, es, ep, g2, xd, dt, ent, _⟩ := I.hok d _ e
  obtain rfl : od = o2 := Option.some.inj (g.symm.trans g2)
  have n1 : es.size = xs.length := size_of_entries ent
  have n2 : l.length = xs.length := Paired.length prs
  refine ⟨nm, g, xd, es, ep, dt, by omega, fun i k v hi hk => ?_⟩
  obtain ⟨b, hb, _, q2, q3⟩ := paired_get prs hk
  have z := entry_at ent i
  rw [hb, Array.getElem?_eq_getElem hi] at z
  have z := Option.some.inj z
  exact ⟨b.2.1, by rw [z]; rfl, q2, by rw [z]; exact q3⟩
theorem turnPr {P : Program} {w : World} {K : PySem.W.Frag} {d : Addr} {od : Obj} {es : Array DictEntry} {ep : Nat} {l : List (List Key × V)} {elts : List Expr} {kk : Nat} {tp : Pos} (it : Addr) (hdt : od.data = .dict es ep) :
    Turn P w K (.Tuple elts kk tp) (ItPr d od l) [it] it (fun i h => ∃ x y, IsItemIter h it d i l.length ep x y) where
  mem := List.mem_singleton.mpr rfl
  obj := fun i h st b hb => by
    obtain rfl := List.mem_singleton.mp hb
    obtain ⟨x, y, g⟩ := st
    exact ⟨_, g, fun v z => by cases z⟩
  keep := fun i h h' ⟨x, y, g⟩ k => ⟨x, y, k it (List.mem_singleton.mpr rfl) _ g⟩
  item := by
    intro X e1 e2 e3 hcalm i pins s σ H E I hf ⟨x, y, g⟩ ⟨hd, hi⟩
    subst e1 e2 e3
    obtain ⟨nm, gd, xd, es2, ep2, dt2, len, ent⟩ := frzPr I hd
    obtain ⟨rfl, rfl⟩ := dict_ep hdt dt2
    have lt : it < s.heap.objs.size := Heap.lt_size g
    rw [← len] at g
    have hi2 : i < es2.size := by omega
    refine DT.nextI g ⟨od, gd, xd, dt2⟩ hi2 fun h1 out tup _ old => ?_
    refine ⟨_, rfl, wpAny_letOwnedTupleGo_items (s := { s with heap := h1 }) out fun h2 back same => ?_⟩
    have lk : l[i]? = some l[i] := List.getElem?_eq_getElem hi
    obtain ⟨q, kq, hq, rv⟩ := ent i l[i].1 l[i].2 hi2 lk
    have tup2 : h2.get? s.heap.objs.size = some { cls := .type "tuple", data := .seq #[es2[i].key, es2[i].val] } := (same.2 _ (Nat.ne_of_gt lt)).trans tup
    have made : ObjOk X.prog X.w (upd H s.heap.objs.size (.tup [.ref q, l[i].2])) h2 s.heap.objs.size (.tup [.ref q, l[i].2]) :=
      ⟨by show 2 ≤ sizeLine; decide, [es2[i].key, es2[i].val], .cons kq (.cons rv .nil), ⟨_, tup2, rfl, _, rfl⟩⟩
    have J : Inv X pins σ (upd H s.heap.objs.size (.tup [.ref q, l[i].2])) { s with heap := h2 } :=
      I.turnedNew (t' := s.toks) (ch := [it]) (fun b ob nb e => by
        have nb : b ≠ it := fun z => nb (List.mem_singleton.mpr z)
        exact (same.2 b nb).trans (old b ob nb e)) hf (Nat.le_refl _) made
    refine ⟨.ref s.heap.objs.size, _, J, rfl, ⟨_, q, _, _, lk, hq, rfl, I.hok.fresh (Nat.le_refl _), rfl⟩, ⟨es2[i].key, es2[i].val, by rw [← len]; exact back⟩, fun b hb => ?_⟩
    obtain rfl := List.mem_singleton.mp hb
    rw [upd_ne (Nat.ne_of_lt lt)]
    exact (hf b hb).1
  done := by
    intro X e1 e2 e3 hcalm i pins s σ H E I hf ⟨x, y, g⟩ ⟨hd, hi⟩
    subst e1 e2 e3
    obtain ⟨a0, a1, a2, a3, a4, a5⟩ := hf it (List.mem_singleton.mpr rfl)
    obtain ⟨nm, gd, xd, es2, ep2, dt2, len, ent⟩ := frzPr I hd
    obtain ⟨rfl, rfl⟩ := dict_ep hdt dt2
    rw [← len] at g
    exact DT.endI (I.ok.hd hcalm) g ⟨od, gd, xd, dt2⟩ (by omega) fun h1 eb => ⟨rfl, I.turned (t' := s.toks) (fun b ob hb e => eb b ob hb e) a0 a1 a3 a4 a5⟩
  self := fun A i s Q E ⟨_, _, g⟩ h => PySem.W.kcp_self g h
def iPairs (td : TE) : TI := fun σ H R => td σ H fun x H1 => ∃ d od l, x = .ref d ∧ H1 d = some (.frz od (.dT l)) ∧ R (ItPr d od l) H1
theorem pi_pairs {X : Cx} {e : Expr} {td : TE} {ap cp : Pos} {elts : List Expr} {kk : Nat} {tp : Pos} (he : PE X e td) (hb : attributeBase e "items" X.env (eval e X.env) = eval e X.env := by rfl) (hln : (ap.endLine == cp.line) = true := by rfl) :
    PI X (.Tuple elts kk tp) (.Call (.Attribute e "items" ap) [] [] cp) (iPairs td) := ⟨fun pins s σ H R I h => by
  refine wpAny_Call_method (T := "dict") (id := "dict.items") hb rfl hln F.plainAttrs_dict F.slot_dict_items F.type_dict_items ?_
  refine thn (he.run pins s σ H _ I h) fun u s1 ⟨x, H1, I1, rx, d, od, l, ex, hd, q⟩ => ?_
  subst ex
  obtain rfl : u = Value.ref d := rx
  obtain ⟨nm, gd, xd, es, ep, dt, len, ent⟩ := frzPr I1 hd
  have raw : DT.Raw s1.heap d es ep := ⟨od, gd, xd, dt⟩
  refine ⟨raw.typeIs, fun a ha => by cases ha; exact ⟨od, gd, xd.2.1⟩, ?_⟩
  have I2 : Inv X pins σ H1 { s1 with heap := s1.heap.push { cls := .type "dict_items", data := .fields #[.ref d] } } := I1.kept (t' := s1.toks) fun b ob z => Heap.get?_push_of_some _ z
  have last : wpAny (model X.prog X.w) X.A (pyIter (.ref s1.heap.objs.size)) (PIE X pins σ (.Tuple elts kk tp) R) X.xe { s1 with heap := s1.heap.push { cls := .type "dict_items", data := .fields #[.ref d] } } := by
    refine DT.iterI (d := d) ⟨_, Heap.get?_push_size _ rfl, rfl, rfl⟩ (raw.push _) (pi_one (tk := s1.toks) I2 _ (turnPr _ dt) ⟨.none, .none, ?_⟩ q)
    rw [← len]
    exact Heap.get?_push_size _ rfl
  show wpAny _ _ (callWith cp (.builtin "dict.items") [.ref d] [] []) _ X.xe s1
  exact method_meetsIn F.slot_dict_items F.entry_dict_items rfl (PySem.evalArgs_none ⟨rfl, raw.typeIs, F.args_dict_items_1 _, _, DT.meetsItems nm, raw, last⟩)⟩
theorem walks_pairsT {td : TE} {ds : List (List Key × D)} : Walks (iPairs td) td (.dit ds) (ds.map fun p => .tup [keyT p.1, p.2]) := fun {κ K W G H σ d od u} hs hd ru ht R q => by
  obtain ⟨kvs, rfl, hk, rv⟩ := ru
  refine ht _ ⟨d, od, kvs, rfl, hd, q _ fun m G' H' x ok j => ?_⟩
  have hh := hs m G' H' x ok
  have hlen : kvs.length = ds.length := by
    have := congrArg List.length hk
    rwa [List.length_map, List.length_map] at this
  refine ⟨fun y hy => ?_, fun hl => ⟨hh, by rw [hlen, hl, List.length_map]; exact Nat.le_refl _⟩⟩
  rw [List.getElem?_map] at hy
  cases hj : ds[j]? with
  | none => rw [hj] at hy; cases hy
  | some p =>
    rw [hj] at hy
    cases hy
    have hjl : j < kvs.length := by rw [hlen]; exact (List.getElem?_eq_some_iff.mp hj).1
    refine ⟨⟨hh, hjl⟩, fun y H2 z => ?_⟩
    obtain ⟨t, a, k, v, hv, ha, ey, hT, eh⟩ := z
    subst eh ey
    have ek : k = p.1 := by
      have h1 : (kvs.map (·.1))[j]? = some k := by rw [List.getElem?_map, hv]; rfl
      rw [hk, List.getElem?_map, hj] at h1
      exact (Option.some.inj h1).symm
    subst ek
    have rv2 : Rp K G v p.2 := by
      obtain ⟨w, hw, rw'⟩ := rv.getD (i := j) (d := p.2) (by rw [List.getElem?_map, hj]; rfl)
      rw [List.getElem?_map, hv] at hw
      cases hw
      exact rw'
    obtain ⟨G2, g2, ga, x2⟩ := Grow.tup ok ha
    have ok2 := g2.ok ok
    have gT : G2 t = none := fresh_back ok2.ex hT
    refine ⟨_, g2.trans (Grow.newD ok2 hT fun _ _ z => by cases z), Rp.tup upd_same ?_⟩
    have x3 : Ex G2 (upd G2 t (.tup [.ref a, v])) := Ex.new gT
    exact .cons (Rp.mono x3 (Rp.tup ga (rp_keys p.1))) (.cons (Rp.mono x3 (Rp.mono x2 (Rp.mono x rv2))) .nil)
end DL
set_option Elab.async false
set_option linter.all false
set_option maxRecDepth 100000
set_option maxHeartbeats 1000000
namespace DL
open PySem PySem.Spec PyProof.Rows L2 Evl
/-! ### for k, v in f(..).items(): the dict is locked as it comes, and unlocked behind the loop -/
end DL
set_option Elab.async false
set_option linter.all false
set_option maxRecDepth 100000
set_option maxHeartbeats 1000000
namespace DL
open PySem PySem.Spec PyProof.Rows L2 Evl
/-! ### {k: v for .. in .. if ..} with tuple keys -/
end DL
set_option Elab.async false
set_option linter.all false
set_option maxRecDepth 100000
set_option maxHeartbeats 1000000
namespace DL
open PySem PySem.Spec PyProof.Rows L2 Evl PySem.Calls
/-! ### sorted(d), d a dict with tuple keys -/
end DL
set_option Elab.async false
set_option linter.all false
set_option maxRecDepth 100000
set_option maxHeartbeats 1000000
namespace DL
open PySem PySem.Spec PyProof.Rows L2 Evl PySem.Calls
/-! ### dict(d), d a dict with tuple keys -/
end DL
set_option Elab.async false
set_option linter.all false
set_option maxRecDepth 100000
set_option maxHeartbeats 1000000
namespace DL
open PySem PySem.Spec PyProof.Rows L2 Evl PySem.Calls
/-! ### dict([(k, v), ..]), tuple keys, each once -/
end DL
set_option Elab.async false
set_option linter.all false
set_option maxRecDepth 100000
set_option maxHeartbeats 1000000
namespace DL
open PySem PySem.Spec PyProof.Rows L2 Evl PySem.Calls
/-! ### methods -/
structure Me (P : Program) (w : World) (K : PySem.W.Frag) (mg : Str → Option Value) (base : Heap) (CX : CXT) (k : Nat) (C : Addr) (x : Str) (ps : List Str) (F : Fc) : Prop where
  cl : Cls K C
  ex : ∃ (f : Addr) (fd : FuncData), Meth K C x f ∧ FnOk P w K mg base CX k f fd ps (spF K F) ∧ Binds K fd ps []
end DL
set_option Elab.async false
set_option linter.all false
set_option maxRecDepth 100000
set_option maxHeartbeats 1000000
namespace DL
open PySem L2 Evl
/-! ### a cell that is held while a walk lasts -/
end DL
set_option Elab.async false
set_option linter.all false
set_option maxRecDepth 100000
set_option maxHeartbeats 1000000
namespace DL
open PySem PySem.Spec PyProof.Rows L2 Evl
end DL
set_option Elab.async false
set_option linter.all false
set_option maxRecDepth 100000
set_option maxHeartbeats 1000000
namespace DL
open PySem L2 Evl
end DL
set_option Elab.async false
set_option linter.all false
set_option maxRecDepth 100000
set_option maxHeartbeats 1000000
namespace DL
open PySem PySem.Spec PyProof.Rows L2 Evl
/-! ### == and != by an own __eq__, len by an own __len__ -/
/-! ### the same, of data -/
end DL
set_option Elab.async false
set_option linter.all false
set_option maxRecDepth 100000
set_option maxHeartbeats 1000000
namespace DL
open PySem PySem.Spec PyProof.Rows L2 Evl
/-! ### == and != of dicts of numbers -/
end DL
set_option Elab.async false
set_option linter.all false
set_option maxRecDepth 100000
set_option maxHeartbeats 1000000
namespace DL
open PySem L2 Evl
/-! ### what is another's, lent to a def as data -/
def plain : HO → Bool
  | .lst _ => true | .dK _ => true | .dT _ => true | .ins _ _ _ => true | .own _ => true | _ => false
/-! ### walks over what is another's -/
end DL
set_option Elab.async false
set_option linter.all false
set_option maxRecDepth 100000
set_option maxHeartbeats 1000000
namespace DL
open PySem L2 Evl PySem.Spec PyProof.Rows
/-! ### list.count of data -/
end DL
set_option Elab.async false
set_option linter.all false
set_option maxRecDepth 100000
set_option maxHeartbeats 1000000
namespace DL
open PySem PySem.Spec PyProof.Rows L2
/-! ### the head's facts of a class with its own __eq__, and of isinstance of it -/
end DL
set_option Elab.async false
set_option linter.all false
set_option maxRecDepth 100000
set_option maxHeartbeats 1000000
namespace DL
open PySem PySem.Spec PyProof.Rows L2
/-! ### a head's run, looked at part by part -/
theorem map_one {σ α : Type} {x : Option σ} {F : σ → α} {a : α} (h : x.map F = some a) : ∃ s, x = some s ∧ F s = a := by
  cases x with
  | none => cases h
  | some s => exact ⟨s, rfl, Option.some.inj h⟩
theorem map_three {σ α β γ : Type} {x : Option σ} {A : σ → α} {B : σ → β} {C : σ → γ} {a : α} {b : β} {c : γ} (hA : x.map A = some a) (hB : x.map B = some b) (hC : x.map C = some c) : x.map (fun s => (A s, B s, C s)) = some (a, b, c) := by
  obtain ⟨s, rfl, rfl⟩ := map_one hA
  cases hB
  cases hC
  rfl
end DL
set_option Elab.async false
set_option linter.all false
set_option maxRecDepth 100000
set_option maxHeartbeats 1000000
namespace DL
open PySem PySem.Spec PyProof.Rows L2
/-! ### what the module's names reach, by a walk that marks what it has seen in the bits of a number -/
def visB : List Addr → Nat → List Addr → Nat × List Addr
  | [], b, acc => (b, acc)
  | a :: r, b, acc => HandSHeadRun.frNat a fun a => match Nat.beq (Nat.land (Nat.shiftRight b a) 1) 0 with
    | true => HandSHeadRun.frNat (Nat.lor b (Nat.shiftLeft 1 a)) fun b' => visB r b' (a :: acc)
    | false => visB r b acc
def asB (g : Addr → Option Obj) : Nat → Nat → List Addr → List Addr → List Addr
  | 0, _, all, _ => all
  | n + 1, b, all, fr => match visB (fr.flatMap fun a => match g a with
      | some o => He.refsD o
      | none => []) b [] with
    | (b', nx) => asB g n b' (all ++ nx) nx
/-- n steps from the module's names -/
def asQ (g : Addr → Option Obj) (n : Nat) : List Addr := cStatics :: asB g n (Nat.shiftLeft 1 mainGlobals) [mainGlobals] [mainGlobals]
def obsQG (n : Nat) (fa : List He.Fa) (fn : List He.DefD) (pr : List PrD) (ex : PySem.W.Frag → Bool) (g : Addr → Option Obj) : AlP := obsP fa fn pr ex (He.frG g (asQ g n))
def hookQ (n : Nat) (fa : List He.Fa) (fn : List He.DefD) (pr : List PrD) (ex : PySem.W.Frag → Bool) : PySem.W.Hook where
  α := AlP
  obs := fun s => obsQG n fa fn pr ex s.heap.get?
  val := fun _ => valP fn pr
  says := fun _ h => ∃ K : PySem.W.Frag, K.In h ∧ SaysP fa fn pr ex K
  of := fun _ _ e => ⟨_, He.frG_in, ⟨e⟩⟩
  keeps := fun _ _ _ ⟨K, inn, said⟩ k => ⟨K, PySem.W.Frag.In.keeps inn k, said⟩
theorem obsQG_eq {n : Nat} {fa : List He.Fa} {fn : List He.DefD} {pr : List PrD} {ex : PySem.W.Frag → Bool} {g : Addr → Option Obj} {s : Shared} (h : ∀ a, g a = s.heap.get? a) : obsQG n fa fn pr ex g = (hookQ n fa fn pr ex).obs s := by
  have e : g = s.heap.get? := funext h
  rw [e] <;> rfl
end DL
set_option Elab.async false
set_option linter.all false
set_option maxRecDepth 100000
set_option maxHeartbeats 1000000
namespace DL
open PySem L2 Evl PySem.Spec PyProof.Rows
/-! ### methods with arguments; within a try -/
section
variable {X : Cx} {K : PySem.W.Frag} {C : Addr} {k j : Nat} {x : Str} {ps : List Str} {F : Fc} {e : Expr} {es : List Expr} {ta : TE} {t : TA} {apos pos : Pos} {o : Expr}
theorem k_meth {CX : CXT} {E : XK} (c : Me X.prog X.w K X.mg X.base CX k C x ps F) (hK : X.K = K) (hr : Room j X.A) (hx : Passes CX X E) (he : PE X o ta) (ha : PA X (e :: es) t) (hk : k ≤ j := by decide)
    (hst : starEach (e :: es) X.env = (false, eval e X.env) :: starEach es X.env := by rfl) (hpl : (backTo pos (starEach es X.env)).any (·.1) = false := by rfl) {pl : Sem Bool}
    (ht : eval (.Call (.Attribute o x apos) (e :: es) [] pos) X.env = (do
      let ov ← eval o X.env
      standAt apos.atName
      let (f, first) ← holding [ov] (getMethod ov x pl)
      callWith pos f first (backTo pos (starEach (e :: es) X.env)) (backToKw pos (keywordEach [] X.env))) := by rfl) :
    PE X (.Call (.Attribute o x apos) (e :: es) [] pos) (tMeth C x (spF K F) [] E ta t) := by
  subst hK
  obtain ⟨f, fd, hm, hF, hb⟩ := c.ex
  exact pe_meth he c.cl hm hF (hr.mono hk) hb .nil hx ha hst hpl ht
end
end DL
set_option Elab.async false
set_option linter.all false
set_option maxRecDepth 100000
set_option maxHeartbeats 1000000
namespace DL
open PySem PySem.Spec PyProof.Rows L2 Evl
end DL
set_option Elab.async false
set_option linter.all false
set_option maxRecDepth 100000
set_option maxHeartbeats 1000000
namespace DL
open PySem PySem.Spec PyProof.Rows L2 Evl
variable {ι : Type} {m m' m1 m2 : ι}
/-! ### texts: split, join, f-strings, str, int, one sign -/
def rSplit : V → List V → Hp → VK → Prop := fun x xs H Q => ∃ a b, x = .str a ∧ xs = [.str b] ∧ (b.length == 0) = false ∧ a.length + 2 ≤ sizeLine ∧ rNewStrs (Txt.split a b) H Q
def rJoin (K : PySem.W.Frag) : V → List V → Hp → VK → Prop := fun x xs H Q => ∃ a p, ∃ ys : List Str, x = .str a ∧ xs = [.ref p] ∧ (SqL K H p (ys.map V.str) ∨ SqT K H p (ys.map V.str)) ∧
      (ys.map (·.length)).sum + ys.length * a.length ≤ 16777216 ∧ Q (.str (Txt.join a ys)) H
def rIxS : V → V → Hp → VK → Prop := fun x y H Q => ∃ z i c, x = .str z ∧ y = .int i ∧ 0 ≤ i ∧ i < 2 ^ 63 ∧ i < z.length ∧ z.cps[i.toNat]? = some c ∧ Q (.str ⟨#[c]⟩) H
section
variable {c : Cc ι} {ρ : List S} {Φ : ι → S → Prop} {to te ta tb : TE}
theorem de_split (h : De c m to ρ fun m s => ∃ a, s = .dat (.str a) ∧ De c m te ρ fun m s2 => ∃ b, s2 = .dat (.str b) ∧ (b.length == 0) = false ∧ a.length + 2 ≤ sizeLine ∧ Φ m (.own (.lst ((Txt.split a b).map D.str)))) : De c m (tM1 rSplit to te) ρ Φ := fun σ G H e Q q => h σ G H e _ fun v s m1 G1 H1 g1 r1 ⟨a, es, h2⟩ => by
  subst es
  cases r1
  refine ⟨⟨a, rfl⟩, h2 σ G1 H1 (e.grow g1) _ fun v2 s2 m2 G2 H2 g2 r2 ⟨b, e2, hb, hz, p⟩ => ?_⟩
  subst e2
  cases r2
  exact ⟨a, b, rfl, rfl, hb, hz, fun l hl => new_lst (H0 := H) ((e.grow g1).grow g2).ok ((by rw [show ((Txt.split a b).map V.str) = ((Txt.split a b).map V.str) from rfl]; exact RpL.ofStrs _)) p (fun v s m' G' H' g r p => q v s m' G' H' ((g1.trans g2).trans g) ((r.back g2).back g1) p) l hl⟩
theorem de_join (h : De c m to ρ fun m s => ∃ a, s = .dat (.str a) ∧ De c m te ρ fun m s2 => ∃ ys : List Str, s2.lst? = some (ys.map D.str) ∧ (ys.map (·.length)).sum + ys.length * a.length ≤ 16777216 ∧ Φ m (.dat (.str (Txt.join a ys)))) : De c m (tM1 (rJoin c.K) to te) ρ Φ := fun σ G H e Q q => h σ G H e _ fun v s m1 G1 H1 g1 r1 ⟨a, es, h2⟩ => by
  subst es
  cases r1
  refine ⟨⟨a, rfl⟩, h2 σ G1 H1 (e.grow g1) _ fun v2 s2 m2 G2 H2 g2 r2 ⟨ys, e2, hz, p⟩ => ?_⟩
  have e3 := (e.grow g1).grow g2
  obtain ⟨l, xs, rfl, h3, h4⟩ := r2.lstV e3.ok e2
  exact ⟨a, l, ys, rfl, rfl, .inl (by rw [← h4.strs]; exact h3), hz, q _ (.dat (.str _)) m2 G2 H2 (g1.trans g2) (Rp.str _) p⟩
theorem de_ixS (h : De c m ta ρ fun m s => ∃ z, s = .dat (.str z) ∧ De c m tb ρ fun m s2 => ∃ (j : Nat) (x : Nat), s2 = .dat (.int (j : Int)) ∧ j < 2 ^ 60 ∧ z.cps[j]? = some x ∧ Φ m (.dat (.str ⟨#[x]⟩))) : De c m (tOp rIxS ta tb) ρ Φ := fun σ G H e Q q => h σ G H e _ fun v s m1 G1 H1 g1 r1 ⟨z, es, h2⟩ => by
  subst es
  cases r1
  refine h2 σ G1 H1 (e.grow g1) _ fun v2 s2 m2 G2 H2 g2 r2 ⟨j, x, e2, hj, hx, p⟩ => ?_
  subst e2
  cases r2
  have hl : j < z.cps.size := by
    rcases Nat.lt_or_ge j z.cps.size with h | h
    · exact h
    · rw [Array.getElem?_eq_none h] at hx; cases hx
  exact ⟨z, j, x, rfl, rfl, by omega, by omega, by show (j : Int) < ((z.cps.size : Nat) : Int); omega, by simpa using hx, q _ (.dat (.str _)) m2 G2 H2 (g1.trans g2) (Rp.str _) p⟩
/-- {x} in a text -/
theorem de_fmt (h : De c m te ρ fun m s => (∃ y, s = .dat (.str y) ∧ y.length ≤ sizeLine ∧ Φ m (.dat (.str y))) ∨ ∃ i : Int, s = .dat (.int i) ∧ i.natAbs.log2 < 1920 ∧ Φ m (.dat (.str (toString i)))) : De c m (tFmt te) ρ Φ := fun σ G H e Q q => h σ G H e _ fun v s m1 G1 H1 g1 r1 h => by
  rcases h with ⟨y, es, hz, p⟩ | ⟨i, es, hz, p⟩
  · subst es
    cases r1
    exact .inl ⟨y, rfl, hz, q _ (.dat (.str _)) m1 G1 H1 g1 (Rp.str _) p⟩
  · subst es
    cases r1
    exact .inr ⟨i, rfl, hz, q _ (.dat (.str _)) m1 G1 H1 g1 (Rp.str _) p⟩
def tJ (ts : List TE) (acc : Str) : TE := fun σ H Q => tJs ts acc σ H fun out H1 => Q (.str out) H1
theorem de_jnil {acc : Str} (h : Φ m (.dat (.str acc))) : De c m (tJ [] acc) ρ Φ := fun σ G H e Q q => q _ (.dat (.str acc)) m G H e.refl (Rp.str acc) h
theorem de_jcons {acc : Str} {t : TE} {ts : List TE} (h : De c m t ρ fun m s => ∃ y, s = .dat (.str y) ∧ (acc ++ y).length ≤ sizeLine ∧ De c m (tJ ts (acc ++ y)) ρ Φ) : De c m (tJ (t :: ts) acc) ρ Φ := fun σ G H e Q q => h σ G H e _ fun v s m1 G1 H1 g1 r1 ⟨y, es, hz, p⟩ => by
  subst es
  cases r1
  exact ⟨y, rfl, hz, p σ G1 H1 (e.grow g1) _ fun v s m2 G2 H2 g2 r2 p => q v s m2 G2 H2 (g1.trans g2) (r2.back g1) p⟩
end
end DL
set_option Elab.async false
set_option linter.all false
set_option maxRecDepth 100000
set_option maxHeartbeats 1000000
namespace DL
open PySem PySem.Spec PyProof.Rows L2 Evl
variable {ι : Type} {m m' m1 m2 : ι}
/-! ### a text, sign by sign; x or y; index of data; a class's name held by a local -/
def sgnD (z : Str) : List D := z.cps.toList.map fun x => .str ⟨#[x]⟩
theorem itd_str {K : PySem.W.Frag} {W : Wd ι} {G1 : Hp} {z : Str} : ItD K W G1 (Its z) (sgnD z) := fun m G H e ok i => by
  have hl : (sgnD z).length = z.cps.size := by simp [sgnD]
  refine ⟨fun d hd => ?_, fun h => by
    have h' : z.cps.size ≤ i := by rw [h, hl]; exact Nat.le_refl _
    exact h'⟩
  have hi : i < z.cps.size := by rw [← hl]; exact (List.getElem?_eq_some_iff.mp hd).1
  refine ⟨hi, fun x H' y => ?_⟩
  obtain ⟨eh, x', hx, ex⟩ := y
  subst eh ex
  have : d = .str ⟨#[x']⟩ := by
    unfold sgnD at hd
    rw [List.getElem?_map, Array.getElem?_toList, hx] at hd
    exact (Option.some.inj hd).symm
  subst this
  exact ⟨G, ok.refl, .str _⟩
section
variable {c : Cc ι} {ρ : List S} {te ta tb : TE}
theorem di_str {Φ : ι → List D → Prop} (h : De c m te ρ fun m s => ∃ z, s = .dat (.str z) ∧ Φ m (sgnD z)) : DI c m (iStr te) ρ Φ := fun σ G H e R q => h σ G H e _ fun v s m1 G1 H1 g1 r1 ⟨z, es, p⟩ => by
  subst es
  cases r1
  exact ⟨z, rfl, q _ _ m1 G1 H1 g1 itd_str p⟩
def S.tru2 : S → Option Bool
  | .dat .non => some false
  | s => s.tru?
theorem RelS.tru2 {K : PySem.W.Frag} {W : Wd ι} {H0 G H : Hp} {v : V} {s : S} {b : Bool} (ok : Ok W m G H) (r : RelS K W H0 G H v s) (h : s.tru2 = some b) : TruV K v H b := by
  by_cases z : s = .dat .non
  · subst z
    cases r
    cases h
    exact rfl
  · have h' : s.tru? = some b := by
      unfold S.tru2 at h
      split at h
      · exact absurd rfl z
      · exact h
    exact r.tru ok h'
theorem de_orT {Φ : ι → S → Prop} (h : De c m ta ρ fun m s => ∃ b, s.tru2 = some b ∧ (b = true → Φ m s) ∧ (b = false → De c m tb ρ Φ)) : De c m (tOrT c.K ta tb) ρ Φ := fun σ G H e Q q => h σ G H e _ fun v s m1 G1 H1 g1 r1 ⟨b, hb, p1, p2⟩ => by
  refine ⟨b, r1.tru2 (e.grow g1).ok hb, ?_⟩
  cases b
  · rw [if_neg (by simp)]
    exact p2 rfl σ G1 H1 (e.grow g1) _ fun v s m2 G2 H2 g2 r2 p => q v s m2 G2 H2 (g1.trans g2) (r2.back g1) p
  · rw [if_pos rfl]
    exact q v s m1 G1 H1 g1 r1 (p1 rfl)
end
/-! ### list.index of data -/
def rIndexD (K : PySem.W.Frag) : V → List V → Hp → VK → Prop := fun x xs H Q => ∃ (a : Addr) (y : V) (ys : List V) (d : PyData) (es : List PyData) (j : Nat), x = V.ref a ∧ xs = [y] ∧ SqL K H a ys ∧ DpAll K H ys es ∧ Dp K H y d ∧ PyData.plainAll es = true ∧ d.plain = true ∧ d.depth ≤ 60 ∧ PySem.SeqAt.dataPlace es d = some j ∧ Q (.int (j : Nat)) H
section
variable {c : Cc ι} {ρ : List S} {Φ : ι → S → Prop} {te ta : TE}
theorem de_indexD (h : De c m te ρ fun m s => ∃ (ds : List D) (es : List PyData), s.lst? = some ds ∧ D.pys ds = some es ∧ PyData.plainAll es = true ∧ De c m ta ρ fun m s2 => ∃ (d : D) (x : PyData) (j : Nat), s2.view = some d ∧ d.py = some x ∧ x.plain = true ∧ x.depth ≤ 60 ∧ PySem.SeqAt.dataPlace es x = some j ∧ Φ m (.dat (.int (j : Nat)))) : De c m (tBM c.K "list" (rIndexD c.K) te (tCons ta tNil)) ρ Φ := fun σ G H e Q q => h σ G H e _ fun v s m1 G1 H1 g1 r1 ⟨ds, es, hs, hp, hpl, h2⟩ => by
  refine ⟨tyL (e.grow g1).ok r1 hs, h2 σ G1 H1 (e.grow g1) _ fun v2 s2 m2 G2 H2 g2 r2 ⟨d, x, j, e2, hx, hxp, hxd, hj, p⟩ => ?_⟩
  have e3 := (e.grow g1).grow g2
  obtain ⟨a, xs, rfl, h3, h4⟩ := (r1.grow g2).lstV e3.ok hs
  exact ⟨a, v2, xs, x, es, j, rfl, rfl, h3, h4.dp e3.ok.ex hp, r2.dp e3.ok e2 hx, hpl, hxp, hxd, hj, q _ (.dat (.int _)) m2 G2 H2 (g1.trans g2) (Rp.int _) p⟩
end
/-! ### a new instance of the class that a local name holds -/
end DL
set_option Elab.async false
set_option linter.all false
set_option maxRecDepth 100000
set_option maxHeartbeats 1000000
namespace DL
open PySem PySem.Spec PyProof.Rows L2 Evl
/-! ### classmethods, asked of the class -/
end DL
set_option Elab.async false
set_option linter.all false
set_option maxRecDepth 100000
set_option maxHeartbeats 1000000
namespace DL
open PySem PySem.Spec PyProof.Rows L2 Evl
variable {ι : Type} {m m' : ι} {K : PySem.W.Frag} {W : Wd ι} {Φ : ι → S → Prop}
/-! ### == of texts -/
theorem ops_eqS {a b : Str} (h : Φ m (.dat (.bl (decide (a = b))))) : OpS K W m rEq (.dat (.str a)) (.dat (.str b)) Φ := fun H0 G H v1 v2 ok r1 r2 Q q => by
  cases r1
  cases r2
  refine ⟨rfl, ?_⟩
  rw [show decide (V.str a = V.str b) = decide (a = b) by simp]
  exact q _ (.dat (.bl _)) m G H ok.refl (Rp.bl _) h
theorem ops_neS {a b : Str} (h : Φ m (.dat (.bl (!decide (a = b))))) : OpS K W m rNe (.dat (.str a)) (.dat (.str b)) Φ := fun H0 G H v1 v2 ok r1 r2 Q q => by
  cases r1
  cases r2
  refine ⟨rfl, ?_⟩
  rw [show decide (V.str a = V.str b) = decide (a = b) by simp]
  exact q _ (.dat (.bl _)) m G H ok.refl (Rp.bl _) h
theorem ops_neInts {s1 s2 : S} {ns ks : List Int} (h1 : s1.view = some (.lst (ns.map D.int))) (h2 : s2.view = some (.lst (ks.map D.int))) (h : Φ m (.dat (.bl (!decide (ns = ks))))) : OpS K W m (rNeD K) s1 s2 Φ := by
  refine ops_neD h1 h2 (py_ints ns) (py_ints ks) ((ok_ints ns).shaped (by omega)) ((ok_ints ks).shaped (by omega)) ?_
  rw [PyData.eqv, eqv_ints]; exact h
end DL
set_option Elab.async false
set_option linter.all false
set_option maxRecDepth 100000
set_option maxHeartbeats 1000000
namespace DL
open PySem PySem.Spec PyProof.Rows L2 Evl
/-! ### a new source beside other things of one's own -/
end DL
set_option Elab.async false
set_option linter.all false
set_option maxRecDepth 100000
set_option maxHeartbeats 1000000
namespace DL
open PySem PySem.Spec PyProof.Rows L2 Evl
end DL
set_option Elab.async false
set_option linter.all false
set_option maxRecDepth 100000
set_option maxHeartbeats 1000000
namespace DL
open PySem PySem.Spec PyProof.Rows L2 Evl
end DL
set_option Elab.async false
set_option linter.all false
set_option maxRecDepth 100000
set_option maxHeartbeats 1000000
namespace DL
open PySem PySem.Spec PyProof.Rows L2 Evl
end DL
set_option Elab.async false
set_option linter.all false
set_option maxRecDepth 100000
set_option maxHeartbeats 1000000
namespace DL
open PySem L2 Evl PySem.Spec PyProof.Rows
/-! ### several clauses, each with a name or with none -/
/-- an exception that has come down to the try of this frame -/
structure Down (X : Cx) (pins : List (Addr × Obj)) (σ : L2.St) (H : Hp) (a : Addr) (cls : Value) (d : Option Addr) (B : Heap) (s0 s : Shared) : Prop where
  ok : X.Ok
  hs : X.stack = X.env :: X.outer
  hf : X.env.frame = some X.env.locals
  was : Inv X pins σ H s0
  nb : ∀ b o, s0.heap.get? b = some o → b ∉ frs X.stack → B.get? b = some o
  up : s0.heap.UpToSlots s.heap
  fl : HandSPX.FlyingZ B (X.env :: X.outer) a (Zc cls d) s.heap
  na : H a = none
  os : s.os = s0.os
  ag : AllBare s.gens
/-- what a clause names, the slot of its name if it has one, its suite -/
abbrev Hdl := Value × Option Nat × (Addr → Value → Option Addr → TS)
def wCl (K : PySem.W.Frag) (D : Ends) (Wout : WX) : List Hdl → WX
  | [] => Wout
  | (c, some i, ts) :: l => wAs K c i ts (wCl K D Wout l) D
  | (c, none, ts) :: l => fun cls d σ H => ∃ b, PySem.W.exmOne K cls c = some b ∧ (b = true → ∀ a, H a = none → ts a cls d D σ H) ∧ (b = false → wCl K D Wout l cls d σ H)
section
variable {X : Cx} {pins : List (Addr × Obj)} {σ : L2.St} {H : Hp} {a : Addr} {cls : Value} {d : Option Addr} {B : Heap} {s0 s : Shared} {D : Ends} {Wout : WX}
theorem Down.inv (w : Down X pins σ H a cls d B s0 s) : Inv X pins σ H s := w.was.landed w.nb w.fl.1 w.up w.os w.ag
/-- seen from a clause -/
theorem Down.view (w : Down X pins σ H a cls d B s0 s) : ∃ oe, s.heap.get? a = some oe ∧ Zc cls d oe ∧ (∃ vs, oe.data = .fields vs) ∧ Inv (X.suite a ((a, oe) :: (X.pn ++ pins))) [] σ H s := by
  obtain ⟨oe, vs, ha, hz, hd⟩ := w.fl.there
  have away : ∀ b, b ∈ frs (X.env :: X.outer) → a ≠ b := by
    rintro b hb rfl
    obtain ⟨_, o, e, no⟩ := w.fl.2.2.1.mem hb
    rw [ha] at e
    exact no _ (by rw [← Option.some.inj e]; exact hd)
  refine ⟨oe, ha, hz, ⟨vs, hd⟩, w.inv.suite ha hd w.na (away _ ?_) fun m => ?_⟩
  · exact List.mem_filterMap.mpr ⟨X.env, .head _, w.hf⟩
  · obtain ⟨e, he, q⟩ := List.mem_filterMap.mp m
    exact away a (List.mem_filterMap.mpr ⟨e, .tail _ he, q⟩) rfl
/-- no clause is left -/
theorem Down.out (w : Down X pins σ H a cls d B s0 s) (tk : Takes X Wout) (q : Wout cls d σ H) {Q : Flow → Shared → Prop} : wpAny (model X.prog X.w) X.A (handleBy (.ref a) X.env []) Q X.xe s := by
  have fly : wpAny (model X.prog X.w) X.A (setFlight (.ref a) X.env.frame) (fun _ s1 => wpAny (model X.prog X.w) X.A (throw (.ref a) : Sem Flow) Q X.xe s1) X.xe s := by
    rw [w.hf]
    exact HandSPX.setFlight_upZ w.fl fun h hh up => wpAny_throw (tk _ _ ⟨a, B, s0, pins, σ, H, cls, d, rfl, w.was, w.nb, w.up.trans up, .inr (.inr (by rw [w.hs]; exact hh)), w.na, w.os, w.ag, q⟩)
  obtain ⟨_, _, _, oe, vs, T, _, _, ha, _, hd, h1, _⟩ := id w.fl
  refine wpAny_handleBy_nil ?_
  unfold PySem.passOn
  refine wpAny_bind (wpAny_field ha hd h1 ?_)
  rw [if_neg (by simp)]
  first
    | exact wpAny_bind fly
    | exact wpAny_bind (wpAny_pure (wpAny_bind fly))
end
end DL
set_option Elab.async false
set_option linter.all false
set_option maxRecDepth 100000
set_option maxHeartbeats 1000000
namespace DL
open PySem L2 Evl PySem.Spec PyProof.Rows
/-! ### a new instance made within a try -/
end DL
set_option Elab.async false
set_option linter.all false
set_option maxRecDepth 100000
set_option maxHeartbeats 1000000
namespace DL
open PySem L2 Evl PySem.Spec PyProof.Rows
/-! ### try with several clauses, of data -/
section
variable {ι : Type} {c : Cc ι} {m : ι} {ρ : List S} {ta te : TE} {tr : TA} {tt : TT} {N B C' : ι → List S → Prop} {R : ι → S → Prop} {C : Addr} {mn : Str} {l : List Hdl} {Wout : WX} {cls : Value} {ts : Addr → Value → Option Addr → TS} {i : Nat} {fs : List (Str × D)}
/-- what the clauses make of an exception of class C with fields fs -/
def Hx (c : Cc ι) (ρ : List S) (N : ι → List S → Prop) (R : ι → S → Prop) (B C' : ι → List S → Prop) (W : Ends → WX) (m : ι) (C : Addr) (fs : List (Str × D)) : Prop :=
  ∀ (D : Ends) (σ : L2.St) (G H : Hp) (d : Addr), EnvOk c m G H σ ρ → (∀ a, RelS c.K c.W c.H0 G H (.ref a) (.xc C a d fs)) →
    (∀ ρ' σ' m' G' H', N m' ρ' → Ex G G' → EnvOk c m' G' H' σ' ρ' → D.nx σ' H') →
    (∀ s v m' G' H', R m' s → Ex G G' → Grow c.W c.G0 c.H0 m' G' H' → RelS c.K c.W c.H0 G' H' v s → D.rt v H') →
    (∀ ρ' σ' m' G' H', B m' ρ' → Ex G G' → EnvOk c m' G' H' σ' ρ' → D.bk σ' H') →
    (∀ ρ' σ' m' G' H', C' m' ρ' → Ex G G' → EnvOk c m' G' H' σ' ρ' → D.ct σ' H') → W D (.ref C) (some d) σ H
theorem hx_as (he : PySem.W.exmOne c.K (.ref C) cls = some true) (h : ∀ a d, Ds c m (ts a (.ref C) (some d)) (ρ.set i (.xc C a d fs)) (fun m ρ' => noEl i ρ' = true ∧ N m (ρ'.set i .no)) R (fun m ρ' => noEl i ρ' = true ∧ B m (ρ'.set i .no)) (fun m ρ' => noEl i ρ' = true ∧ C' m (ρ'.set i .no))) (hn : noEl i ρ = true := by with_unfolding_all rfl) :
    Hx c ρ N R B C' (fun D => wCl c.K D Wout ((cls, some i, ts) :: l)) m C fs := fun D σ G H d e x k1 k2 k3 k4 =>
  ⟨true, he, fun _ a _ => h a d _ _ G H (e.set (s := .xc C a d fs) (x a) hn (fun o z => by cases z) (fun _ _ z => by cases z) (fun _ z => by cases z)) (fun ρ' σ' m2 G2 H2 ⟨nz, n⟩ y e' => k1 _ _ m2 G2 H2 n y (e'.unset none nz)) k2 (fun ρ' σ' m2 G2 H2 ⟨nz, n⟩ y e' => k3 _ _ m2 G2 H2 n y (e'.unset none nz)) (fun ρ' σ' m2 G2 H2 ⟨nz, n⟩ y e' => k4 _ _ m2 G2 H2 n y (e'.unset none nz)), fun z => by cases z⟩
theorem xc_rel {G H : Hp} {fv : List (Str × V)} {d : Addr} (nd : G d = none) (md : ¬ c.W.M d) (hd : H d = some (.xd fv)) (hk : fv.map (·.1) = fs.map (·.1)) (hr : RpL c.K G (fv.map (·.2)) (fs.map (·.2))) : ∀ a, RelS c.K c.W c.H0 G H (.ref a) (.xc C a d fs) := by
  intro a
  exact ⟨rfl, nd, md, fv, hd, hk, hr⟩
/-- try: f(..), the result dropped -/
theorem ds_tryDropW {F : Fc} {W : Ends → WX} (Ξ' : Xp ι) (h : DA c m tr ρ fun m ss => ss.all argS = true ∧ F ι c.W m ss (fun m _ => N m ρ) Ξ') (hx : ∀ m C fs, Ξ' m C fs → Hx c ρ N R B C' W m C fs) :
    Ds c m (fun D σ H => tDrop (tCallS (spF c.K F) (WE (W D)) tr) D σ H) ρ N R B C' := fun D σ G H e k1 k2 k3 k4 => h σ G H e _ fun vs ss m1 G1 H1 g1 r1 ⟨ha, hf⟩ => by
  have e1 := e.grow g1
  refine ⟨ι, c.W, m1, G1, ss, _, Ξ', e1.ok, relss_arg r1 ha, ha, hf, fun v s m' G' H' g r p => k1 ρ σ m' G' H' p (g1.ex.trans g.ex) (e1.grow g), fun C d fv fs m' G' H' g nd md hd hk hr hq => ?_⟩
  have x := g1.ex.trans g.ex
  exact hx m' C fs hq D σ G' H' d (e1.grow g) (xc_rel nd md hd hk hr) (fun ρ' σ' m2 G2 H2 n y e' => k1 _ _ m2 G2 H2 n (x.trans y) e') (fun s v m2 G2 H2 r y => k2 s v m2 G2 H2 r (x.trans y)) (fun ρ' σ' m2 G2 H2 n y e' => k3 _ _ m2 G2 H2 n (x.trans y) e') (fun ρ' σ' m2 G2 H2 n y e' => k4 _ _ m2 G2 H2 n (x.trans y) e')
/-- if within a try -/
theorem ds_tryIfS {A U : Ends → TS} (h : DT c m tt ρ fun m b => (b = true → Ds c m (fun D σ H => A D D σ H) ρ N R B C') ∧ (b = false → Ds c m (fun D σ H => U D D σ H) ρ N R B C')) :
    Ds c m (fun D σ H => tIfS tt (A D) (U D) D σ H) ρ N R B C' := fun D σ G H e k1 k2 k3 k4 => h σ G H e _ fun b m' G' H' g ⟨h1, h2⟩ => by
  cases b with
  | true => rw [if_pos rfl]; exact h1 rfl D σ G' H' (e.grow g) (fun a b m c' d n y z => k1 a b m c' d n (g.ex.trans y) z) (fun s v m' G' H' r y gg rr => k2 s v m' G' H' r (g.ex.trans y) gg rr) (fun a b m c' d n y z => k3 a b m c' d n (g.ex.trans y) z) (fun a b m c' d n y z => k4 a b m c' d n (g.ex.trans y) z)
  | false => rw [if_neg Bool.false_ne_true]; exact h2 rfl D σ G' H' (e.grow g) (fun a b m c' d n y z => k1 a b m c' d n (g.ex.trans y) z) (fun s v m' G' H' r y gg rr => k2 s v m' G' H' r (g.ex.trans y) gg rr) (fun a b m c' d n y z => k3 a b m c' d n (g.ex.trans y) z) (fun a b m c' d n y z => k4 a b m c' d n (g.ex.trans y) z)
end
end DL
set_option Elab.async false
set_option linter.all false
set_option maxRecDepth 100000
set_option maxHeartbeats 1000000
namespace DL
open PySem PySem.Spec PyProof.Rows L2 Evl
/-! ### a classmethod within a try -/
end DL
set_option Elab.async false
set_option linter.all false
set_option maxRecDepth 100000
set_option maxHeartbeats 1000000
namespace DL
open PySem PySem.Spec PyProof.Rows L2 Evl
/-! ### a text times a number -/
end DL
set_option Elab.async false
set_option linter.all false
set_option maxRecDepth 100000
set_option maxHeartbeats 1000000
namespace DL
open PySem PySem.Spec PyProof.Rows L2 Evl
/-! ### runs with a token out: a for whose body needs one, a comprehension whose item needs one -/
end DL
set_option Elab.async false
set_option linter.all false
set_option maxRecDepth 100000
set_option maxHeartbeats 1000000
namespace DL
open PySem PySem.Spec PyProof.Rows L2 Evl
/-! ### x.replace(y, z * n), a token out -/
end DL
set_option Elab.async false
set_option linter.all false
set_option maxRecDepth 100000
set_option maxHeartbeats 1000000
namespace DL
open PySem PySem.Spec PyProof.Rows L2 Evl
/-! ### a written list whose first item is a written text is stored under a name: behind it a token is out -/
theorem k_ixSeq {X : Cx} {K : PySem.W.Frag} (hK : X.K = K) : IxR X (rIx K) := by subst hK; exact ix_seq
theorem ops_ixQ {ι : Type} {K : PySem.W.Frag} {W : Wd ι} {m : ι} {Φ : ι → S → Prop} {d e : D} {ds : List D} {i : Int} (h : d = .lst ds ∨ d = .tup ds) (hi : atI ds i = some e) (hΦ : Φ m (.dat e)) : OpS K W m (rIx K) (.dat d) (.dat (.int i)) Φ := by
  rcases h with rfl | rfl
  · exact fun H0 G H v1 v2 ok r1 r2 Q q => .inl (ops_ixL rfl hi hΦ H0 G H v1 v2 ok r1 r2 Q q)
  · exact fun H0 G H v1 v2 ok r1 r2 Q q => .inr (.inl (ops_ixT hi hΦ H0 G H v1 v2 ok r1 r2 Q q))
end DL
set_option Elab.async false
set_option linter.all false
set_option maxRecDepth 100000
set_option maxHeartbeats 1000000
namespace DL
open PySem PySem.Spec PyProof.Rows L2 Evl
/-! ### + by an own __add__, of two things of the same class -/
/-! ### of data -/
end DL
set_option Elab.async false
set_option linter.all false
set_option maxRecDepth 100000
set_option maxHeartbeats 1000000
namespace DL
open PySem PySem.Spec PyProof.Rows L2
/-! ### the head's facts of a class with its own __add__, and of an exception without fields -/
end DL
set_option Elab.async false
set_option linter.all false
set_option maxRecDepth 100000
set_option maxHeartbeats 1000000
namespace DL
open PySem PySem.Spec PyProof.Rows L2 Evl
/-! ### own instances: a def is handed one, changes it and hands it back -/
abbrev FcO := ∀ κ : Type, Wd κ → κ → O → List S → (κ → O → Prop) → Xp κ → Prop
def argO : S → Bool
  | .dat _ => true
  | .at_ _ => true
  | _ => false
section
variable {ι : Type} {W : Wd ι} {m m' m1 m2 : ι} {G0 H0 G H G' H' G1 H1 G2 H2 : Hp} {K : PySem.W.Frag}
/-- a heap without some things -/
noncomputable def hid (H : Hp) (A : Addr → Prop) : Hp := fun x => open Classical in if A x then none else H x
theorem hid_no {A : Addr → Prop} {x : Addr} (h : ¬ A x) : hid H A x = H x := if_neg h
theorem hid_yes {A : Addr → Prop} {x : Addr} (h : A x) : hid H A x = none := if_pos h
theorem hid_some {A : Addr → Prop} {x : Addr} {u : HO} (h : hid H A x = some u) : H x = some u ∧ ¬ A x := by
  by_cases a : A x
  · rw [hid_yes a] at h; cases h
  · exact ⟨(hid_no a).symm.trans h, a⟩
theorem hid_ok {A : Addr → Prop} (ok : Ok W m G H) (hA : ∀ a, A a → G a = none ∧ ¬ W.M a) : Ok W m G (hid H A) ∧ Grow W G (hid H A) m G H := by
  have sub : Ex G (hid H A) := fun x o h => by
    have n : ¬ A x := fun z => by rw [(hA x z).1] at h; cases h
    exact (hid_no n).trans (ok.ex x o h)
  refine ⟨⟨sub, W.dep m G G H _ (Ex.refl G) (fun a ha => hid_no fun z => (hA a z).2 ha) ok.inv, ok.off, ok.lk⟩, Ex.refl G, ok.ex, fun _ _ _ _ q => q, fun a o _ h => (hid_some h).1, ok.inv, fun _ _ _ q _ => .inr q⟩
theorem Grow.thru {A : Addr → Prop} (g : Grow W G0 H0 m G H) (hA : ∀ x, H0 x ≠ none → ¬ A x) (g2 : Grow W G (hid H A) m2 G2 H2) : Grow W G0 H0 m2 G2 H2 := by
  refine ⟨g.ex.trans g2.ex, g2.sub, fun x o hx t hg => ?_, fun x o hm hx => ?_, g2.inv, fun x o u q n => (g2.lk x o u q n).elim .inl fun z => g.lk x o u z n⟩
  · have na := hA x (by rw [hx]; exact fun z => by cases z)
    have h1 := g.fresh x o hx t hg
    by_cases mx : W.M x
    · obtain ⟨u, hu, t2⟩ := W.has _ _ _ _ g.inv mx
      exact g2.fresh x u ((hid_no na).trans hu) t2 h1
    · exact g2.fresh x o ((hid_no na).trans (g.keep x o mx hx)) t h1
  · have na := hA x (by rw [hx]; exact fun z => by cases z)
    exact g2.keep x o hm ((hid_no na).trans (g.keep x o hm hx))
end
section
variable {ι : Type} {c : Cc ι} {m m' m1 m2 : ι} {G H G' H' G1 H1 G2 H2 : Hp} {σ : L2.St} {ρ : List S}
/-- behind a def that changes things of which the slots know nothing -/
theorem EnvOk.thru {A : Addr → Prop} (e : EnvOk c m G H σ ρ) (h0 : ∀ x, c.H0 x ≠ none → ¬ A x) (hx : ∀ x, A x → ∃ u, H x = some u ∧ noTup u = true ∧ ∀ fv, u ≠ .xd fv)
    (ho : ∀ (i : Nat) (o : O) (p : Addr), ρ[i]? = some (S.own o) → σ[i]? = some (some (V.ref p)) → ∀ a, Ads H p o a → ¬ A a) (g : Grow c.W G (hid H A) m' G' H') : EnvOk c m' G' H' σ ρ := by
  have kd : ∀ a, ¬ A a → ¬ c.W.M a → ∀ u, H a = some u → noTup u = true → G a = none → H' a = H a ∧ G' a = none := fun a na nm u hu t hg =>
    ⟨(g.keep a u nm ((hid_no na).trans hu)).trans hu.symm, g.fresh a u ((hid_no na).trans hu) t hg⟩
  have kown : ∀ {i : Nat} {o : O} {p : Addr}, ρ[i]? = some (.own o) → σ[i]? = some (some (.ref p)) → ∀ a, Ads H p o a → H' a = H a ∧ Fr c.W c.H0 G' a := fun {i o p} hi hp a ha => by
    obtain ⟨p', hp', ob⟩ := e.own hi
    rw [hp] at hp'
    cases hp'
    obtain ⟨f, u, hu, t⟩ := ob.ads ha
    obtain ⟨k1, k2⟩ := kd a (ho i o p hi hp a ha) f.2.2 u hu (pln2_t t) f.2.1
    exact ⟨k1, f.1, k2, f.2.2⟩
  have kvw : ∀ {k : Nat} {o : O} {p : Addr}, ρ[k]? = some (.vw o) → σ[k]? = some (some (.ref p)) → OwnAt c.K (Fv c.W G) G H p o → ∀ a, Ads H p o a → H' a = H a ∧ Fv c.W G' a := fun {k o p} hk hp ob a ha => by
    obtain ⟨f, u, hu, t⟩ := ob.ads ha
    obtain ⟨k1, k2⟩ := kd a (h0 a (e.vws k o p hk hp a ha)) f.2 u hu (pln2_t t) f.1
    exact ⟨k1, k2, f.2⟩
  refine ⟨e.ok0, e.gr.thru h0 g, e.exc, e.len, fun i s h => ?_, fun i j o o' p q hij hi hj pi pj a ha hb => ?_, fun k i j h => ?_, fun k o p hk hp a ha => ?_⟩
  · rcases e.at_ i s h with z | ⟨v, a, r⟩
    · exact .inl z
    refine .inr ⟨v, a, ?_⟩
    cases s with
    | no => trivial
    | el i j => trivial
    | dat d => exact Rp.mono g.ex r
    | own o =>
      obtain ⟨p, rfl, ob⟩ := r
      exact ⟨p, rfl, ob.monoA g.ex (kown h a)⟩
    | vw o =>
      obtain ⟨p, rfl, ob⟩ := r
      exact ⟨p, rfl, ob.monoA g.ex (kvw h a ob)⟩
    | lk o => obtain ⟨p, x, u, rfl, n, ob⟩ := r; exact ⟨p, x, u, rfl, n, ob.up (Up.ex g.ex)⟩
    | at_ p => exact r
    | xc C x d fs =>
      obtain ⟨e1, n, md, fv, hd, k, b⟩ := r
      have na : ¬ A d := fun z => by
        obtain ⟨u, hu, _, ne⟩ := hx d z
        rw [hd] at hu
        cases hu
        exact ne fv rfl
      exact ⟨e1, g.fresh d _ ((hid_no na).trans hd) rfl n, md, fv, g.keep d _ md ((hid_no na).trans hd), k, b.mono g.ex⟩
  · exact e.sep i j o o' p q hij hi hj pi pj a (ha.eq (kown hi pi p (Ads.root o)).1) (hb.eq (kown hj pj q (Ads.root o')).1)
  · obtain ⟨its, p, vs, q, o, h1, h2, h3, h4⟩ := e.els k i j h
    exact ⟨its, p, vs, q, o, h1, h2, (kown h1 h2 p (Ads.root _)).1.trans h3, h4⟩
  · rcases e.at_ k _ hk with z | ⟨v, hv, p', rfl, ob⟩
    · cases z
    · rw [hp] at hv
      cases hv
      exact e.vws k o p hk hp a (ha.eq (kvw hk hp ob p (Ads.root o)).1)
end
/-- a promise of a def that is handed an own thing and hands it back -/
def spO (K : PySem.W.Frag) (C : FcO) : Sp := fun vs H Q E => ∃ (κ : Type) (W : Wd κ) (m : κ) (G H0 : Hp) (p : Addr) (us : List V) (o : O) (ss : List S) (Φ : κ → O → Prop) (Ξ : Xp κ), vs = .ref p :: us ∧ Ok W m G H0 ∧ Grow W G H0 m G H ∧ OwnAt K (Fr W H0 G) G H p o ∧ RelSs K W H0 G H us ss ∧ ss.all argO = true ∧ C κ W m o ss Φ Ξ ∧
  (∀ o' m' G' H', Grow W G H0 m' G' H' → OwnAt K (Fr W H0 G') G' H' p o' → Φ m' o' → Q .non H') ∧ ExcQ K W G H0 Ξ E
theorem spO_len {K : PySem.W.Frag} {C : FcO} {n : Nat} (h : ∀ κ W m o ss Φ Ξ, C κ W m o ss Φ Ξ → ss.length + 1 = n) (vs : List V) (H : Hp) (Q : VK) (E : XK) (x : spO K C vs H Q E) : vs.length = n := by
  obtain ⟨κ, W, m, G, H0, p, us, o, ss, Φ, Ξ, rfl, _, _, _, r, _, hc, _⟩ := x
  rw [List.length_cons, r.length]
  exact h κ W m o ss Φ Ξ hc
theorem run_fnO {K : PySem.W.Frag} {F : FcO} {Nm : List Str} {t : TS} {vs : List V} {H : Hp} {Q : VK} {E : XK} {n k : Nat} (pad : List S) (hN : Nm.length = n + k) (hv : vs.length = n) (hpad : pad = List.replicate k .no) (h : spO K F vs H Q E)
    (body : ∀ κ W m pa C fs ss Φ Ξ G H0, F κ W m (.ins pa C fs) ss Φ Ξ → Ds ⟨K, W, E, Ξ, m, G, H0⟩ m t (.own (.ins pa C fs) :: ss ++ pad) (fun m ρ => ∃ fs', ρ[0]? = some (.own (.ins pa C fs')) ∧ Φ m (.ins pa C fs')) (fun _ _ => False) (fun _ _ => False) (fun _ _ => False))
    (hins : ∀ κ W m o ss Φ Ξ, F κ W m o ss Φ Ξ → ∃ pa C fs, o = .ins pa C fs) :
    t { nx := fun _ H' => Q .non H', rt := Q } (L2.start Nm vs) H := by
  obtain ⟨κ, W, m, G, H0, p, us, o, ss, Φ, Ξ, rfl, ok, gr, ow, rs, ha, hf, hq, he⟩ := h
  obtain ⟨pa, C, fs, rfl⟩ := hins _ _ _ _ _ _ _ hf
  obtain rfl : p = pa := ow.2.1
  have hlen := rs.length
  rw [List.length_cons] at hv
  subst hpad
  refine body κ W m p C fs ss Φ Ξ G H0 hf _ (L2.start Nm (.ref p :: us)) G H ?_ (fun ρ' σ' m' G' H' ⟨fs', h0, hp⟩ _ e' => ?_) (fun _ _ _ _ _ z => z.elim) (fun _ _ _ _ _ z => z.elim) (fun _ _ _ _ _ z => z.elim)
  · have arg : ∀ {i : Nat} {s : S}, (.own (.ins p C fs) :: ss ++ List.replicate k S.no)[i]? = some s → (i = 0 ∧ s = .own (.ins p C fs)) ∨ (argO s = true ∧ ∃ j, i = j + 1 ∧ ss[j]? = some s) ∨ s = .no := fun {i s} z => by
      cases i with
      | zero => exact .inl ⟨rfl, (Option.some.inj z).symm⟩
      | succ j =>
        rw [List.cons_append, List.getElem?_cons_succ] at z
        by_cases hi : j < ss.length
        · rw [List.getElem?_append_left hi] at z
          exact .inr (.inl ⟨List.all_eq_true.mp ha _ (List.mem_of_getElem? z), j, rfl, z⟩)
        · rw [List.getElem?_append_right (by omega), List.getElem?_replicate] at z
          split at z <;> first | (cases z; exact .inr (.inr rfl)) | cases z
    have sig : ∀ {i : Nat} {v : V}, (V.ref p :: us)[i]? = some v → (L2.start Nm (.ref p :: us))[i]? = some (some v) := fun {i v} hv => by
      unfold L2.start
      rw [List.getElem?_append_left (by rw [List.length_map]; exact (List.getElem?_eq_some_iff.mp hv).1), List.getElem?_map, hv]
      rfl
    refine ⟨ok, gr, he, ?_, fun i s hs => ?_, fun i j o o' p1 q1 hij hi hj => ?_, fun k i j hk => ?_, fun k o p hk hp a ha2 => ?_⟩
    · unfold L2.start
      rw [List.length_append, List.length_map, List.length_replicate, List.length_append, List.length_cons, List.length_cons, List.length_replicate, hN]
      omega
    · rcases arg hs with ⟨rfl, rfl⟩ | ⟨_, j, rfl, h1⟩ | rfl
      · exact .inr ⟨_, sig rfl, p, rfl, ow⟩
      · obtain ⟨v, hv, r⟩ := relss_get rs h1
        exact .inr ⟨v, sig (by rw [List.getElem?_cons_succ]; exact hv), r⟩
      · exact .inl rfl
    · rcases arg hi with ⟨rfl, _⟩ | ⟨z, _⟩ | z
      · rcases arg hj with ⟨rfl, _⟩ | ⟨z, _⟩ | z
        · exact absurd rfl hij
        · cases z
        · cases z
      · cases z
      · cases z
    · rcases arg hk with ⟨_, z⟩ | ⟨z, _⟩ | z <;> cases z
    · rcases arg hk with ⟨_, z⟩ | ⟨z, _⟩ | z <;> cases z
  · obtain ⟨p', _, ob⟩ := e'.own h0
    obtain rfl : p' = p := ob.2.1
    exact hq _ m' G' H' e'.gr ob hp
/-! ### fields of an own instance -/
section
variable {K : PySem.W.Frag} {F : Addr → Prop} {G H : Hp} {f : Str}
def putI (f : Str) (it : It) : List (Str × It) → List (Str × It)
  | [] => [(f, it)]
  | (g, x) :: r => if g = f then (g, it) :: r else (g, x) :: putI f it r
theorem kids_sub {vs : List V} {is : List It} {v : V} {it : It} {a : Addr} (h : a ∈ kids (v :: vs) (it :: is)) : a ∈ kids vs is ∨ (v = .ref a ∧ ∃ o, it = .o o) := by
  cases it with
  | d d => rw [kids_d] at h; exact .inl h
  | o o =>
    cases v with
    | ref q =>
      rw [kids_o] at h
      rcases List.mem_cons.mp h with rfl | h
      · exact .inr ⟨rfl, o, rfl⟩
      · exact .inl h
    | _ => exact .inl h
theorem kids_tl {vs : List V} {is : List It} (v : V) (it : It) {a : Addr} (h : a ∈ kids vs is) : a ∈ kids (v :: vs) (it :: is) := by
  cases it with
  | d d => rw [kids_d]; exact h
  | o o =>
    cases v with
    | ref q => rw [kids_o]; exact List.mem_cons_of_mem _ h
    | _ => exact h
theorem kids_nd {vs : List V} {is : List It} {v : V} {it : It} (h : (kids (v :: vs) (it :: is)).Nodup) : (kids vs is).Nodup ∧ ∀ q o, v = .ref q → it = .o o → q ∉ kids vs is := by
  cases it with
  | d d => rw [kids_d] at h; exact ⟨h, fun _ _ _ z => by cases z⟩
  | o o =>
    cases v with
    | ref q =>
      rw [kids_o] at h
      obtain ⟨h1, h2⟩ := List.nodup_cons.mp h
      exact ⟨h2, fun q' o' e _ => by cases e; exact h1⟩
    | _ => exact ⟨h, fun _ _ e _ => by cases e⟩
theorem kids_mk {vs : List V} {is : List It} {v : V} {it : It} (h : (kids vs is).Nodup) (hq : ∀ q o, v = .ref q → it = .o o → q ∉ kids vs is) : (kids (v :: vs) (it :: is)).Nodup := by
  cases it with
  | d d => rw [kids_d]; exact h
  | o o =>
    cases v with
    | ref q => rw [kids_o]; exact List.nodup_cons.mpr ⟨hq q o rfl rfl, h⟩
    | _ => exact h
theorem look_it : ∀ {fv : List (Str × V)} {fs : List (Str × It)}, fv.map (·.1) = fs.map (·.1) → RIts K F G H (fv.map (·.2)) (fs.map (·.2)) → ∀ {it : It}, fs.lookup f = some it → ∃ v, fv.lookup f = some v ∧ RIt K F G H v it ∧ ∀ q o, v = .ref q → it = .o o → q ∈ kids (fv.map (·.2)) (fs.map (·.2))
  | [], [], _, _, _, h => by cases h
  | [], _ :: _, k, _, _, _ => by cases k
  | _ :: _, [], k, _, _, _ => by cases k
  | (g, x) :: fv, (g', y) :: fs, k, rs, it, h => by
    simp only [List.map_cons, List.cons.injEq] at k
    obtain ⟨k1, k2⟩ := k
    subst k1
    cases rs with
    | cons r1 rs =>
      rw [List.lookup_cons] at h ⊢
      cases e : (f == g) with
      | true =>
        rw [e] at h
        simp at h
        subst h
        refine ⟨x, rfl, r1, fun q o e1 e2 => ?_⟩
        subst e1 e2
        show q ∈ kids (V.ref q :: _) (It.o o :: _)
        rw [kids_o]
        exact List.mem_cons_self
      | false =>
        rw [e] at h
        obtain ⟨v, h1, h2, h3⟩ := look_it k2 rs h
        exact ⟨v, h1, h2, fun q o e1 e2 => kids_tl _ _ (h3 q o e1 e2)⟩
/-- a field is set -/
theorem putI_ok {v : V} {it : It} (r : RIt K F G H v it) : ∀ {fv : List (Str × V)} {fs : List (Str × It)}, fv.map (·.1) = fs.map (·.1) → RIts K F G H (fv.map (·.2)) (fs.map (·.2)) → (kids (fv.map (·.2)) (fs.map (·.2))).Nodup → (∀ q o, v = .ref q → it = .o o → q ∉ kids (fv.map (·.2)) (fs.map (·.2))) →
    (putF f v fv).map (·.1) = (putI f it fs).map (·.1) ∧ RIts K F G H ((putF f v fv).map (·.2)) ((putI f it fs).map (·.2)) ∧ (kids ((putF f v fv).map (·.2)) ((putI f it fs).map (·.2))).Nodup ∧
      ∀ a ∈ kids ((putF f v fv).map (·.2)) ((putI f it fs).map (·.2)), a ∈ kids (fv.map (·.2)) (fs.map (·.2)) ∨ (v = .ref a ∧ ∃ o, it = .o o)
  | [], [], _, _, _, _ => ⟨rfl, .cons r .nil, kids_mk (vs := []) (is := []) List.nodup_nil (fun _ _ _ _ z => absurd (show _ ∈ [] from z) List.not_mem_nil), fun a h => kids_sub (vs := []) (is := []) h⟩
  | [], _ :: _, k, _, _, _ => by cases k
  | _ :: _, [], k, _, _, _ => by cases k
  | (g, x) :: fv, (g', y) :: fs, k, rs, nd, hq => by
    simp only [List.map_cons, List.cons.injEq] at k
    obtain ⟨k1, k2⟩ := k
    subst k1
    cases rs with
    | cons r1 rs =>
      obtain ⟨n1, n2⟩ := kids_nd nd
      unfold putF putI
      by_cases h : g = f
      · rw [if_pos h, if_pos h]
        exact ⟨by simp [k2], .cons r rs, kids_mk n1 fun q o e1 e2 z => hq q o e1 e2 (kids_tl _ _ z), fun a ha => (kids_sub ha).imp_left (kids_tl _ _)⟩
      · rw [if_neg h, if_neg h]
        obtain ⟨a, b, c, d⟩ := putI_ok r k2 rs n1 fun q o e1 e2 z => hq q o e1 e2 (kids_tl _ _ z)
        refine ⟨by simp [a], .cons r1 b, kids_mk c fun q o e1 e2 z => ?_, fun a ha => ?_⟩
        · rcases d q z with z | ⟨e3, o2, e4⟩
          · exact n2 q o e1 e2 z
          · refine hq q o2 e3 e4 ?_
            simp only [List.map_cons]
            rw [show x = .ref q from e1, show y = .o o from e2, kids_o]
            exact List.mem_cons_self
        · rcases kids_sub ha with ha | ha
          · exact (d a ha).imp_left (kids_tl _ _)
          · obtain ⟨e1, o, e2⟩ := ha
            refine .inl ?_
            simp only [List.map_cons]
            rw [show x = .ref a from e1, show y = .o o from e2, kids_o]
            exact List.mem_cons_self
/-- an own thing in a field changes -/
theorem putI_mut {o1 o2 : O1} {u : HO} : ∀ {fv : List (Str × V)} {fs : List (Str × It)} {q : Addr}, fv.map (·.1) = fs.map (·.1) → RIts K F G H (fv.map (·.2)) (fs.map (·.2)) → (kids (fv.map (·.2)) (fs.map (·.2))).Nodup → fs.lookup f = some (.o o1) → fv.lookup f = some (.ref q) → Ob1 K G (upd H q u) q o2 →
    fv.map (·.1) = (putI f (.o o2) fs).map (·.1) ∧ RIts K F G (upd H q u) (fv.map (·.2)) ((putI f (.o o2) fs).map (·.2)) ∧ kids (fv.map (·.2)) ((putI f (.o o2) fs).map (·.2)) = kids (fv.map (·.2)) (fs.map (·.2))
  | [], [], _, _, _, _, h, _, _ => by cases h
  | [], _ :: _, _, k, _, _, _, _, _ => by cases k
  | _ :: _, [], _, k, _, _, _, _, _ => by cases k
  | (g, x) :: fv, (g', y) :: fs, q, k, rs, nd, h, hv, ob => by
    simp only [List.map_cons, List.cons.injEq] at k
    obtain ⟨k1, k2⟩ := k
    subst k1
    cases rs with
    | cons r1 rs =>
      obtain ⟨n1, n2⟩ := kids_nd nd
      rw [List.lookup_cons] at h hv
      unfold putI
      cases e : (f == g) with
      | true =>
        have eg : g = f := (beq_iff_eq.mp e).symm
        rw [e] at h hv
        simp at h hv
        subst h hv
        rw [if_pos eg]
        obtain ⟨q', e1, fq, _⟩ := r1
        cases e1
        have nq := n2 q o1 rfl rfl
        refine ⟨by simp [k2], .cons ⟨q, rfl, fq, ob⟩ (rs.monoA (Ex.refl _) fun a ha => ⟨upd_ne fun z => nq (by rw [← z]; exact ha), (rs.kid ha).1⟩), ?_⟩
        simp only [List.map_cons]
        rw [kids_o, kids_o]
      | false =>
        have eg : ¬ g = f := fun z => by subst z; rw [beq_self_eq_true] at e; cases e
        rw [e] at h hv
        rw [if_neg eg]
        obtain ⟨a, b, c⟩ := putI_mut k2 rs n1 h hv ob
        obtain ⟨v', hv', r', hk⟩ := look_it k2 rs h
        have hv2 : fv.lookup f = some (.ref q) := hv
        rw [hv2] at hv'
        cases hv'
        have hqk := hk q o1 rfl rfl
        refine ⟨by simp [a], .cons ?_ b, ?_⟩
        · cases y with
          | d d => exact r1
          | o o3 =>
            obtain ⟨q3, e3, f3, ob3⟩ := r1
            refine ⟨q3, e3, f3, ob3.mono (Ex.refl _) (upd_ne fun z => n2 q3 o3 e3 rfl (by rw [z]; exact hqk))⟩
        · simp only [List.map_cons]
          cases y with
          | d d => rw [kids_d, kids_d, c]
          | o o3 =>
            obtain ⟨q3, e3, _⟩ := r1
            rw [show x = .ref q3 from e3, kids_o, kids_o, c]
end
end DL
set_option Elab.async false
set_option linter.all false
set_option maxRecDepth 100000
set_option maxHeartbeats 1000000
namespace DL
open PySem PySem.Spec PyProof.Rows L2 Evl
/-! ### an own instance changes -/
def itS : It → S
  | .d d => .dat d
  | .o o => .vw (.one o)
def itO : It → S
  | .d d => .dat d
  | .o o => .own (.one o)
theorem Ob1.notIns {K : PySem.W.Frag} {G H : Hp} {q C dx : Addr} {o : O1} {fv : List (Str × V)} (h : Ob1 K G H q o) (e : H q = some (.ins C dx fv)) : False := by
  cases o with
  | lst ds => obtain ⟨_, z, _⟩ := h; rw [e] at z; cases z
  | dK ds => obtain ⟨_, z, _⟩ := h; rw [e] at z; cases z
  | dT ds => obtain ⟨_, z, _⟩ := h; rw [e] at z; cases z
theorem Ob1.notOwn {K : PySem.W.Frag} {G H : Hp} {q p : Addr} {o : O1} (h : Ob1 K G H q o) (e : H q = some (.own p)) : False := by
  cases o with
  | lst ds => obtain ⟨_, z, _⟩ := h; rw [e] at z; cases z
  | dK ds => obtain ⟨_, z, _⟩ := h; rw [e] at z; cases z
  | dT ds => obtain ⟨_, z, _⟩ := h; rw [e] at z; cases z
theorem RIts.kidOb {K : PySem.W.Frag} {F : Addr → Prop} {G H : Hp} : ∀ {vs : List V} {is : List It}, RIts K F G H vs is → ∀ {a : Addr}, a ∈ kids vs is → ∃ o, Ob1 K G H a o
  | _, _, .nil, a, h => by cases h
  | _, _, .cons (i := .d d) r rs, a, h => by rw [kids_d] at h; exact rs.kidOb h
  | _, _, .cons (i := .o o) r rs, a, h => by
    obtain ⟨q, rfl, f, ob⟩ := r
    rw [kids_o] at h
    rcases List.mem_cons.mp h with rfl | h
    · exact ⟨o, ob⟩
    · exact rs.kidOb h
section
variable {ι : Type} {c : Cc ι} {m m' m1 m2 : ι} {G H G' H' G1 H1 G2 H2 : Hp} {σ : L2.St} {ρ : List S} {i : Nat} {pa C : Addr} {fs : List (Str × It)} {f : Str}
/-- an own thing in a field changes -/
theorem EnvOk.mutF {o1 o2 : O1} (e : EnvOk c m G H σ ρ) (hi : ρ[i]? = some (.own (.ins pa C fs))) (hf : fs.lookup f = some (.o o1)) :
    ∃ q dx fv, σ[i]? = some (some (.ref pa)) ∧ H pa = some (.ins C dx fv) ∧ fv.lookup f = some (.ref q) ∧ Ob1 c.K G H q o1 ∧ ∀ u, Ob1 c.K G (upd H q u) q o2 → EnvOk c m G (upd H q u) σ (ρ.set i (.own (.ins pa C (putI f (.o o2) fs)))) := by
  obtain ⟨p, hp, ob⟩ := e.own hi
  obtain rfl : p = pa := ob.2.1
  obtain ⟨fp, _, dx, fv, fx, hx, hdx, hk, rs, nd⟩ := id ob
  obtain ⟨v, hv, ⟨q, rfl, fq, obq⟩, hkid⟩ := look_it hk rs hf
  have qk := hkid q o1 rfl rfl
  refine ⟨q, dx, fv, hp, hx, hv, obq, fun u hu => ?_⟩
  have qp : q ≠ p := fun z => obq.notIns (by rw [z]; exact hx)
  have qd : q ≠ dx := fun z => obq.notOwn (by rw [z]; exact hdx)
  obtain ⟨k1, k2, k3⟩ := putI_mut (o2 := o2) (u := u) hk rs nd hf hv hu
  refine e.mut (o' := .ins p C (putI f (.o o2) fs)) hi hp (.inr ⟨dx, fv, hx, .inr qk⟩) ⟨fp, rfl, dx, fv, fx, (upd_ne (Ne.symm qp)).trans hx, (upd_ne (Ne.symm qd)).trans hdx, k1, k2, by rw [k3]; exact nd⟩ (fun a ha => ?_) fun its vs z => by cases z
  rcases ha with ha | ⟨dx', fv', e', ha⟩
  · exact .inl ha
  · rw [upd_ne (Ne.symm qp), hx] at e'
    cases e'
    rw [k3] at ha
    exact .inr ⟨dx, fv, hx, ha⟩
/-- a field is set -/
theorem EnvOk.setFl {v : V} {it : It} (e : EnvOk c m G H σ ρ) (g : Grow c.W G H m1 G1 H1) (hi : ρ[i]? = some (.own (.ins pa C fs))) (r : RelS c.K c.W H G1 H1 v (itO it)) :
    ∃ dx fv, σ[i]? = some (some (.ref pa)) ∧ H1 pa = some (.ins C dx fv) ∧ fv.length = fs.length ∧ EnvOk c m1 G1 (upd H1 pa (.ins C dx (putF f v fv))) σ (ρ.set i (.own (.ins pa C (putI f it fs)))) := by
  have e1 := e.grow g
  obtain ⟨p0, hp0, ob0⟩ := e.own hi
  obtain rfl : p0 = pa := ob0.2.1
  obtain ⟨p, hp, ob⟩ := e1.own hi
  rw [hp0] at hp
  cases hp
  obtain ⟨fp, _, dx, fv, fx, hx, hdx, hk, rs, nd⟩ := id ob
  have hroot : H1 p0 = H p0 := (g.fr p0 ob0.root.1 ob0.hereT).1
  have adsH : ∀ a, Ads H1 p0 (.ins p0 C fs) a → H a ≠ none := fun a ha => by
    obtain ⟨_, u, hu, _⟩ := ob0.ads (ha.eq hroot.symm.symm)
    rw [hu]; exact fun z => by cases z
  -- the item
  have hit : RIt c.K (Fr c.W c.H0 G1) G1 H1 v it ∧ ∀ q o, v = .ref q → it = .o o → H q = none := by
    cases it with
    | d d => exact ⟨r, fun _ _ _ z => by cases z⟩
    | o o =>
      obtain ⟨q, rfl, fq, obq⟩ := r
      exact ⟨⟨q, rfl, ⟨e.gr.back fq.1, fq.2⟩, obq⟩, fun q' _ z _ => by cases z; exact fq.1⟩
  obtain ⟨rit, new⟩ := hit
  have nk : ∀ q o, v = .ref q → it = .o o → q ∉ kids (fv.map (·.2)) (fs.map (·.2)) := fun q o e1 e2 z => adsH q (.inr ⟨dx, fv, hx, .inr z⟩) (new q o e1 e2)
  obtain ⟨k1, k2, k3, k4⟩ := putI_ok (f := f) rit hk rs nd nk
  refine ⟨dx, fv, hp0, hx, by have := congrArg List.length hk; simpa using this, ?_⟩
  have kne : ∀ a ∈ kids ((putF f v fv).map (·.2)) ((putI f it fs).map (·.2)), a ≠ p0 := fun a ha z => by
    obtain ⟨o, obo⟩ := k2.kidOb ha
    rw [z] at obo
    exact obo.notIns hx
  have dne : dx ≠ p0 := fun z => by rw [z, hx] at hdx; cases hdx
  have hl : i < ρ.length := (List.getElem?_eq_some_iff.mp hi).1
  have own' : OwnAt c.K (Fr c.W c.H0 G1) G1 (upd H1 p0 (.ins C dx (putF f v fv))) p0 (.ins p0 C (putI f it fs)) :=
    ⟨fp, rfl, dx, _, fx, upd_same, (upd_ne dne).trans hdx, k1, k2.monoA (Ex.refl _) fun a ha => ⟨upd_ne (kne a ha), (k2.kid ha).1⟩, k3⟩
  -- what is another's
  have oth : ∀ {j : Nat} {o2 : O} {q : Addr}, i ≠ j → ρ[j]? = some (.own o2) → σ[j]? = some (some (.ref q)) → ∀ a, Ads H1 q o2 a → a ≠ p0 ∧ a ≠ dx ∧ a ∉ kids ((putF f v fv).map (·.2)) ((putI f it fs).map (·.2)) := fun {j o2 q} hij hj hq a ha => by
    have s1 := e1.sep i j _ o2 p0 q hij hi hj hp0 hq a
    obtain ⟨q0, hq0, obj⟩ := e.own hj
    rw [hq] at hq0
    cases hq0
    have hr : H1 q = H q := (g.fr q obj.root.1 obj.hereT).1
    obtain ⟨_, u, hu, _⟩ := obj.ads (ha.eq hr.symm.symm)
    refine ⟨fun z => s1 (by rw [z]; exact .inl rfl) ha, fun z => s1 (by rw [z]; exact .inr ⟨dx, fv, hx, .inl rfl⟩) ha, fun z => ?_⟩
    rcases k4 a z with z | ⟨z1, o, z2⟩
    · exact s1 (.inr ⟨dx, fv, hx, .inr z⟩) ha
    · rw [new a o z1 z2] at hu
      cases hu
  have inn : ∀ a, Ads (upd H1 p0 (.ins C dx (putF f v fv))) p0 (.ins p0 C (putI f it fs)) a → a = p0 ∨ a = dx ∨ a ∈ kids ((putF f v fv).map (·.2)) ((putI f it fs).map (·.2)) := fun a h => by
    rcases h with z | ⟨dx', fv', e', z⟩
    · exact .inl z
    · rw [upd_same] at e'
      cases e'
      exact .inr z
  refine ⟨e1.ok0, e1.gr.mut fp.1 fp.2.1 fp.2.2, e1.exc, by rw [List.length_set]; exact e1.len, fun j s hs => ?_, fun j k o1 o2 p1 p2 hjk hj hk2 pj pk a h1 h2 => ?_, fun k a j hk2 => ?_, fun k o1 p1 hk2 hp1 a ha1 => ?_⟩
  · rcases set_get hs with ⟨rfl, rfl, _⟩ | ⟨hj, hs⟩
    · exact .inr ⟨_, hp0, p0, rfl, own'⟩
    · rcases e1.at_ j s hs with z | ⟨w, aw, rw'⟩
      · exact .inl z
      · refine .inr ⟨w, aw, ?_⟩
        cases s with
        | no => trivial
        | el a b => trivial
        | dat d => exact rw'
        | at_ q => exact rw'
        | own o2 =>
          obtain ⟨q, rfl, zo⟩ := rw'
          exact ⟨q, rfl, zo.monoA (Ex.refl _) fun a h => ⟨upd_ne (oth hj hs aw a h).1, (zo.ads h).1⟩⟩
        | vw o2 =>
          obtain ⟨q, rfl, zo⟩ := rw'
          exact ⟨q, rfl, zo.monoA (Ex.refl _) fun a h => ⟨upd_ne (fun z => e1.vws j o2 q hs aw a h (by rw [z]; exact fp.1)), (zo.ads h).1⟩⟩
        | lk o2 => exact rw'
        | xc C a d fs =>
          obtain ⟨x1, x2, x3, fv, x4, x5, x6⟩ := rw'
          exact ⟨x1, x2, x3, fv, (upd_ne (fun z => by rw [z, hx] at x4; cases x4)).trans x4, x5, x6⟩
  · have back : ∀ {j : Nat} {o1 : O} {p1 : Addr}, i ≠ j → ρ[j]? = some (.own o1) → σ[j]? = some (some (.ref p1)) → Ads (upd H1 p0 (.ins C dx (putF f v fv))) p1 o1 a → Ads H1 p1 o1 a := fun hij hj pj h => h.eq (upd_ne (oth hij hj pj _ (Ads.root _)).1)
    have cl : ∀ {j : Nat} {o1 : O} {p1 : Addr}, i ≠ j → ρ[j]? = some (.own o1) → σ[j]? = some (some (.ref p1)) → Ads H1 p1 o1 a → Ads (upd H1 p0 (.ins C dx (putF f v fv))) p0 (.ins p0 C (putI f it fs)) a → False := fun hij hj pj h hb => by
      obtain ⟨o1', o2', o3'⟩ := oth hij hj pj a h
      rcases inn a hb with z | z | z
      · exact o1' z
      · exact o2' z
      · exact o3' z
    rcases set_get hj with ⟨rfl, z, _⟩ | ⟨n1, hj⟩
    · cases z
      rw [hp0] at pj
      cases pj
      rcases set_get hk2 with ⟨rfl, _⟩ | ⟨n2, hk2⟩
      · exact hjk rfl
      · exact cl n2 hk2 pk (back n2 hk2 pk h2) h1
    · rcases set_get hk2 with ⟨rfl, z, _⟩ | ⟨n2, hk2⟩
      · cases z
        rw [hp0] at pk
        cases pk
        exact cl n1 hj pj (back n1 hj pj h1) h2
      · exact e1.sep j k o1 o2 p1 p2 hjk hj hk2 pj pk a (back n1 hj pj h1) (back n2 hk2 pk h2)
  · rcases set_get hk2 with ⟨_, z, _⟩ | ⟨n1, hk2⟩
    · cases z
    · obtain ⟨its, p1, vs, q, o1, x1, x2, x3, x4, x5, x6⟩ := e1.els k a j hk2
      by_cases hai : i = a
      · subst hai
        rw [hi] at x1
        cases x1
      · exact ⟨its, p1, vs, q, o1, by rw [List.getElem?_set_ne hai]; exact x1, x2, (upd_ne (oth hai x1 x2 p1 (Ads.root _)).1).trans x3, x4, x5, x6⟩
  · rcases set_get hk2 with ⟨_, z, _⟩ | ⟨n1, hk2⟩
    · cases z
    · have np : p1 ≠ p0 := fun z => e1.vws k o1 p1 hk2 hp1 p1 (Ads.root _) (by rw [z]; exact fp.1)
      exact e1.vws k o1 p1 hk2 hp1 a (ha1.eq (upd_ne np))
end
end DL
set_option Elab.async false
set_option linter.all false
set_option maxRecDepth 100000
set_option maxHeartbeats 1000000
namespace DL
open PySem PySem.Spec PyProof.Rows L2 Evl
/-! ### rules for own instances -/
theorem putI_frz {K : PySem.W.Frag} {F F2 : Addr → Prop} {G G2 H : Hp} {f : Str} {o1 : O1} {d : D} (x : Ex G G2) : ∀ {fv : List (Str × V)} {fs : List (Str × It)} {q : Addr}, fv.map (·.1) = fs.map (·.1) → RIts K F G H (fv.map (·.2)) (fs.map (·.2)) → (kids (fv.map (·.2)) (fs.map (·.2))).Nodup → fs.lookup f = some (.o o1) → fv.lookup f = some (.ref q) → Rp K G2 (.ref q) d → (∀ a, a ≠ q → F a → F2 a) →
    fv.map (·.1) = (putI f (.d d) fs).map (·.1) ∧ RIts K F2 G2 H (fv.map (·.2)) ((putI f (.d d) fs).map (·.2)) ∧ (kids (fv.map (·.2)) ((putI f (.d d) fs).map (·.2))).Nodup ∧ ∀ a ∈ kids (fv.map (·.2)) ((putI f (.d d) fs).map (·.2)), a ∈ kids (fv.map (·.2)) (fs.map (·.2)) ∧ a ≠ q
  | [], [], _, _, _, _, h, _, _, _ => by cases h
  | [], _ :: _, _, k, _, _, _, _, _, _ => by cases k
  | _ :: _, [], _, k, _, _, _, _, _, _ => by cases k
  | (g, w) :: fv, (g', y) :: fs, q, k, rs, nd, h, hv, rp, hF => by
    simp only [List.map_cons, List.cons.injEq] at k
    obtain ⟨k1, k2⟩ := k
    subst k1
    cases rs with
    | cons r1 rs =>
      obtain ⟨n1, n2⟩ := kids_nd nd
      rw [List.lookup_cons] at h hv
      unfold putI
      cases e : (f == g) with
      | true =>
        have eg : g = f := (beq_iff_eq.mp e).symm
        rw [e] at h hv
        simp at h hv
        subst h hv
        rw [if_pos eg]
        have nq := n2 q o1 rfl rfl
        have hne : ∀ a ∈ kids (fv.map (·.2)) (fs.map (·.2)), a ≠ q := fun a ha z => nq (by rw [← z]; exact ha)
        refine ⟨by simp [k2], .cons rp (rs.monoA x fun a ha => ⟨rfl, hF a (hne a ha) (rs.kid ha).1⟩), ?_, fun a ha => ?_⟩
        · simp only [List.map_cons]
          rw [kids_d]
          exact n1
        · simp only [List.map_cons] at ha ⊢
          rw [kids_d] at ha
          exact ⟨kids_tl _ _ ha, hne a ha⟩
      | false =>
        have eg : ¬ g = f := fun z => by subst z; rw [beq_self_eq_true] at e; cases e
        rw [e] at h hv
        rw [if_neg eg]
        obtain ⟨a1, b1, c1, d1⟩ := putI_frz x k2 rs n1 h hv rp hF
        obtain ⟨v', hv', r', hk⟩ := look_it k2 rs h
        have hv2 : fv.lookup f = some (.ref q) := hv
        rw [hv2] at hv'
        cases hv'
        have hqk := hk q o1 rfl rfl
        refine ⟨by simp [a1], .cons ?_ b1, kids_mk c1 fun q3 o3 e3 e4 z => n2 q3 o3 e3 e4 (d1 q3 z).1, fun a ha => ?_⟩
        · cases y with
          | d d => exact Rp.mono x r1
          | o o3 =>
            obtain ⟨q3, e3, f3, ob3⟩ := r1
            exact ⟨q3, e3, hF q3 (fun z => n2 q3 o3 e3 rfl (by rw [z]; exact hqk)) f3, ob3.mono x rfl⟩
        · rcases kids_sub ha with ha | ⟨e3, o3, e4⟩
          · exact ⟨kids_tl _ _ (d1 a ha).1, (d1 a ha).2⟩
          · refine ⟨?_, fun z => n2 a o3 e3 e4 (by rw [z]; exact hqk)⟩
            simp only [List.map_cons]
            rw [show w = .ref a from e3, show y = .o o3 from e4, kids_o]
            exact List.mem_cons_self
section
variable {ι : Type} {c : Cc ι} {m m' m1 m2 : ι} {G H G' H' G1 H1 G2 H2 : Hp} {σ : L2.St} {ρ : List S} {i : Nat} {pa C : Addr} {fs : List (Str × It)} {f : Str} {ta tv ty : TE} {t : TS} {N B C' : ι → List S → Prop} {R : ι → S → Prop} {Φ : ι → S → Prop}
/-- e.f of an own instance -/
theorem de_fldV (h : De c m ta ρ fun m' s => ∃ pa C fs it, s = .vw (.ins pa C fs) ∧ Cls c.K C ∧ NoAttr c.K C f ∧ fs.lookup f = some it ∧ Φ m' (itS it)) : De c m (tFld c.K ta f) ρ Φ := fun σ G H e Q q =>
  h σ G H e _ fun v s m1 G1 H1 g r ⟨pa, C, fs, it, es, hc, hn, hl, hΦ⟩ => by
    subst es
    obtain ⟨p, rfl, ob⟩ := r
    obtain rfl : p = pa := ob.2.1
    obtain ⟨fp, _, dx, fv, fx, hx, hdx, hk, rs, nd⟩ := id ob
    obtain ⟨w, lw, rw', _⟩ := look_it hk rs hl
    refine ⟨p, C, dx, fv, w, rfl, hx, hc, hn, lw, q w (itS it) m1 G1 H1 g ?_ hΦ⟩
    cases it with
    | d d => exact rw'
    | o o => obtain ⟨q', rfl, fq, obq⟩ := rw'; exact ⟨q', rfl, fq, obq⟩
/-- self.f = e -/
theorem ds_setFl (hi : ρ[i]? = some (.own (.ins pa C fs))) (hc : Cls c.K C) (hn : NoAttr c.K C f) (hl : fs.length < 1000)
    (h : De c m tv ρ fun m' s => ∃ it, s = itO it ∧ N m' (ρ.set i (.own (.ins pa C (putI f it fs))))) : Ds c m (sFld c.K (tVar i) tv f) ρ N R B C' := fun D σ G H e k1 _ _ _ =>
  h σ G H e _ fun v s m1 G1 H1 g r ⟨it, es, hN⟩ => by
    subst es
    obtain ⟨dx, fv, hp, hx, hlen, e2⟩ := e.setFl (f := f) g hi r
    exact ⟨_, hp, pa, C, dx, fv, rfl, hx, hc, hn, by omega, k1 _ σ m1 G1 _ hN g.ex e2⟩
/-- self.f[k] = e -/
theorem ds_dputF {o : O1} (hi : ρ[i]? = some (.own (.ins pa C fs))) (hc : Cls c.K C) (hn : NoAttr c.K C f) (hl : fs.lookup f = some (.o o)) (hf : o.few)
    (h : De c m tv ρ fun m s => De c m ty ρ fun m s2 => ∃ d kd o', s.frz = .dat d ∧ s2 = .dat kd ∧ PutS o kd d o' ∧ N m (ρ.set i (.own (.ins pa C (putI f (.o o') fs))))) : Ds c m (sDPut (tFld c.K (tVar i) f) ty tv) ρ N R B C' := fun D σ G H e k1 _ _ _ =>
  h σ G H e _ fun v s m1 G1 H1 g1 r1 h1 => by
    have e1 := e.grow g1
    obtain ⟨q, dx, fv, hp, hx, hv, ob, _⟩ := e1.mutF (o2 := o) hi hl
    refine ⟨_, hp, pa, C, dx, fv, _, rfl, hx, hc, hn, hv, h1 σ G1 H1 e1 _ fun v2 s2 m2 G2 H2 g2 r2 ⟨d, kd, o', es, es2, hput, hN⟩ => ?_⟩
    subst es2
    obtain ⟨G3, g3, r3, x3⟩ := (r1.grow g2).freezeX (g1.trans g2)
    rw [es] at r3
    have e3 := e.grow g3
    obtain ⟨q', dx', fv', hp', hx', hv', ob', mk⟩ := e3.mutF (o2 := o') hi hl
    have hq : q' = q := by
      have e2 := e1.grow g2
      obtain ⟨q2, dx2, fv2, hp2, hx2, hv2, ob2, _⟩ := e2.mutF (o2 := o) hi hl
      have ob1 := e1.own hi
      obtain ⟨p1, hp1, ob1⟩ := e1.own hi
      rw [hp] at hp1
      cases hp1
      have hr : H2 pa = H1 pa := (g2.fr pa ob1.root.1 ob1.hereT).1
      rw [hr, hx] at hx'
      cases hx'
      rw [hv] at hv'
      cases hv'
      rfl
    subst hq
    obtain ⟨u, hu, obu⟩ := put_dput e3.ok.ex ob' hf hput (Rp.mono x3 r2) r3
    exact ⟨q', _, rfl, hu, k1 _ σ m2 G3 _ hN g3.ex (mk u obu)⟩
/-- self.f[k] op= e, ints -/
theorem ds_daugF {o : O1} {dv : DV} {fn : Int → Int → Int} {rd : V → V → Hp → VK → Prop} (hrd : ∀ (a b : Int) H (Q : VK), Q (.int (fn a b)) H → rd (.int a) (.int b) H Q) (hi : ρ[i]? = some (.own (.ins pa C fs))) (hc : Cls c.K C) (hn : NoAttr c.K C f) (hl : fs.lookup f = some (.o o)) (hf : o.few) (hdv : (S.own (.one o)).dct? = some dv)
    (h : De c m ty ρ fun m s2 => ∃ (kd : D) (x : Int), s2 = .dat kd ∧ Look dv kd (some (.int x)) ∧ De c m tv ρ fun m s => ∃ y o', s = .dat (.int y) ∧ PutS o kd (.int (fn x y)) o' ∧ N m (ρ.set i (.own (.ins pa C (putI f (.o o') fs))))) : Ds c m (sDAug (tFld c.K (tVar i) f) ty tv rd) ρ N R B C' := fun D σ G H e k1 _ _ _ => by
  have at_ : ∀ {m' G' H'}, Grow c.W G H m' G' H' → ∀ {o2 : O1}, ∃ q dx fv, σ[i]? = some (some (.ref pa)) ∧ H' pa = some (.ins C dx fv) ∧ H pa = some (.ins C dx fv) ∧ fv.lookup f = some (.ref q) ∧ Ob1 c.K G' H' q o ∧ ∀ u, Ob1 c.K G' (upd H' q u) q o2 → EnvOk c m' G' (upd H' q u) σ (ρ.set i (.own (.ins pa C (putI f (.o o2) fs)))) := fun {m' G' H'} g {o2} => by
    obtain ⟨p0, hp0, ob0⟩ := e.own hi
    obtain rfl : p0 = pa := ob0.2.1
    obtain ⟨q, dx, fv, hp, hx, hv, ob, mk⟩ := (e.grow g).mutF (o2 := o2) hi hl
    have hr : H' p0 = H p0 := (g.fr p0 ob0.root.1 ob0.hereT).1
    exact ⟨q, dx, fv, hp, hx, hr.symm.trans hx, hv, ob, mk⟩
  obtain ⟨q, dx, fv, hp, hx, hx0, hv, ob, _⟩ := at_ e.refl (o2 := o)
  refine ⟨_, hp, pa, C, dx, fv, _, rfl, hx, hc, hn, hv, h σ G H e _ fun v2 s2 m1 G1 H1 g1 r2 ⟨kd, x, es2, hlk, h1⟩ => ?_⟩
  subst es2
  have e1 := e.grow g1
  have same : ∀ {m' G' H'} (g : Grow c.W G H m' G' H') {o2 : O1}, σ[i]? = some (some (.ref pa)) ∧ Ob1 c.K G' H' q o ∧ ∀ u, Ob1 c.K G' (upd H' q u) q o2 → EnvOk c m' G' (upd H' q u) σ (ρ.set i (.own (.ins pa C (putI f (.o o2) fs)))) := fun {m' G' H'} g {o2} => by
    obtain ⟨q', dx', fv', hp', hx', hx0', hv', ob', mk⟩ := at_ g (o2 := o2)
    rw [hx0] at hx0'
    cases hx0'
    rw [hv] at hv'
    cases hv'
    exact ⟨hp', ob', mk⟩
  obtain ⟨a2, ea, hd⟩ := RelS.dct (H0 := c.H0) (s := .own (.one o)) e1.ok (v := .ref q) ⟨q, rfl, by
    obtain ⟨q', dx', fv', hp', hx', hv', ob', _⟩ := e1.mutF (o2 := o) hi hl
    obtain ⟨p1, hp1, ob1⟩ := e1.own hi
    rw [hp] at hp1
    cases hp1
    obtain ⟨_, _, dx1, fv1, _, hx1, _, hk1, rs1, _⟩ := ob1
    rw [hx'] at hx1
    cases hx1
    obtain ⟨v, hv1, ⟨q1, e1', fq, obq⟩, _⟩ := look_it hk1 rs1 hl
    subst e1'
    obtain ⟨_, z, _⟩ := same g1 (o2 := o)
    have : q1 = q := by
      obtain ⟨q3, dx3, fv3, _, hx3, hx03, hv3, _⟩ := at_ g1 (o2 := o)
      rw [hx'] at hx3
      cases hx3
      rw [hx0] at hx03
      cases hx03
      rw [hv] at hv1
      cases hv1
      rfl
    subst this
    exact ⟨fq, obq⟩⟩ hdv
  cases ea
  obtain ⟨w, hw, ⟨_, z⟩ | ⟨y, d', rfl, hd', ry⟩⟩ := look_get e1.ok.ex hd hlk r2
  · cases z
  · cases hd'
    cases ry
    refine ⟨q, _, rfl, hw, h1 σ G1 H1 e1 _ fun v3 s3 m2 G2 H2 g2 r3 ⟨y, o', es3, hput, hN⟩ => ?_⟩
    subst es3
    cases r3
    refine hrd _ _ _ _ ?_
    have g12 := g1.trans g2
    obtain ⟨_, ob2, mk⟩ := same g12 (o2 := o')
    obtain ⟨u, hu, obu⟩ := put_dput (e.grow g12).ok.ex ob2 hf hput (Rp.mono g2.ex r2) (Rp.int _)
    exact ⟨_, hu, k1 _ σ m2 G2 _ hN g12.ex (mk u obu)⟩
/-- a field becomes data -/
theorem ds_frzF {o : O1} (hi : ρ[i]? = some (.own (.ins pa C fs))) (hl : fs.lookup f = some (.o o)) (h : Ds c m t (ρ.set i (.own (.ins pa C (putI f (.d o.frz) fs)))) N R B C') : Ds c m t ρ N R B C' := fun D σ G H e k1' k2 k3' k4' => by
  obtain ⟨p, hp, ob⟩ := e.own hi
  obtain rfl : p = pa := ob.2.1
  obtain ⟨fp, _, dx, fv, fx, hx, hdx, hk, rs, nd⟩ := id ob
  obtain ⟨v, hv, ⟨q, rfl, fq, obq⟩, hkid⟩ := look_it hk rs hl
  have qk := hkid q o rfl rfl
  have ob0 : OwnAt c.K (Fr c.W c.H0 G) G H p (.ins p C fs) := ob
  obtain ⟨G2, g2, r2, x, nq⟩ := frz_1 e.gr fq obq
  obtain ⟨k1, k2', k3, k4⟩ := putI_frz (F2 := Fr c.W c.H0 G2) x hk rs nd hl hv r2 fun a na fa => ⟨fa.1, by rw [nq a na]; exact fa.2.1, fa.2.2⟩
  have qp : q ≠ p := fun z => obq.notIns (by rw [z]; exact hx)
  have qd : q ≠ dx := fun z => obq.notOwn (by rw [z]; exact hdx)
  have aq : Ads H p (.ins p C fs) q := .inr ⟨dx, fv, hx, .inr qk⟩
  have own' : OwnAt c.K (Fr c.W c.H0 G2) G2 H p (.ins p C (putI f (.d o.frz) fs)) :=
    ⟨⟨fp.1, by rw [nq p (Ne.symm qp)]; exact fp.2.1, fp.2.2⟩, rfl, dx, fv, ⟨fx.1, by rw [nq dx (Ne.symm qd)]; exact fx.2.1, fx.2.2⟩, hx, hdx, k1, k2', k3⟩
  have inn : ∀ a, Ads H p (.ins p C (putI f (.d o.frz) fs)) a → Ads H p (.ins p C fs) a := fun a h => by
    rcases h with z | ⟨dx', fv', e', z⟩
    · exact .inl z
    · rw [hx] at e'
      cases e'
      exact .inr ⟨dx, fv, hx, z.imp_right fun z => (k4 a z).1⟩
  have e2 : EnvOk c m G2 H σ (ρ.set i (.own (.ins p C (putI f (.d o.frz) fs)))) := by
    refine ⟨e.ok0, g2, e.exc, by rw [List.length_set]; exact e.len, fun j s hs => ?_, fun j k o1 o2 p1 p2 hjk hj hk2 pj pk a h1 h2 => ?_, fun k a j hk2 => ?_, fun k o1 p1 hk2 hp1 => ?_⟩
    · rcases set_get hs with ⟨rfl, rfl, _⟩ | ⟨hj, hs⟩
      · exact .inr ⟨_, hp, p, rfl, own'⟩
      · rcases e.at_ j s hs with z | ⟨w, aw, rw'⟩
        · exact .inl z
        · refine .inr ⟨w, aw, ?_⟩
          cases s with
          | no => trivial
          | el a b => trivial
          | dat d => exact Rp.mono x rw'
          | at_ q => exact rw'
          | own o' =>
            obtain ⟨r, rfl, zo⟩ := rw'
            refine ⟨r, rfl, zo.monoA x fun a ha => ⟨rfl, ?_⟩⟩
            have na : a ≠ q := fun z => e.sep i j _ o' p r hj hi hs hp aw q aq (by rw [← z]; exact ha)
            obtain ⟨fa, _⟩ := zo.ads ha
            exact ⟨fa.1, by rw [nq a na]; exact fa.2.1, fa.2.2⟩
          | vw o' =>
            obtain ⟨r, rfl, zo⟩ := rw'
            refine ⟨r, rfl, zo.monoA x fun a ha => ⟨rfl, ?_⟩⟩
            have na : a ≠ q := fun z => e.vws j o' r hs aw a ha (by rw [z]; exact fq.1)
            obtain ⟨fa, _⟩ := zo.ads ha
            exact ⟨by rw [nq a na]; exact fa.1, fa.2⟩
          | lk o' => obtain ⟨r, xq, uq, y1, y2, zo⟩ := rw'; exact ⟨r, xq, uq, y1, y2, zo.up (Up.ex x)⟩
          | xc C a d fs =>
            obtain ⟨y1, y2, y3, fv, y4, y5, y6⟩ := rw'
            have na : d ≠ q := fun z => by
              obtain ⟨_, u, hu, hk⟩ := ob0.ads aq
              rw [← z, y4] at hu
              cases hu
              cases hk
            exact ⟨y1, by rw [nq d na]; exact y2, y3, fv, y4, y5, y6.mono x⟩
    · rcases set_get hj with ⟨rfl, z, _⟩ | ⟨n1, hj⟩
      · cases z
        rw [hp] at pj
        cases pj
        rcases set_get hk2 with ⟨rfl, _⟩ | ⟨n2, hk2⟩
        · exact hjk rfl
        · exact e.sep i k _ o2 p p2 hjk hi hk2 hp pk a (inn a h1) h2
      · rcases set_get hk2 with ⟨rfl, z, _⟩ | ⟨n2, hk2⟩
        · cases z
          rw [hp] at pk
          cases pk
          exact e.sep j i o1 _ p1 p hjk hj hi pj hp a h1 (inn a h2)
        · exact e.sep j k o1 o2 p1 p2 hjk hj hk2 pj pk a h1 h2
    · rcases set_get hk2 with ⟨_, z, _⟩ | ⟨n1, hk2⟩
      · cases z
      · obtain ⟨its, p1, vs, r, o1, x1, x2, x3⟩ := e.els k a j hk2
        by_cases hai : i = a
        · subst hai
          rw [hi] at x1
          cases x1
        · exact ⟨its, p1, vs, r, o1, by rw [List.getElem?_set_ne hai]; exact x1, x2, x3⟩
    · rcases set_get hk2 with ⟨_, z, _⟩ | ⟨n1, hk2⟩
      · cases z
      · exact e.vws k o1 p1 hk2 hp1
  exact h D σ G2 H e2 (fun ρ' σ' m' G' H' n y e' => k1' _ _ _ _ _ n (x.trans y) e') (fun s v m' G' H' r y => k2 s v m' G' H' r (x.trans y)) (fun ρ' σ' m' G' H' n y e' => k3' _ _ _ _ _ n (x.trans y) e') (fun ρ' σ' m' G' H' n y e' => k4' _ _ _ _ _ n (x.trans y) e')
end
end DL
set_option Elab.async false
set_option linter.all false
set_option maxRecDepth 100000
set_option maxHeartbeats 1000000
namespace DL
open PySem PySem.Spec PyProof.Rows L2 Evl
/-! ### defs that are handed an own instance: calls -/
theorem relss_argO {ι : Type} {K : PySem.W.Frag} {W : Wd ι} {H0 H1 G H : Hp} : ∀ {vs : List V} {ss : List S}, RelSs K W H0 G H vs ss → ss.all argO = true → RelSs K W H1 G H vs ss
  | _, _, .nil, _ => .nil
  | _, s :: ss, .cons h r, q => by
    rw [List.all_cons] at q
    obtain ⟨q1, q2⟩ := Bool.and_eq_true_iff.mp q
    refine .cons ?_ (relss_argO r q2)
    cases s <;> first | exact h | cases q1
structure MeO (P : Program) (w : World) (K : PySem.W.Frag) (mg : Str → Option Value) (base : Heap) (k : Nat) (C : Addr) (x : Str) (ps : List Str) (F : FcO) : Prop where
  cl : Cls K C
  ex : ∃ (f : Addr) (fd : FuncData), Meth K C x f ∧ FnOk P w K mg base CX0 k f fd ps (spO K F) ∧ Binds K fd ps []
structure MiO (P : Program) (w : World) (K : PySem.W.Frag) (mg : Str → Option Value) (base : Heap) (k : Nat) (C : Addr) (x : Str) (ps : List Str) (F : FcO) : Prop where
  ex : ∃ (g : Addr) (fd : FuncData), Mk K C g ∧ FnOk P w K mg base CX0 k g fd ps (spO K F) ∧ mg x = some (.ref C) ∧ Binds K fd ps []
section
variable {X : Cx} {K : PySem.W.Frag} {C : Addr} {k j : Nat} {x : Str} {ps : List Str} {F : FcO} {e : Expr} {es : List Expr} {ta : TE} {t : TA} {p apos pos : Pos} {o : Expr}
theorem k_methO (c : MeO X.prog X.w K X.mg X.base k C x ps F) (hK : X.K = K) (hr : Room j X.A) (he : PE X o ta) (ha : PA X (e :: es) t) (hk : k ≤ j := by decide)
    (hst : starEach (e :: es) X.env = (false, eval e X.env) :: starEach es X.env := by rfl) (hpl : (backTo pos (starEach es X.env)).any (·.1) = false := by rfl) {pl : Sem Bool}
    (ht : eval (.Call (.Attribute o x apos) (e :: es) [] pos) X.env = (do
      let ov ← eval o X.env
      standAt apos.atName
      let (f, first) ← holding [ov] (getMethod ov x pl)
      callWith pos f first (backTo pos (starEach (e :: es) X.env)) (backToKw pos (keywordEach [] X.env))) := by rfl) :
    PE X (.Call (.Attribute o x apos) (e :: es) [] pos) (tMeth C x (spO K F) [] E0 ta t) := by
  subst hK
  obtain ⟨f, fd, hm, hF, hb⟩ := c.ex
  exact pe_meth he c.cl hm hF (hr.mono hk) hb .nil pass0 ha hst hpl ht
theorem k_makeO (c : MiO X.prog X.w K X.mg X.base k C x ps F) (hK : X.K = K) (hr : Room j X.A) (ha : PA X (e :: es) t) (hk : k + 1 ≤ j := by decide) (hg : Gl X x := by rfl) (hdb : (x == ("__debug__" : Str)) = false := by decide)
    (he : starEach (e :: es) X.env = (false, eval e X.env) :: starEach es X.env := by rfl) (hpl : (backTo pos (starEach es X.env)).any (·.1) = false := by rfl) :
    PE X (.Call (.Name x p) (e :: es) [] pos) (tMake C (spO K F) [] E0 t) := by
  subst hK
  obtain ⟨g, fd, M, hF, hm, hb⟩ := c.ex
  exact pe_make M hF (hr.mono hk) hg hm hb .nil pass0 ha hdb he hpl
end
section
variable {ι : Type} {c : Cc ι} {m m' m1 m2 : ι} {G H G' H' G1 H1 G2 H2 : Hp} {σ : L2.St} {ρ : List S} {i : Nat} {pa C : Addr} {fs : List (Str × It)} {mn : Str} {ta : TE} {tr : TA} {N B C' : ι → List S → Prop} {R : ι → S → Prop} {Φ : ι → S → Prop}
/-- C(..): an own instance -/
theorem de_makeO {F : FcO} (h : DA c m tr ρ fun m2 ss => ss.all argO = true ∧ ∀ x, F ι c.W m2 (.ins x C []) ss (fun mm o => Φ mm (.own o)) fun _ _ _ => False) : De c m (tMake C (spO c.K F) [] E0 tr) ρ Φ := fun σ G H e Q q =>
  h σ G H e _ fun vs ss m1 G1 H1 g1 r1 ⟨ha, hF⟩ x dx hx hdx ne => by
    rw [List.append_nil]
    have ok := (e.grow g1).ok
    have hx1 : upd H1 dx (.own x) x = none := by rw [upd_ne (Ne.symm ne)]; exact hx
    have gn : Grow c.W G1 H1 m1 G1 (upd (upd H1 dx (.own x)) x (.ins C dx [])) := (Grow.new ok hdx).trans (Grow.new ((Grow.new ok hdx).ok ok) hx1)
    have gx : G1 x = none := fresh_back ok.ex hx
    have gdx : G1 dx = none := fresh_back ok.ex hdx
    have mx : ¬ c.W.M x := fun z => c.W.ne ok.inv z hx
    have mdx : ¬ c.W.M dx := fun z => c.W.ne ok.inv z hdx
    refine ⟨ι, c.W, m1, G1, H1, x, vs, .ins x C [], ss, _, _, rfl, ok, gn, ⟨⟨hx, gx, mx⟩, rfl, dx, [], ⟨hdx, gdx, mdx⟩, upd_same, (upd_ne ne).trans upd_same, rfl, .nil, List.nodup_nil⟩, relss_argO (r1.grow gn) ha, ha, hF x, fun o' m' G' H' g ob hΦ => ⟨rfl, ?_⟩, fun _ _ _ _ _ _ _ _ _ _ _ _ _ z => z.elim⟩
    exact q (.ref x) (.own o') m' G' H' (g1.trans g) (RelS.back g1 (s := .own o') ⟨x, rfl, ob⟩) hΦ
/-- o.m(..), the own instance o changes -/
theorem ds_methO {F : FcO} (hi : ρ[i]? = some (.own (.ins pa C fs))) (hl : fs.lookup mn = none) (hn : noEl i ρ = true)
    (h : DA c m tr ρ fun m2 ss => ss.all argO = true ∧ F ι c.W m2 (.ins pa C fs) ss (fun mm o => N mm (ρ.set i (.own o))) fun _ _ _ => False) : Ds c m (tDrop (tMeth C mn (spO c.K F) [] E0 (tVar i) tr)) ρ N R B C' := fun D σ G H e k1 _ _ _ => by
  obtain ⟨p, hp, ob⟩ := e.own hi
  obtain rfl : p = pa := ob.2.1
  obtain ⟨_, _, dx, fv, _, hx, _, hk, _, _⟩ := id ob
  have lk : fv.lookup mn = none := lookup_none hk hl
  refine ⟨_, hp, p, dx, fv, rfl, hx, lk, h σ G H e _ fun vs ss m1 G1 H1 g1 r1 ⟨ha, hF⟩ => ?_⟩
  rw [List.append_nil]
  have e1 := e.grow g1
  obtain ⟨p1, hp1, ob1⟩ := e1.own hi
  rw [hp] at hp1
  cases hp1
  have hA : ∀ a, Ads H1 p (.ins p C fs) a → G1 a = none ∧ ¬ c.W.M a := fun a ha => by
    obtain ⟨f, _⟩ := ob1.ads ha
    exact ⟨f.2.1, f.2.2⟩
  obtain ⟨ok', gr'⟩ := hid_ok e1.ok hA
  refine ⟨ι, c.W, m1, G1, hid H1 (Ads H1 p (.ins p C fs)), p, vs, .ins p C fs, ss, _, _, rfl, ok', gr', ob1.monoA (Ex.refl _) fun a ha => ⟨rfl, hid_yes ha, hA a ha⟩, relss_argO r1 ha, ha, hF, fun o' m' G' H' g ob' hN => ?_, fun _ _ _ _ _ _ _ _ _ _ _ _ _ z => z.elim⟩
  have eu := e1.unset none hn
  have h0 : ∀ x, c.H0 x ≠ none → ¬ Ads H1 p (.ins p C fs) x := fun x hx z => hx (ob1.ads z).1.1
  have hil : i < ρ.length := (List.getElem?_eq_some_iff.mp hi).1
  have e2 : EnvOk c m' G' H' (σ.set i none) (ρ.set i .no) := eu.thru h0 (fun x hx => by
    obtain ⟨_, u, hu, hk⟩ := ob1.ads hx
    exact ⟨u, hu, pln2_t hk, fun fv z => by subst z; cases hk⟩) (fun j o2 q hj hq a h1 h2 => by
      rcases set_get hj with ⟨rfl, z, _⟩ | ⟨nj, hj⟩
      · cases z
      · rw [List.getElem?_set_ne nj] at hq
        exact e1.sep i j _ o2 p q nj hi hj hp hq a h2 h1) g
  have fresh : ∀ a, Ads H' p o' a → hid H1 (Ads H1 p (.ins p C fs)) a = none := fun a ha => (ob'.ads ha).1.1
  have e3 := e2.set0 (i := i) (x := some (.ref p)) (s := .own o') (.inr ⟨_, rfl, p, rfl, ob'.monoA (Ex.refl _) fun a ha => ⟨rfl, ?_⟩⟩) (fun o3 p3 eo ep j o2 q hj hs hq a ha hb => ?_) ?_ (fun a j z => by cases z) fun o z => by cases z
  · rw [List.set_set, List.set_set] at e3
    have es : σ.set i (some (.ref p)) = σ := by
      apply List.ext_getElem?
      intro n
      rw [List.getElem?_set]
      split
      · rename_i h
        subst h
        split
        · exact hp.symm
        · rename_i hlt
          rw [List.getElem?_eq_none (by omega)]
      · rfl
    rw [es] at e3
    exact k1 _ σ m' G' H' hN (g1.ex.trans g.ex) e3
  · obtain ⟨f, _⟩ := ob'.ads ha
    refine ⟨?_, f.2⟩
    cases z : c.H0 a with
    | none => rfl
    | some u =>
      have na := h0 a (by rw [z]; exact fun q => by cases q)
      have h1 := f.1
      rw [hid_no na] at h1
      have := e1.gr.back h1
      rw [z] at this
      cases this
  · cases eo
    cases ep
    rw [List.getElem?_set_ne (Ne.symm hj)] at hs hq
    obtain ⟨q0, hq0, ob2⟩ := e1.own hs
    rw [hq] at hq0
    cases hq0
    have hb1 : Ads H1 q o2 a := by
      refine hb.eq ?_
      obtain ⟨f, u, hu, _⟩ := ob2.root
      have na : ¬ Ads H1 p (.ins p C fs) q := fun z => e1.sep i j _ o2 p q (Ne.symm hj) hi hs hp hq q z (Ads.root _)
      exact (g.keep q u f.2.2 ((hid_no na).trans hu)).trans hu.symm
    have na : ¬ Ads H1 p (.ins p C fs) a := fun z => e1.sep i j _ o2 p q (Ne.symm hj) hi hs hp hq a z hb1
    have := fresh a ha
    rw [hid_no na] at this
    obtain ⟨_, u, hu, _⟩ := ob2.ads hb1
    rw [this] at hu
    cases hu
  · exact noEl_set hn
/-- o.m(..), o stays as it is -/
theorem de_methV {F : Fc} {E : XK} {Ξ : Xp ι} (hE : ∀ σ G H m, EnvOk c m G H σ ρ → ExcQ c.K c.W G H Ξ E)
    (h : De c m ta ρ fun m' s => ∃ pa fs, s = .vw (.ins pa C fs) ∧ fs.lookup mn = none ∧ DA c m' tr ρ fun m2 ss => ss.all argS = true ∧ F ι c.W m2 (.vw (.ins pa C fs) :: ss) Φ Ξ) : De c m (tMeth C mn (spF c.K F) [] E ta tr) ρ Φ := fun σ G H e Q q =>
  h σ G H e _ fun v s m1 G1 H1 g1 r1 ⟨pa, fs, es, hl, hA⟩ => by
    subst es
    obtain ⟨p, rfl, ob⟩ := r1
    obtain rfl : p = pa := ob.2.1
    obtain ⟨_, _, dx, fv, _, hx, _, hk, _, _⟩ := id ob
    have lk : fv.lookup mn = none := lookup_none hk hl
    refine ⟨p, dx, fv, rfl, hx, lk, hA σ G1 H1 (e.grow g1) _ fun vs ss m2 G2 H2 g2 r2 ⟨ha, hF⟩ => ?_⟩
    rw [List.append_nil]
    have g12 := g1.trans g2
    refine ⟨ι, c.W, m2, G2, .vw (.ins p C fs) :: ss, Φ, Ξ, (e.grow g12).ok, .cons (s := .vw (.ins p C fs)) ⟨p, rfl, ob.mono g2.ex g2.fv⟩ (relss_arg r2 ha), by simp [argS, ha], hF, fun v s m' G' H' g r hp => q v s m' G' H' (g12.trans g) (r.back g12) hp, hE σ _ _ _ (e.grow g12)⟩
end
end DL
set_option Elab.async false
set_option linter.all false
set_option maxRecDepth 100000
set_option maxHeartbeats 1000000
namespace DL
open PySem PySem.Spec PyProof.Rows L2 Evl
/-! ### del d[k], keys that are tuples -/
section
variable {Ky : Type} [DecidableEq Ky] {prog : Program} {w : World} {knd : HeapKind prog w Ky}
theorem meetsDelH {d b : Addr} {k : Ky} : MeetsIn prog w (Builtin.«dict.__delitem__» ⟨[.ref d, .ref b], []⟩) (fun A R s => ∃ xs, knd.room A.in1 ∧ knd.is s.heap k b ∧ s.heap.DictOfH knd d xs ∧ xs.length ≤ sizeLine ∧ atKey xs k ≠ none ∧
    ∀ h' tk, h'.DictOfH knd d (DT.dropH xs k) → Heap.SameBut d s.heap h' → R (.ok (.ret .none)) { s with heap := h', toks := tk }) :=
  .of_wp fun A R s ⟨xs, hu, hkey, hm, hsz, ht, h⟩ => by
    unfold Builtin.«dict.__delitem__»
    refine wpAny_bind ?_
    unfold Builtin.Dict.dictSlotArgs
    refine wpAny_bind (wpAny_notOrdered_dict hm.typeIs ?_)
    show wpAny _ _ (pure (Value.ref d, Value.ref b)) _ _ s
    refine wpAny_pure ?_
    show wpAny _ _ (Builtin.Dict.takeOut d (.ref b) >>= _) _ _ s
    refine wpAny_bind (DT.takeH hu hkey hm hsz (fun no => absurd no ht) fun p e _ _ h' hm' hs' => ?_)
    exact wpAny_bind (wpAny_letGo (wpAny_pure ⟨.none, rfl, h h' _ hm' hs'⟩))
end
def sDDelT (td ty : TE) : TS := fun D σ H => td σ H fun x H1 => ty σ H1 fun y H2 => ∃ a b kvs k, x = .ref a ∧ y = .ref b ∧ H2 a = some (.dT kvs) ∧ H2 b = some (.tup (k.map kV)) ∧ (valV kvs k).isSome = true ∧ D.nx σ (upd H2 a (.dT (dropK kvs k)))
section
variable {X : Cx} {pins : List (Addr × Obj)} {σ : L2.St} {H : Hp} {s : Shared} {a b : Addr} {kvs : List (List Key × V)} {k : List Key} {E : Value → Shared → Prop}
theorem d_delItemT {Q : Unit → Shared → Prop} (hu : X.A.units + 1 < cLine) (I : Inv X pins σ H s) (e : H a = some (.dT kvs)) (eb : H b = some (.tup (k.map kV))) (l : (valV kvs k).isSome = true) (h : ∀ s', Inv X pins σ (upd H a (.dT (dropK kvs k))) s' → Q () s') :
    wpAny (model X.prog X.w) X.A (delItem (.ref a) (.ref b)) Q E s := by
  obtain ⟨z, hd, xs, rel, dd⟩ := dt_of I.hok e
  have hz : xs.length ≤ sizeLine := by rw [← Paired.length rel]; exact z
  have there : atKey xs k ≠ none := fun no => by
    have r := rel.val k
    rw [no] at r
    cases ev : valV kvs k with
    | none => rw [ev] at l; cases l
    | some v0 => rw [ev] at r; exact (show False from r).elim
  refine wpAny_delItem_slot dd.typeIs (by decide) PySem.F.slot_dict_delitem (call_meetsIn PySem.F.slot_dict_delitem dd.typeIs PySem.F.entry_dict_delitem (PySem.F.args_dict_delitem_2 _ _) (meetsDelH (knd := tupleKind (mixKind X.prog X.w)) (k := k))
    ⟨xs, tupleKind_room_in1 hu, key_of I.hok eb, dd, hz, there, fun h' tk dd' hs => h _ ?_⟩)
  obtain ⟨o, es, ep, hq, h2, h3, h4, _, h5⟩ := dd'
  exact d_write I (by rw [e]; exact True.intro) hs ⟨o, hq⟩ ⟨Nat.le_trans (dropK_le kvs k) z, hd, _, (L2.DX.KT_drop k rel).keeps (fun c ys ec => (by rw [upd_ne (ne_of ec e (fun z => nomatch z))]; exact ec)), o, es, ep, hq, h2, h3, h4, h5⟩
theorem ps_ddelT {o i : Expr} {td ty : TE} {pos tpos : Pos} (hu : X.A.units + 1 < cLine) (ho : PE X o td) (hi : PE X i ty) : PS X (.Delete [.Subscript o i tpos] pos) (sDDelT td ty) := by
  refine ⟨fun pins s σ H D I h => ?_⟩
  refine wpAny_Delete (wpAny_deleteEach_cons (wpAny_delete_Subscript (thn (ho.run pins s σ H _ I h) fun u s1 ⟨x, H1, I1, rx, q1⟩ => thn (hi.run pins s1 σ H1 _ I1 q1) fun iv s2 ⟨y, H2, I2, ry, a, b, kvs, k, ex, ey, e, eb, l, q2⟩ => ?_)))
  subst ex ey
  obtain rfl : u = Value.ref a := rx
  obtain rfl : iv = Value.ref b := ry
  exact d_delItemT hu I2 e eb l fun s3 I3 => wpAny_deleteEach_nil ⟨σ, _, I3, q2⟩
end
def dropD {κ : Type} [DecidableEq κ] (ds : List (κ × D)) (k : κ) : List (κ × D) := ds.filter fun kv => decide (kv.1 ≠ k)
theorem drop_rp {κ : Type} [DecidableEq κ] {K : PySem.W.Frag} {G : Hp} (k : κ) : ∀ {kvs : List (κ × V)} {ds : List (κ × D)}, kvs.map (·.1) = ds.map (·.1) → RpL K G (kvs.map (·.2)) (ds.map (·.2)) → (dropK kvs k).map (·.1) = (dropD ds k).map (·.1) ∧ RpL K G ((dropK kvs k).map (·.2)) ((dropD ds k).map (·.2))
  | [], [], _, _ => ⟨rfl, .nil⟩
  | [], _ :: _, h, _ => by cases h
  | _ :: _, [], h, _ => by cases h
  | (a, v) :: kvs, (b, d) :: ds, h, r => by
    simp only [List.map_cons, List.cons.injEq] at h
    obtain ⟨h1, h2⟩ := h
    subst h1
    cases r with
    | cons r1 rs =>
      obtain ⟨x, y⟩ := drop_rp k h2 rs
      by_cases e : a = k
      · have z1 : dropK ((a, v) :: kvs) k = dropK kvs k := List.filter_cons_of_neg (by simp [e])
        have z2 : dropD ((a, d) :: ds) k = dropD ds k := List.filter_cons_of_neg (by simp [e])
        rw [z1, z2]
        exact ⟨x, y⟩
      · have z1 : dropK ((a, v) :: kvs) k = (a, v) :: dropK kvs k := List.filter_cons_of_pos (by simp [e])
        have z2 : dropD ((a, d) :: ds) k = (a, d) :: dropD ds k := List.filter_cons_of_pos (by simp [e])
        rw [z1, z2]
        exact ⟨by simp [x], .cons r1 y⟩
section
variable {ι : Type} {c : Cc ι} {m : ι} {ρ : List S} {i : Nat} {pa C : Addr} {fs : List (Str × It)} {f : Str} {ty : TE} {N B C' : ι → List S → Prop} {R : ι → S → Prop}
/-- del self.f[k] -/
theorem ds_ddelF {ds : List (List Key × D)} (hi : ρ[i]? = some (.own (.ins pa C fs))) (hc : Cls c.K C) (hn : NoAttr c.K C f) (hl : fs.lookup f = some (.o (.dT ds)))
    (h : De c m ty ρ fun m s2 => ∃ k, s2 = .dat (keyT k) ∧ (valD ds k).isSome = true ∧ N m (ρ.set i (.own (.ins pa C (putI f (.o (.dT (dropD ds k))) fs))))) : Ds c m (sDDelT (tFld c.K (tVar i) f) ty) ρ N R B C' := fun D σ G H e k1 _ _ _ => by
  obtain ⟨q, dx, fv, hp, hx, hv, ob, _⟩ := e.mutF (o2 := .dT ds) hi hl
  refine ⟨_, hp, pa, C, dx, fv, _, rfl, hx, hc, hn, hv, h σ G H e _ fun v2 s2 m1 G1 H1 g1 r2 ⟨k, es, hk, hN⟩ => ?_⟩
  subst es
  have e1 := e.grow g1
  obtain ⟨q', dx', fv', hp', hx', hv', ob', mk⟩ := e1.mutF (o2 := .dT (dropD ds k)) hi hl
  have hq : q' = q := by
    obtain ⟨p0, hp0, ob0⟩ := e.own hi
    rw [hp] at hp0
    cases hp0
    have hr : H1 pa = H pa := (g1.fr pa ob0.root.1 ob0.hereT).1
    rw [hr, hx] at hx'
    cases hx'
    rw [hv] at hv'
    cases hv'
    rfl
  subst hq
  obtain ⟨kvs, hkv, hkk, hrr⟩ := ob'
  obtain ⟨b, rfl, hb⟩ := keyT_inv (K := c.K) (G := G1) (show Rp c.K G1 v2 (keyT k) from r2)
  have there : (valV kvs k).isSome = true := by
    rcases rpk_val k hkk hrr with ⟨_, z⟩ | ⟨v, d, e, _⟩
    · rw [z] at hk; cases hk
    · rw [e]; rfl
  obtain ⟨x1, x2⟩ := drop_rp k hkk hrr
  exact ⟨q', b, kvs, k, rfl, rfl, hkv, e1.ok.ex _ _ hb, there, k1 _ σ m1 G1 _ hN g1.ex (mk _ ⟨_, upd_same, x1, x2⟩)⟩
end
end DL
set_option Elab.async false
set_option linter.all false
set_option maxRecDepth 100000
set_option maxHeartbeats 1000000
namespace DL
open PySem PySem.Spec PyProof.Rows L2 Evl
/-! ### {k: v} with a key that is a tuple -/
def tDisp1T (tk tv : TE) : TE := fun σ H Q => ∀ p, H p = none → tk σ (upd H p (.dT [])) fun x H1 => tv σ H1 fun y H2 => ∃ b k, x = .ref b ∧ H2 p = some (.dT []) ∧ H2 b = some (.tup (k.map kV)) ∧ Q (.ref p) (upd H2 p (.dT [(k, y)]))
theorem pe_disp1T {X : Cx} {k v : Expr} {pos : Pos} {tk tv : TE} (hu : X.A.units + 1 < cLine) (hk : PE X k tk) (hv : PE X v tv) : PE X (.Dict [some k] [v] pos) (tDisp1T tk tv) := by
  refine ⟨fun pins s σ H Q I q => ?_⟩
  have hn := I.hok.fresh (Nat.le_refl s.heap.objs.size)
  have I1 := I.laid (a := s.heap.objs.size) (o := .dT []) (h' := s.heap.push { cls := .type "dict", data := .dict #[] }) (t' := s.toks) (fun _ _ q => Heap.get?_push_of_some _ q) (Nat.le_refl _) (dt_empty s.heap I.big)
  rw [arm_eval_Dict, zip_pairTrees [some k] [v] X.env pos rfl rfl, dictDisplay_pairs _ (fun z => by cases z) (by show 1 < 17; decide)]
  refine wpAny_bind (wpAny_standAt (wpAny_bind ?_))
  unfold subDict
  refine wpAny_bind (wpAny_alloc (wpAny_bind (wpAny_holding ?_)))
  rw [if_pos (by show 1 ≤ 15; decide)]
  refine wpAny_bind (pairTrees_cons_walk (thn (hk.run pins _ σ _ _ I1 (q _ hn)) fun u s1 ⟨x, H1, I2, rx, q1⟩ => thn (hv.run pins s1 σ H1 _ I2 q1) fun r s2 ⟨y, H2, I3, ry, b, ky, ex, ep, eb, q2⟩ => pairTrees_nil_walk ?_))
  subst ex
  cases (show u = Value.ref b from rx)
  refine wpAny_holding ?_
  obtain ⟨z, hd, xs, rel, dd⟩ := dt_of I3.hok ep
  cases rel
  simp only [List.forIn_cons, List.forIn_nil]
  refine wpAny_bind (wpAny_bind (wpAny_bind (wpAny_dictSet_heap (hsz := by show 0 ≤ _; exact Nat.zero_le _) (knd := tupleKind (mixKind X.prog X.w)) (k := ky) (Nat.lt_of_succ_lt hu) (key_of I3.hok eb) dd fun h' dd' hs => wpAny_pure (wpAny_pure (wpAny_pure (wpAny_pure (wpAny_pure ?_)))))))
  obtain ⟨o, es, epp, hq, h2, h3, h4, _, h5⟩ := dd'
  have hl : (putK [] ky y).length ≤ sizeLine := by have := length_putK [] ky y; rw [sizeLine_eq]; simp at this; omega
  refine ⟨.ref s.heap.objs.size, upd H2 s.heap.objs.size (.dT (putK [] ky y)), ?_, rfl, q2⟩
  refine d_write I3 (by rw [ep]; exact True.intro) hs ⟨o, hq⟩ ⟨hl, hd, _, (KT.put .nil ky eb ry).keeps (fun c ys ec => ?_), o, es, epp, hq, h2, h3, h4, h5⟩
  rw [upd_ne (ne_of ec ep (fun z => nomatch z))]
  exact ec
section
variable {ι : Type} {c : Cc ι} {m : ι} {ρ : List S} {Φ : ι → S → Prop}
theorem de_disp1T {tk tv : TE} (h : De c m tk ρ fun m s => De c m tv ρ fun m s2 => ∃ k d, s = .dat (keyT k) ∧ s2.frz = .dat d ∧ Φ m (.own (.dT [(k, d)]))) : De c m (tDisp1T tk tv) ρ Φ := fun σ G H e Q q p hp => by
  have g0 := Grow.new (o := .dT []) e.ok hp
  have e0 := e.grow g0
  have gp : G p = none := fresh_back e.ok.ex hp
  have mp : ¬ c.W.M p := fun z => c.W.ne e.ok.inv z hp
  refine h σ G _ e0 _ fun v s m1 G1 H1 g1 r1 h1 => h1 σ G1 H1 (e0.grow g1) _ fun v2 s2 m2 G2 H2 g2 r2 ⟨k, d, es, es2, hΦ⟩ => ?_
  subst es
  have g12 := g1.trans g2
  obtain ⟨b, rfl, hb⟩ := keyT_inv (K := c.K) (G := G1) (show Rp c.K G1 v (keyT k) from r1)
  obtain ⟨G3, g3, r3, x3⟩ := r2.freezeX g2
  rw [es2] at r3
  have g13 := g1.trans g3
  have hp2 : H2 p = some (.dT []) := g13.keep p _ mp upd_same
  have gp3 : G3 p = none := g13.fresh p _ upd_same rfl gp
  have e3 := (e0.grow g1).grow g3
  refine ⟨b, k, rfl, hp2, e3.ok.ex _ _ (g3.ex _ _ hb), q (.ref p) (.own (.dT [(k, d)])) m2 G3 _ ((g0.trans g13).mut hp gp3 mp) ⟨p, rfl, ⟨hp, gp3, mp⟩, [(k, v2)], upd_same, rfl, .one r3⟩ hΦ⟩
end
end DL
set_option Elab.async false
set_option linter.all false
set_option maxRecDepth 100000
set_option maxHeartbeats 1000000
namespace DL
open PySem PySem.Spec PyProof.Rows L2 Evl
/-! ### walks over a dict that is a field of an own instance -/
section
variable {ι : Type} {c : Cc ι} {m m' : ι} {ρ : List S} {G H G' H' : Hp} {σ : L2.St} {d : Addr} {u : HO} {od : Obj}
/-- a path through things that are no dicts -/
def DPH (c : Cc ι) (m : ι) (td : TE) (ρ : List S) (d : D) : Prop := ∀ σ G H, EnvOk c m G H σ ρ → ∃ v, (∀ H', (∀ b o, H b = some o → isDct o = false → H' b = some o) → ∀ Q : VK, Q v H' → td σ H' Q) ∧ Rp c.K G v d
theorem dph_fld {i : Nat} {pa C : Addr} {fs : List (Str × It)} {f : Str} {dd : D} (hi : ρ[i]? = some (.own (.ins pa C fs))) (hc : Cls c.K C) (hn : NoAttr c.K C f) (hl : fs.lookup f = some (.d dd)) : DPH c m (tFld c.K (tVar i) f) ρ dd := fun σ G H e => by
  obtain ⟨p, hp, ob⟩ := e.own hi
  obtain rfl : p = pa := ob.2.1
  obtain ⟨fp, _, dx, fv, fx, hx, hdx, hk, rs, nd⟩ := id ob
  obtain ⟨v, hv, rv, _⟩ := look_it hk rs hl
  exact ⟨v, fun H' hH Q q => ⟨_, hp, p, C, dx, fv, v, rfl, hH _ _ hx rfl, hc, hn, hv, q⟩, rv⟩
variable {Φ : ι → S → Prop} {td te : TE} {tt : TT} {wi : TI} {g : TG} {vs : List Nat} {t : TS} {N B C : ι → List S → Prop} {R : ι → S → Prop}
theorem ds_lockForH {dd : D} {ds : List D} (hp : DPH c m td ρ dd) (hd : (∃ ds, dd = .dic ds) ∨ ∃ ds, dd = .dit ds) (hL : ∀ a, ¬ c.W.L a) (hwk : Walks wi td dd ds) (J : Nat → ι → List S → Prop) (j0 : J 0 m ρ)
    (jt : ∀ d F i x m ρ', ds[i]? = some x → J i m ρ' → ∃ ρ2, DG (lockC c d F) m g vs x ρ' ρ2 ∧ Ds (lockC c d F) m t ρ2 (J (i + 1)) R N (J (i + 1)))
    (jd : ∀ m ρ', J ds.length m ρ' → N m ρ') : Ds c m (tLock (tFor wi g t)) ρ N R B C := fun D σ G H e k1 k2 k3 k4 => by
  obtain ⟨v, kp, rv⟩ := hp σ G H e
  obtain ⟨d, u, rfl, k, hg, ru, mu⟩ := lkb_of e hL rv hd
  refine ⟨d, u, k.hd, mu, fun od => ?_⟩
  have e1 := e.lockD (od := od) k hg
  rw [show upd H d (.frz od u) = lkH H d (.frz od u) from (lkH_some (by rw [k.hd]; exact fun z => by cases z)).symm]
  have gd : lkH G d (.frz od u) d = some (.frz od u) := by rw [lkH_some (by rw [hg]; exact fun z => by cases z), upd_same]
  have upx : ∀ {G'}, Ex (lkH G d (.frz od u)) G' → G' d = some (.frz od u) → Ex G (lkH G' d u) := fun {G'} x f2 a o h => by
    by_cases z : a = d
    · subst z
      rw [hg] at h
      rw [lkH_some (by rw [f2]; exact fun z => by cases z), upd_same]; exact h
    · rw [lkH_ne z]; exact x a o (by rw [lkH_ne z]; exact h)
  refine hwk (W := lockW c.W d) (G := lkH G d (.frz od u)) (fun m G' H' x ok => ok.ex _ _ (x _ _ gd)) (e1.ok.ex _ _ gd) (ru.up (up_lk k.hu (.inl hg))) (fun Q q => kp _ (fun b o hb ho => ?_) Q q) _ fun I it =>
    for_run (c := lockC c d (.frz od u)) (vs := vs) (N := N) (R := R) e1 it J j0 (jt d _) jd (fun ρ' σ' m' G' H' n x e' => ?_) (fun s v m' G' H' r x g' rr => ?_)
  · have z : b ≠ d := fun z => by rw [z, k.hd] at hb; cases hb; rw [k.hu] at ho; cases ho
    rw [lkH_ne z]; exact hb
  · have f2 := x _ _ gd
    have f1 := e'.ok.ex _ _ f2
    exact ⟨f1, k1 ρ' σ' m' _ _ n (upx x f2) (e.unlock k f1 (.inl f2) e')⟩
  · obtain ⟨b1, b2, b3⟩ := k.base e
    have f2 := x _ _ gd
    have f1 := g'.sub _ _ f2
    exact ⟨f1, k2 s v m' _ _ r (upx x f2) (unlock_grow k.hu k.md b1 b2 b3 g' f1 (.inl f2)) (rr.unlock k.hu f1 (.inl f2))⟩
theorem ds_lockForWH {dd : D} {ds : List D} (hp : DPH c m td ρ dd) (hd : (∃ ds, dd = .dic ds) ∨ ∃ ds, dd = .dit ds) (hL : ∀ a, ¬ c.W.L a) (hwk : Walks wi td dd ds) (J : Nat → ι → List S → Prop) (j0 : WkJ ρ (J 0 m))
    (jt : ∀ d F i x m ρ', ds[i]? = some x → J i m ρ' → ∃ ρ2, DG (lockC c d F) m g vs x ρ' ρ2 ∧ Ds (lockC c d F) m t ρ2 (fun m ρ' => WkJ ρ' (J (i + 1) m)) R N (fun m ρ' => WkJ ρ' (J (i + 1) m)))
    (jd : ∀ m ρ', J ds.length m ρ' → N m ρ') : Ds c m (tLock (tFor wi g t)) ρ N R B C := by
  have key : Ds c m (tLock (tFor wi g t)) ρ (fun m ρ => N m ρ ∨ WkJ ρ (N m)) R B C := by
    refine ds_lockForH (vs := vs) hp hd hL hwk (fun i m ρ => WkJ ρ (J i m)) j0 ?_ ?_
    · rintro d F i x m ρ1 hx ⟨ρ2, w, we, j⟩
      obtain ⟨ρ3, dg, hs⟩ := jt d F i x m ρ2 hx j
      exact ⟨ρ3, dg.wk w we, hs.imp (fun _ _ n => n) (fun _ _ n => n) (fun _ ρ n => .inl n) (fun _ _ n => n)⟩
    · rintro m ρ1 ⟨ρ2, w, we, j⟩
      exact .inr ⟨ρ2, w, we, jd m ρ2 j⟩
  exact fun D σ G H e k1 k2 k3 k4 => key D σ G H e (fun ρ' σ' m' G' H' n x f => by
    rcases n with n | ⟨ρ2, w, we, n⟩
    · exact k1 ρ' σ' m' G' H' n x f
    · exact k1 ρ2 σ' m' G' H' n x (f.wk w we)) k2 k3 k4
end
end DL
set_option Elab.async false
set_option linter.all false
set_option maxRecDepth 100000
set_option maxHeartbeats 1000000
namespace DL
open PySem PySem.Spec PyProof.Rows L2 Evl
/-! ### a pool: [cells, seed, count], with a list in a list -/
def PoolOk (p q : Addr) (m : Nat) (H : Hp) : Prop := ∃ (ns : List Int) (a n : Int), H p = some (.lst [.ref q, .int a, .int n]) ∧ H q = some (.lst (ns.map V.int)) ∧ ns.length ≤ 1000 ∧ 0 ≤ a ∧ a < 2147483647 ∧ 0 ≤ n ∧ n + m ≤ 1048576
structure Pool {ι : Type} (W : Wd ι) (p q : Addr) where
  left : ι → Nat
  dec : ι → ι
  ne : p ≠ q
  memp : W.M p
  memq : W.M q
  out : ∀ m G H, W.I m G H → PoolOk p q (left m) H
  upd : ∀ m G H H', W.I m G H → 0 < left m → (∀ x, x ≠ p → x ≠ q → H' x = H x) → PoolOk p q (left m - 1) H' → W.I (dec m) G H'
  less : ∀ m, 0 < left m → left (dec m) = left m - 1
def poolW {κ : Type} (V : Wd κ) (p q : Addr) : Wd (κ × Nat) where
  M := fun a => V.M a ∨ a = p ∨ a = q
  L := V.L
  I := fun m G H => V.I m.1 G H ∧ PoolOk p q m.2 H
  dep := fun m G G' H H' x k ⟨h1, ns, a, n, h2, h3, h4⟩ => ⟨V.dep _ _ _ _ _ x (fun y hy => k y (.inl hy)) h1, ns, a, n, (k p (.inr (.inl rfl))).trans h2, (k q (.inr (.inr rfl))).trans h3, h4⟩
  has := fun m G H a ⟨h1, ns, x, n, h2, h3, _⟩ hm => by
    rcases hm with hm | rfl | rfl
    · exact V.has _ _ _ _ h1 hm
    · exact ⟨_, h2, rfl⟩
    · exact ⟨_, h3, rfl⟩
  sw := fun m G G' H a u s ⟨h1, h2⟩ => ⟨V.sw _ _ _ _ _ _ s h1, h2⟩
  pin := V.pin
  pinned := fun m G H a o ⟨h1, _⟩ hp => V.pinned _ _ _ _ _ h1 hp
def poolL {κ : Type} {V : Wd κ} {p q : Addr} (hpq : p ≠ q) (np : ¬ V.M p) (nq : ¬ V.M q) : Pool (poolW V p q) p q where
  left := fun m => m.2
  dec := fun m => (m.1, m.2 - 1)
  ne := hpq
  memp := .inr (.inl rfl)
  memq := .inr (.inr rfl)
  out := fun m G H h => h.2
  upd := fun m G H H' h _ ne ok => ⟨V.dep _ _ _ _ _ (Ex.refl _) (fun y hy => ne y (fun z => np (by rw [← z]; exact hy)) fun z => nq (by rw [← z]; exact hy)) h.1, ok⟩
  less := fun m _ => rfl
def Pool.lk {κ : Type} {V : Wd κ} {p q : Addr} (L : Pool V p q) (d : Addr) : Pool (lockW V d) p q := ⟨L.left, L.dec, L.ne, L.memp, L.memq, L.out, L.upd, L.less⟩
theorem pool_grow {ι : Type} {W : Wd ι} {p q : Addr} (L : Pool W p q) {m : ι} {G H H' : Hp} (ok : Ok W m G H) (hl : 0 < L.left m)
    (ne : ∀ x, x ≠ p → x ≠ q → H' x = H x) (h : PoolOk p q (L.left m - 1) H') : Grow W G H (L.dec m) G H' := by
  have gp : G p = none := ok.off p L.memp
  have gq : G q = none := ok.off q L.memq
  refine ⟨Ex.refl G, fun x o h => ?_, fun _ _ _ _ q => q, fun x o hm h => ?_, L.upd _ _ _ _ ok.inv hl ne h, fun _ _ _ q _ => .inr q⟩
  · have z : x ≠ p := fun z => by rw [z, gp] at h; cases h
    have z2 : x ≠ q := fun z => by rw [z, gq] at h; cases h
    rw [ne x z z2]; exact ok.ex x o h
  · have z : x ≠ p := fun z => hm (by rw [z]; exact L.memp)
    have z2 : x ≠ q := fun z => hm (by rw [z]; exact L.memq)
    rw [ne x z z2]; exact h
/-! a pool that is one's own is from here on the world's -/
section
variable {ι : Type} {c : Cc ι} {ρ : List S} {m : ι} {t : TS} {N B C : ι → List S → Prop} {R : ι → S → Prop}
abbrev poolC (c : Cc ι) (m : ι) (ms : Nat) (p q : Addr) (G H : Hp) : Cc (ι × Nat) := ⟨c.K, poolW c.W p q, c.E, fun mm => c.Ξ mm.1, (m, ms), G, H⟩
theorem relS_poolBack {κ : Type} {K : PySem.W.Frag} {Vd : Wd κ} {p q : Addr} {H0 H G H' : Hp} {v : V} {s : S} (hb : ∀ a, H a = none → H0 a = none) (r : RelS K (poolW Vd p q) H G H' v s) : RelS K Vd H0 G H' v s := by
  cases s with
  | no => trivial
  | el _ _ => trivial
  | dat d => exact r
  | at_ q => exact r
  | lk o => exact r
  | own o => obtain ⟨q, e, ob⟩ := r; exact ⟨q, e, ob.monoA (Ex.refl _) fun a ha => ⟨rfl, hb a (ob.ads ha).1.1, (ob.ads ha).1.2.1, fun z => (ob.ads ha).1.2.2 (.inl z)⟩⟩
  | vw o => obtain ⟨q, e, ob⟩ := r; exact ⟨q, e, ob.monoA (Ex.refl _) fun a ha => ⟨rfl, (ob.ads ha).1.1, fun z => (ob.ads ha).1.2 (.inl z)⟩⟩
  | xc C a d fs => obtain ⟨e, b, c, r⟩ := r; exact ⟨e, b, fun z => c (.inl z), r⟩
theorem ds_pool {i : Nat} {ns : List Int} {a n : Int} (ms : Nat) (hi : ρ[i]? = some (.own (.nest [.o (.lst (ns.map D.int)), .d (.int a), .d (.int n)]))) (hln : ns.length ≤ 1000) (ha : 0 ≤ a ∧ a < 2147483647) (hn : 0 ≤ n ∧ n + (ms : Int) ≤ 1048576) (nv : (ρ.set i .no).all plS = true)
    (h : ∀ p q G0 H0, p ≠ q → ¬ c.W.M p → ¬ c.W.M q → Ds (poolC c m ms p q G0 H0) (m, ms) t (ρ.set i (.at_ p)) (fun mm ρ' => noEl i ρ' = true ∧ noVw ρ' = true ∧ N mm.1 (ρ'.set i .no)) (fun mm s => R mm.1 s) (fun mm ρ' => noEl i ρ' = true ∧ noVw ρ' = true ∧ B mm.1 (ρ'.set i .no)) (fun mm ρ' => noEl i ρ' = true ∧ noVw ρ' = true ∧ C mm.1 (ρ'.set i .no))) :
    Ds c m t ρ N R B C := fun D σ G H e k1 k2 k3 k4 => by
  obtain ⟨p, hv, f, vs, hp, rx, nd⟩ := e.own hi
  obtain ⟨q, hpq, fq, hq, hp⟩ : ∃ q, p ≠ q ∧ Fr c.W c.H0 G q ∧ H q = some (.lst (ns.map V.int)) ∧ H p = some (.lst [.ref q, .int a, .int n]) := by
    cases rx with
    | cons r1 rx =>
      cases rx with
      | cons r2 rx =>
        cases rx with
        | cons r3 rx =>
          cases rx
          obtain ⟨q, rfl, fq, xs, hx, rxx⟩ := r1
          cases r2; cases r3
          rw [kids_o] at nd
          exact ⟨q, fun z => (List.nodup_cons.mp nd).1 (by rw [z]; exact List.mem_cons_self), fq, by rw [← rxx.ints]; exact hx, hp⟩
  have ok' : Ok (poolW c.W p q) (m, ms) G H := ⟨e.ok.ex, ⟨e.ok.inv, ns, a, n, hp, hq, hln, ha.1, ha.2, hn.1, hn.2⟩, fun x hx => by
    rcases hx with hx | rfl | rfl
    · exact e.ok.off x hx
    · exact f.2.1
    · exact fq.2.1, e.ok.lk⟩
  have pls : ∀ (j : Nat) (s : S), j ≠ i → ρ[j]? = some s → plS s = true := fun j s hj hs => by
    refine List.all_eq_true.mp nv s (List.mem_of_getElem? (i := j) ?_)
    rw [List.getElem?_set_ne (Ne.symm hj)]; exact hs
  have back : ∀ {m' : ι × Nat} {G' H' : Hp}, Grow (poolW c.W p q) G H m' G' H' → Grow c.W c.G0 c.H0 m'.1 G' H' := fun {m' G' H'} g =>
    ⟨e.gr.ex.trans g.ex, g.sub, fun x o hx t hg => by
      have h1 := e.gr.fresh x o hx t hg
      by_cases mx : c.W.M x
      · obtain ⟨u, hu, t2⟩ := c.W.has _ _ _ _ e.gr.inv mx
        exact g.fresh x u hu t2 h1
      · exact g.fresh x o (e.gr.keep x o mx hx) t h1, fun x o hm hx => g.keep x o (fun z => by
      rcases z with z | rfl | rfl
      · exact hm z
      · rw [f.1] at hx; cases hx
      · rw [fq.1] at hx; cases hx) (e.gr.keep x o hm hx), g.inv.1, fun x o u q n => (g.lk x o u q n).elim .inl fun z => e.gr.lk x o u z n⟩
  have hb : ∀ x, H x = none → c.H0 x = none := fun x hx => e.gr.back hx
  have e' : EnvOk (poolC c m ms p q G H) (m, ms) G H σ (ρ.set i (.at_ p)) := by
    refine ⟨ok', ok'.refl, fun C d fv fs m' G' H' g nd md hd hk hr hx => e.exc C d fv fs m'.1 G' H' (back g) nd (fun z => md (.inl z)) hd hk hr hx, by rw [List.length_set]; exact e.len, fun j s hs => ?_, fun j k o o' q q' hjk hj => ?_, fun k a j hk => ?_, fun k o q hk hq a ha => ?_⟩
    · rcases set_get hs with ⟨rfl, rfl, _⟩ | ⟨hj, hs⟩
      · exact .inr ⟨_, hv, rfl⟩
      · have pl := pls j s (Ne.symm hj) hs
        rcases e.at_ j s hs with z | ⟨w, aw, rw'⟩
        · exact .inl z
        · refine .inr ⟨w, aw, ?_⟩
          cases s with
          | vw o => cases pl
          | no => trivial
          | dat d => exact rw'
          | at_ q => exact rw'
          | lk o => exact rw'
          | own o => cases pl
          | el _ _ => cases pl
          | xc _ _ _ _ => cases pl
    · exfalso
      rcases set_get hj with ⟨_, z, _⟩ | ⟨n1, hj⟩
      · cases z
      · have pl := pls j _ (Ne.symm n1) hj
        cases pl
    · exfalso
      rcases set_get hk with ⟨_, z, _⟩ | ⟨n1, hk⟩
      · cases z
      · have pl := pls k _ (Ne.symm n1) hk
        cases pl
    · exfalso
      rcases set_get hk with ⟨_, z, _⟩ | ⟨n1, hk⟩
      · cases z
      · have pl := pls k _ (Ne.symm n1) hk
        cases pl
  have envb : ∀ {m' : ι × Nat} {G' H' : Hp} {σ' : L2.St} {ρ' : List S}, noEl i ρ' = true → noVw ρ' = true → EnvOk (poolC c m ms p q G H) m' G' H' σ' ρ' → EnvOk c m'.1 G' H' σ' (ρ'.set i .no) := fun {m' G' H' σ' ρ'} hne hnv f1 => by
    have f2 : EnvOk c m'.1 G' H' σ' ρ' := ⟨e.ok0, back f1.gr, e.exc, f1.len, fun j s hs => (f1.at_ j s hs).imp_right fun ⟨w, aw, r⟩ => ⟨w, aw, relS_poolBack hb r⟩, f1.sep, f1.els, fun k o q hk => absurd hk (noVw_ok hnv k o)⟩
    have f3 := f2.unset (i := i) ((σ'[i]?).getD none) hne
    have es : σ'.set i ((σ'[i]?).getD none) = σ' := by
      apply List.ext_getElem?
      intro j
      by_cases hj : i = j
      · subst hj
        rw [List.getElem?_set]
        simp only [if_true]
        split
        · rename_i hl
          rw [List.getElem?_eq_getElem hl]
          rfl
        · rename_i hl
          rw [List.getElem?_eq_none (by omega)]
      · rw [List.getElem?_set_ne hj]
    rw [es] at f3
    exact f3
  exact h p q G H hpq f.2.2 fq.2.2 D σ G H e' (fun ρ' σ' m' G' H' ⟨h1, h2, nn⟩ x f => k1 _ σ' m'.1 G' H' nn x (envb h1 h2 f)) (fun s v m' G' H' r x g rr => k2 s v m'.1 G' H' r x (back g) (relS_poolBack hb rr)) (fun ρ' σ' m' G' H' ⟨h1, h2, nn⟩ x f => k3 _ σ' m'.1 G' H' nn x (envb h1 h2 f)) (fun ρ' σ' m' G' H' ⟨h1, h2, nn⟩ x f => k4 _ σ' m'.1 G' H' nn x (envb h1 h2 f))
/-- [cells, seed, count] -/
theorem de_lstN3 {tr : TA} {Φ : ι → S → Prop} (h : DA c m tr ρ fun m ss => ∃ o d1 d2, ss = [.own (.one o), .dat d1, .dat d2] ∧ Φ m (.own (.nest [.o o, .d d1, .d d2]))) : De c m (tLst tr) ρ Φ := fun σ G H e Q q => h σ G H e _ fun vs ss m1 G1 H1 g1 r1 ⟨o, d1, d2, es, p⟩ => by
  subst es
  have ok := (e.grow g1).ok
  cases r1 with
  | cons r1 rx =>
    cases rx with
    | cons r2 rx =>
      cases rx with
      | cons r3 rx =>
        cases rx
        rename_i v1 v2 v3
        obtain ⟨x, rfl, fx, ob⟩ := r1
        refine ⟨by show 3 ≤ _; decide, fun l hl => ?_⟩
        have xl : x ≠ l := fun z => by
          obtain ⟨u, hu, _⟩ := ob.at
          rw [z, hl] at hu
          cases hu
        have g2 := Grow.new ok (o := .lst [.ref x, v2, v3]) hl
        refine q (.ref l) (.own (.nest [.o o, .d d1, .d d2])) m1 G1 _ (g1.trans g2) ?_ p
        refine ⟨l, rfl, ⟨g1.back hl, fresh_back ok.ex hl, fun mm => Wd.ne ok.inv mm hl⟩, [.ref x, v2, v3], upd_same, ?_, ?_⟩
        · exact .cons ⟨x, rfl, fx, ob.mono (Ex.refl _) (upd_ne xl)⟩ (.cons r2 (.cons r3 .nil))
        · rw [kids_o, kids_d, kids_d]
          refine List.nodup_cons.mpr ⟨fun z => ?_, ?_⟩
          · rcases List.mem_cons.mp z with z | z
            · exact xl z.symm
            · exact absurd z (by simp [kids])
          · exact List.nodup_cons.mpr ⟨by simp [kids], by simp [kids]⟩
end
end DL
set_option Elab.async false
set_option linter.all false
set_option maxRecDepth 100000
set_option maxHeartbeats 1000000
namespace DL
open PySem L2 Evl PySem.Spec PyProof.Rows
section
variable {ι : Type} {c : Cc ι} {m : ι} {ρ : List S} {te ti tk : TE} {t : TS} {N B C : ι → List S → Prop} {R : ι → S → Prop} {Φ : ι → S → Prop}
/-! ### items of an own list of lists, by another name -/
theorem EnvOk.elL {G H : Hp} {σ : L2.St} {k i j : Nat} {its : List It} {ds : List D} (e : EnvOk c m G H σ ρ) (hk : ρ[k]? = some (.el i j)) (hi : ρ[i]? = some (.own (.nest its))) (hj : its[j]? = some (.o (.lst ds))) : ∃ q xs, σ[k]? = some (some (.ref q)) ∧ H q = some (.lst xs) ∧ RpL c.K G xs ds := by
  obtain ⟨q, a, xs, hx, rx⟩ := e.elAt hk hi hj
  exact ⟨q, xs, a, hx, rx⟩
/-- x[e] = v, x an item -/
theorem ds_setE {k i j : Nat} {its : List It} {ds : List D} (hk : ρ[k]? = some (.el i j)) (hi : ρ[i]? = some (.own (.nest its))) (hj : its[j]? = some (.o (.lst ds)))
    (h : De c m te ρ fun m s => De c m tk ρ fun m s2 => ∃ d n l, s.frz = .dat d ∧ s2 = .dat (.int n) ∧ ixN ds.length n = some l ∧ N m (ρ.set i (.own (.nest (its.set j (.o (.lst (ds.set l d)))))))) :
    Ds c m (tAsg te (gSub (tVar k) tk rSetL)) ρ N R B C := fun D σ G H e k1 _ _ _ => by
  refine h σ G H e _ fun v s m1 G1 H1 g1 r1 h1 => ?_
  have e1 := e.grow g1
  obtain ⟨q, xs, a, _, _⟩ := e1.elL hk hi hj
  refine ⟨_, a, h1 σ G1 H1 e1 _ fun v2 s2 m2 G2 H2 g2 r2 ⟨d, n, l, es, es2, hl, hN⟩ => ?_⟩
  subst es2
  cases r2
  obtain ⟨G3, g3, r3⟩ := (r1.grow g2).freeze (g1.trans g2)
  rw [es] at r3
  have e3 := e.grow g3
  obtain ⟨q2, ys, a2, hy, ry⟩ := e3.elL hk hi hj
  rw [a] at a2
  cases a2
  exact ⟨q, ys, n, l, rfl, rfl, hy, by rw [ry.length]; exact hl, k1 _ σ m2 G3 _ hN g3.ex (e3.mutE hk hi hj a ⟨_, upd_same, ry.set r3 l⟩)⟩
/-- the items of an own list of lists become data, the list stays one's own -/
theorem ds_frzK {i : Nat} {its : List It} (hi : ρ[i]? = some (.own (.nest its))) (h : Ds c m t (ρ.set i (.own (.lst (its.map It.frz)))) N R B C) (hn : noEl i ρ = true := by with_unfolding_all rfl) : Ds c m t ρ N R B C := fun D σ G H e k1 k2 k3 k4 => by
  obtain ⟨p, hp, ob⟩ := e.own hi
  have ob0 : OwnAt c.K (Fr c.W c.H0 G) G H p (.nest its) := ob
  obtain ⟨f, vs, hv, r, nd⟩ := id ob0
  obtain ⟨n1, n2⟩ := List.nodup_cons.mp nd
  obtain ⟨G2, g2, r2, x, nq0⟩ := frz_its e.gr r n2
  have nq : ∀ q, ¬ Ads H p (.nest its) q → G2 q = G q := fun q hq => nq0 q fun z => hq (.inr ⟨vs, hv, z⟩)
  have gp : G2 p = none := by rw [nq0 p n1]; exact f.2.1
  have sub : ∀ a, Ads H p (.one (.lst (its.map It.frz))) a → Ads H p (.nest its) a := fun a ha => .inl ha
  have e2 : EnvOk c m G2 H σ (ρ.set i (.own (.lst (its.map It.frz)))) := by
    refine ⟨e.ok0, g2, e.exc, by rw [List.length_set]; exact e.len, fun j s hs => ?_, fun j k o1 o2 p1 p2 hjk hj hk pj pk a ha hb => ?_, fun k a j hk => ?_, fun k o1 p1 hk hp1 => ?_⟩
    · rcases set_get hs with ⟨rfl, rfl, _⟩ | ⟨hj, hs⟩
      · exact .inr ⟨_, hp, p, rfl, ⟨f.1, gp, f.2.2⟩, vs, hv, r2⟩
      · rcases e.at_ j s hs with z | ⟨w, aw, rw'⟩
        · exact .inl z
        · refine .inr ⟨w, aw, ?_⟩
          cases s with
          | no => trivial
          | el a b => trivial
          | dat d => exact Rp.mono x rw'
          | at_ q => exact rw'
          | own o' =>
            obtain ⟨q, rfl, zo⟩ := rw'
            refine ⟨q, rfl, zo.monoA x fun a ha => ⟨rfl, ?_⟩⟩
            have na : ¬ Ads H p (.nest its) a := fun z => e.sep i j _ o' p q hj hi hs hp aw a z ha
            obtain ⟨f, _⟩ := zo.ads ha
            exact ⟨f.1, by rw [nq a na]; exact f.2.1, f.2.2⟩
          | vw o' =>
            obtain ⟨q, rfl, zo⟩ := rw'
            refine ⟨q, rfl, zo.monoA x fun a ha => ⟨rfl, ?_⟩⟩
            have na : ¬ Ads H p (.nest its) a := fun z => e.vws j o' q hs aw a ha (ob0.ads z).1.1
            obtain ⟨f, _⟩ := zo.ads ha
            exact ⟨by rw [nq a na]; exact f.1, f.2⟩
          | lk o' => obtain ⟨q, xq, uq, e1, e2, zo⟩ := rw'; exact ⟨q, xq, uq, e1, e2, zo.up (Up.ex x)⟩
          | xc C a d fs =>
            obtain ⟨e1, e2, e3, fv, e4, e5, e6⟩ := rw'
            have na : ¬ Ads H p (.nest its) d := fun z => by obtain ⟨_, u, hu, hk⟩ := ob0.ads z; rw [e4] at hu; cases hu; cases hk
            exact ⟨e1, by rw [nq d na]; exact e2, e3, fv, e4, e5, e6.mono x⟩
    · rcases set_get hj with ⟨rfl, z, _⟩ | ⟨h1, hj⟩
      · cases z
        rcases set_get hk with ⟨rfl, _, _⟩ | ⟨h2, hk⟩
        · exact hjk rfl
        · rw [hp] at pj
          cases pj
          exact e.sep _ _ _ _ _ _ hjk hi hk hp pk a (sub a ha) hb
      · rcases set_get hk with ⟨rfl, z, _⟩ | ⟨h2, hk⟩
        · cases z
          rw [hp] at pk
          cases pk
          exact e.sep _ _ _ _ _ _ hjk hj hi pj hp a ha (sub a hb)
        · exact e.sep j k o1 o2 p1 p2 hjk hj hk pj pk a ha hb
    · rcases set_get hk with ⟨_, z, _⟩ | ⟨h1, hk⟩
      · cases z
      · obtain ⟨its', p', vs, q, o', e1, e2⟩ := e.els k a j hk
        exact ⟨its', p', vs, q, o', by rw [List.getElem?_set_ne (Ne.symm (noEl_ok hn hk))]; exact e1, e2⟩
    · rcases set_get hk with ⟨_, z, _⟩ | ⟨h1, hk⟩
      · cases z
      · exact e.vws k o1 p1 hk hp1
  exact h D σ G2 H e2 (fun a b m c' d n y z => k1 a b m c' d n (x.trans y) z) (fun s v m' G' H' r y gg rr => k2 s v m' G' H' r (x.trans y) gg rr) (fun a b m c' d n y z => k3 a b m c' d n (x.trans y) z) (fun a b m c' d n y z => k4 a b m c' d n (x.trans y) z)
end
end DL
set_option Elab.async false
set_option linter.all false
set_option maxRecDepth 100000
set_option maxHeartbeats 1000000
namespace DL
open PySem PySem.Spec PyProof.Rows L2 Evl
section
variable {ι : Type} {K : PySem.W.Frag} {W : Wd ι} {m : ι} {Φ : ι → S → Prop}
theorem ops_eqNil {s1 s2 : S} {ds : List D} (p : Pl 60 (.lst ds)) (h1 : s1.view = some (.lst ds)) (h2 : s2.view = some (.lst [])) (h : Φ m (.dat (.bl (decide (ds.length = 0))))) : OpS K W m (rEqD K) s1 s2 Φ := by
  obtain ⟨x, e, k⟩ := p.py
  have e2 : (D.lst []).py = some (.list []) := by rw [D.py, D.pys]; rfl
  refine ops_eqD h1 h2 e e2 (k.shaped (by omega)) ((ok_ints []).shaped (by omega)) ?_
  have e3 : PyData.eqv x (.list []) = decide (ds.length = 0) := by
    rw [D.py] at e
    cases ds with
    | nil =>
      rw [D.pys] at e
      cases e
      rw [PyData.eqv, PyData.eqvAll]
      rfl
    | cons a l =>
      rw [D.pys] at e
      cases ha : a.py with
      | none => rw [ha] at e; cases e
      | some y =>
        cases hl : D.pys l with
        | none => rw [ha, hl] at e; cases e
        | some ys =>
          rw [ha, hl] at e
          cases e
          rw [PyData.eqv, PyData.eqvAll] <;> simp
  rw [e3]
  exact h
end
end DL
set_option Elab.async false
set_option linter.all false
set_option maxRecDepth 100000
set_option maxHeartbeats 1000000
namespace PySem
open Sem (wp)
set_option maxHeartbeats 1000000 in
theorem meets_enum1B {v : Value} {o : Obj} {H : Heap → Prop} (B : Begins v o H) :
    Meets (Builtin.«enumerate.__new__» ⟨[.type "enumerate", v], []⟩) (fun _ R s => H s.heap ∧
      R (.ok (.ret (.ref (s.heap.push o).objs.size))) { s with heap := (s.heap.push o).push { cls := .type "enumerate", data := .fields #[.none, .bool false, .ref s.heap.objs.size, rawInt 0, .none, .none] } }) :=
  .of_wp fun prog w A R s h => by
    obtain ⟨hp, g, d, tk, os⟩ := s; obtain ⟨h1, h⟩ := h
    have hsub := sub_enumerate
    have q1 : ∀ {A' : Around} {E : Value → Shared → Prop} {Q : Value → Shared → Prop}, Q (.ref hp.objs.size) ⟨hp.push o, g, d, tk, os⟩ → wpAny (model prog w) A' (pyIter v) Q E ⟨hp, g, d, tk, os⟩ :=
      fun q => B.iter prog w _ _ ⟨hp, g, d, tk, os⟩ _ h1 q
    wp_walk using q1
    refine wpAny_stack_any fun st => wpAny_pure ?_
    split
    · rename_i c _ _ _ _ _
      cases (c == Value.type "enumerate")
      · wp_walk using q1
        exact ⟨_, rfl, h⟩
      · wp_walk using q1
        exact ⟨_, rfl, h⟩
    · wp_walk using q1
      exact ⟨_, rfl, h⟩
section
variable {prog : Program} {w : World} {A : Around} {E : Value → Shared → Prop} {s : Shared}
theorem enum_begins1 {v : Value} {o : Obj} {H : Heap → Prop} {Q : Value → Shared → Prop} (B : Begins v o H) (h1 : H s.heap)
    (h : ∀ h', IsEnum h' (s.heap.objs.size + 1) s.heap.objs.size 0 .none → h'.get? s.heap.objs.size = some o → h'.objs.size = s.heap.objs.size + 2 →
      (∀ b o, s.heap.get? b = some o → h'.get? b = some o) → Q (.ref (s.heap.objs.size + 1)) { s with heap := h' }) :
    wpAny (model prog w) A (call (.type "enumerate") [v]) Q E s := by
  refine callType_new F.called_enumerate (by decide) (F.typeCall_enumerate_1 _) (F.newCall_enumerate_1 _) (fun obj => F.args_object_init_2 obj _) F.entry_enumerate_new
    (meets_enum1B B) ⟨h1, ?_⟩
  have hz : (s.heap.push o).objs.size = s.heap.objs.size + 1 := Heap.size_push ..
  show _ ∧ _
  rw [hz]
  have he : IsEnum ((s.heap.push o).push { cls := .type "enumerate", data := .fields #[.none, .bool false, .ref s.heap.objs.size, rawInt 0, .none, .none] }) (s.heap.objs.size + 1) s.heap.objs.size 0 .none := by
    have := Heap.get?_push_size (s.heap.push o) (o := { cls := .type "enumerate", data := .fields #[.none, .bool false, .ref s.heap.objs.size, rawInt 0, .none, .none] }) rfl
    rw [hz] at this; exact this
  refine ⟨⟨_, he, rfl⟩, h _ he (Heap.get?_push_of_some _ (Heap.get?_push_size _ B.free)) (by rw [Heap.size_push, hz]) fun b o x => Heap.get?_push_of_some _ (Heap.get?_push_of_some _ x)⟩
end
end PySem
namespace DL
open PySem PySem.Spec PyProof.Rows L2 Evl
variable {ι : Type} {m m' m1 m2 : ι}
/-! ### enumerate of a list or a tuple -/
def IteS (K : PySem.W.Frag) (k : SK) (a : Addr) : L2.It :=
  ⟨fun i H => ∃ (xs : List V) (x : V), SqK K H k a xs ∧ xs[i]? = some x,
   fun i H v H' => ∃ T x, v = .ref T ∧ H T = none ∧ H' = upd H T (.tup [.int (i : Nat), x]) ∧ ∀ xs, SqK K H k a xs → xs[i]? = some x,
   fun i H => ∃ xs : List V, SqK K H k a xs ∧ i = xs.length⟩
abbrev EnumSt (e it a : Addr) (k : SK) (i : Nat) (h : Heap) : Prop := (∃ old, IsEnum h e it (0 + (i : Int)) old) ∧ IterK h k it a i
theorem turn_enumS {P : Program} {w : World} {K : PySem.W.Frag} {elts : List Expr} {kk : Nat} {tpos : Pos} {k : SK} {a e it : Addr} (hei : e ≠ it) (hea : e ≠ a) (ha : a ≠ it) :
    Turn P w K (.Tuple elts kk tpos) (IteS K k a) [e, it] e (EnumSt e it a k) where
  mem := by simp
  obj := fun i h st c hc => by
    obtain ⟨⟨old, he⟩, h1⟩ := st
    simp only [List.mem_cons, List.not_mem_nil, or_false] at hc
    rcases hc with rfl | rfl
    · exact ⟨_, he, fun v q => nomatch q⟩
    · exact iterK_obj h1
  keep := fun i h h' st kp => by
    obtain ⟨⟨old, he⟩, h1⟩ := st
    exact ⟨⟨old, kp e (by simp) _ he⟩, iterK_keep h1 fun o q => kp it (by simp) o q⟩
  item := by
    intro X hP hw hK hc i pins s σ H E I hf st hg
    subst hP hw hK
    obtain ⟨xs, x, hqx, hx⟩ := hg
    obtain ⟨its, rv, p1⟩ := seqK_at I hqx
    obtain ⟨u, hu, ru⟩ := rv.get hx
    have hh : X.A.in1.handled = none := I.ok.hd hc
    have W := GoesN.enumFrom (prog := X.prog) (w := X.w) (A := X.A) (elts := elts) (x1 := kk) (pos := tpos) 0 (drawsK k hh it a ha its.toArray) e hei (by simp [hei, hea]) (by simp)
    obtain ⟨he, h1⟩ := st
    have hi : i < its.toArray.size := by
      have q1 := (List.getElem?_eq_some_iff.mp hu).1
      simpa using q1
    refine W.goes i s (fun v s2 => ∃ x H', Inv X pins σ H' s2 ∧ RelV x v ∧ (IteS X.K k a).yld i H x H' ∧ EnumSt e it a k (i + 1) s2.heap ∧ ∀ c ∈ [e, it], H' c = none) E hi ⟨he, ⟨h1, p1⟩⟩ fun v h' tk hY st' hk htk => ?_
    obtain ⟨T, t, x', rfl, hT, hx', tup⟩ := hY
    have ex : x' = u := by
      have hx' : its.toArray[i]? = some x' := hx'
      rw [show its.toArray[i]? = its[i]? by simp, hu] at hx'
      exact (Option.some.inj hx').symm
    subst ex
    rw [Int.zero_add] at tup
    obtain ⟨he', ⟨h1', _⟩⟩ := st'
    have new : ObjOk X.prog X.w (upd H T (.tup [.int (i : Nat), x])) h' T (.tup [.int (i : Nat), x]) := by
      obtain ⟨o, ho, hcl, n, hd⟩ := tup
      exact ⟨by show 2 ≤ sizeLine; decide, [.int i t, x'], .cons ⟨_, rfl⟩ (.cons ru .nil), ⟨o, ho, hcl, n, hd⟩⟩
    have I1 : Inv X pins σ (upd H T (.tup [.int (i : Nat), x])) { s with heap := h', toks := tk } := I.turnedNew (t' := tk) (ch := [e, it]) (fun c o hb' q => hk c o (fun z' => hb' (by simp at z' ⊢; rcases z' with z' | z' <;> simp [z'])) q) hf hT new
    refine ⟨.ref T, _, I1, rfl, ⟨T, x, rfl, I.hok.fresh hT, rfl, fun l hl => by rw [seqK_inj I hl hqx]; exact hx⟩, ⟨he', h1'⟩, fun c hcm => ?_⟩
    have hlt : c < s.heap.objs.size := by
      simp only [List.mem_cons, List.not_mem_nil, or_false] at hcm
      rcases hcm with rfl | rfl
      · obtain ⟨_, q⟩ := he; exact Heap.lt_size q
      · obtain ⟨_, q, _⟩ := iterK_obj h1; exact Heap.lt_size q
    rw [upd_ne (Nat.ne_of_lt (Nat.lt_of_lt_of_le hlt hT))]
    exact (hf c hcm).1
  done := by
    intro X hP hw hK hc i pins s σ H E I hf st hg
    subst hP hw hK
    obtain ⟨xs, hqx, hend⟩ := hg
    obtain ⟨its, rv, p1⟩ := seqK_at I hqx
    have hh : X.A.in1.handled = none := I.ok.hd hc
    have W := GoesN.enumFrom (prog := X.prog) (w := X.w) (A := X.A) (elts := elts) (x1 := kk) (pos := tpos) 0 (drawsK k hh it a ha its.toArray) e hei (by simp [hei, hea]) (by simp)
    obtain ⟨he, h1⟩ := st
    have hi : i = its.toArray.size := by
      rw [List.size_toArray, ← rv.length]
      exact hend
    rw [hi] at h1 he
    exact W.stops s (fun s1 => Inv X pins σ H s1) E ⟨he, ⟨h1, p1⟩⟩ fun h' tk hk htk => I.turnedL (t' := tk) (ch := [e, it]) (fun c o hb' q => hk c o (fun z' => hb' (by simp at z' ⊢; rcases z' with z' | z' <;> simp [z'])) q) hf
  self := fun A i s Q E st h => let ⟨⟨_, he⟩, _⟩ := st; wpAny_pyIter_enum he h
def iEnumS (K : PySem.W.Frag) (ta : TA) : TI := fun σ H R => ta σ H fun vs H1 => ∃ a k xs, vs = [V.ref a] ∧ SqK K H1 k a xs ∧ R (IteS K k a) H1
theorem pi_enumS {X : Cx} {e : Expr} {ta : TA} {p pos tpos : Pos} {elts : List Expr} {kk : Nat} (hg : Gl X "enumerate") (hm : X.mg "enumerate" = none) (ha : PA X [e] ta) (hs : starEach [e] X.env = [(false, eval e X.env)] := by rfl) :
    PI X (.Tuple elts kk tpos) (.Call (.Name "enumerate" p) [e] [] pos) (iEnumS X.K ta) := by
  refine ⟨fun pins s σ H R I h => ?_⟩
  refine Call_ (ld_blt I hg hm boot_enumerate (PyProof.Rows.callWith_type1 (thn (ha.run pos pins s σ H _ I h) fun us s1 ⟨vs, H1, I1, r1, q1⟩ => ?_) hs rfl))
  obtain ⟨a, k, xs, ex, hqx, q⟩ := q1
  subst ex
  cases r1 with
  | cons r rr =>
    cases rr
    cases r
    obtain ⟨its, rv, p1⟩ := seqK_at I1 hqx
    have la := seqK_lt p1
    refine enum_begins1 (beginsK k a its.toArray) p1 fun h' he hit hsz hk => wpAny_pyIter_enum he ?_
    have I2 : Inv X pins σ H1 { s1 with heap := h' } := I1.kept (t' := s1.toks) hk
    refine ⟨s1.heap.objs.size + 1, [s1.heap.objs.size + 1, s1.heap.objs.size], _, _, H1, rfl, I2, turn_enumS (a := a) (k := k) (Nat.succ_ne_self _) (Nat.ne_of_gt (Nat.lt_succ_of_lt la)) (Nat.ne_of_lt la), ⟨⟨.none, he⟩, iterK_new hit⟩, fun b hb => ?_, q⟩
    have e' : b = s1.heap.objs.size + 1 ∨ b = s1.heap.objs.size := by simpa using hb
    have hle : s1.heap.objs.size ≤ b := by
      rcases e' with z | z
      · rw [z]; exact Nat.le_add_right _ _
      · rw [z]; exact Nat.le_refl _
    exact I1.fpOk hle (I1.hok.fresh hle)
theorem k_enumS {X : Cx} {K : PySem.W.Frag} {e : Expr} {ta : TA} {p pos tpos : Pos} {elts : List Expr} {kk : Nat} (hK : X.K = K) (hg : Gl X "enumerate") (hm : X.mg "enumerate" = none) (ha : PA X [e] ta) (hs : starEach [e] X.env = [(false, eval e X.env)] := by rfl) :
    PI X (.Tuple elts kk tpos) (.Call (.Name "enumerate" p) [e] [] pos) (iEnumS K ta) := by subst hK; exact pi_enumS hg hm ha hs
section
variable {K : PySem.W.Frag} {W : Wd ι} {c : Cc ι} {ρ : List S} {te : TE}
theorem itd_enumS {G1 : Hp} {k : SK} {a : Addr} {xs : List V} {ds : List D} (h : SqK K G1 k a xs) (r : RpL K G1 xs ds) : ItD K W G1 (IteS K k a) (enumD ds) := fun m G H e ok i => by
  have hx : SqK K H k a xs := sqK_mono (e.trans ok.ex) h
  refine ⟨fun d hd => ?_, fun hl => ⟨xs, hx, by rw [r.length]; rw [enumD_len] at hl; exact hl⟩⟩
  obtain ⟨x, hx2, rfl⟩ := enumD_at hd
  obtain ⟨v, hv, rv⟩ := r.getD hx2
  refine ⟨⟨xs, v, hx, hv⟩, fun y H' ⟨T, z, ey, hT, eH, hz⟩ => ?_⟩
  have e2 := hz xs hx
  rw [hv] at e2
  cases e2
  subst ey eH
  have gT : G T = none := fresh_back ok.ex hT
  exact ⟨upd G T (.tup [.int (i : Nat), v]), Grow.newD ok hT (fun _ _ z => by cases z), .tup upd_same (.cons (.int _) (.cons ((rv.mono e).mono (Ex.new gT)) .nil))⟩
theorem di_enumS {Ψ : ι → List D → Prop} (h : De c m te ρ fun m s => ∃ ds, s.frz.seq? = some ds ∧ Ψ m (enumD ds)) : DI c m (iEnumS c.K (tCons te tNil)) ρ Ψ := fun σ G H e R q => h σ G H e _ fun v s m1 G1 H1 g1 r1 ⟨ds, hs, p⟩ => by
  obtain ⟨G2, g2, r2, x2⟩ := r1.freezeX g1
  obtain ⟨a, k, xs, rfl, h1, h2⟩ := r2.seqG hs
  exact ⟨a, k, xs, rfl, sqK_mono g2.sub h1, q _ _ m1 G2 H1 g2 (itd_enumS h1 h2) p⟩
end
end DL
set_option Elab.async false
set_option linter.all false
set_option maxRecDepth 100000
set_option maxHeartbeats 1000000
namespace DL
open PySem PySem.Spec PyProof.Rows L2 Evl
/-! ### own things are lent as data to what tells a number or a bool of them -/
def FlatS (s : S) : Prop := (∃ b, s = .dat (.bl b)) ∨ (∃ i, s = .dat (.int i)) ∨ (∃ ns : List Int, s = .own (.lst (ns.map D.int))) ∨ ∃ gv : List (List Int), s = .own (.nest (gv.map fun r => It.o (.lst (r.map D.int))))
theorem rits_flat {K : PySem.W.Frag} {F F' : Addr → Prop} {G1 G H : Hp} (hF : ∀ a, F a → F' a) : ∀ {vs : List V} {gv : List (List Int)}, RIts K F G1 H vs (gv.map fun r => It.o (.lst (r.map D.int))) → RIts K F' G H vs (gv.map fun r => It.o (.lst (r.map D.int)))
  | [], [], _ => .nil
  | [], _ :: _, z => by cases z
  | _ :: _, [], z => by cases z
  | v :: vs, r :: gv, z => by
    cases z with
    | cons h rs =>
      obtain ⟨q, rfl, f, xs, hx, rx⟩ := h
      have ex := rx.ints
      subst ex
      exact .cons ⟨q, rfl, hF q f, _, hx, RpL.ofInts r⟩ (rits_flat hF rs)
section
variable {ι : Type} {c : Cc ι} {ρ ρ2 : List S} {m : ι} {te : TE} {t : TS} {Φ : ι → S → Prop} {N B C : ι → List S → Prop} {R : ι → S → Prop}
/-- what the world says does not lean on the data -/
def Dn (W : Wd ι) : Prop := ∀ m G G' H, Ex G G' → W.I m G' H → W.I m G H
theorem dn_pool {κ : Type} {V : Wd κ} {p q : Addr} (h : Dn V) : Dn (poolW V p q) := fun m G G' H x ⟨a, b⟩ => ⟨h _ _ _ _ x a, b⟩
theorem de_lendW {i : Nat} {o : O} (w : Wk ρ ρ2) (hi : ρ2[i]? = some (.own o)) (hgf : Dn c.W) (h : De c m te (ρ2.set i (.dat o.frz)) fun m' s => FlatS s ∧ Φ m' s)
    (we : elsOk ρ2 = true := by with_unfolding_all rfl) (hn : noEl i ρ2 = true := by with_unfolding_all rfl) : De c m te ρ Φ := fun σ G H e Q q => by
  refine ds_frz (t := tNext) (c := c) (m := m) (N := fun m' ρ' => m' = m ∧ ρ' = ρ2.set i (.dat o.frz)) (R := fun _ _ => False) (B := fun _ _ => False) (C := fun _ _ => False) hi (ds_next ⟨rfl, rfl⟩) hn
    ({ nx := fun σ' H' => σ' = σ ∧ H' = H → te σ H Q, rt := fun _ _ => True, bk := fun _ _ => True, ct := fun _ _ => True } : Ends) σ G H (e.wk w we) (fun ρ' σ' m' G' H' hN x e' => fun ⟨es, eh⟩ => ?_) (fun _ _ _ _ _ z => z.elim) (fun _ _ _ _ _ z => z.elim) (fun _ _ _ _ _ z => z.elim) ⟨rfl, rfl⟩
  obtain ⟨rfl, rfl⟩ := hN
  subst es eh
  refine h σ' G' H' e' Q fun v s m1 G1 H1 g1 r1 ⟨hf, hΦ⟩ => q v s m1 G H1 ⟨Ex.refl G, (x.trans g1.ex).trans g1.sub, fun _ _ _ _ z => z, g1.keep, hgf _ _ _ _ (x.trans g1.ex) g1.inv, fun _ _ _ z _ => .inr z⟩ ?_ hΦ
  have gn : ∀ a, G1 a = none → G a = none := fun a n => by
    cases z : G a with
    | none => rfl
    | some u =>
      have h := (x.trans g1.ex) _ _ z
      rw [n] at h
      cases h
  have fr : ∀ a, Fr c.W H' G1 a → Fr c.W H' G a := fun a f => ⟨f.1, gn a f.2.1, f.2.2⟩
  rcases hf with ⟨b, rfl⟩ | ⟨k, rfl⟩ | ⟨ns, rfl⟩ | ⟨gv, rfl⟩
  · cases r1; exact Rp.bl b
  · cases r1; exact Rp.int k
  · obtain ⟨p, rfl, f, xs, hx, rx⟩ := r1
    have ex := rx.ints
    subst ex
    exact ⟨p, rfl, fr p f, _, hx, RpL.ofInts ns⟩
  · obtain ⟨p, rfl, f, vs, hx, rx, nd⟩ := r1
    exact ⟨p, rfl, fr p f, vs, hx, rits_flat fr rx, nd⟩
/-! ### what is one's own is looked at -/
/-- xs[n].append(e), an item of an own list -/
theorem ds_appAt {i j : Nat} {n : Int} {its : List It} {ds : List D} {k : Int} (hi : ρ[i]? = some (.own (.nest its))) (hn : ixN its.length n = some j) (hj : its[j]? = some (.o (.lst ds))) (hl : ds.length < 1000000) (h : N m (ρ.set i (.own (.nest (its.set j (.o (.lst (ds ++ [.int k])))))))) :
    Ds c m (tDrop (tBM c.K "list" rAppend (tOp (rIxL c.K) (tVar i) (tC (.int n))) (tCons (tC (.int k)) tNil))) ρ N R B C := fun D σ G H e k1 _ _ _ => by
  obtain ⟨p, hp, ob⟩ := e.own hi
  obtain ⟨f, vs, e1, r, nd⟩ := id ob
  obtain ⟨v, hv, q, rfl, fq, xs, hx, rx⟩ := r.getD hj
  have hat : atI vs n = some (.ref q) := by
    unfold atI
    rw [r.length, hn]
    exact hv
  have hk := kid_at r hv hj
  obtain ⟨nd1, nd2⟩ := List.nodup_cons.mp nd
  have pq : p ≠ q := fun z => nd1 (by rw [z]; exact hk)
  have stay : upd H q (.lst (xs ++ [.int k])) p = some (.lst vs) := by rw [upd_ne pq]; exact e1
  obtain ⟨r', kk⟩ := kid_put (H' := upd H q (.lst (xs ++ [.int k]))) (q := q) (o' := .lst (ds ++ [.int k])) (fun a ne => upd_ne ne) ⟨_, upd_same, rx.append (.one (Rp.int k))⟩ r nd2 hv hj
  refine ⟨.ref p, hp, p, vs, n, _, rfl, rfl, SqL.of e1, hat, .inl ⟨rfl, xs, SqL.of hx⟩, q, xs, .int k, rfl, rfl, hx, szl (by rw [rx.length]; exact hl), k1 _ σ m G _ h (Ex.refl _) ?_⟩
  refine e.mut hi hp (.inr ⟨vs, e1, hk⟩) ⟨f, vs, stay, r', by rw [kk]; exact nd⟩ (fun a ha => ?_) fun its2 vs2 z hz => ?_
  · rcases ha with ha | ⟨ws, hw, ha⟩
    · exact .inl ha
    · rw [stay] at hw
      cases hw
      rw [kk] at ha
      exact .inr ⟨vs, e1, ha⟩
  · cases z
    rw [e1] at hz
    cases hz
    refine ⟨_, vs, rfl, stay, fun j2 q2 o2 a b => ⟨a, ?_⟩⟩
    by_cases ne : j = j2
    · subst ne
      exact ⟨.lst (ds ++ [.int k]), by rw [List.getElem?_set]; simp only [if_true]; rw [if_pos (List.getElem?_eq_some_iff.mp b).1]⟩
    · exact ⟨o2, by rw [List.getElem?_set_ne ne]; exact b⟩
/-! ### is not True -/
def rNtB : R2 := fun x y H Q => ∃ a b, x = .bl a ∧ y = .bl b ∧ Q (.bl (!decide (a = b))) H
theorem op_ntB {X : Cx} : OpR X (compareOp .IsNot) rNtB := op_isnot_bl
theorem ops_ntB {K : PySem.W.Frag} {W : Wd ι} {a b : Bool} (h : Φ m (.dat (.bl (!decide (a = b))))) : OpS K W m rNtB (.dat (.bl a)) (.dat (.bl b)) Φ := fun H0 G H v1 v2 ok r1 r2 Q q => by
  cases r1; cases r2
  exact ⟨a, b, rfl, rfl, q _ (.dat (.bl _)) m G H ok.refl (Rp.bl _) h⟩
/-! ### isinstance of an error with fields that is held -/
def rIsE2 (K : PySem.W.Frag) (cls : Value) (d : Option Addr) (a : Addr) : List V → Hp → VK → Prop := fun xs H Q => ∃ (D dx : Addr) (fv : List (Str × V)) (cc : V) (cv : Value) (b : Bool), cls = .ref D ∧ d = some dx ∧ H dx = some (.xd fv) ∧ ExcC K D ∧ xs = [.ref a, cc] ∧ (∀ u, RelV cc u → u = cv) ∧ PySem.W.kitOne K (.ref D) cv = some b ∧ Q (.bl b) H
theorem call_isE2 {X : Cx} {a : Addr} {cls : Value} {d : Option Addr} {oe : Obj} {pn : List (Addr × Obj)} (hz : Zc cls d oe) (hf : ∃ vs, oe.data = .fields vs) : CallR (X.suite a ((a, oe) :: pn)) (.builtin "isinstance") (rIsE2 X.K cls d a) := by
  intro pins s σ H xs us Q I r h
  obtain ⟨D, dx, fv, cc, cv, b, rfl, rfl, hdx, C, rfl, hcv, e, q⟩ := h
  cases r with
  | cons rx rr =>
    cases rr with
    | cons rt rr =>
      cases rr
      cases rx
      have ec := hcv _ rt
      subst ec
      obtain ⟨hget, _⟩ := I.pin (a, oe) (List.mem_append.mpr (.inl List.mem_cons_self))
      obtain ⟨vs, hv⟩ := hf
      obtain ⟨mA, hns, _⟩ := I.hok dx _ hdx
      obtain ⟨od, hod⟩ : ∃ od, s.heap.get? dx = some od := by
        obtain ⟨o, _, _, h1, _⟩ := hns
        exact ⟨_, h1⟩
      have J : PySem.W.InstAt s.heap a oe D (some od) := by
        obtain ⟨oc, odi, oda, osl⟩ := oe
        obtain ⟨h1, h2⟩ := hz
        dsimp only at h1 h2 hv
        subst h1 h2 hv
        exact ⟨hget, rfl, rfl, hod⟩
      exact PySem.W.kia_one (PySem.W.kitx_exc (by obtain ⟨cd, hc, _⟩ := PySem.W.any_some C.hd; rw [hc]; rfl) C.hg C.hk C.hs C.ha C.hn C.ht C.hm) I.kIn J e (fun z => nomatch z) fun tk => ⟨.bl b, H, I.kept (t' := tk) fun _ _ z => z, rfl, q⟩
theorem k_isE2 {X : Cx} {K : PySem.W.Frag} {a : Addr} {cls : Value} {d : Option Addr} {oe : Obj} {pn : List (Addr × Obj)} (hK : X.K = K) (hz : Zc cls d oe) (hf : ∃ vs, oe.data = .fields vs) : CallR (X.suite a ((a, oe) :: pn)) (.builtin "isinstance") (rIsE2 K cls d a) := by subst hK; exact call_isE2 hz hf
theorem de_isE {i : Nat} {D a dx : Addr} {fs : List (Str × DL.D)} {cc : V} {cv : Value} {b : Bool} (hi : ρ[i]? = some (.xc D a dx fs)) (C : ExcC c.K D) (hcv : ∀ u, RelV cc u → u = cv) (hk : PySem.W.kitOne c.K (.ref D) cv = some b) (h : Φ m (.dat (.bl b))) :
    De c m (tCB (rIsE2 c.K (.ref D) (some dx) a) (tCons (tVar i) (tCons (tC cc) tNil))) ρ Φ := fun σ G H e Q q => by
  rcases e.at_ i _ hi with z | ⟨v, hv, rfl, _, _, fv, hd, _⟩
  · cases z
  · exact ⟨_, hv, D, dx, fv, cc, cv, b, rfl, rfl, hd, C, rfl, hcv, hk, q _ (.dat (.bl b)) m G H e.refl (Rp.bl b) h⟩
end
def exiB (K : PySem.W.Frag) (D : Addr) : Bool :=
  He.eqO (PySem.W.findIn K (.ref D) "__getattribute__") (some (some (.builtin "BaseException.__getattribute__"))) && (He.eqO (PySem.W.findIn K (.ref D) "__getattr__") (some none) && (decide (PySem.W.subIn K (.ref D) (.type "BaseException") = some true) && (PySem.W.hasDictIn K D && (He.eqO (PySem.W.findIn K (.ref D) "__class__") (some (some (.builtin "object.__class__"))) &&
  (He.eqO (PySem.W.specialIn K (.builtin "object.__class__") "__get__") (some (some (.builtin "getset_descriptor.__get__"))) && (decide (PySem.W.takesIn K (.builtin "object.__class__") = some true) && decide (PySem.W.mroIn K D (.type "object") = some true)))))))
theorem exiB_ok {K : PySem.W.Frag} {D : Addr} (h : exiB K D = true) : ExcC K D := by
  obtain ⟨h1, h⟩ := He.ba h
  obtain ⟨h2, h⟩ := He.ba h
  obtain ⟨h3, h⟩ := He.ba h
  obtain ⟨h4, h⟩ := He.ba h
  obtain ⟨h5, h⟩ := He.ba h
  obtain ⟨h6, h⟩ := He.ba h
  obtain ⟨h7, h8⟩ := He.ba h
  exact ⟨He.eqO_ok h1, He.eqO_ok h2, of_decide_eq_true h3, h4, He.eqO_ok h5, He.eqO_ok h6, of_decide_eq_true h7, of_decide_eq_true h8⟩
end DL
namespace DL
open PySem PySem.Spec PyProof.Rows L2 Evl
/-- an error's class, its base of one's own and ValueError -/
structure Ex2 (K : PySem.W.Frag) (D T : Addr) : Prop where
  c : ExcC K D
  t : PySem.W.kitOne K (.ref D) (.ref T) = some true
  v : PySem.W.kitOne K (.ref D) (.type "ValueError") = some true
def ex2B (K : PySem.W.Frag) (D T : Addr) : Bool := exiB K D && (decide (PySem.W.kitOne K (.ref D) (.ref T) = some true) && decide (PySem.W.kitOne K (.ref D) (.type "ValueError") = some true))
theorem ex2B_ok {K : PySem.W.Frag} {D T : Addr} (h : ex2B K D T = true) : Ex2 K D T := by
  obtain ⟨h1, h⟩ := He.ba h
  obtain ⟨h2, h3⟩ := He.ba h
  exact ⟨exiB_ok h1, of_decide_eq_true h2, of_decide_eq_true h3⟩
theorem boot_VErr : bootBuiltins "ValueError" = some (.type "ValueError") := by kernel_rfl
end DL
set_option Elab.async false
set_option linter.all false
set_option maxRecDepth 100000
set_option maxHeartbeats 0
namespace Pf
open PySem PySem.Spec PyProof.Rows L2 DL
def d_law_pool : He.DefD := ⟨("_law_pool", none), "_law_pool", "_law_pool", defArgs (top 15), defBody (top 15), defScope (top 15), [], []⟩
def d_law_draw : He.DefD := ⟨("_law_draw", none), "_law_draw", "_law_draw", defArgs (top 16), defBody (top 16), defScope (top 16), [], []⟩
def d_law_sums : He.DefD := ⟨("_law_sums", none), "_law_sums", "_law_sums", defArgs (top 17), defBody (top 17), defScope (top 17), [], []⟩
def d_law_drawn : He.DefD := ⟨("_law_drawn", none), "_law_drawn", "_law_drawn", defArgs (top 21), defBody (top 21), defScope (top 21), [], []⟩
def d_column_sums : He.DefD := ⟨("column_sums", none), "column_sums", "column_sums", defArgs (top 6), defBody (top 6), defScope (top 6), [], []⟩
def d_check_columns : He.DefD := ⟨("check_columns", none), "check_columns", "check_columns", defArgs (top 7), defBody (top 7), defScope (top 7), [], []⟩
def d_rounded_down : He.DefD := ⟨("rounded_down", none), "rounded_down", "rounded_down", defArgs (top 4), defBody (top 4), defScope (top 4), [], []⟩
def d_rounded_up : He.DefD := ⟨("rounded_up", none), "rounded_up", "rounded_up", defArgs (top 5), defBody (top 5), defScope (top 5), [], []⟩
def d_Rounding___init : He.DefD := ⟨("Rounding", some "__init__"), "__init__", "Rounding.__init__", defArgs (inClass (top 8) 0), defBody (inClass (top 8) 0), defScope (inClass (top 8) 0), [], []⟩
def d_way_back : He.DefD := ⟨("way_back", none), "way_back", "way_back", defArgs (top 10), defBody (top 10), defScope (top 10), [], []⟩
def d_cell_of : He.DefD := ⟨("cell_of", none), "cell_of", "cell_of", defArgs (top 9), defBody (top 9), defScope (top 9), [], []⟩
def d_Rounding_ahead : He.DefD := ⟨("Rounding", some "ahead"), "ahead", "Rounding.ahead", defArgs (inClass (top 8) 1), defBody (inClass (top 8) 1), defScope (inClass (top 8) 1), [], []⟩
def d_Rounding_way_from : He.DefD := ⟨("Rounding", some "way_from"), "way_from", "Rounding.way_from", defArgs (inClass (top 8) 2), defBody (inClass (top 8) 2), defScope (inClass (top 8) 2), [], []⟩
def d_Rounding_raise_from : He.DefD := ⟨("Rounding", some "raise_from"), "raise_from", "Rounding.raise_from", defArgs (inClass (top 8) 3), defBody (inClass (top 8) 3), defScope (inClass (top 8) 3), [], []⟩
def d_dealt : He.DefD := ⟨("dealt", none), "dealt", "dealt", defArgs (top 11), defBody (top 11), defScope (top 11), [], []⟩
def d_law_rounds_it : He.DefD := ⟨("_law_rounds_it", none), "_law_rounds_it", "_law_rounds_it", defArgs (top 18), defBody (top 18), defScope (top 18), [], []⟩
def d_law_right : He.DefD := ⟨("_law_right", none), "_law_right", "_law_right", defArgs (top 19), defBody (top 19), defScope (top 19), [], []⟩
def d_rounds_share : He.DefD := ⟨("rounds_share", none), "rounds_share", "rounds_share", defArgs (top 12), defBody (top 12), defScope (top 12), [], []⟩
def d_is_dealt : He.DefD := ⟨("is_dealt", none), "is_dealt", "is_dealt", defArgs (top 13), defBody (top 13), defScope (top 13), [], []⟩
def d_law_error : He.DefD := ⟨("_law_error", none), "_law_error", "_law_error", defArgs (top 20), defBody (top 20), defScope (top 20), [], []⟩
def d_law : He.DefD := ⟨("law", none), "law", "law", defArgs (top 22), defBody (top 22), defScope (top 22), [], []⟩
def d_BadShares___init : He.DefD := ⟨("BadShares", some "__init__"), "__init__", "BadShares.__init__", defArgs (inClass (top 2) 0), defBody (inClass (top 2) 0), defScope (inClass (top 2) 0), [], []⟩
def fn0 : List He.DefD := [d_law_pool, d_law_draw, d_law_sums, d_law_drawn, d_column_sums, d_check_columns, d_rounded_down, d_rounded_up, d_Rounding___init, d_way_back, d_cell_of, d_Rounding_ahead, d_Rounding_way_from, d_Rounding_raise_from, d_dealt, d_law_rounds_it, d_law_right, d_rounds_share, d_is_dealt, d_law_error, d_law, d_BadShares___init]
abbrev fn : List He.DefD := fn0
def pr0 : List PrD := []
abbrev pr : List PrD := pr0
def fa0 : List He.Fa := [.glo "law", .free "len", .free "isinstance", .free "int", .free "bool", .free "list", .free "tuple", .free "dict", .free "range", .free "max", .free "min", .free "sum", .free "all", .free "any", .free "sorted", .free "zip", .free "enumerate", .free "str", .free "set", .free "repr", .free "reversed", .noat "BadShares" "column", .glo "BadShares", .exm "BadShares" "BadShares" true, .meth "BadShares" "__init__", .glo "TeamError", .free "ValueError", .cls "Rounding", .noat "Rounding" "floors", .noat "Rounding" "raised", .noat "Rounding" "cells", .noat "Rounding" "room", .noat "Rounding" "lack", .glo "_law_pool", .glo "_law_draw", .glo "_law_sums", .glo "_law_drawn", .glo "column_sums", .glo "check_columns", .glo "rounded_down", .glo "rounded_up", .mkr "Rounding", .glo "Rounding", .glo "way_back", .glo "cell_of", .meth "Rounding" "ahead", .meth "Rounding" "way_from", .meth "Rounding" "raise_from", .glo "dealt", .glo "_law_rounds_it", .glo "_law_right", .glo "rounds_share", .glo "is_dealt", .glo "_law_error"]
abbrev fa : List He.Fa := fa0
def exZ (K : PySem.W.Frag) : Bool := oexB K (He.ga K "BadShares") && (ex2B K (He.ga K "BadShares") (He.ga K "TeamError"))
abbrev ex : PySem.W.Frag → Bool := fun K => exZ K
abbrev R : PySem.W.OpenRow := PySem.W.OpenLaw.row PySem.Challenge.rw_allteams_k18_shares_dealt
abbrev hk : PySem.W.Hook := hookQ 5 fa fn pr ex
def ob (s : PySem.W.SharedT) : AlP := obsQG 5 fa fn pr ex (HandSHeadRun.getT s)
theorem ob_eq (s : PySem.W.SharedT) : ob s = hk.obs s.abs := obsQG_eq (HandSHeadRun.getT_eq s)
def loose0 : List Str := ["TeamError", "BadShares", "rounded_down", "rounded_up", "column_sums", "check_columns", "Rounding", "cell_of", "way_back", "dealt", "rounds_share", "is_dealt", "_law_pool", "_law_draw", "_law_sums", "_law_rounds_it", "_law_right", "_law_error", "_law_drawn"]
abbrev loose : List Str := loose0
section
open PySem.W PySem.Calls HandSHeadRun
theorem runA (w : World) (os : OsState) : (endF (stepQ (denQ tabQ) R.prog w) 12000 R.prog w os).map (fun s => looksF R.prog (boot_heap w.params) s.abs) = some (true) := by
  kernel_rfl
theorem runB (w : World) (os : OsState) : (endF (stepQ (denQ tabQ) R.prog w) 12000 R.prog w os).map (fun s => seenQ (PySem.W.view R.prog [22]) loose (importedModules R.prog.main.body) (fun s => xlAt (PySem.W.view R.prog [22]) [] s && recOk R.toRowW.records s) s.abs) = some (openGood (PySem.W.view R.prog [22]) loose) := by
  kernel_rfl
theorem run0 (w : World) (os : OsState) : (endF (stepQ (denQ tabQ) R.prog w) 12000 R.prog w os).map (fun s => obsQG 5 fa0 fn0 pr0 (exZ) (getT s)) = some (valP fn0 pr0) := by
  kernel_rfl
theorem run (w : World) : HandSHeadRun.RunEq R (PySem.W.view R.prog [22]) hk ob 12000 loose w := by
  exact fun os => map_three (runA w os) (runB w os) (run0 w os)
end
end Pf
set_option Elab.async false
set_option linter.all false
set_option maxRecDepth 100000
set_option maxHeartbeats 0
section
open PySem PySem.W PySem.Calls PyProof.Rows
theorem Pf.fin (Cl : DL.Fc) (hC : ∀ (ns : List Int), ns.length ≤ 63 → Cl Unit DL.W0 () [.dat (.scr ns)] (fun _ s => s = .dat (.bl true)) fun _ _ _ => False)
    (hf : ∀ (P : Program) (w : World) {K : PySem.W.Frag} {h : Heap} {mg : Str → Option Value} {f : Addr} (X : K.In h) (G : h.Ns mainGlobals mg) (hfa : mg ("law" : Str) = some (.ref f)) (c : DL.SaysP Pf.fa Pf.fn Pf.pr Pf.ex K),
      ∃ fd : FuncData, (∀ (s : Shared) (v : Value), BindsTo s fd ⟨[v], []⟩ [("_law_script", v)]) ∧ ∀ base : Heap, K.In base → base.Ns mainGlobals mg → L2.FnOk P w K mg base L2.CX0 10 f fd ["_law_script"] (DL.spF K Cl)) : PySem.Challenge.rw_allteams_k18_shares_dealt.Holds := by
  w_on; o_law
  refine HandSHeadRun.head_any (r := OpenLaw.row PySem.Challenge.rw_allteams_k18_shares_dealt) (q := view (OpenLaw.row PySem.Challenge.rw_allteams_k18_shares_dealt).prog [22]) (H := Pf.hk) (ob := Pf.ob) (M := 12000) (loose := Pf.loose) (d := HandSHeadRun.topDef (OpenLaw.row PySem.Challenge.rw_allteams_k18_shares_dealt).prog 22) (kwd := []) Pf.ob_eq
    (by kernel_rfl) (fun s => by kernel_rfl) Pf.run (by kernel_rfl) (by kernel_rfl) (by kernel_rfl) (by rfl) (by first | assumption | decide +kernel) (by decide +kernel) ⟨rfl, rfl, rfl, rfl, rfl, by decide +kernel⟩ ?hw ?hc
  case hw => w_witness2
  case hc =>
    refine L2.walk_ofE (l := PySem.Challenge.rw_allteams_k18_shares_dealt) (n := 63) (k := 10) (x := "_law_script") (CX := L2.CX0) rfl (by decide) (by kernel_rfl) ⟨rfl, by decide, by decide⟩ ?F (fun _ _ _ _ z => z)
    intro w mg fa h Y G hmg0
    obtain ⟨K, KX, c⟩ := Y
    have hmg : mg ("law" : PySem.Str) = some (.ref fa) := by
      have e : (HandSHeadRun.topDef (OpenLaw.row PySem.Challenge.rw_allteams_k18_shares_dealt).prog 22).name = ("law" : PySem.Str) := by kernel_rfl
      rw [← e]
      exact hmg0
    obtain ⟨fd, hb, hF⟩ := hf _ w KX G hmg c
    exact ⟨K, fd, DL.spF K Cl, KX, hb, fun H a ns hl _ hS => DL.start_law hS (hC ns hl), hF⟩
end
set_option Elab.async false
set_option linter.all false
set_option maxRecDepth 100000
set_option maxHeartbeats 1000000
namespace Pf
open PySem PySem.Spec PyProof.Rows L2 DL
/-! ### shares that are rounded: nodes, cells, the state -/
abbrev Nd := Nat × Nat
def nk (n : Nd) : List Key := [.inl (n.1 : Nat), .inl (n.2 : Nat)]
def ndD (n : Nd) : D := .tup [.int (n.1 : Nat), .int (n.2 : Nat)]
theorem nk_inj {a b : Nd} (h : nk a = nk b) : a = b := by
  obtain ⟨a1, a2⟩ := a
  obtain ⟨b1, b2⟩ := b
  unfold nk at h
  injection h with h1 h2
  injection h2 with h2 _
  injection h1 with h1
  injection h2 with h2
  congr 1 <;> (simp at h1 h2; omega)
def cellOf (n o : Nd) : Nd := if n.1 = 0 then (n.2, o.2) else (o.2, n.2)
/-- a dict told by a list of nodes -/
def mpD (ns : List Nd) (f : Nd → D) : List (List Key × D) := ns.map fun n => (nk n, f n)
theorem mp_val {ns : List Nd} {f : Nd → D} {n : Nd} (h : n ∈ ns) : valD (mpD ns f) (nk n) = some (f n) := by
  induction ns with
  | nil => cases h
  | cons a ns ih =>
    unfold valD mpD
    rw [List.map_cons, List.find?_cons]
    by_cases e : a = n
    · subst e
      simp
    · have e2 : ¬ nk a = nk n := fun z => e (nk_inj z)
      simp only [e2, decide_false]
      exact ih (by rcases List.mem_cons.mp h with z | z; exact absurd z.symm e; exact z)
theorem mp_none {ns : List Nd} {f : Nd → D} {n : Nd} (h : n ∉ ns) : valD (mpD ns f) (nk n) = none := by
  induction ns with
  | nil => rfl
  | cons a ns ih =>
    unfold valD mpD
    rw [List.map_cons, List.find?_cons]
    have e : a ≠ n := fun z => h (by rw [z]; exact List.mem_cons_self)
    have e2 : ¬ nk a = nk n := fun z => e (nk_inj z)
    simp only [e2, decide_false]
    exact ih fun z => h (List.mem_cons_of_mem _ z)
theorem mp_some {ns : List Nd} {f : Nd → D} {n : Nd} : (valD (mpD ns f) (nk n)).isSome = decide (n ∈ ns) := by
  by_cases h : n ∈ ns
  · rw [mp_val h]; simp [h]
  · rw [mp_none h]; simp [h]
theorem mp_any {ns : List Nd} {f : Nd → D} {n : Nd} : ((mpD ns f).any fun kv => decide (kv.1 = nk n)) = decide (n ∈ ns) := by
  rw [Bool.eq_iff_iff, List.any_eq_true, decide_eq_true_eq]
  constructor
  · rintro ⟨x, hx, e⟩
    obtain ⟨a, ha, rfl⟩ := List.mem_map.mp hx
    exact nk_inj (of_decide_eq_true e) ▸ ha
  · intro h
    exact ⟨_, List.mem_map.mpr ⟨n, h, rfl⟩, by simp⟩
theorem mp_put {ns : List Nd} {f : Nd → D} {n : Nd} (h : n ∈ ns) (d : D) : putD (mpD ns f) (nk n) d = mpD ns fun x => if x = n then d else f x := by
  unfold putD
  rw [mp_any, if_pos (by simpa using h)]
  unfold mpD
  rw [List.map_map]
  apply List.map_congr_left
  intro a _
  show (if nk a = nk n then _ else _) = _
  by_cases e : a = n
  · subst e; simp
  · have e2 : ¬ nk a = nk n := fun z => e (nk_inj z)
    rw [if_neg e2]
    show (nk a, f a) = (nk a, if a = n then d else f a)
    rw [if_neg e]
theorem mp_new {ns : List Nd} {f : Nd → D} {n : Nd} (h : n ∉ ns) (d : D) : putD (mpD ns f) (nk n) d = mpD ns f ++ [(nk n, d)] := by
  unfold putD
  rw [mp_any, if_neg (by simpa using h)]
theorem mp_snoc {ns : List Nd} {f : Nd → D} {n : Nd} {d : D} (h : f n = d) : mpD ns f ++ [(nk n, d)] = mpD (ns ++ [n]) f := by
  unfold mpD
  rw [List.map_append, ← h]
  rfl
theorem mp_drop {ns : List Nd} {f : Nd → D} {n : Nd} : dropD (mpD ns f) (nk n) = mpD (ns.filter fun x => decide (x ≠ n)) f := by
  unfold dropD mpD
  rw [List.filter_map]
  congr 1
  apply List.filter_congr
  intro x _
  show decide (nk x ≠ nk n) = decide (x ≠ n)
  rw [decide_eq_decide]
  exact ⟨fun h z => h (by rw [z]), fun h z => h (nk_inj z)⟩
theorem mp_len {ns : List Nd} {f : Nd → D} : (mpD ns f).length = ns.length := by unfold mpD; rw [List.length_map]
theorem mp_congr {ns : List Nd} {f g : Nd → D} (h : ∀ n ∈ ns, f n = g n) : mpD ns f = mpD ns g := List.map_congr_left fun n hn => by rw [h n hn]
theorem look_mp {ns : List Nd} {f : Nd → D} {n : Nd} (h : n ∈ ns) : DL.Look (.T (mpD ns f)) (ndD n) (some (f n)) := by
  have := DL.Look.t (ds := mpD ns f) (nk n)
  rwa [mp_val h] at this
/-- rows of cells: how they are joined -/
structure Gr (ns : List Nd) (adj : Nd → List Nd) : Prop where
  nd : ns.Nodup
  side : ∀ n ∈ ns, n.1 = 0 ∨ n.1 = 1
  nbr : ∀ n ∈ ns, ∀ o ∈ adj n, o ∈ ns ∧ o.1 + n.1 = 1
  sym : ∀ n ∈ ns, ∀ o ∈ adj n, n ∈ adj o
  one : ∀ n ∈ ns, (adj n).Nodup
  len : ns.length ≤ 1000
  deg : ∀ n ∈ ns, (adj n).length ≤ 1000
/-- the fields -/
def rdF (fl lk : D) (ns : List Nd) (adj : Nd → List Nd) (ra : List Nd) (rm : Nd → Int) : List (Str × DL.It) :=
  [("floors", .d fl), ("raised", .o (.dT (mpD ra fun _ => .bl true))), ("cells", .d (.dit (mpD ns fun n => .lst ((adj n).map ndD)))), ("room", .o (.dT (mpD ns fun n => .int (rm n)))), ("lack", .d lk)]
/-- an edge that may be walked -/
def alw (adj : Nd → List Nd) (ra : List Nd) (s n o : Nd) : Prop := o ∈ adj n ∧ decide (cellOf n o ∈ ra) = decide (n.1 ≠ s.1)
instance (adj : Nd → List Nd) (ra : List Nd) (s n o : Nd) : Decidable (alw adj ra s n o) := by unfold alw; infer_instance
def tgl (ra : List Nd) (c : Nd) : List Nd := if c ∈ ra then ra.filter fun x => decide (x ≠ c) else ra ++ [c]
/-- the cells along a way are exchanged -/
def tglW (q : List Nd) (ra : List Nd) : List Nd := (q.zip q.tail).foldl (fun r x => tgl r (cellOf x.1 x.2)) ra
theorem tgl_len (ra : List Nd) (c : Nd) : (tgl ra c).length ≤ ra.length + 1 := by
  unfold tgl
  split
  · exact Nat.le_trans (List.length_filter_le _ _) (Nat.le_succ _)
  · rw [List.length_append]; simp
theorem tglF_len : ∀ (l : List (Nd × Nd)) (ra : List Nd), (l.foldl (fun r x => tgl r (cellOf x.1 x.2)) ra).length ≤ ra.length + l.length
  | [], ra => by simp
  | x :: l, ra => by
    have h1 := tglF_len l (tgl ra (cellOf x.1 x.2))
    have h2 := tgl_len ra (cellOf x.1 x.2)
    rw [List.foldl_cons, List.length_cons]
    omega
/-- a way that may be walked -/
inductive Way (adj : Nd → List Nd) (ra : List Nd) (s : Nd) : List Nd → Prop
  | one : Way adj ra s [s]
  | snoc {p : List Nd} {n o : Nd} : Way adj ra s (p ++ [n]) → alw adj ra s n o → o ∉ p ++ [n] → Way adj ra s (p ++ [n] ++ [o])
/-- nothing more is found -/
def Clo (ns : List Nd) (adj : Nd → List Nd) (ra : List Nd) (rm : Nd → Int) (s : Nd) : Prop :=
  ∃ V : List Nd, s ∈ V ∧ (∀ n ∈ V, n ∈ ns ∧ (n.1 ≠ s.1 → rm n ≤ 0)) ∧ ∀ n ∈ V, ∀ o, alw adj ra s n o → o ∈ V
theorem rdF_ra (fl lk : D) (ns : List Nd) (adj : Nd → List Nd) (ra ra2 : List Nd) (rm : Nd → Int) : putI "raised" (.o (.dT (mpD ra2 fun _ => .bl true))) (rdF fl lk ns adj ra rm) = rdF fl lk ns adj ra2 rm := by
  unfold rdF
  rfl
theorem rdF_rm (fl lk : D) (ns : List Nd) (adj : Nd → List Nd) (ra : List Nd) (rm rm2 : Nd → Int) : putI "room" (.o (.dT (mpD ns fun n => .int (rm2 n)))) (rdF fl lk ns adj ra rm) = rdF fl lk ns adj ra rm2 := by
  unfold rdF
  rfl
def less (rm : Nd → Int) (n : Nd) : Nd → Int := fun x => if x = n then rm x - 1 else rm x
theorem less_put {ns : List Nd} {rm : Nd → Int} {s : Nd} (h : s ∈ ns) : putD (mpD ns fun n => .int (rm n)) (nk s) (.int (rm s - 1)) = mpD ns fun n => .int (less rm s n) := by
  rw [mp_put h]
  refine mp_congr fun n _ => ?_
  show (if n = s then D.int (rm s - 1) else D.int (rm n)) = D.int (if n = s then rm n - 1 else rm n)
  by_cases e : n = s
  · subst e; simp
  · simp [e]
end Pf
set_option Elab.async false
set_option linter.all false
set_option maxRecDepth 100000
set_option maxHeartbeats 1000000
namespace Pf
open PySem PySem.Spec PyProof.Rows L2 DL
/-- who told of whom -/
structure Bk (pre : Nd → Nd) (p : List Nd) : Prop where
  hd : ∀ x c, p = x :: c → pre x = x
  st : ∀ a y x c, p = a ++ y :: x :: c → pre x = y ∧ x ≠ y
theorem atN {l : List D} {i : Nat} {d : D} (h : l[i]? = some d) : atI l (i : Int) = some d := by
  obtain ⟨h1, _⟩ := List.getElem?_eq_some_iff.mp h
  unfold atI
  rw [show ixN l.length ((i : Nat) : Int) = some i by unfold ixN; simp [h1]]
  exact h
theorem cut_from (ds : List D) (j : Nat) : DL.cutD ds (some (j : Int)) none = ds.drop j := by
  unfold DL.cutD
  by_cases h : j ≤ ds.length
  · have e : HT.sIx ds.length 0 (some (j : Int)) = j := by rw [HT.sIx_nat]; omega
    rw [e]
    simp [HT.sIx]
    rw [List.take_of_length_le (by simp)]
  · have e : HT.sIx ds.length 0 (some (j : Int)) = ds.length := by rw [HT.sIx_nat]; omega
    rw [e]
    rw [List.drop_eq_nil_of_le (by omega), List.drop_eq_nil_of_le (by omega)]
    simp
theorem nd_le : ∀ {l m : List Nd}, l.Nodup → (∀ x ∈ l, x ∈ m) → l.length ≤ m.length
  | [], _, _, _ => Nat.zero_le _
  | a :: l, m, nd, h => by
    obtain ⟨n1, n2⟩ := List.nodup_cons.mp nd
    have ha := h a List.mem_cons_self
    have := nd_le (m := m.erase a) n2 fun x hx => (List.mem_erase_of_ne (fun z => n1 (by rw [← z]; exact hx))).mpr (h x (List.mem_cons_of_mem _ hx))
    rw [List.length_erase_of_mem ha] at this
    have := List.length_pos_of_mem ha
    rw [List.length_cons]
    omega
theorem Way.nd {adj : Nd → List Nd} {ra : List Nd} {s : Nd} {p : List Nd} (h : Way adj ra s p) : p.Nodup := by
  induction h with
  | one => simp
  | @snoc p n o _ _ ho ih =>
    rw [List.nodup_append]
    exact ⟨ih, by simp, fun x hx y hy z => by simp at hy; subst hy; subst z; exact ho hx⟩
theorem Way.hd {adj : Nd → List Nd} {ra : List Nd} {s : Nd} {p : List Nd} (h : Way adj ra s p) : ∃ t, p = s :: t := by
  induction h with
  | one => exact ⟨[], rfl⟩
  | @snoc p n o _ _ _ ih =>
    obtain ⟨t, e⟩ := ih
    exact ⟨t ++ [o], by rw [e]; rfl⟩
/-- what has been found so far -/
structure Bfs (ns : List Nd) (adj : Nd → List Nd) (ra : List Nd) (s : Nd) (ws : List Nd) (pre : Nd → Nd) : Prop where
  hd : ∃ t, ws = s :: t
  nd : ws.Nodup
  sub : ∀ x ∈ ws, x ∈ ns
  tr : ∀ x ∈ ws, ∃ p, Bk pre (p ++ [x]) ∧ Way adj ra s (p ++ [x]) ∧ ∀ y ∈ p ++ [x], y ∈ ws
theorem Bfs.start {ns : List Nd} {adj : Nd → List Nd} {ra : List Nd} {s : Nd} (hs : s ∈ ns) : Bfs ns adj ra s [s] fun x => x := by
  refine ⟨⟨[], rfl⟩, by simp, fun x hx => by simp at hx; exact hx ▸ hs, fun x hx => ⟨[], ?_, ?_, fun y hy => ?_⟩⟩
  · simp at hx
    subst hx
    refine ⟨fun y c e => rfl, fun a y z c e => ?_⟩
    have := congrArg List.length e
    simp at this
    omega
  · simp at hx
    subst hx
    exact .one
  · simp at hx hy
    simp [hx, hy]
def updP (pre : Nd → Nd) (o n : Nd) : Nd → Nd := fun x => if x = o then n else pre x
theorem Bk.upd {pre : Nd → Nd} {p : List Nd} {o n : Nd} (h : Bk pre p) (ho : o ∉ p) : Bk (updP pre o n) p := by
  have key : ∀ x ∈ p, updP pre o n x = pre x := fun x hx => if_neg fun z => ho (by rw [← z]; exact hx)
  refine ⟨fun x c e => ?_, fun a y x c e => ?_⟩
  · rw [key x (by rw [e]; simp)]; exact h.hd x c e
  · rw [key x (by rw [e]; simp)]; exact h.st a y x c e
theorem Bfs.add {ns : List Nd} {adj : Nd → List Nd} {ra : List Nd} {s : Nd} {ws : List Nd} {pre : Nd → Nd} {n o : Nd} (h : Bfs ns adj ra s ws pre) (hn : n ∈ ws) (ha : alw adj ra s n o) (ho : o ∈ ns) (hw : o ∉ ws) : Bfs ns adj ra s (ws ++ [o]) (updP pre o n) := by
  refine ⟨?_, ?_, fun x hx => ?_, fun x hx => ?_⟩
  · obtain ⟨t, e⟩ := h.hd
    exact ⟨t ++ [o], by rw [e]; rfl⟩
  · rw [List.nodup_append]
    exact ⟨h.nd, by simp, fun x hx y hy z => by simp at hy; subst hy; subst z; exact hw hx⟩
  · rcases List.mem_append.mp hx with hx | hx
    · exact h.sub x hx
    · simp at hx; exact hx ▸ ho
  · rcases List.mem_append.mp hx with hx | hx
    · obtain ⟨p, b, w, i⟩ := h.tr x hx
      exact ⟨p, b.upd fun z => hw (i o z), w, fun y hy => List.mem_append_left _ (i y hy)⟩
    · simp at hx
      subst hx
      obtain ⟨p, b, w, i⟩ := h.tr n hn
      have nx : x ∉ p ++ [n] := fun z => hw (i x z)
      refine ⟨p ++ [n], ⟨fun y c e => ?_, fun a y z c e => ?_⟩, w.snoc ha nx, fun y hy => ?_⟩
      · have b2 := b.upd (n := n) nx
        cases hp : p ++ [n] with
        | nil => simp at hp
        | cons q r =>
          rw [hp] at e
          have : y = q := by injection e with e1 e2; exact e1.symm
          subst this
          exact b2.hd y r hp
      · have b2 := b.upd (n := n) nx
        rcases List.eq_nil_or_concat c with rfl | ⟨c', l, rfl⟩
        · have e2 : (p ++ [n]) ++ [x] = (a ++ [y]) ++ [z] := by rw [e]; simp
          obtain ⟨e3, e4⟩ := List.append_inj' e2 rfl
          obtain ⟨_, e5⟩ := List.append_inj' e3 rfl
          simp at e4 e5
          subst e4 e5
          exact ⟨if_pos rfl, fun q => nx (by rw [q]; simp)⟩
        · have e2 : (p ++ [n]) ++ [x] = (a ++ y :: z :: c') ++ [l] := by rw [e]; simp
          obtain ⟨e3, _⟩ := List.append_inj' e2 rfl
          exact b2.st a y z c' e3
      · rcases List.mem_append.mp hy with hy | hy
        · exact List.mem_append_left _ (i y hy)
        · exact List.mem_append_right _ hy
theorem Bfs.len {ns : List Nd} {adj : Nd → List Nd} {ra : List Nd} {s : Nd} {ws : List Nd} {pre : Nd → Nd} (h : Bfs ns adj ra s ws pre) : ws.length ≤ ns.length := nd_le h.nd h.sub
theorem mp_add {ws : List Nd} {pre : Nd → Nd} {o n : Nd} (h : o ∉ ws) : putD (mpD ws fun x => ndD (pre x)) (nk o) (ndD n) = mpD (ws ++ [o]) fun x => ndD (updP pre o n x) := by
  rw [mp_new h]
  have e : mpD ws (fun x => ndD (pre x)) = mpD ws fun x => ndD (updP pre o n x) := mp_congr fun x hx => by
    show _ = ndD (if x = o then n else pre x)
    rw [if_neg fun z => h (by rw [← z]; exact hx)]
  rw [e]
  exact mp_snoc (by show ndD (if o = o then n else pre o) = _; rw [if_pos rfl])
end Pf
set_option Elab.async false
set_option linter.all false
set_option maxRecDepth 100000
set_option maxHeartbeats 1000000
namespace Pf
open PySem PySem.Spec PyProof.Rows L2 DL
local macro_rules | `(tactic| walk_at "len") => `(tactic| with_unfolding_all first | exact Nat.le_of_ble_eq_true rfl | (simp; done) | (simp; omega))
local macro_rules | `(tactic| walk_at "side") => `(tactic| with_unfolding_all first | exact Or.inr ⟨by omega, by omega⟩ | exact Or.inl ⟨by omega, by omega⟩ | exact ⟨by omega, by omega⟩ | exact ⟨by omega, by omega, by omega⟩ | (show (0 : Int) < _; omega) | decide)
local macro_rules | `(tactic| walk_at "d1") => `(tactic| with_reducible first
  | (refine ds_seq ?_; try dsimp only [List.set_cons_zero, List.set_cons_succ, List.cons_append, List.nil_append, O.frz])
  | refine ds_asg ?_
  | refine ds_ret ?_
  | refine ds_retN ?_
  | refine ds_next ?_
  | refine ds_dropC ?_
  | refine ds_drop0 ?_
  | refine ds_dropB ?_
  | refine ds_if ?_
  | refine dt_test ?_
  | refine dt_B ?_
  | refine dt_not ?_
  | refine dt_and ?_
  | refine dt_or ?_
  | refine dt_yes ?_
  | refine de_int ?_
  | refine de_bl ?_
  | refine de_str ?_
  | refine de_non ?_
  | refine de_varD (by with_unfolding_all rfl) ?_
  | refine de_varO (by with_unfolding_all rfl) ?_
  | refine de_varA (by with_unfolding_all rfl) ?_
  | refine de_varV (by with_unfolding_all rfl) ?_
  | refine de_isi ?_
  | refine de_dget ?_
  | refine de_dget2 ?_
  | refine de_dnotin ?_
  | refine de_din ?_
  | refine de_dnew ?_
  | refine de_dnewT ?_
  | refine de_cb ?_
  | refine de_call0G ?_
  | refine de_callG ?_
  | refine de_andB ?_
  | refine de_orB ?_
  | refine de_notV ?_
  | refine de_ifE ?_
  | refine de_chain ?_
  | refine de_op ?_
  | refine de_neg ?_
  | refine de_tupG ?_
  | refine de_lstG ?_
  | refine de_slL ?_
  | refine de_slT ?_
  | refine do_none ?_
  | refine do_some ?_
  | refine daf_cons ?_
  | refine daf_nil ?_
  | refine daf_star ?_
  | refine da_cons ?_
  | refine da_nil ?_
  | refine lk_dat ?_
  | refine lk_nil ?_
  | refine ak_dat ?_
  | refine ak_nil ?_
  | refine ak_at ?_
  | refine ak_lst ?_
  | refine lk_lst ?_
  | refine ak_dK ?_
  | refine ak_dT ?_
  | refine ak_vw ?_
  | refine lk_dT ?_
  | refine lk_dK ?_
  | refine da_star ?_
  | refine de_lstRg1 ?_
  | refine de_lstRg2 ?_
  | refine de_revL ?_
  | refine de_count ?_
  | refine de_index ?_
  | refine di_enum ?_
  | refine dt_tru ?_
  | refine de_fldV ?_
  | refine de_prop ?_
  | refine di_rng1 ?_
  | refine di_rng2 ?_
  | refine di_list ?_
  | refine di_tup ?_
  | refine di_seq ?_
  | refine di_zip ?_
  | refine de_split ?_
  | refine de_join ?_
  | refine de_fmt ?_
  | refine de_jnil ?_
  | refine de_jcons ?_
  | refine de_ixS ?_
  | refine de_orT ?_
  | refine di_str ?_
  | refine ops_eqS ?_
  | refine ops_neS ?_
  | refine de_indexD ?_
  | refine ops_int ?_
  | (refine ops_cat (by with_unfolding_all rfl) (by with_unfolding_all rfl) ?side ?_; (case side => walk_at "len"))
  | (refine ops_catA ?side ?_; (case side => walk_at "len"))
  | refine ops_eqI ?_
  | refine ops_neI ?_
  | refine ops_bool ?_
  | (refine ops_intC ?side ?_; (case side => walk_at "side"))
  | refine cb_lenL (by with_unfolding_all rfl) ?_
  | refine cb_lenT (by with_unfolding_all rfl) ?_
  | refine cb_lenK (by with_unfolding_all rfl) ?_
  | refine cb_max2 ?_
  | refine cb_min2 ?_
  | refine cb_int ?_
  | refine ⟨fun _ => ?_, fun z => Bool.noConfusion z⟩
  | refine ⟨fun z => Bool.noConfusion z, fun _ => ?_⟩
  | refine ⟨rfl, ?_⟩
  | refine ⟨_, rfl, ?_⟩
  | refine ⟨_, Or.inl (by with_unfolding_all rfl), ?_⟩
  | (with_unfolding_all refine ⟨_, true, rfl, rfl, (fun _ z => by cases z), rfl, ?_⟩)
  | (with_unfolding_all refine ⟨_, false, rfl, rfl, (fun _ z => by cases z), rfl, ?_⟩))
local macro_rules | `(tactic| walk_at "d") => `(tactic| repeat walk_at "d1")
local macro_rules | `(tactic| walk_at "wk") => `(tactic| repeat first | exact Wk.nil | refine Wk.keep ?_ | refine Wk.drop ?_)
section
variable {P : Program} {w : World} {K : PySem.W.Frag} {mg : Str → Option Value} {base : Heap} {f : Addr} {fd : FuncData} {a_Rounding : Addr}
theorem atI_m1 (xs : List D) (y : D) : atI (xs ++ [y]) (-1) = some y := by
  unfold atI
  rw [show ixN (xs ++ [y]).length (-1) = some xs.length by unfold ixN; rw [List.length_append]; simp; omega]
  simp
theorem eqv_nd (a b : Nd) : PyData.eqv (.tuple [.int (a.1 : Nat), .int (a.2 : Nat)]) (.tuple [.int (b.1 : Nat), .int (b.2 : Nat)]) = decide (a = b) := by
  obtain ⟨a1, a2⟩ := a
  obtain ⟨b1, b2⟩ := b
  rw [Bool.eq_iff_iff, decide_eq_true_eq]
  simp [PyData.eqv, PyData.eqvAll]
  omega
section
variable {ι : Type} {m : ι} {W : Wd ι} {Φ : ι → S → Prop}
theorem ops_eqBl {a b : Bool} (h : Φ m (.dat (.bl (decide (a = b))))) : OpS K W m (rEqD K) (.dat (.bl a)) (.dat (.bl b)) Φ :=
  ops_eqD (d1 := .bl a) (d2 := .bl b) rfl rfl rfl rfl rfl rfl (by rw [show PyData.eqv (.bool a) (.bool b) = decide (a = b) by cases a <;> cases b <;> rfl]; exact h)
theorem ops_neN {s1 s2 : S} {a b : Nd} (h1 : s1.view = some (ndD a)) (h2 : s2.view = some (ndD b)) (h : Φ m (.dat (.bl (!decide (a = b))))) : OpS K W m (rNeD K) s1 s2 Φ :=
  ops_neD h1 h2 rfl rfl rfl rfl (by rw [eqv_nd]; exact h)
end
def C_cell_of : Fc := fun _ W m ss Φ Ξ => ∃ (n o : Nd), ss = [.dat (ndD n), .dat (ndD o)] ∧ Φ m (.dat (ndD (cellOf n o)))
abbrev s_cell_of : Stmt := (top 9)
abbrev N_cell_of : List Str := ["node", "other"]
theorem sc_cell_of : FnScope N_cell_of ["node", "other"] (defScope s_cell_of) := ⟨rfl, rfl, rfl, by decide +kernel, rfl, by decide +kernel, by decide +kernel⟩
theorem ok_cell_of (F : FnP K "cell_of" s_cell_of f fd) (b : BI mg) : FnOk P w K mg base CX0 1 f fd ["node", "other"] (spF K C_cell_of) := by
  have hlen := spF_len (K := K) (C := C_cell_of) (m := 2) fun κ W m ss Φ Ξ ⟨n, o, e, _⟩ => by first | exact e | (rw [e]; rfl)
  refine F.ok sc_cell_of hlen ?_
  intro cdv A outer s H vs Q E hr h
  refine ⟨_, PSs.nox (pss_cons (ps_if (pt_cmpR (k_eqD (K := K) rfl hr.units) (pe_ix (k_ixT (K := K) rfl) (pv 0) pe_int (fun _ _ => rfl)) pe_int (nomark _)) (pss_one (ps_ret (pe_tup (pa_cons (pe_ix (k_ixT (K := K) rfl) (pv 0) pe_int (fun _ _ => rfl)) (pa_cons (pe_ix (k_ixT (K := K) rfl) (pv 1) pe_int (fun _ _ => rfl)) pa_nil))))) pss_nil)
      (pss_one (ps_ret (pe_tup (pa_cons (pe_ix (k_ixT (K := K) rfl) (pv 1) pe_int (fun _ _ => rfl)) (pa_cons (pe_ix (k_ixT (K := K) rfl) (pv 0) pe_int (fun _ _ => rfl)) pa_nil)))))), ?_⟩
  refine DL.run_fnP  [] (Nm := N_cell_of) (n := 2) (k := 0) rfl (hlen _ _ _ _ h) rfl h fun κ W m ss Φ Ξ G hc => ?_
  try dsimp only [cxOf, Cx.nox, Cx.wish, Cx.blk]
  obtain ⟨n, o, rfl, hΦ⟩ := hc
  walk_at "d"
  refine ops_ixT (d := .int (n.1 : Nat)) rfl ?_
  refine de_int ?_
  refine ops_eqI ?_
  refine ⟨_, rfl, fun hb => ?_, fun hb => ?_⟩
  · have e : cellOf n o = (n.2, o.2) := by
      unfold cellOf
      rw [if_pos]
      have := of_decide_eq_true hb
      omega
    rw [e] at hΦ
    walk_at "d"
    refine ops_ixT (d := .int (n.2 : Nat)) rfl ?_
    walk_at "d"
    refine ops_ixT (d := .int (o.2 : Nat)) rfl ?_
    walk_at "d"
    exact hΦ
  · have e : cellOf n o = (o.2, n.2) := by
      unfold cellOf
      rw [if_neg]
      have := of_decide_eq_false hb
      omega
    rw [e] at hΦ
    walk_at "d"
    refine ops_ixT (d := .int (o.2 : Nat)) rfl ?_
    walk_at "d"
    refine ops_ixT (d := .int (n.2 : Nat)) rfl ?_
    walk_at "d"
    exact hΦ
def C_way_back : Fc := fun _ W m ss Φ Ξ => ∃ (ws : List Nd) (pre : Nd → Nd) (p : List Nd) (n : Nd), ss = [.vw (.dT (mpD ws fun x => ndD (pre x))), .dat (ndD n)] ∧ Bk pre (p ++ [n]) ∧ (∀ x ∈ p ++ [n], x ∈ ws) ∧ p.length ≤ 1000 ∧ Φ m (.own (.lst ((p ++ [n]).map ndD)))
abbrev s_way_back : Stmt := (top 10)
abbrev N_way_back : List Str := ["before", "node", "way"]
theorem sc_way_back : FnScope N_way_back ["before", "node"] (defScope s_way_back) := ⟨rfl, rfl, rfl, by decide +kernel, rfl, by decide +kernel, by decide +kernel⟩
theorem ok_way_back (F : FnP K "way_back" s_way_back f fd) (b : BI mg) : FnOk P w K mg base CX0 1 f fd ["before", "node"] (spF K C_way_back) := by
  have hlen := spF_len (K := K) (C := C_way_back) (m := 2) fun κ W m ss Φ Ξ ⟨ws, pre, p, n, e, _⟩ => by first | exact e | (rw [e]; rfl)
  refine F.ok sc_way_back hlen ?_
  intro cdv A outer s H vs Q E hr h
  refine ⟨_, PSs.nox (pss_cons (ps_set (i := 2) sc_way_back.nd rfl (by first | exact Or.inl rfl | exact Or.inr rfl) (pe_lst (pa_cons (pv 1) pa_nil)))
      (pss_cons (ps_while PassesOwn.never (pt_cmpR (k_neD (K := K) rfl hr.units) (pe_dget (hu_of hr) (pv 0) (pe_ix (k_ixL (K := K) rfl) (pv 2) (pe_un un_neg pe_int) (fun _ _ => rfl)) (fun _ _ => rfl)) (pe_ix (k_ixL (K := K) rfl) (pv 2) (pe_un un_neg pe_int) (fun _ _ => rfl)) (nomark _)) (pss_one (ps_expr (k_app (K := K) rfl (pv 2) (pa_cons (pe_dget (hu_of hr) (pv 0) (pe_ix (k_ixL (K := K) rfl) (pv 2) (pe_un un_neg pe_int) (fun _ _ => rfl)) (fun _ _ => rfl)) pa_nil)))))
      (pss_one (ps_ret (k_revL (K := K) rfl (pv 2)))))), ?_⟩
  refine DL.run_fnP  [.no] (Nm := N_way_back) (n := 2) (k := 1) rfl (hlen _ _ _ _ h) rfl h fun κ W m ss Φ Ξ G hc => ?_
  try dsimp only [cxOf, Cx.nox, Cx.wish, Cx.blk]
  obtain ⟨ws, pre, p, n, rfl, hb, hin, hlen, hΦ⟩ := hc
  walk_at "d"
  refine ds_whileW (fun k m' ρ => m' = m ∧ ∃ (a b : List Nd) (x : Nd), a.length = k ∧ p ++ [n] = a ++ x :: b ∧ ρ = [.vw (.dT (mpD ws fun x => ndD (pre x))), .dat (ndD n), .own (.lst ((x :: b).reverse.map ndD))]) p.length ⟨_, Wk.refl _, rfl, rfl, p, [], n, rfl, rfl, rfl⟩ ?_
  · rintro k m' ρ ⟨rfl, a, b, x, hk, hp, rfl⟩
    have hx : x ∈ ws := hin x (by rw [hp]; simp)
    have elast : atI ((x :: b).reverse.map ndD) (-1) = some (ndD x) := by
      rw [List.reverse_cons, List.map_append]
      exact atI_m1 _ _
    walk_at "d"
    refine ops_ixL rfl elast ?_
    refine ⟨.T (mpD ws fun x => ndD (pre x)), ndD x, ndD (pre x), rfl, rfl, look_mp hx, ?_⟩
    walk_at "d"
    refine ops_ixL rfl elast ?_
    refine ops_neN rfl rfl ?_
    rcases List.eq_nil_or_concat a with rfl | ⟨a', y, rfl⟩
    · rw [show (!decide (pre x = x)) = false by rw [hb.hd x b hp]; simp]
      walk_at "d"
      rw [← List.map_reverse, List.reverse_reverse]
      rw [hp] at hΦ
      exact hΦ
    · obtain ⟨e1, e2⟩ := hb.st a' y x b (by rw [hp]; simp)
      rw [show (!decide (pre x = x)) = true by rw [e1]; simp; exact fun z => e2 z.symm]
      walk_at "d"
      refine ds_app (i := 2) rfl (by
        have := congrArg List.length hp
        simp at this ⊢
        omega) ?_
      walk_at "d"
      refine ops_ixL rfl elast ?_
      refine ⟨.T (mpD ws fun x => ndD (pre x)), ndD x, ndD (pre x), rfl, rfl, look_mp hx, ?_⟩
      rw [e1]
      refine ⟨_, rfl, ?_⟩
      refine ⟨a'.length, by simp at hk; omega, ?_⟩
      refine ⟨_, Wk.refl _, rfl, rfl, a', x :: b, y, rfl, by rw [hp]; simp, ?_⟩
      dsimp only [List.set_cons_zero, List.set_cons_succ]
      rw [List.reverse_cons (a := y), List.map_append]
      rfl
def C_Rounding_ahead (C : Addr) : Fc := fun _ W m ss Φ Ξ => ∃ (pa : Addr) (fl lk : D) (ns : List Nd) (adj : Nd → List Nd) (ra : List Nd) (rm : Nd → Int) (n : Nd) (b : Bool), ss = [.vw (.ins pa C (rdF fl lk ns adj ra rm)), .dat (ndD n), .dat (.bl b)] ∧ Gr ns adj ∧ n ∈ ns ∧ Φ m (.own (.lst (((adj n).filter fun o => decide (decide (cellOf n o ∈ ra) = b)).map ndD)))
abbrev s_Rounding_ahead : Stmt := (inClass (top 8) 1)
abbrev N_Rounding_ahead : List Str := ["self", "node", "is_raised", "found", "other"]
theorem sc_Rounding_ahead : FnScope N_Rounding_ahead ["self", "node", "is_raised"] (defScope s_Rounding_ahead) := ⟨rfl, rfl, rfl, by decide +kernel, rfl, by decide +kernel, by decide +kernel⟩
theorem ok_Rounding_ahead (F : FunD K "ahead" "Rounding.ahead" (defArgs s_Rounding_ahead) (defBody s_Rounding_ahead) (defScope s_Rounding_ahead) [] [] f fd) (b : BI mg) (i_Rounding : Ci K a_Rounding ["floors", "raised", "cells", "room", "lack"]) (c_cell_of : Cl P w K mg base CX0 1 "cell_of" ["node", "other"] C_cell_of) : FnOk P w K mg base CX0 2 f fd ["self", "node", "is_raised"] (spF K (C_Rounding_ahead a_Rounding)) := by
  have hlen := spF_len (K := K) (C := (C_Rounding_ahead a_Rounding)) (m := 3) fun κ W m ss Φ Ξ ⟨pa, fl, lk, ns, adj, ra, rm, n, b, e, _⟩ => by first | exact e | (rw [e]; rfl)
  refine F.ok sc_Rounding_ahead hlen ?_
  intro cdv A outer s H vs Q E hr h
  refine ⟨_, PSs.nox (pss_cons (ps_set (i := 3) sc_Rounding_ahead.nd rfl (by first | exact Or.inl rfl | exact Or.inr rfl) (pe_lst pa_nil))
      (pss_cons (ps_for PassesOwn.never rfl (k_piL (K := K) rfl (pe_dget (hu_of hr) (k_fld (K := K) rfl (pv 0)) (pv 1) (fun _ _ => rfl))) (pg_name (i := 4) sc_Rounding_ahead.nd rfl (by first | exact Or.inl rfl | exact Or.inr rfl))
      (pss_one (ps_if (pt_cmpR (k_eqD (K := K) rfl hr.units) (pe_cmp (pc_din (hu_of hr) (k_cl0 c_cell_of rfl hr (pa_cons (pv 1) (pa_cons (pv 4) pa_nil))) (k_fld (K := K) rfl (pv 0))) rfl) (pv 2) (nomark _)) (pss_one (ps_expr (k_app (K := K) rfl (pv 3) (pa_cons (pv 4) pa_nil)))) pss_nil)))
      (pss_one (ps_ret (pv 3))))), ?_⟩
  refine DL.run_fnP  [.no, .no] (Nm := N_Rounding_ahead) (n := 3) (k := 2) rfl (hlen _ _ _ _ h) rfl h fun κ W m ss Φ Ξ G hc => ?_
  try dsimp only [cxOf, Cx.nox, Cx.wish, Cx.blk]
  obtain ⟨pa, fl, lk, ns, adj, ra, rm, n, b, rfl, hg, hn, hΦ⟩ := hc
  have hdeg := hg.deg n hn
  walk_at "d"
  refine ds_forW (vs := [4]) ?_
  walk_at "d"
  refine ⟨pa, a_Rounding, _, _, rfl, i_Rounding.cl, i_Rounding.no _ (by simp), rfl, ?_⟩
  dsimp only [itS]
  walk_at "d"
  refine ⟨.T (mpD ns fun n => .lst ((adj n).map ndD)), ndD n, .lst ((adj n).map ndD), rfl, rfl, look_mp hn, ?_⟩
  walk_at "d"
  refine ⟨fun i m' ρ => m' = m ∧ ρ = [.vw (.ins pa a_Rounding (rdF fl lk ns adj ra rm)), .dat (ndD n), .dat (.bl b), .own (.lst ((((adj n).take i).filter fun o => decide (decide (cellOf n o ∈ ra) = b)).map ndD)), .no], ⟨_, Wk.refl _, rfl, rfl, rfl⟩, ?_, ?_⟩
  · rintro i d m' ρ hd ⟨rfl, rfl⟩
    rw [List.getElem?_map] at hd
    cases ho : (adj n)[i]? with
    | none => rw [ho] at hd; cases hd
    | some o =>
      rw [ho] at hd
      cases hd
      have et : (adj n).take (i + 1) = (adj n).take i ++ [o] := by rw [List.take_add_one, ho]; rfl
      refine ⟨_, dg_name (by simp), ?_⟩
      dsimp only [List.set_cons_zero, List.set_cons_succ]
      walk_at "d"
      refine ⟨n, o, rfl, ?_⟩
      walk_at "d"
      refine ⟨pa, a_Rounding, _, _, rfl, i_Rounding.cl, i_Rounding.no _ (by simp), rfl, ?_⟩
      refine ⟨.T (mpD ra fun _ => .bl true), ndD (cellOf n o), _, rfl, rfl, DL.Look.t (nk (cellOf n o)), ?_⟩
      rw [mp_some]
      walk_at "d"
      refine ops_eqBl ?_
      refine ⟨_, rfl, fun hb => ?_, fun hb => ?_⟩
      · have e2 : (decide (decide (cellOf n o ∈ ra) = b)) = true := hb
        refine ds_app (i := 3) rfl (by
          rw [List.length_map]
          have := List.length_filter_le (fun o => decide (decide (cellOf n o ∈ ra) = b)) ((adj n).take i)
          rw [List.length_take] at this
          omega) ?_
        walk_at "d"
        dsimp only [List.set_cons_zero, List.set_cons_succ]
        refine ⟨[.vw (.ins pa a_Rounding (rdF fl lk ns adj ra rm)), .dat (ndD n), .dat (.bl b), .own (.lst ((((adj n).take (i + 1)).filter fun o => decide (decide (cellOf n o ∈ ra) = b)).map ndD)), .no], ?_, rfl, rfl, rfl⟩
        rw [et, List.filter_append, List.filter_cons_of_pos (p := fun o => decide (decide (cellOf n o ∈ ra) = b)) e2, List.filter_nil, List.map_append]
        walk_at "wk"
      · have e2 : ¬ (decide (decide (cellOf n o ∈ ra) = b)) = true := fun z => by rw [hb] at z; cases z
        walk_at "d"
        refine ⟨[.vw (.ins pa a_Rounding (rdF fl lk ns adj ra rm)), .dat (ndD n), .dat (.bl b), .own (.lst ((((adj n).take (i + 1)).filter fun o => decide (decide (cellOf n o ∈ ra) = b)).map ndD)), .no], ?_, rfl, rfl, rfl⟩
        rw [et, List.filter_append, List.filter_cons_of_neg (p := fun o => decide (decide (cellOf n o ∈ ra) = b)) e2, List.filter_nil, List.append_nil]
        walk_at "wk"
  · rintro m' ρ ⟨rfl, rfl⟩
    rw [List.length_map, List.take_length]
    exact ds_retVar rfl hΦ
end
end Pf
set_option Elab.async false
set_option linter.all false
set_option maxRecDepth 100000
set_option maxHeartbeats 1000000
namespace Pf
open PySem PySem.Spec PyProof.Rows L2 DL
/-! ### the way, as a function -/
def nbr (adj : Nd → List Nd) (ra : List Nd) (s n : Nd) : List Nd := (adj n).filter (fun o => decide (decide (cellOf n o ∈ ra) = decide (n.1 ≠ s.1)))
def bfsO (n : Nd) (st : List Nd × (Nd → Nd)) (o : Nd) : List Nd × (Nd → Nd) := if o ∈ st.1 then st else (st.1 ++ [o], updP st.2 o n)
def bfsI (n : Nd) (L : List Nd) (st : List Nd × (Nd → Nd)) : List Nd × (Nd → Nd) := L.foldl (bfsO n) st
theorem bfsI_take {n : Nd} {L : List Nd} {st : List Nd × (Nd → Nd)} {j : Nat} {o : Nd} (h : L[j]? = some o) : bfsI n (L.take (j + 1)) st = bfsO n (bfsI n (L.take j) st) o := by
  unfold bfsI
  rw [List.take_add_one, h, List.foldl_append]
  rfl
def bfsF (adj : Nd → List Nd) (ra : List Nd) (rm : Nd → Int) (s : Nd) : Nat → List Nd × (Nd → Nd) → Nat → Option (Nd × (Nd → Nd))
  | 0, _, _ => none
  | k + 1, st, i =>
    match st.1[i]? with
    | none => none
    | some n => if n.1 ≠ s.1 ∧ 0 < rm n then some (n, st.2) else bfsF adj ra rm s k (bfsI n (nbr adj ra s n) st) (i + 1)
theorem bfsF_hit {adj : Nd → List Nd} {ra : List Nd} {rm : Nd → Int} {s n : Nd} {k i : Nat} {st : List Nd × (Nd → Nd)} (hn : st.1[i]? = some n) (h : n.1 ≠ s.1 ∧ 0 < rm n) : bfsF adj ra rm s (k + 1) st i = some (n, st.2) := by
  unfold bfsF
  rw [hn]
  show (if _ then _ else _) = _
  rw [if_pos h]
theorem bfsF_go {adj : Nd → List Nd} {ra : List Nd} {rm : Nd → Int} {s n : Nd} {k i : Nat} {st : List Nd × (Nd → Nd)} (hn : st.1[i]? = some n) (h : ¬ (n.1 ≠ s.1 ∧ 0 < rm n)) : bfsF adj ra rm s (k + 1) st i = bfsF adj ra rm s k (bfsI n (nbr adj ra s n) st) (i + 1) := by
  conv => lhs; unfold bfsF
  rw [hn]
  show (if _ then _ else _) = _
  rw [if_neg h]
theorem bfsF_end {adj : Nd → List Nd} {ra : List Nd} {rm : Nd → Int} {s : Nd} {k i : Nat} {st : List Nd × (Nd → Nd)} (hn : st.1.length ≤ i) : bfsF adj ra rm s k st i = none := by
  cases k with
  | zero => rfl
  | succ k => unfold bfsF; rw [List.getElem?_eq_none hn]
def backF (pre : Nd → Nd) : Nat → Nd → List Nd
  | 0, n => [n]
  | k + 1, n => if pre n = n then [n] else backF pre k (pre n) ++ [n]
def wayF (ns : List Nd) (adj : Nd → List Nd) (ra : List Nd) (rm : Nd → Int) (s : Nd) : List Nd :=
  match bfsF adj ra rm s ns.length ([s], fun x => x) 0 with
  | none => [s]
  | some (n, pre) => backF pre 1000 n
theorem Bk.back {pre : Nd → Nd} : ∀ (k : Nat) {p : List Nd} {n : Nd}, Bk pre (p ++ [n]) → p.length ≤ k → backF pre k n = p ++ [n]
  | 0, p, n, h, hl => by
    have : p = [] := List.length_eq_zero_iff.mp (by omega)
    rw [this]; rfl
  | k + 1, p, n, h, hl => by
    unfold backF
    rcases List.eq_nil_or_concat p with rfl | ⟨p', y, rfl⟩
    · rw [if_pos (h.hd n [] rfl)]
      rfl
    · rw [List.concat_eq_append] at h hl ⊢
      have e : (p' ++ [y]) ++ [n] = p' ++ y :: n :: [] := by simp
      obtain ⟨h1, h2⟩ := h.st p' y n [] e
      rw [if_neg (by rw [h1]; exact h2.symm), h1]
      have hb : Bk pre (p' ++ [y]) := by
        refine ⟨fun x c ex => h.hd x (c ++ [n]) (by rw [ex]; rfl), fun a u v c ex => h.st a u v (c ++ [n]) (by rw [ex]; simp)⟩
      rw [Bk.back k hb (by rw [List.length_append] at hl; simp at hl; omega)]
end Pf
set_option Elab.async false
set_option linter.all false
set_option maxRecDepth 100000
set_option maxHeartbeats 1000000
namespace Pf
open PySem PySem.Spec PyProof.Rows L2 DL
local macro_rules | `(tactic| walk_at "len") => `(tactic| with_unfolding_all first | exact Nat.le_of_ble_eq_true rfl | (simp; done) | (simp; omega))
local macro_rules | `(tactic| walk_at "side") => `(tactic| with_unfolding_all first | exact Or.inr ⟨by omega, by omega⟩ | exact Or.inl ⟨by omega, by omega⟩ | exact ⟨by omega, by omega⟩ | exact ⟨by omega, by omega, by omega⟩ | (show (0 : Int) < _; omega) | decide)
local macro_rules | `(tactic| walk_at "d1") => `(tactic| with_reducible first
  | (refine ds_seq ?_; try dsimp only [List.set_cons_zero, List.set_cons_succ, List.cons_append, List.nil_append, O.frz])
  | refine ds_asg ?_
  | refine ds_ret ?_
  | refine ds_retN ?_
  | refine ds_next ?_
  | refine ds_dropC ?_
  | refine ds_drop0 ?_
  | refine ds_dropB ?_
  | refine ds_if ?_
  | refine dt_test ?_
  | refine dt_B ?_
  | refine dt_not ?_
  | refine dt_and ?_
  | refine dt_or ?_
  | refine dt_yes ?_
  | refine de_int ?_
  | refine de_bl ?_
  | refine de_str ?_
  | refine de_non ?_
  | refine de_varD (by with_unfolding_all rfl) ?_
  | refine de_varO (by with_unfolding_all rfl) ?_
  | refine de_varA (by with_unfolding_all rfl) ?_
  | refine de_varV (by with_unfolding_all rfl) ?_
  | refine de_isi ?_
  | refine de_dget ?_
  | refine de_dget2 ?_
  | refine de_dnotin ?_
  | refine de_din ?_
  | refine de_dnew ?_
  | refine de_dnewT ?_
  | refine de_cb ?_
  | refine de_call0G ?_
  | refine de_callG ?_
  | refine de_andB ?_
  | refine de_orB ?_
  | refine de_notV ?_
  | refine de_ifE ?_
  | refine de_chain ?_
  | refine de_op ?_
  | refine de_neg ?_
  | refine de_tupG ?_
  | refine de_lstG ?_
  | refine de_slL ?_
  | refine de_slT ?_
  | refine do_none ?_
  | refine do_some ?_
  | refine daf_cons ?_
  | refine daf_nil ?_
  | refine daf_star ?_
  | refine da_cons ?_
  | refine da_nil ?_
  | refine lk_dat ?_
  | refine lk_nil ?_
  | refine ak_dat ?_
  | refine ak_nil ?_
  | refine ak_at ?_
  | refine ak_lst ?_
  | refine lk_lst ?_
  | refine ak_dK ?_
  | refine ak_dT ?_
  | refine ak_vw ?_
  | refine lk_dT ?_
  | refine lk_dK ?_
  | refine da_star ?_
  | refine de_lstRg1 ?_
  | refine de_lstRg2 ?_
  | refine de_revL ?_
  | refine de_count ?_
  | refine de_index ?_
  | refine di_enum ?_
  | refine dt_tru ?_
  | refine de_fldV ?_
  | refine de_prop ?_
  | refine di_rng1 ?_
  | refine di_rng2 ?_
  | refine di_list ?_
  | refine di_tup ?_
  | refine di_seq ?_
  | refine di_zip ?_
  | refine de_split ?_
  | refine de_join ?_
  | refine de_fmt ?_
  | refine de_jnil ?_
  | refine de_jcons ?_
  | refine de_ixS ?_
  | refine de_orT ?_
  | refine di_str ?_
  | refine ops_eqS ?_
  | refine ops_neS ?_
  | refine de_indexD ?_
  | refine ops_int ?_
  | (refine ops_cat (by with_unfolding_all rfl) (by with_unfolding_all rfl) ?side ?_; (case side => walk_at "len"))
  | (refine ops_catA ?side ?_; (case side => walk_at "len"))
  | refine ops_eqI ?_
  | refine ops_neI ?_
  | refine ops_bool ?_
  | (refine ops_intC ?side ?_; (case side => walk_at "side"))
  | refine cb_lenL (by with_unfolding_all rfl) ?_
  | refine cb_lenT (by with_unfolding_all rfl) ?_
  | refine cb_lenK (by with_unfolding_all rfl) ?_
  | refine cb_max2 ?_
  | refine cb_min2 ?_
  | refine cb_int ?_
  | refine ⟨fun _ => ?_, fun z => Bool.noConfusion z⟩
  | refine ⟨fun z => Bool.noConfusion z, fun _ => ?_⟩
  | refine ⟨rfl, ?_⟩
  | refine ⟨_, rfl, ?_⟩
  | refine ⟨_, Or.inl (by with_unfolding_all rfl), ?_⟩
  | (with_unfolding_all refine ⟨_, true, rfl, rfl, (fun _ z => by cases z), rfl, ?_⟩)
  | (with_unfolding_all refine ⟨_, false, rfl, rfl, (fun _ z => by cases z), rfl, ?_⟩))
local macro_rules | `(tactic| walk_at "d") => `(tactic| repeat walk_at "d1")
local macro_rules | `(tactic| walk_at "wk") => `(tactic| repeat first | exact Wk.nil | refine Wk.keep ?_ | refine Wk.drop ?_)
section
variable {P : Program} {w : World} {K : PySem.W.Frag} {mg : Str → Option Value} {base : Heap} {f : Addr} {fd : FuncData} {a_Rounding : Addr}
def C_Rounding_way_from (C : Addr) : Fc := fun _ W m ss Φ Ξ => ∃ (pa : Addr) (fl lk : D) (ns : List Nd) (adj : Nd → List Nd) (ra : List Nd) (rm : Nd → Int) (s : Nd), ss = [.vw (.ins pa C (rdF fl lk ns adj ra rm)), .dat (ndD s)] ∧ Gr ns adj ∧ s ∈ ns ∧
  (∀ p e, wayF ns adj ra rm s = p ++ [e] → Way adj ra s (p ++ [e]) → (∀ x ∈ p ++ [e], x ∈ ns) → e.1 ≠ s.1 → 0 < rm e → Φ m (.own (.lst ((p ++ [e]).map ndD)))) ∧ (wayF ns adj ra rm s = [s] → Clo ns adj ra rm s → Φ m (.own (.lst [ndD s])))
abbrev s_Rounding_way_from : Stmt := (inClass (top 8) 2)
abbrev N_Rounding_way_from : List Str := ["self", "start", "before", "waiting", "at", "node", "other"]
theorem sc_Rounding_way_from : FnScope N_Rounding_way_from ["self", "start"] (defScope s_Rounding_way_from) := ⟨rfl, rfl, rfl, by decide +kernel, rfl, by decide +kernel, by decide +kernel⟩
theorem ok_Rounding_way_from (F : FunD K "way_from" "Rounding.way_from" (defArgs s_Rounding_way_from) (defBody s_Rounding_way_from) (defScope s_Rounding_way_from) [] [] f fd) (b : BI mg) (i_Rounding : Ci K a_Rounding ["floors", "raised", "cells", "room", "lack"]) (c_way_back : Cl P w K mg base CX0 1 "way_back" ["before", "node"] C_way_back) (c_Rounding_ahead : Me P w K mg base CX0 2 a_Rounding "ahead" ["self", "node", "is_raised"] (C_Rounding_ahead a_Rounding)) : FnOk P w K mg base CX0 4 f fd ["self", "start"] (spF K (C_Rounding_way_from a_Rounding)) := by
  have hlen := spF_len (K := K) (C := (C_Rounding_way_from a_Rounding)) (m := 2) fun κ W m ss Φ Ξ ⟨pa, fl, lk, ns, adj, ra, rm, s, e, _⟩ => by first | exact e | (rw [e]; rfl)
  refine F.ok sc_Rounding_way_from hlen ?_
  intro cdv A outer s H vs Q E hr h
  refine ⟨_, PSs.nox (pss_cons (ps_set (i := 2) sc_Rounding_way_from.nd rfl (by first | exact Or.inl rfl | exact Or.inr rfl) (pe_disp1T (hu_of hr) (pv 1) (pv 1)))
      (pss_cons (ps_set (i := 3) sc_Rounding_way_from.nd rfl (by first | exact Or.inl rfl | exact Or.inr rfl) (pe_lst (pa_cons (pv 1) pa_nil)))
      (pss_cons (ps_set (i := 4) sc_Rounding_way_from.nd rfl (by first | exact Or.inl rfl | exact Or.inr rfl) pe_int)
      (pss_cons (ps_while PassesOwn.never (pt_cmpR op_lt (pv 4) (pe_callB (k_len (K := K) rfl) rfl b.len boot_len (pa_cons (pv 3) pa_nil)) (nomark _)) (pss_cons (ps_set (i := 5) sc_Rounding_way_from.nd rfl (by first | exact Or.inl rfl | exact Or.inr rfl) (pe_ix (k_ixL (K := K) rfl) (pv 3) (pv 4) (fun _ _ => rfl)))
      (pss_cons (ps_aug (i := 4) sc_Rounding_way_from.nd rfl (by first | exact Or.inl rfl | exact Or.inr rfl) pe_int ip_add)
      (pss_cons (ps_if (PW.pt (pw_and (pt_cmpR (k_neD (K := K) rfl hr.units) (pe_ix (k_ixT (K := K) rfl) (pv 5) pe_int (fun _ _ => rfl)) (pe_ix (k_ixT (K := K) rfl) (pv 1) pe_int (fun _ _ => rfl)) (nomark _)) (pw_and1 (pt_cmpR op_gt (pe_dget (hu_of hr) (k_fld (K := K) rfl (pv 0)) (pv 5) (fun _ _ => rfl)) pe_int (nomark _))))) (pss_one (ps_ret (k_cl0 c_way_back rfl hr (pa_cons (pv 2) (pa_cons (pv 5) pa_nil))))) pss_nil)
      (pss_one (ps_for PassesOwn.never rfl (k_piL (K := K) rfl (k_meth c_Rounding_ahead rfl hr pass0 (pv 0) (pa_cons (pv 5) (pa_cons (pe_cmpR (k_neD (K := K) rfl hr.units) (pe_ix (k_ixT (K := K) rfl) (pv 5) pe_int (fun _ _ => rfl)) (pe_ix (k_ixT (K := K) rfl) (pv 1) pe_int (fun _ _ => rfl)) (nomark _)) pa_nil)))) (pg_name (i := 6) sc_Rounding_way_from.nd rfl (by first | exact Or.inl rfl | exact Or.inr rfl))
      (pss_one (ps_if (pt_cmp (pc_dnotin (hu_of hr) (pv 6) (pv 2))) (pss_cons (ps_dput (hu_of hr) (pv 2) (pv 6) (pv 5) rfl)
      (pss_one (ps_expr (k_app (K := K) rfl (pv 3) (pa_cons (pv 6) pa_nil))))) pss_nil))))))))
      (pss_one (ps_ret (pe_lst (pa_cons (pv 1) pa_nil)))))))), ?_⟩
  refine DL.run_fnP  [.no, .no, .no, .no, .no] (Nm := N_Rounding_way_from) (n := 2) (k := 5) rfl (hlen _ _ _ _ h) rfl h fun κ W m ss Φ Ξ G hc => ?_
  try dsimp only [cxOf, Cx.nox, Cx.wish, Cx.blk]
  obtain ⟨pa, fl, lk, ns, adj, ra, rm, s, rfl, hg, hs, hW, hC⟩ := hc
  have hln := hg.len
  walk_at "d"
  refine de_disp1T ?_
  walk_at "d"
  refine ⟨nk s, ndD s, rfl, rfl, ?_⟩
  refine ⟨rfl, ?_⟩
  dsimp only [List.set_cons_zero, List.set_cons_succ]
  walk_at "d"
  refine ds_whileW (fun k m' ρ => m' = m ∧ ∃ (ws : List Nd) (pre : Nd → Nd) (i : Nat), k + i = ns.length ∧ i ≤ ws.length ∧ bfsF adj ra rm s ns.length ([s], fun x => x) 0 = bfsF adj ra rm s k (ws, pre) i ∧ Bfs ns adj ra s ws pre ∧ (∀ x ∈ ws.take i, (x.1 ≠ s.1 → rm x ≤ 0) ∧ ∀ o, alw adj ra s x o → o ∈ ws) ∧ ρ = [.vw (.ins pa a_Rounding (rdF fl lk ns adj ra rm)), .dat (ndD s), .own (.dT (mpD ws fun x => ndD (pre x))), .own (.lst (ws.map ndD)), .dat (.int (i : Nat)), .no, .no]) ns.length ⟨_, Wk.refl _, rfl, rfl, [s], fun x => x, 0, rfl, Nat.zero_le _, rfl, Bfs.start hs, fun x hx => by simp at hx, rfl⟩ ?_
  rintro k m' ρ ⟨rfl, ws, pre, i, hk, hi, hF, hb, hdone, rfl⟩
  have hlw := hb.len
  walk_at "d"
  rw [List.length_map]
  refine ⟨fun hlt => ?_, fun hlt => ?_⟩
  · have hlt : i < ws.length := by
      have := of_decide_eq_true hlt
      omega
    obtain ⟨n, hn⟩ : ∃ n, ws[i]? = some n := ⟨_, List.getElem?_eq_getElem hlt⟩
    have hnw := List.mem_of_getElem? hn
    obtain ⟨k, rfl⟩ : ∃ k', k = k' + 1 := ⟨k - 1, by omega⟩
    have hns := hb.sub n hnw
    walk_at "d"
    refine ops_ixL rfl (d := ndD n) (atN (by rw [List.getElem?_map, hn]; rfl)) ?_
    refine ⟨rfl, ?_⟩
    dsimp only [List.set_cons_zero, List.set_cons_succ]
    refine ds_seq ?_
    refine ds_augI (i := 4) (a := ((i : Nat) : Int)) rfl ?_
    refine de_int ⟨1, rfl, ?_⟩
    rw [show ((i : Nat) : Int) + 1 = ((i + 1 : Nat) : Int) by omega]
    dsimp only [List.set_cons_zero, List.set_cons_succ]
    refine ds_cut (fun m ρ => m = m' ∧ ρ = [.vw (.ins pa a_Rounding (rdF fl lk ns adj ra rm)), .dat (ndD s), .own (.dT (mpD ws fun x => ndD (pre x))), .own (.lst (ws.map ndD)), .dat (.int ((i + 1 : Nat) : Int)), .dat (ndD n), .no] ∧ ¬ (n.1 ≠ s.1 ∧ 0 < rm n)) ?_ ?_
    · refine ds_if ?_
      walk_at "d"
      refine ops_ixT (d := .int (n.1 : Nat)) rfl ?_
      walk_at "d"
      refine ops_ixT (d := .int (s.1 : Nat)) rfl ?_
      refine ops_neI ?_
      refine ⟨_, rfl, fun hb1 => ?_, fun hb1 => ?_⟩
      · walk_at "d"
        refine ⟨pa, a_Rounding, _, _, rfl, i_Rounding.cl, i_Rounding.no _ (by simp), rfl, ?_⟩
        walk_at "d"
        refine ⟨.T (mpD ns fun n => .int (rm n)), ndD n, .int (rm n), rfl, rfl, look_mp hns, ?_⟩
        walk_at "d"
        refine ⟨fun hb2 => ?_, fun hb2 => ?_⟩
        · obtain ⟨p, b1, w1, i1⟩ := hb.tr n hnw
          have hne : n.1 ≠ s.1 := by
            intro z
            rw [z] at hb1
            simp at hb1
          walk_at "d"
          refine ⟨ws, pre, p, n, rfl, b1, i1, ?_, ?_⟩
          · have := nd_le w1.nd fun x hx => hb.sub x (i1 x hx)
            rw [List.length_append] at this
            omega
          · have := of_decide_eq_true hb2
            have hwf : wayF ns adj ra rm s = p ++ [n] := by
              unfold wayF
              rw [hF, bfsF_hit hn ⟨hne, by omega⟩]
              refine Bk.back 1000 b1 ?_
              have := nd_le w1.nd fun x hx => hb.sub x (i1 x hx)
              rw [List.length_append] at this
              omega
            exact ⟨rfl, hW p n hwf w1 (fun x hx => hb.sub x (i1 x hx)) hne (by omega)⟩
        · walk_at "d"
          refine ⟨_, Wk.refl _, rfl, rfl, rfl, fun z => ?_⟩
          have := of_decide_eq_false hb2
          omega
      · walk_at "d"
        refine ⟨_, Wk.refl _, rfl, rfl, rfl, fun z => ?_⟩
        simp at hb1
        exact z.1 (by omega)
    · rintro m2 ρ ⟨rfl, rfl, hrm⟩
      rw [bfsF_go hn hrm] at hF
      refine ds_forW (vs := [6]) ?_
      walk_at "d"
      refine de_methV hE_0 ?_
      walk_at "d"
      refine ⟨pa, _, rfl, rfl, ?_⟩
      walk_at "d"
      refine ops_ixT (d := .int (n.1 : Nat)) rfl ?_
      walk_at "d"
      refine ops_ixT (d := .int (s.1 : Nat)) rfl ?_
      refine ops_neI ?_
      walk_at "d"
      refine ⟨pa, fl, lk, ns, adj, ra, rm, n, _, rfl, hg, hns, ?_⟩
      have eb : (!decide (((n.1 : Nat) : Int) = (s.1 : Nat))) = decide (n.1 ≠ s.1) := by
        by_cases z : n.1 = s.1
        · simp [z]
        · have : ¬ ((n.1 : Nat) : Int) = (s.1 : Nat) := by omega
          simp [z, this]
      rw [eb]
      have hL : ∀ o, o ∈ (adj n).filter (fun o => decide (decide (cellOf n o ∈ ra) = decide (n.1 ≠ s.1))) ↔ alw adj ra s n o := fun o => by
        rw [List.mem_filter, decide_eq_true_eq]
        rfl
      have hLl : ((adj n).filter (fun o => decide (decide (cellOf n o ∈ ra) = decide (n.1 ≠ s.1)))).length ≤ 1000 := Nat.le_trans (List.length_filter_le _ _) (hg.deg n hns)
      have hnb : nbr adj ra s n = (adj n).filter (fun o => decide (decide (cellOf n o ∈ ra) = decide (n.1 ≠ s.1))) := rfl
      rw [hnb] at hF
      generalize (adj n).filter (fun o => decide (decide (cellOf n o ∈ ra) = decide (n.1 ≠ s.1))) = L at hL hLl hF ⊢
      refine ⟨_, rfl, fun j m ρ => m = m2 ∧ ∃ (ws2 : List Nd) (pre2 : Nd → Nd), Bfs ns adj ra s ws2 pre2 ∧ (∃ t, ws2 = ws ++ t) ∧ (∀ o ∈ L.take j, o ∈ ws2) ∧ bfsI n (L.take j) (ws, pre) = (ws2, pre2) ∧ ρ = [.vw (.ins pa a_Rounding (rdF fl lk ns adj ra rm)), .dat (ndD s), .own (.dT (mpD ws2 fun x => ndD (pre2 x))), .own (.lst (ws2.map ndD)), .dat (.int ((i + 1 : Nat) : Int)), .dat (ndD n), .no], ⟨_, Wk.refl _, rfl, rfl, ws, pre, hb, ⟨[], by simp⟩, fun o ho => (by simp at ho), rfl, rfl⟩, ?_, ?_⟩
      · rintro j d m3 ρ hd ⟨rfl, ws2, pre2, hb2, ⟨t, et⟩, hin, hI, rfl⟩
        rw [List.getElem?_map] at hd
        cases ho : L[j]? with
        | none => rw [ho] at hd; cases hd
        | some o =>
          rw [ho] at hd
          cases hd
          have hal := (hL o).mp (List.mem_of_getElem? ho)
          have hon := (hg.nbr n hns o hal.1).1
          have etk : L.take (j + 1) = L.take j ++ [o] := by rw [List.take_add_one, ho]; rfl
          have hl2 := hb2.len
          refine ⟨_, dg_name (by simp), ?_⟩
          dsimp only [List.set_cons_zero, List.set_cons_succ]
          walk_at "d"
          refine ⟨.T (mpD ws2 fun x => ndD (pre2 x)), ndD o, _, rfl, rfl, DL.Look.t (nk o), ?_⟩
          rw [mp_some]
          refine ⟨_, rfl, fun hnot => ?_, fun hnot => ?_⟩
          · have hno : o ∉ ws2 := by simpa using hnot
            refine ds_seq ?_
            refine ds_dput (i := 2) rfl (by show (mpD ws2 _).length < 1000000; rw [mp_len]; omega) ?_
            walk_at "d"
            refine ⟨ndD n, ndD o, _, rfl, rfl, PutS.t (nk o) (ndD n), ?_⟩
            rw [mp_add hno]
            dsimp only [List.set_cons_zero, List.set_cons_succ]
            refine ds_app (i := 3) rfl (by rw [List.length_map]; omega) ?_
            walk_at "d"
            dsimp only [List.set_cons_zero, List.set_cons_succ]
            rw [show ws2.map ndD ++ [ndD o] = (ws2 ++ [o]).map ndD by rw [List.map_append]; rfl]
            refine ⟨_, by walk_at "wk", rfl, rfl, ws2 ++ [o], updP pre2 o n, hb2.add (by rw [et]; exact List.mem_append_left _ hnw) hal hon hno, ⟨t ++ [o], by rw [et]; simp⟩, fun x hx => ?_, by rw [bfsI_take ho, hI]; exact if_neg hno, rfl⟩
            rw [etk] at hx
            rcases List.mem_append.mp hx with hx | hx
            · exact List.mem_append_left _ (hin x hx)
            · exact List.mem_append_right _ hx
          · have hyes : o ∈ ws2 := by simpa using hnot
            walk_at "d"
            refine ⟨_, by walk_at "wk", rfl, rfl, ws2, pre2, hb2, ⟨t, et⟩, fun x hx => ?_, by rw [bfsI_take ho, hI]; exact if_pos hyes, rfl⟩
            rw [etk] at hx
            rcases List.mem_append.mp hx with hx | hx
            · exact hin x hx
            · simp at hx; exact hx ▸ hyes
      · rintro m3 ρ ⟨rfl, ws2, pre2, hb2, ⟨t, et⟩, hin, hI, rfl⟩
        rw [List.length_map, List.take_length] at hin hI
        rw [hI] at hF
        refine ⟨k, by omega, [.vw (.ins pa a_Rounding (rdF fl lk ns adj ra rm)), .dat (ndD s), .own (.dT (mpD ws2 fun x => ndD (pre2 x))), .own (.lst (ws2.map ndD)), .dat (.int ((i + 1 : Nat) : Int)), .no, .no], by walk_at "wk", rfl, rfl, ws2, pre2, i + 1, by omega, by rw [et, List.length_append]; omega, hF, hb2, fun x hx => ?_, rfl⟩
        have etk : ws2.take (i + 1) = ws.take i ++ [n] := by
          rw [et, List.take_append_of_le_length (by omega), List.take_add_one, hn]
          rfl
        rw [etk] at hx
        rcases List.mem_append.mp hx with hx | hx
        · obtain ⟨h1, h2⟩ := hdone x hx
          exact ⟨h1, fun o ho => by rw [et]; exact List.mem_append_left _ (h2 o ho)⟩
        · simp at hx
          subst hx
          exact ⟨fun z => by omega, fun o ho => hin o ((hL o).mpr ho)⟩
  · walk_at "d"
    have hlt2 : ws.length ≤ i := by
      have := of_decide_eq_false hlt
      omega
    have hwf : wayF ns adj ra rm s = [s] := by
      unfold wayF
      rw [hF, bfsF_end hlt2]
    refine hC hwf ⟨ws, ?_, fun x hx => ⟨hb.sub x hx, ?_⟩, fun x hx => ?_⟩
    · obtain ⟨t, e⟩ := hb.hd
      rw [e]
      exact List.mem_cons_self
    · refine (hdone x ?_).1
      rw [List.take_of_length_le]
      · exact hx
      · have := of_decide_eq_false hlt
        omega
    · refine (hdone x ?_).2
      rw [List.take_of_length_le]
      · exact hx
      · have := of_decide_eq_false hlt
        omega
end
end Pf
set_option Elab.async false
set_option linter.all false
set_option maxRecDepth 100000
set_option maxHeartbeats 1000000
namespace Pf
open PySem PySem.Spec PyProof.Rows L2 DL
local macro_rules | `(tactic| walk_at "len") => `(tactic| with_unfolding_all first | exact Nat.le_of_ble_eq_true rfl | (simp; done) | (simp; omega))
local macro_rules | `(tactic| walk_at "side") => `(tactic| with_unfolding_all first | exact Or.inr ⟨by omega, by omega⟩ | exact Or.inl ⟨by omega, by omega⟩ | exact ⟨by omega, by omega⟩ | exact ⟨by omega, by omega, by omega⟩ | (show (0 : Int) < _; omega) | decide)
local macro_rules | `(tactic| walk_at "d1") => `(tactic| with_reducible first
  | (refine ds_seq ?_; try dsimp only [List.set_cons_zero, List.set_cons_succ, List.cons_append, List.nil_append, O.frz])
  | refine ds_asg ?_
  | refine ds_ret ?_
  | refine ds_retN ?_
  | refine ds_next ?_
  | refine ds_dropC ?_
  | refine ds_drop0 ?_
  | refine ds_dropB ?_
  | refine ds_if ?_
  | refine dt_test ?_
  | refine dt_B ?_
  | refine dt_not ?_
  | refine dt_and ?_
  | refine dt_or ?_
  | refine dt_yes ?_
  | refine de_int ?_
  | refine de_bl ?_
  | refine de_str ?_
  | refine de_non ?_
  | refine de_varD (by with_unfolding_all rfl) ?_
  | refine de_varO (by with_unfolding_all rfl) ?_
  | refine de_varA (by with_unfolding_all rfl) ?_
  | refine de_varV (by with_unfolding_all rfl) ?_
  | refine de_isi ?_
  | refine de_dget ?_
  | refine de_dget2 ?_
  | refine de_dnotin ?_
  | refine de_din ?_
  | refine de_dnew ?_
  | refine de_dnewT ?_
  | refine de_cb ?_
  | refine de_call0G ?_
  | refine de_callG ?_
  | refine de_andB ?_
  | refine de_orB ?_
  | refine de_notV ?_
  | refine de_ifE ?_
  | refine de_chain ?_
  | refine de_op ?_
  | refine de_neg ?_
  | refine de_tupG ?_
  | refine de_lstG ?_
  | refine de_slL ?_
  | refine de_slT ?_
  | refine do_none ?_
  | refine do_some ?_
  | refine daf_cons ?_
  | refine daf_nil ?_
  | refine daf_star ?_
  | refine da_cons ?_
  | refine da_nil ?_
  | refine lk_dat ?_
  | refine lk_nil ?_
  | refine ak_dat ?_
  | refine ak_nil ?_
  | refine ak_at ?_
  | refine ak_lst ?_
  | refine lk_lst ?_
  | refine ak_dK ?_
  | refine ak_dT ?_
  | refine ak_vw ?_
  | refine lk_dT ?_
  | refine lk_dK ?_
  | refine da_star ?_
  | refine de_lstRg1 ?_
  | refine de_lstRg2 ?_
  | refine de_revL ?_
  | refine de_count ?_
  | refine de_index ?_
  | refine di_enum ?_
  | refine dt_tru ?_
  | refine de_fldV ?_
  | refine de_prop ?_
  | refine di_rng1 ?_
  | refine di_rng2 ?_
  | refine di_list ?_
  | refine di_tup ?_
  | refine di_seq ?_
  | refine di_zip ?_
  | refine de_split ?_
  | refine de_join ?_
  | refine de_fmt ?_
  | refine de_jnil ?_
  | refine de_jcons ?_
  | refine de_ixS ?_
  | refine de_orT ?_
  | refine di_str ?_
  | refine ops_eqS ?_
  | refine ops_neS ?_
  | refine de_indexD ?_
  | refine ops_int ?_
  | (refine ops_cat (by with_unfolding_all rfl) (by with_unfolding_all rfl) ?side ?_; (case side => walk_at "len"))
  | (refine ops_catA ?side ?_; (case side => walk_at "len"))
  | refine ops_eqI ?_
  | refine ops_neI ?_
  | refine ops_bool ?_
  | (refine ops_intC ?side ?_; (case side => walk_at "side"))
  | refine cb_lenL (by with_unfolding_all rfl) ?_
  | refine cb_lenT (by with_unfolding_all rfl) ?_
  | refine cb_lenK (by with_unfolding_all rfl) ?_
  | refine cb_max2 ?_
  | refine cb_min2 ?_
  | refine cb_int ?_
  | refine ⟨fun _ => ?_, fun z => Bool.noConfusion z⟩
  | refine ⟨fun z => Bool.noConfusion z, fun _ => ?_⟩
  | refine ⟨rfl, ?_⟩
  | refine ⟨_, rfl, ?_⟩
  | refine ⟨_, Or.inl (by with_unfolding_all rfl), ?_⟩
  | (with_unfolding_all refine ⟨_, true, rfl, rfl, (fun _ z => by cases z), rfl, ?_⟩)
  | (with_unfolding_all refine ⟨_, false, rfl, rfl, (fun _ z => by cases z), rfl, ?_⟩))
local macro_rules | `(tactic| walk_at "d") => `(tactic| repeat walk_at "d1")
local macro_rules | `(tactic| walk_at "wk") => `(tactic| repeat first | exact Wk.nil | refine Wk.keep ?_ | refine Wk.drop ?_)
section
variable {P : Program} {w : World} {K : PySem.W.Frag} {mg : Str → Option Value} {base : Heap} {f : Addr} {fd : FuncData} {a_Rounding : Addr}
theorem zip_nd (q : List Nd) : zipD (q.map ndD) (DL.cutD (q.map ndD) (some 1) none) = (q.zip q.tail).map fun x => .tup [ndD x.1, ndD x.2] := by
  have e : DL.cutD (q.map ndD) (some 1) none = q.tail.map ndD := by
    rw [show DL.cutD (q.map ndD) (some 1) none = (q.map ndD).drop 1 from cut_from _ 1]
    cases q <;> rfl
  rw [e]
  unfold zipD
  rw [List.zip_map, List.map_map]
  rfl
def tglF (l : List (Nd × Nd)) (ra : List Nd) : List Nd := l.foldl (fun r x => tgl r (cellOf x.1 x.2)) ra
def C_Rounding_raise_from (C : Addr) : FcO := fun _ W m o ss Φ Ξ => ∃ (pa : Addr) (fl lk : D) (ns : List Nd) (adj : Nd → List Nd) (ra : List Nd) (rm : Nd → Int) (s : Nd), ss = [.dat (ndD s)] ∧ o = .ins pa C (rdF fl lk ns adj ra rm) ∧ Gr ns adj ∧ s ∈ ns ∧ ra.length ≤ 100000 ∧
  (∀ p e, wayF ns adj ra rm s = p ++ [e] → Way adj ra s (p ++ [e]) → (∀ x ∈ p ++ [e], x ∈ ns) → e.1 ≠ s.1 → 0 < rm e → Φ m (.ins pa C (rdF fl lk ns adj (tglW (p ++ [e]) ra) (less (less rm s) e)))) ∧ (wayF ns adj ra rm s = [s] → Clo ns adj ra rm s → Φ m (.ins pa C (rdF fl lk ns adj ra (less (less rm s) s))))
abbrev s_Rounding_raise_from : Stmt := (inClass (top 8) 3)
abbrev N_Rounding_raise_from : List Str := ["self", "start", "way", "node", "other", "cell"]
theorem sc_Rounding_raise_from : FnScope N_Rounding_raise_from ["self", "start"] (defScope s_Rounding_raise_from) := ⟨rfl, rfl, rfl, by decide +kernel, rfl, by decide +kernel, by decide +kernel⟩
theorem ok_Rounding_raise_from (F : FunD K "raise_from" "Rounding.raise_from" (defArgs s_Rounding_raise_from) (defBody s_Rounding_raise_from) (defScope s_Rounding_raise_from) [] [] f fd) (b : BI mg) (i_Rounding : Ci K a_Rounding ["floors", "raised", "cells", "room", "lack"]) (c_Rounding_way_from : Me P w K mg base CX0 4 a_Rounding "way_from" ["self", "start"] (C_Rounding_way_from a_Rounding)) (c_cell_of : Cl P w K mg base CX0 1 "cell_of" ["node", "other"] C_cell_of) : FnOk P w K mg base CX0 6 f fd ["self", "start"] (spO K (C_Rounding_raise_from a_Rounding)) := by
  have hlen := spO_len (K := K) (C := (C_Rounding_raise_from a_Rounding)) (n := 2) fun κ W m o ss Φ Ξ ⟨pa, fl, lk, ns, adj, ra, rm, s, e, _⟩ => by rw [e]; rfl
  refine F.ok sc_Rounding_raise_from hlen ?_
  intro cdv A outer s H vs Q E hr h
  refine ⟨_, PSs.nox (pss_cons (ps_set (i := 2) sc_Rounding_raise_from.nd rfl (by first | exact Or.inl rfl | exact Or.inr rfl) (k_meth c_Rounding_way_from rfl hr pass0 (pv 0) (pa_cons (pv 1) pa_nil)))
      (pss_cons (ps_for PassesOwn.never rfl (k_zip (K := K) rfl rfl b.zip (pa_cons (pv 2) (pa_cons (pe_slice (k_slL (K := K) rfl) (pv 2) (po_some pe_int) po_none) pa_nil))) (k_gTup (K := K) (n := 2) rfl rfl (pgs_cons (pg_name (i := 3) sc_Rounding_raise_from.nd rfl (by first | exact Or.inl rfl | exact Or.inr rfl)) (pgs_cons (pg_name (i := 4) sc_Rounding_raise_from.nd rfl (by first | exact Or.inl rfl | exact Or.inr rfl)) pgs_nil)))
      (pss_cons (ps_set (i := 5) sc_Rounding_raise_from.nd rfl (by first | exact Or.inl rfl | exact Or.inr rfl) (k_cl0 c_cell_of rfl hr (pa_cons (pv 3) (pa_cons (pv 4) pa_nil))))
      (pss_one (ps_if (pt_cmp (pc_din (hu_of hr) (pv 5) (k_fld (K := K) rfl (pv 0)))) (pss_one (ps_ddelT (hu_of hr) (k_fld (K := K) rfl (pv 0)) (pv 5))) (pss_one (ps_dput (hu_of hr) (k_fld (K := K) rfl (pv 0)) (pv 5) pe_bl rfl))))))
      (pss_cons (ps_daug (hu_of hr) (k_fld (K := K) rfl (pv 0)) (pe_ix (k_ixL (K := K) rfl) (pv 2) pe_int (fun _ _ => rfl)) pe_int in_sub (fun _ _ _ => rfl))
      (pss_one (ps_daug (hu_of hr) (k_fld (K := K) rfl (pv 0)) (pe_ix (k_ixL (K := K) rfl) (pv 2) (pe_un un_neg pe_int) (fun _ _ => rfl)) pe_int in_sub (fun _ _ _ => rfl)))))), ?_⟩
  refine DL.run_fnO [.no, .no, .no, .no] (Nm := N_Rounding_raise_from) (n := 2) (k := 4) rfl (hlen _ _ _ _ h) rfl h (fun κ W m pa C fs ss Φ Ξ G H0 hc => ?_) fun κ W m o ss Φ Ξ hc => ?_
  try dsimp only [cxOf, Cx.nox, Cx.wish, Cx.blk]
  case refine_2 => exact ⟨_, _, _, hc.choose_spec.choose_spec.choose_spec.choose_spec.choose_spec.choose_spec.choose_spec.choose_spec.2.1⟩
  obtain ⟨pa', fl, lk, ns, adj, ra, rm, s, rfl, eo, hg, hs, hral, hW, hC⟩ := hc
  injection eo with e1 e2 e3
  subst e1 e2 e3
  have hln := hg.len
  refine ds_cut (fun m2 ρ => m2 = m ∧ ∃ (q p : List Nd) (e : Nd), q = p ++ [e] ∧ (∃ t, q = s :: t) ∧ (∀ x ∈ q, x ∈ ns) ∧ q.length ≤ 1000 ∧ Φ m (.ins pa C (rdF fl lk ns adj (tglW q ra) (less (less rm s) e))) ∧ ρ = [.own (.ins pa C (rdF fl lk ns adj ra rm)), .dat (ndD s), .own (.lst (q.map ndD)), .no, .no, .no]) ?_ ?_
  · refine ds_asg ?_
    refine de_methV hE_0 ?_
    walk_at "d"
    refine ⟨pa, _, rfl, rfl, ?_⟩
    walk_at "d"
    refine ⟨pa, fl, lk, ns, adj, ra, rm, s, rfl, hg, hs, fun p e hF hw hin he hr => ?_, fun hF hcl => ?_⟩
    · obtain ⟨t, et⟩ := hw.hd
      have hl := nd_le hw.nd hin
      exact ⟨rfl, _, Wk.refl _, rfl, rfl, p ++ [e], p, e, rfl, ⟨t, et⟩, hin, by omega, hW p e hF hw hin he hr, rfl⟩
    · exact ⟨rfl, _, Wk.refl _, rfl, rfl, [s], [], s, rfl, ⟨[], rfl⟩, fun x hx => (by simp at hx; exact hx ▸ hs), by simp, hC hF hcl, rfl⟩
  rintro m2 ρ ⟨rfl, q, p, e, eq, ⟨t, et⟩, hin, hql, hΦ, rfl⟩
  refine ds_frz (i := 2) rfl ?_
  dsimp only [O.frz, O1.frz, List.set_cons_zero, List.set_cons_succ]
  refine ds_seq ?_
  refine ds_forW (vs := [3, 4]) ?_
  refine di_zip ?_
  refine da_cons (de_varD (by with_unfolding_all rfl) ?_)
  refine da_cons (de_frz ?_)
  walk_at "d"
  refine ⟨_, _, q.map ndD, DL.cutD (q.map ndD) (some 1) none, rfl, by with_unfolding_all rfl, by with_unfolding_all rfl, ?_⟩
  rw [zip_nd]
  have hzl : (q.zip q.tail).length ≤ 1000 := by
    rw [List.length_zip, List.length_tail]
    omega
  refine ⟨fun j m ρ => m = m2 ∧ ρ = [.own (.ins pa C (rdF fl lk ns adj (tglF ((q.zip q.tail).take j) ra) rm)), .dat (ndD s), .dat (.lst (q.map ndD)), .no, .no, .no], ⟨_, Wk.refl _, rfl, rfl, rfl⟩, ?_, ?_⟩
  · rintro j d m3 ρ hd ⟨rfl, rfl⟩
    rw [List.getElem?_map] at hd
    cases hx : (q.zip q.tail)[j]? with
    | none => rw [hx] at hd; cases hd
    | some x =>
      rw [hx] at hd
      cases hd
      have etk : tglF ((q.zip q.tail).take (j + 1)) ra = tgl (tglF ((q.zip q.tail).take j) ra) (cellOf x.1 x.2) := by
        unfold tglF
        rw [List.take_add_one, hx, List.foldl_append]
        rfl
      have hrl : (tglF ((q.zip q.tail).take j) ra).length ≤ 101000 := by
        have := tglF_len ((q.zip q.tail).take j) ra
        rw [List.length_take] at this
        unfold tglF
        omega
      refine ⟨_, dg_tup2 (by simp) (by simp), ?_⟩
      dsimp only [List.set_cons_zero, List.set_cons_succ]
      walk_at "d"
      refine ⟨x.1, x.2, rfl, ?_⟩
      refine ⟨rfl, ?_⟩
      dsimp only [List.set_cons_zero, List.set_cons_succ]
      walk_at "d"
      refine ⟨pa, C, _, _, rfl, i_Rounding.cl, i_Rounding.no _ (by simp), rfl, ?_⟩
      refine ⟨.T (mpD (tglF ((q.zip q.tail).take j) ra) fun _ => .bl true), ndD (cellOf x.1 x.2), _, rfl, rfl, DL.Look.t (nk (cellOf x.1 x.2)), ?_⟩
      rw [mp_some]
      refine ⟨_, rfl, fun hb => ?_, fun hb => ?_⟩
      · have hin : cellOf x.1 x.2 ∈ tglF ((q.zip q.tail).take j) ra := by simpa using hb
        refine ds_ddelF (i := 0) rfl i_Rounding.cl (i_Rounding.no _ (by simp)) rfl ?_
        walk_at "d"
        refine ⟨nk (cellOf x.1 x.2), rfl, by rw [mp_some]; simpa using hin, ?_⟩
        rw [mp_drop, rdF_ra]
        have e3 : (tglF ((q.zip q.tail).take j) ra).filter (fun y => decide (y ≠ cellOf x.1 x.2)) = tglF ((q.zip q.tail).take (j + 1)) ra := by
          rw [etk]
          unfold tgl
          rw [if_pos hin]
        rw [e3]
        dsimp only [List.set_cons_zero, List.set_cons_succ]
        exact ⟨[.own (.ins pa C (rdF fl lk ns adj (tglF ((q.zip q.tail).take (j + 1)) ra) rm)), .dat (ndD s), .dat (.lst (q.map ndD)), .no, .no, .no], by walk_at "wk", rfl, rfl, rfl⟩
      · have hin : cellOf x.1 x.2 ∉ tglF ((q.zip q.tail).take j) ra := by simpa using hb
        refine ds_dputF (i := 0) rfl i_Rounding.cl (i_Rounding.no _ (by simp)) rfl (by show (mpD _ _).length < 1000000; rw [mp_len]; omega) ?_
        walk_at "d"
        refine ⟨.bl true, ndD (cellOf x.1 x.2), _, rfl, rfl, PutS.t (nk (cellOf x.1 x.2)) (.bl true), ?_⟩
        rw [mp_new hin, mp_snoc rfl, rdF_ra]
        have e3 : tglF ((q.zip q.tail).take j) ra ++ [cellOf x.1 x.2] = tglF ((q.zip q.tail).take (j + 1)) ra := by
          rw [etk]
          unfold tgl
          rw [if_neg hin]
        rw [e3]
        dsimp only [List.set_cons_zero, List.set_cons_succ]
        exact ⟨[.own (.ins pa C (rdF fl lk ns adj (tglF ((q.zip q.tail).take (j + 1)) ra) rm)), .dat (ndD s), .dat (.lst (q.map ndD)), .no, .no, .no], by walk_at "wk", rfl, rfl, rfl⟩
  · rintro m3 ρ ⟨rfl, rfl⟩
    rw [List.length_map, List.take_length]
    have hes : e ∈ ns := hin e (by rw [eq]; simp)
    refine ds_seq ?_
    refine ds_daugF (i := 0) (dv := .T (mpD ns fun n => .int (rm n))) (fn := fun a b => a - b) (fun a b H Q q => ⟨a, b, rfl, rfl, q⟩) rfl i_Rounding.cl (i_Rounding.no _ (by simp)) rfl (by show (mpD _ _).length < 1000000; rw [mp_len]; omega) rfl ?_
    walk_at "d"
    refine ops_ixL (d := ndD s) rfl (by rw [et]; exact atN (i := 0) rfl) ?_
    refine ⟨ndD s, rm s, rfl, look_mp hs, ?_⟩
    refine de_int ⟨1, _, rfl, PutS.t (nk s) _, ?_⟩
    rw [less_put hs, rdF_rm]
    dsimp only [List.set_cons_zero, List.set_cons_succ]
    refine ds_daugF (i := 0) (dv := .T (mpD ns fun n => .int (less rm s n))) (fn := fun a b => a - b) (fun a b H Q q => ⟨a, b, rfl, rfl, q⟩) rfl i_Rounding.cl (i_Rounding.no _ (by simp)) rfl (by show (mpD _ _).length < 1000000; rw [mp_len]; omega) rfl ?_
    walk_at "d"
    refine ops_ixL (d := ndD e) rfl (by rw [eq, List.map_append]; exact atI_m1 _ _) ?_
    refine ⟨ndD e, less rm s e, rfl, look_mp hes, ?_⟩
    refine de_int ⟨1, _, rfl, PutS.t (nk e) _, ?_⟩
    rw [less_put hes, rdF_rm]
    exact ⟨_, rfl, hΦ⟩
end
end Pf
set_option Elab.async false
set_option linter.all false
set_option maxRecDepth 100000
set_option maxHeartbeats 1000000
namespace Pf
open PySem PySem.Spec PyProof.Rows L2 DL
def iOf : D → Int
  | .int i => i
  | _ => 0
def lrD (r : List Int) : D := .lst (r.map D.int)
def rwsD (rows : List (List Int)) : D := .lst (rows.map lrD)
def lOf : D → List Int
  | .lst ds => ds.map iOf
  | .tup ds => ds.map iOf
  | _ => []
theorem lOf_lr (r : List Int) : lOf (lrD r) = r := by
  show (r.map D.int).map iOf = r
  rw [List.map_map]
  conv => rhs; rw [← List.map_id r]
  exact List.map_congr_left fun _ _ => rfl
/-- rows of the same length -/
structure Rc (rows : List (List Int)) (w : Nat) : Prop where
  ne : rows ≠ []
  eq : ∀ r ∈ rows, r.length = w
  l1 : rows.length ≤ 400
  lw : w ≤ 400
def colOf (rows : List (List Int)) (c : Nat) : Int := (rows.map fun r => r.getD c 0).sum
def colS (rows : List (List Int)) (w : Nat) : List Int := (List.range w).map (colOf rows)
theorem colS_len (rows : List (List Int)) (w : Nat) : (colS rows w).length = w := by simp [colS]
theorem atI_lr {r : List Int} {c : Nat} (h : c < r.length) : atI (r.map D.int) (c : Nat) = some (.int (r.getD c 0)) := atN (by
  rw [List.getElem?_map, List.getElem?_eq_getElem h, List.getD_eq_getElem?_getD, List.getElem?_eq_getElem h]
  rfl)
theorem rng_mem {n : Nat} {d : D} (h : d ∈ rngD 0 n) : ∃ c : Nat, c < n ∧ d = .int (c : Nat) := by
  unfold rngD at h
  obtain ⟨i, hi, rfl⟩ := List.mem_map.mp h
  exact ⟨i, by simpa using hi, by simp⟩
theorem rng_map (n : Nat) (f : D → D) (g : Nat → D) (h : ∀ c, c < n → f (.int (c : Nat)) = g c) : (rngD 0 n).map f = (List.range n).map g := by
  unfold rngD
  rw [List.map_map]
  apply List.map_congr_left
  intro c hc
  have := h c (by simpa using hc)
  simpa using this
theorem colS_at {rows : List (List Int)} {w i : Nat} {x : D} (h : ((colS rows w).map D.int)[i]? = some x) : i < w ∧ x = .int (colOf rows i) := by
  have h1 := (List.getElem?_eq_some_iff.mp h).1
  rw [List.length_map, colS_len] at h1
  refine ⟨h1, ?_⟩
  unfold colS at h
  rw [List.getElem?_map, List.getElem?_map, List.getElem?_range h1] at h
  exact (Option.some.inj h).symm
theorem Rc.cons {rows : List (List Int)} {w : Nat} (h : Rc rows w) : ∃ r0 rest, rows = r0 :: rest ∧ r0.length = w := by
  cases e : rows with
  | nil => exact absurd e h.ne
  | cons a b => exact ⟨a, b, rfl, h.eq a (by rw [e]; simp)⟩
theorem any2 (x y v : Int) : ([x, y].any fun z => decide (z = v)) = decide (v = x ∨ v = y) := by
  rw [List.any_cons, List.any_cons, List.any_nil, Bool.or_false]
  by_cases h1 : v = x
  · subst h1; simp
  · have h3 : ¬ x = v := fun z => h1 z.symm
    by_cases h2 : v = y
    · subst h2; simp
    · have h4 : ¬ y = v := fun z => h2 z.symm
      simp [h1, h2, h3, h4]
theorem natc_inj {a b : List Nat} : (a.map fun n : Nat => (n : Int)) = (b.map fun n : Nat => (n : Int)) ↔ a = b :=
  ⟨fun h => (List.map_inj_right (fun x y h => by omega)).mp h, fun h => by rw [h]⟩
def rsh (v a b : Int) : Bool := decide (v = a / b ∨ v = (a + b - 1) / b)
def rshD (b : Int) : D → Bool
  | .tup [.int v, .int a] => rsh v a b
  | _ => false
theorem zip_ints (a c : List Int) : zipD (a.map D.int) (c.map D.int) = (a.zip c).map fun y => .tup [.int y.1, .int y.2] := by
  unfold zipD
  rw [List.zip_map, List.map_map]
  rfl
/-- what is_dealt tells -/
def isD (rows : List (List Int)) (w : Nat) (b : Int) (gv : List (List Int)) : Bool :=
  decide (gv.map List.length = rows.map List.length) && ((rows.zip gv).all fun x => ((x.2.zip x.1).all fun y => rsh y.1 y.2 b) && rsh x.2.sum x.1.sum b) && decide ((colS gv w).map (· * b) = colS rows w)
/-! ### a list or a tuple -/
def sqD : Bool → List D → D
  | true, ds => .lst ds
  | false, ds => .tup ds
theorem sq_or (o : Bool) (ds : List D) : sqD o ds = .lst ds ∨ sqD o ds = .tup ds := by cases o; exact .inr rfl; exact .inl rfl
theorem seq_sq (o : Bool) (ds : List D) : (S.dat (sqD o ds)).frz.seq? = some ds := by cases o <;> rfl
theorem seq_sq0 (o : Bool) (ds : List D) : (S.dat (sqD o ds)).seq? = some ds := by cases o <;> rfl
def rwQ (i : Bool) (r : List Int) : D := sqD i (r.map D.int)
def rwK (o i : Bool) (rows : List (List Int)) : D := sqD o (rows.map (rwQ i))
theorem lOf_q (i : Bool) (r : List Int) : lOf (rwQ i r) = r := by
  have : (r.map D.int).map iOf = r := by
    rw [List.map_map]
    conv => rhs; rw [← List.map_id r]
    exact List.map_congr_left fun _ _ => rfl
  cases i <;> exact this
theorem cb_lenQ {ι : Type} {K : PySem.W.Frag} {W : Wd ι} {m : ι} {Φ : ι → S → Prop} {o : Bool} {ds : List D} (h : Φ m (.dat (.int ds.length))) : CbS K W m (rLenA K) [.dat (sqD o ds)] Φ := by
  cases o
  · exact cb_lenT rfl h
  · exact cb_lenL rfl h
theorem cb_sumQ {ι : Type} {K : PySem.W.Frag} {W : Wd ι} {m : ι} {Φ : ι → S → Prop} {i : Bool} {r : List Int} (h : Φ m (.dat (.int r.sum))) : CbS K W m (rSumA K) [.dat (rwQ i r)] Φ := by
  cases i
  · exact cb_sum (.inr rfl) h
  · exact cb_sum (.inl rfl) h
theorem len_list (i : Bool) (rs : List (List Int)) : (rs.map (rwQ i)).map (fun d => D.int ((lOf d).length : Nat)) = ((rs.map List.length).map fun n : Nat => (n : Int)).map D.int := by
  rw [List.map_map, List.map_map, List.map_map]
  exact List.map_congr_left fun r _ => by show D.int ((lOf (rwQ i r)).length : Nat) = _; rw [lOf_q]; rfl
theorem zip_q (i j : Bool) (a c : List (List Int)) : zipD (a.map (rwQ i)) (c.map (rwQ j)) = (a.zip c).map fun x => .tup [rwQ i x.1, rwQ j x.2] := by
  unfold zipD
  rw [List.zip_map, List.map_map]
  rfl
end Pf
set_option Elab.async false
set_option linter.all false
set_option maxRecDepth 100000
set_option maxHeartbeats 1000000
namespace Pf
open PySem PySem.Spec PyProof.Rows L2 DL
local macro_rules | `(tactic| walk_at "len") => `(tactic| with_unfolding_all first | exact Nat.le_of_ble_eq_true rfl | (simp; done) | (simp; omega))
local macro_rules | `(tactic| walk_at "side") => `(tactic| with_unfolding_all first | exact Or.inr ⟨by omega, by omega⟩ | exact Or.inl ⟨by omega, by omega⟩ | exact ⟨by omega, by omega⟩ | exact ⟨by omega, by omega, by omega⟩ | (show (0 : Int) < _; omega) | decide)
local macro_rules | `(tactic| walk_at "d1") => `(tactic| with_reducible first
  | (refine ds_seq ?_; try dsimp only [List.set_cons_zero, List.set_cons_succ, List.cons_append, List.nil_append, O.frz])
  | refine ds_asg ?_
  | refine ds_ret ?_
  | refine ds_retN ?_
  | refine ds_next ?_
  | refine ds_dropC ?_
  | refine ds_drop0 ?_
  | refine ds_dropB ?_
  | refine ds_if ?_
  | refine dt_test ?_
  | refine dt_B ?_
  | refine dt_not ?_
  | refine dt_and ?_
  | refine dt_or ?_
  | refine dt_yes ?_
  | refine de_int ?_
  | refine de_bl ?_
  | refine de_str ?_
  | refine de_non ?_
  | refine de_varD (by with_unfolding_all rfl) ?_
  | refine de_varO (by with_unfolding_all rfl) ?_
  | refine de_varA (by with_unfolding_all rfl) ?_
  | refine de_varV (by with_unfolding_all rfl) ?_
  | refine de_isi ?_
  | refine de_dget ?_
  | refine de_dget2 ?_
  | refine de_dnotin ?_
  | refine de_din ?_
  | refine de_dnew ?_
  | refine de_dnewT ?_
  | refine de_cb ?_
  | refine de_call0G ?_
  | refine de_callG ?_
  | refine de_andB ?_
  | refine de_orB ?_
  | refine de_notV ?_
  | refine de_ifE ?_
  | refine de_chain ?_
  | refine de_op ?_
  | refine de_neg ?_
  | refine de_tupG ?_
  | refine de_lstG ?_
  | refine de_slL ?_
  | refine de_slT ?_
  | refine do_none ?_
  | refine do_some ?_
  | refine daf_cons ?_
  | refine daf_nil ?_
  | refine daf_star ?_
  | refine da_cons ?_
  | refine da_nil ?_
  | refine lk_dat ?_
  | refine lk_nil ?_
  | refine ak_dat ?_
  | refine ak_nil ?_
  | refine ak_at ?_
  | refine ak_lst ?_
  | refine lk_lst ?_
  | refine ak_dK ?_
  | refine ak_dT ?_
  | refine ak_vw ?_
  | refine lk_dT ?_
  | refine lk_dK ?_
  | refine da_star ?_
  | refine de_lstRg1 ?_
  | refine de_lstRg2 ?_
  | refine de_revL ?_
  | refine de_count ?_
  | refine de_index ?_
  | refine di_enum ?_
  | refine dt_tru ?_
  | refine de_fldV ?_
  | refine de_prop ?_
  | refine di_rng1 ?_
  | refine di_rng2 ?_
  | refine di_list ?_
  | refine di_tup ?_
  | refine di_seq ?_
  | refine di_zip ?_
  | refine de_split ?_
  | refine de_join ?_
  | refine de_fmt ?_
  | refine de_jnil ?_
  | refine de_jcons ?_
  | refine de_ixS ?_
  | refine de_orT ?_
  | refine di_str ?_
  | refine ops_eqS ?_
  | refine ops_neS ?_
  | refine de_indexD ?_
  | refine ops_int ?_
  | (refine ops_cat (by with_unfolding_all rfl) (by with_unfolding_all rfl) ?side ?_; (case side => walk_at "len"))
  | (refine ops_catA ?side ?_; (case side => walk_at "len"))
  | refine ops_eqI ?_
  | refine ops_neI ?_
  | refine ops_bool ?_
  | (refine ops_intC ?side ?_; (case side => walk_at "side"))
  | refine cb_lenL (by with_unfolding_all rfl) ?_
  | refine cb_lenT (by with_unfolding_all rfl) ?_
  | refine cb_lenK (by with_unfolding_all rfl) ?_
  | refine cb_max2 ?_
  | refine cb_min2 ?_
  | refine cb_int ?_
  | refine ⟨fun _ => ?_, fun z => Bool.noConfusion z⟩
  | refine ⟨fun z => Bool.noConfusion z, fun _ => ?_⟩
  | refine ⟨rfl, ?_⟩
  | refine ⟨_, rfl, ?_⟩
  | refine ⟨_, Or.inl (by with_unfolding_all rfl), ?_⟩
  | (with_unfolding_all refine ⟨_, true, rfl, rfl, (fun _ z => by cases z), rfl, ?_⟩)
  | (with_unfolding_all refine ⟨_, false, rfl, rfl, (fun _ z => by cases z), rfl, ?_⟩))
local macro_rules | `(tactic| walk_at "d") => `(tactic| repeat walk_at "d1")
local macro_rules | `(tactic| walk_at "wk") => `(tactic| repeat first | exact Wk.nil | refine Wk.keep ?_ | refine Wk.drop ?_)
section
variable {P : Program} {w : World} {K : PySem.W.Frag} {mg : Str → Option Value} {base : Heap} {f : Addr} {fd : FuncData} {a_Rounding a_BadShares : Addr}
def C_rounded_down : Fc := fun _ W m ss Φ Ξ => ∃ (a b : Int), ss = [.dat (.int a), .dat (.int b)] ∧ 0 < b ∧ b < 1000000 ∧ Φ m (.dat (.int (a / b)))
abbrev s_rounded_down : Stmt := (top 4)
abbrev N_rounded_down : List Str := ["number", "bottom"]
theorem sc_rounded_down : FnScope N_rounded_down ["number", "bottom"] (defScope s_rounded_down) := ⟨rfl, rfl, rfl, by decide +kernel, rfl, by decide +kernel, by decide +kernel⟩
theorem ok_rounded_down (F : FnP K "rounded_down" s_rounded_down f fd) (b : BI mg) : FnOk P w K mg base CX0 1 f fd ["number", "bottom"] (spF K C_rounded_down) := by
  have hlen := spF_len (K := K) (C := C_rounded_down) (m := 2) fun κ W m ss Φ Ξ ⟨a, b, e, _⟩ => by first | exact e | (rw [e]; rfl)
  refine F.ok sc_rounded_down hlen ?_
  intro cdv A outer s H vs Q E hr h
  refine ⟨_, PSs.nox (pss_one (ps_ret (pe_op op_fdiv (pv 0) (pv 1)))), ?_⟩
  refine DL.run_fnP  [] (Nm := N_rounded_down) (n := 2) (k := 0) rfl (hlen _ _ _ _ h) rfl h fun κ W m ss Φ Ξ G hc => ?_
  try dsimp only [cxOf, Cx.nox, Cx.wish, Cx.blk]
  obtain ⟨a, b, rfl, hb, hb2, hΦ⟩ := hc
  walk_at "d"
  exact hΦ
def C_rounded_up : Fc := fun _ W m ss Φ Ξ => ∃ (a b : Int), ss = [.dat (.int a), .dat (.int b)] ∧ 0 < b ∧ b < 1000000 ∧ Φ m (.dat (.int ((a + b - 1) / b)))
abbrev s_rounded_up : Stmt := (top 5)
abbrev N_rounded_up : List Str := ["number", "bottom"]
theorem sc_rounded_up : FnScope N_rounded_up ["number", "bottom"] (defScope s_rounded_up) := ⟨rfl, rfl, rfl, by decide +kernel, rfl, by decide +kernel, by decide +kernel⟩
theorem ok_rounded_up (F : FnP K "rounded_up" s_rounded_up f fd) (b : BI mg) : FnOk P w K mg base CX0 1 f fd ["number", "bottom"] (spF K C_rounded_up) := by
  have hlen := spF_len (K := K) (C := C_rounded_up) (m := 2) fun κ W m ss Φ Ξ ⟨a, b, e, _⟩ => by first | exact e | (rw [e]; rfl)
  refine F.ok sc_rounded_up hlen ?_
  intro cdv A outer s H vs Q E hr h
  refine ⟨_, PSs.nox (pss_one (ps_ret (pe_op op_fdiv (pe_op op_sub (pe_op op_add (pv 0) (pv 1)) pe_int) (pv 1)))), ?_⟩
  refine DL.run_fnP  [] (Nm := N_rounded_up) (n := 2) (k := 0) rfl (hlen _ _ _ _ h) rfl h fun κ W m ss Φ Ξ G hc => ?_
  try dsimp only [cxOf, Cx.nox, Cx.wish, Cx.blk]
  obtain ⟨a, b, rfl, hb, hb2, hΦ⟩ := hc
  walk_at "d"
  exact hΦ
def C_column_sums : Fc := fun _ W m ss Φ Ξ => ∃ (o q : Bool) (rows : List (List Int)) (w : Nat), ss = [.dat (rwK o q rows)] ∧ Rc rows w ∧ Φ m (.own (.lst ((colS rows w).map D.int)))
abbrev s_column_sums : Stmt := (top 6)
abbrev N_column_sums : List Str := ["rows", "column", "row"]
theorem sc_column_sums : FnScope N_column_sums ["rows"] (defScope s_column_sums) := ⟨rfl, rfl, rfl, by decide +kernel, rfl, by decide +kernel, by decide +kernel⟩
theorem ok_column_sums (F : FnP K "column_sums" s_column_sums f fd) (b : BI mg) : FnOk P w K mg base CX0 1 f fd ["rows"] (spF K C_column_sums) := by
  have hlen := spF_len (K := K) (C := C_column_sums) (m := 1) fun κ W m ss Φ Ξ ⟨o, q, rows, w, e, _⟩ => by first | exact e | (rw [e]; rfl)
  refine F.ok sc_column_sums hlen ?_
  intro cdv A outer s H vs Q E hr h
  refine ⟨_, PSs.nox (pss_one (ps_ret (pe_lc (own := [("column", 1)]) rfl sc_column_sums.nd (pi_range1 rfl b.range (pa_cons (pe_callB (k_len (K := K) rfl) rfl b.len boot_len (pa_cons (pe_ix (k_ixSeq (K := K) rfl) (pv 0) pe_int (fun _ _ => rfl)) pa_nil)) pa_nil)) (blkOk_by (own := [("column", 1)]) (N := N_column_sums) (sc := (defScope s_column_sums)) (by decide +kernel)) (fun _ _ _ _ _ => (pg_name (i := 1) sc_column_sums.nd rfl (by first | exact Or.inl rfl | exact Or.inr rfl))) (fun _ _ _ _ _ => pts_nil) (fun _ _ _ _ _ => (pe_callB (k_sum (K := K) rfl rfl) rfl b.sum boot_sum (pa_cons (pe_lc (own := [("row", 2)]) rfl sc_column_sums.nd (k_piS (K := K) rfl (pv 0)) (blkOk_by (own := [("row", 2)]) (by kernel_rfl)) (fun _ _ _ _ _ => (pg_name (i := 2) sc_column_sums.nd rfl (by first | exact Or.inl rfl | exact Or.inr rfl))) (fun _ _ _ _ _ => pts_nil) (fun _ _ _ _ _ => (pe_ix (k_ixSeq (K := K) rfl) (pv 2) (pv 1) (fun _ _ => rfl)))) pa_nil)))))), ?_⟩
  refine DL.run_fnP  [.no, .no] (Nm := N_column_sums) (n := 1) (k := 2) rfl (hlen _ _ _ _ h) rfl h fun κ W m ss Φ Ξ G hc => ?_
  try dsimp only [cxOf, Cx.nox, Cx.wish, Cx.blk]
  obtain ⟨o, q, rows, w0, rfl, hr, hΦ⟩ := hc
  have l1 := hr.l1
  have lw := hr.lw
  obtain ⟨r0, rest, er, h0⟩ := hr.cons
  walk_at "d"
  refine de_lcMap (f := fun d => D.int (colOf rows (iOf d).toNat)) ?_
  walk_at "d"
  refine ops_ixQ (e := rwQ q r0) (sq_or _ _) (by rw [er]; exact atN (i := 0) rfl) ?_
  walk_at "d"
  refine cb_lenQ ?_
  walk_at "d"
  rw [List.length_map, h0, Int.toNat_natCast]
  refine ⟨by omega, by omega, by rw [rng_len]; omega, fun d hd => ⟨_, dg_name (by simp), ?_⟩, ?_⟩
  · obtain ⟨c, hc, rfl⟩ := rng_mem hd
    walk_at "d"
    refine de_lcMap (f := fun d => D.int ((lOf d).getD c 0)) ?_
    walk_at "d"
    refine ⟨_, seq_sq _ _, ?_⟩
    refine ⟨by rw [List.length_map]; omega, fun d hd => ⟨_, dg_name (by simp), ?_⟩, ?_⟩
    · obtain ⟨r, hr2, rfl⟩ := List.mem_map.mp hd
      have hrl := hr.eq r hr2
      walk_at "d"
      refine ops_ixQ (e := .int (r.getD c 0)) (sq_or _ _) (atI_lr (by omega)) ?_
      exact ⟨rfl, by rw [lOf_q]; rfl⟩
    · walk_at "d"
      refine cb_sum (ns := rows.map fun r => r.getD c 0) (.inl (by
        show some _ = some _
        rw [List.map_map, List.map_map]
        congr 1
        exact List.map_congr_left fun r _ => by show D.int ((lOf (rwQ q r)).getD c 0) = _; rw [lOf_q]; rfl)) ?_
      exact ⟨rfl, by simp [iOf, S.frz, colOf]⟩
  · refine ⟨rfl, ?_⟩
    rw [rng_map w0 _ (fun c => D.int (colOf rows c)) fun c _ => by simp [iOf]]
    unfold colS at hΦ
    rw [List.map_map] at hΦ
    exact hΦ
def C_check_columns (X : Addr) : Fc := fun _ W m ss Φ Ξ => ∃ (o q : Bool) (rows : List (List Int)) (w : Nat) (b : Int), ss = [.dat (rwK o q rows), .dat (.int b)] ∧ Rc rows w ∧ 0 < b ∧ b < 1000000 ∧ (∀ c, c < w → colOf rows c % b ≠ 0 → (∀ c', c' < c → colOf rows c' % b = 0) → Ξ m X [("column", .int (c : Nat))]) ∧ ((∀ c, c < w → colOf rows c % b = 0) → Φ m (.dat .non))
abbrev s_check_columns : Stmt := (top 7)
abbrev N_check_columns : List Str := ["rows", "bottom", "column", "total"]
theorem sc_check_columns : FnScope N_check_columns ["rows", "bottom"] (defScope s_check_columns) := ⟨rfl, rfl, rfl, by decide +kernel, rfl, by decide +kernel, by decide +kernel⟩
theorem ok_check_columns (F : FnP K "check_columns" s_check_columns f fd) (b : BI mg) (x_BadShares : Xc P w K mg base "BadShares" a_BadShares ["column"]) (c_column_sums : Cl P w K mg base CX0 1 "column_sums" ["rows"] C_column_sums) : FnOk P w K mg base (L2.CX P w) 3 f fd ["rows", "bottom"] (spF K (C_check_columns a_BadShares)) := by
  have hlen := spF_len (K := K) (C := (C_check_columns a_BadShares)) (m := 2) fun κ W m ss Φ Ξ ⟨o, q, rows, w, b, e, _⟩ => by first | exact e | (rw [e]; rfl)
  refine F.ok sc_check_columns hlen ?_
  intro cdv A outer s H vs Q E hr h
  refine ⟨_, (pss_one (ps_for (passes_of rfl) rfl (k_enum (K := K) rfl rfl b.enumerate (pa_cons (k_cl0 c_column_sums rfl hr (pa_cons (pv 0) pa_nil)) pa_nil)) (k_gTup (K := K) (n := 2) rfl rfl (pgs_cons (pg_name (i := 2) sc_check_columns.nd rfl (by first | exact Or.inl rfl | exact Or.inr rfl)) (pgs_cons (pg_name (i := 3) sc_check_columns.nd rfl (by first | exact Or.inl rfl | exact Or.inr rfl)) pgs_nil)))
      (pss_one (ps_if (pt_cmpR (k_neD (K := K) rfl hr.units) (pe_op op_mod (pv 3) (pv 1)) pe_int (nomark _)) (pss_one (raiseX x_BadShares hr (takes_of rfl rfl rfl rfl) (pa_cons (pv 2) pa_nil))) pss_nil)))), ?_⟩
  refine DL.run_fnP  [.no, .no] (Nm := N_check_columns) (n := 2) (k := 2) rfl (hlen _ _ _ _ h) rfl h fun κ W m ss Φ Ξ G hc => ?_
  try dsimp only [cxOf, Cx.nox, Cx.wish, Cx.blk]
  obtain ⟨o, q, rows, w0, b, rfl, hr, hb, hb2, hX, hΦ⟩ := hc
  have l1 := hr.l1
  have lw := hr.lw
  refine ds_forW (vs := [2, 3]) ?_
  walk_at "d"
  refine ⟨o, q, rows, w0, rfl, hr, ?_⟩
  walk_at "d"
  refine ⟨fun i m' ρ => m' = m ∧ ρ = [.dat (rwK o q rows), .dat (.int b), .no, .no] ∧ ∀ c, c < i → colOf rows c % b = 0, ⟨_, Wk.refl _, rfl, rfl, rfl, fun c hc => by omega⟩, ?_, ?_⟩
  · rintro i d m' ρ hd ⟨rfl, rfl, hpre⟩
    obtain ⟨x, hx, rfl⟩ := enumD_at hd
    obtain ⟨hi, rfl⟩ := colS_at hx
    refine ⟨_, dg_tup2 (by simp) (by simp), ?_⟩
    dsimp only [List.set_cons_zero, List.set_cons_succ]
    walk_at "d"
    refine ⟨fun hbz => ?_, fun hbz => ?_⟩
    · walk_at "d"
      refine ds_raise ?_
      walk_at "d"
      refine ⟨[.int (i : Nat)], rfl, rfl, by show 1 ≤ 1000; decide, hX i hi ?_ hpre⟩
      intro z
      rw [z] at hbz
      simp at hbz
    · have hz : colOf rows i % b = 0 := by simpa using hbz
      walk_at "d"
      refine ⟨_, by walk_at "wk", rfl, rfl, rfl, fun c hc => ?_⟩
      by_cases e : c = i
      · subst e; exact hz
      · exact hpre c (by omega)
  · rintro m' ρ ⟨rfl, rfl, hpre⟩
    rw [enumD_len, List.length_map, colS_len] at hpre
    exact hΦ hpre
def C_rounds_share : Fc := fun _ W m ss Φ Ξ => ∃ (v a b : Int), ss = [.dat (.int v), .dat (.int a), .dat (.int b)] ∧ 0 < b ∧ b < 1000000 ∧ Φ m (.dat (.bl (decide (v = a / b ∨ v = (a + b - 1) / b))))
abbrev s_rounds_share : Stmt := (top 12)
abbrev N_rounds_share : List Str := ["value", "number", "bottom"]
theorem sc_rounds_share : FnScope N_rounds_share ["value", "number", "bottom"] (defScope s_rounds_share) := ⟨rfl, rfl, rfl, by decide +kernel, rfl, by decide +kernel, by decide +kernel⟩
theorem ok_rounds_share (F : FnP K "rounds_share" s_rounds_share f fd) (b : BI mg) (c_rounded_up : Cl P w K mg base CX0 1 "rounded_up" ["number", "bottom"] C_rounded_up) (c_rounded_down : Cl P w K mg base CX0 1 "rounded_down" ["number", "bottom"] C_rounded_down) : FnOk P w K mg base CX0 2 f fd ["value", "number", "bottom"] (spF K C_rounds_share) := by
  have hlen := spF_len (K := K) (C := C_rounds_share) (m := 3) fun κ W m ss Φ Ξ ⟨v, a, b, e, _⟩ => by first | exact e | (rw [e]; rfl)
  refine F.ok sc_rounds_share hlen ?_
  intro cdv A outer s H vs Q E hr h
  refine ⟨_, PSs.nox (pss_one (ps_ret (pe_cmpR (k_inS (K := K) rfl) (pv 0) (pe_tup (pa_cons (k_cl0 c_rounded_down rfl hr (pa_cons (pv 1) (pa_cons (pv 2) pa_nil))) (pa_cons (k_cl0 c_rounded_up rfl hr (pa_cons (pv 1) (pa_cons (pv 2) pa_nil))) pa_nil))) rfl))), ?_⟩
  refine DL.run_fnP  [] (Nm := N_rounds_share) (n := 3) (k := 0) rfl (hlen _ _ _ _ h) rfl h fun κ W m ss Φ Ξ G hc => ?_
  try dsimp only [cxOf, Cx.nox, Cx.wish, Cx.blk]
  obtain ⟨v, a, b, rfl, hb, hb2, hΦ⟩ := hc
  walk_at "d"
  refine ⟨a, b, rfl, hb, hb2, ?_⟩
  walk_at "d"
  refine ⟨a, b, rfl, hb, hb2, ?_⟩
  walk_at "d"
  refine ops_inI (ns := [a / b, (a + b - 1) / b]) (.inr rfl) ?_
  refine ⟨rfl, ?_⟩
  rw [any2]
  exact hΦ
def C_is_dealt (X : Addr) : Fc := fun _ W m ss Φ Ξ => ∃ (o q o2 q2 : Bool) (rows : List (List Int)) (w : Nat) (b : Int) (gv : List (List Int)), ss = [.dat (rwK o q rows), .dat (.int b), .dat (rwK o2 q2 gv)] ∧ Rc rows w ∧ 0 < b ∧ b < 1000000 ∧ gv.length ≤ 1000 ∧ (∀ g ∈ gv, g.length ≤ 1000) ∧
  (∀ c, c < w → colOf rows c % b ≠ 0 → (∀ c', c' < c → colOf rows c' % b = 0) → Ξ m X [("column", .int (c : Nat))]) ∧ ((∀ c, c < w → colOf rows c % b = 0) → Φ m (.dat (.bl (isD rows w b gv))))
abbrev s_is_dealt : Stmt := (top 13)
abbrev N_is_dealt : List Str := ["rows", "bottom", "given", "row", "told", "total", "value", "number"]
theorem sc_is_dealt : FnScope N_is_dealt ["rows", "bottom", "given"] (defScope s_is_dealt) := ⟨rfl, rfl, rfl, by decide +kernel, rfl, by decide +kernel, by decide +kernel⟩
theorem ok_is_dealt (F : FnP K "is_dealt" s_is_dealt f fd) (b : BI mg) (c_check_columns : Cl P w K mg base (L2.CX P w) 3 "check_columns" ["rows", "bottom"] (C_check_columns a_BadShares)) (c_rounds_share : Cl P w K mg base CX0 2 "rounds_share" ["value", "number", "bottom"] C_rounds_share) (c_column_sums : Cl P w K mg base CX0 1 "column_sums" ["rows"] C_column_sums) : FnOk P w K mg base (L2.CX P w) 4 f fd ["rows", "bottom", "given"] (spF K (C_is_dealt a_BadShares)) := by
  have hlen := spF_len (K := K) (C := (C_is_dealt a_BadShares)) (m := 3) fun κ W m ss Φ Ξ ⟨o, q, o2, q2, rows, w, b, gv, e, _⟩ => by first | exact e | (rw [e]; rfl)
  refine F.ok sc_is_dealt hlen ?_
  intro cdv A outer s H vs Q E hr h
  refine ⟨_, (pss_cons (ps_expr (k_cl c_check_columns rfl hr (passes_call (takes_of rfl rfl rfl rfl) (fun _ _ _ _ h => h)) (pa_cons (pv 0) (pa_cons (pv 1) pa_nil))))
      (pss_cons (ps_if (pt_cmpR (k_neD (K := K) rfl hr.units) (pe_lc (own := [("row", 3)]) rfl sc_is_dealt.nd (k_piS (K := K) rfl (pv 2)) (blkOk_by (own := [("row", 3)]) (N := N_is_dealt) (sc := (defScope s_is_dealt)) (by decide +kernel)) (fun _ _ _ _ _ => (pg_name (i := 3) sc_is_dealt.nd rfl (by first | exact Or.inl rfl | exact Or.inr rfl))) (fun _ _ _ _ _ => pts_nil) (fun _ _ _ _ _ => (pe_callB (k_len (K := K) rfl) rfl b.len boot_len (pa_cons (pv 3) pa_nil)))) (pe_lc (own := [("row", 3)]) rfl sc_is_dealt.nd (k_piS (K := K) rfl (pv 0)) (blkOk_by (own := [("row", 3)]) (N := N_is_dealt) (sc := (defScope s_is_dealt)) (by decide +kernel)) (fun _ _ _ _ _ => (pg_name (i := 3) sc_is_dealt.nd rfl (by first | exact Or.inl rfl | exact Or.inr rfl))) (fun _ _ _ _ _ => pts_nil) (fun _ _ _ _ _ => (pe_callB (k_len (K := K) rfl) rfl b.len boot_len (pa_cons (pv 3) pa_nil)))) (nomark _)) (pss_one (ps_ret pe_bl)) pss_nil)
      (pss_cons (ps_for (passes_of rfl) rfl (k_zip (K := K) rfl rfl b.zip (pa_cons (pv 0) (pa_cons (pv 2) pa_nil))) (k_gTup (K := K) (n := 2) rfl rfl (pgs_cons (pg_name (i := 3) sc_is_dealt.nd rfl (by first | exact Or.inl rfl | exact Or.inr rfl)) (pgs_cons (pg_name (i := 4) sc_is_dealt.nd rfl (by first | exact Or.inl rfl | exact Or.inr rfl)) pgs_nil)))
      (pss_cons (ps_if (pt_not (pt_val (pe_callB (k_all (K := K) rfl rfl) rfl b.all boot_all (pa_cons (pe_lc (own := [("value", 6), ("number", 7)]) rfl sc_is_dealt.nd (k_zip (K := K) rfl rfl b.zip (pa_cons (pv 4) (pa_cons (pv 3) pa_nil))) (blkOk_by (own := [("value", 6), ("number", 7)]) (N := N_is_dealt) (sc := (defScope s_is_dealt)) (by decide +kernel)) (fun _ _ _ _ _ => (k_gTup (K := K) (n := 2) rfl rfl (pgs_cons (pg_name (i := 6) sc_is_dealt.nd rfl (by first | exact Or.inl rfl | exact Or.inr rfl)) (pgs_cons (pg_name (i := 7) sc_is_dealt.nd rfl (by first | exact Or.inl rfl | exact Or.inr rfl)) pgs_nil)))) (fun _ _ _ _ _ => pts_nil) (fun _ _ _ _ _ => (k_cl0 c_rounds_share rfl hr (pa_cons (pv 6) (pa_cons (pv 7) (pa_cons (pv 1) pa_nil)))))) pa_nil)))) (pss_one (ps_ret pe_bl)) pss_nil)
      (pss_one (ps_if (pt_not (pt_val (k_cl0 c_rounds_share rfl hr (pa_cons (pe_callB (k_sum (K := K) rfl rfl) rfl b.sum boot_sum (pa_cons (pv 4) pa_nil)) (pa_cons (pe_callB (k_sum (K := K) rfl rfl) rfl b.sum boot_sum (pa_cons (pv 3) pa_nil)) (pa_cons (pv 1) pa_nil)))))) (pss_one (ps_ret pe_bl)) pss_nil))))
      (pss_one (ps_ret (pe_cmpR (k_eqD (K := K) rfl hr.units) (pe_lc (own := [("total", 5)]) rfl sc_is_dealt.nd (k_piL (K := K) rfl (k_cl0 c_column_sums rfl hr (pa_cons (pv 2) pa_nil))) (blkOk_by (own := [("total", 5)]) (N := N_is_dealt) (sc := (defScope s_is_dealt)) (by decide +kernel)) (fun _ _ _ _ _ => (pg_name (i := 5) sc_is_dealt.nd rfl (by first | exact Or.inl rfl | exact Or.inr rfl))) (fun _ _ _ _ _ => pts_nil) (fun _ _ _ _ _ => (pe_op op_mul (pv 5) (pv 1)))) (k_cl0 c_column_sums rfl hr (pa_cons (pv 0) pa_nil)) (nomark _))))))), ?_⟩
  refine DL.run_fnP  [.no, .no, .no, .no, .no] (Nm := N_is_dealt) (n := 3) (k := 5) rfl (hlen _ _ _ _ h) rfl h fun κ W m ss Φ Ξ G hc => ?_
  try dsimp only [cxOf, Cx.nox, Cx.wish, Cx.blk]
  obtain ⟨o, q, o2, q2, rows, w0, b, gv, rfl, hr, hb, hb2, hg1, hg2, hX, hΦ⟩ := hc
  have l1 := hr.l1
  have lw := hr.lw
  walk_at "d"
  refine ⟨o, q, rows, w0, b, rfl, hr, hb, hb2, hX, fun hz => ?_⟩
  have hΦ := hΦ hz
  walk_at "d"
  refine de_lcMap (f := fun d => D.int ((lOf d).length : Nat)) ?_
  walk_at "d"
  refine ⟨_, seq_sq _ _, ?_⟩
  refine ⟨by rw [List.length_map]; omega, fun d hd => ⟨_, dg_name (by simp), ?_⟩, ?_⟩
  · obtain ⟨r, hr2, rfl⟩ := List.mem_map.mp hd
    walk_at "d"
    refine cb_lenQ ?_
    rw [lOf_q, List.length_map]
    exact ⟨rfl, rfl⟩
  refine de_lcMap (f := fun d => D.int ((lOf d).length : Nat)) ?_
  walk_at "d"
  refine ⟨_, seq_sq _ _, ?_⟩
  refine ⟨by rw [List.length_map]; omega, fun d hd => ⟨_, dg_name (by simp), ?_⟩, ?_⟩
  · obtain ⟨r, hr2, rfl⟩ := List.mem_map.mp hd
    walk_at "d"
    refine cb_lenQ ?_
    rw [lOf_q, List.length_map]
    exact ⟨rfl, rfl⟩
  rw [len_list, len_list]
  refine ops_neInts rfl rfl ?_
  refine ⟨_, rfl, fun hn => ?_, fun hn => ?_⟩
  · have hne : gv.map List.length ≠ rows.map List.length := fun z => by
      rw [z] at hn
      simp at hn
    have : isD rows w0 b gv = false := by unfold isD; simp [hne]
    rw [this] at hΦ
    walk_at "d"
    exact hΦ
  have hlen : gv.map List.length = rows.map List.length := natc_inj.mp (by simpa using hn)
  have hgl : gv.length = rows.length := by have := congrArg List.length hlen; simpa using this
  have hrg : Rc gv w0 := by
    refine ⟨fun z => ?_, fun g hg => ?_, by omega, hr.lw⟩
    · rw [z] at hgl
      have := hr.ne
      cases rows with
      | nil => exact this rfl
      | cons a r => simp at hgl
    · have : g.length ∈ rows.map List.length := by rw [← hlen]; exact List.mem_map.mpr ⟨g, hg, rfl⟩
      obtain ⟨r, hr2, e⟩ := List.mem_map.mp this
      rw [← e, hr.eq r hr2]
  walk_at "d"
  refine ds_forW (vs := [3, 4]) ?_
  walk_at "d"
  refine ⟨_, _, rows.map (rwQ q), gv.map (rwQ q2), rfl, seq_sq0 _ _, seq_sq0 _ _, ?_⟩
  rw [zip_q]
  refine ⟨fun i m' ρ => m' = m ∧ ρ = [.dat (rwK o q rows), .dat (.int b), .dat (rwK o2 q2 gv), .no, .no, .no, .no, .no] ∧ (((rows.zip gv).take i).all fun x => ((x.2.zip x.1).all fun y => rsh y.1 y.2 b) && rsh x.2.sum x.1.sum b) = true, ⟨_, Wk.refl _, rfl, rfl, rfl, rfl⟩, ?_, ?_⟩
  · rintro i d m' ρ hd ⟨rfl, rfl, hpre⟩
    rw [List.getElem?_map] at hd
    cases hx : (rows.zip gv)[i]? with
    | none => rw [hx] at hd; cases hd
    | some x =>
      rw [hx] at hd
      cases hd
      refine ⟨_, dg_tup2 (by simp) (by simp), ?_⟩
      dsimp only [List.set_cons_zero, List.set_cons_succ]
      have hx1 : x.1.length ≤ 400 := by
        have := hr.eq x.1 (List.of_mem_zip (List.mem_of_getElem? hx)).1
        omega
      have hx2 := hg2 x.2 (List.of_mem_zip (List.mem_of_getElem? hx)).2
      have etk : ((rows.zip gv).take (i + 1)) = (rows.zip gv).take i ++ [x] := by rw [List.take_add_one, hx]; rfl
      have eD : isD rows w0 b gv = false ∨ (((x.2.zip x.1).all fun y => rsh y.1 y.2 b) = true ∧ rsh x.2.sum x.1.sum b = true) := by
        by_cases q : (((x.2.zip x.1).all fun y => rsh y.1 y.2 b) && rsh x.2.sum x.1.sum b) = true
        · exact .inr (Bool.and_eq_true_iff.mp q)
        · refine .inl ?_
          unfold isD
          rw [Bool.and_eq_false_iff, Bool.and_eq_false_iff]
          refine .inl (.inr ?_)
          cases hall : (rows.zip gv).all fun x => ((x.2.zip x.1).all fun y => rsh y.1 y.2 b) && rsh x.2.sum x.1.sum b with
          | false => rfl
          | true => exact absurd (List.all_eq_true.mp hall x (List.mem_of_getElem? hx)) q
      walk_at "d"
      refine de_lcMap (f := fun d => .bl (rshD b d)) ?_
      walk_at "d"
      refine ⟨_, _, x.2.map D.int, x.1.map D.int, rfl, seq_sq0 _ _, seq_sq0 _ _, ?_⟩
      rw [zip_ints]
      refine ⟨by rw [List.length_map, List.length_zip]; omega, fun d hd => ?_, ?_⟩
      · obtain ⟨y, hy, rfl⟩ := List.mem_map.mp hd
        refine ⟨_, dg_tup2 (by simp) (by simp), ?_⟩
        walk_at "d"
        refine ⟨y.1, y.2, b, rfl, hb, hb2, ?_⟩
        exact ⟨rfl, rfl⟩
      walk_at "d"
      refine cb_all (bs := (x.2.zip x.1).map fun y => rsh y.1 y.2 b) (by
        show some _ = some _
        rw [List.map_map, List.map_map]
        rfl) ?_
      refine ⟨_, rfl, fun q => ?_, fun q => ?_⟩
      · have hD : isD rows w0 b gv = false := by
          rcases eD with h | ⟨h, _⟩
          · exact h
          · rw [List.all_map] at q
            have h2 : ((x.2.zip x.1).all (id ∘ fun y => rsh y.1 y.2 b)) = true := h
            rw [h2] at q
            cases q
        rw [hD] at hΦ
        walk_at "d"
        exact hΦ
      · have hA : ((x.2.zip x.1).all fun y => rsh y.1 y.2 b) = true := by
          rw [List.all_map] at q
          have h2 : (!(x.2.zip x.1).all fun y => rsh y.1 y.2 b) = false := q
          simpa using h2
        walk_at "d"
        refine cb_sumQ ?_
        walk_at "d"
        refine cb_sumQ ?_
        walk_at "d"
        refine ⟨x.2.sum, x.1.sum, b, rfl, hb, hb2, ?_⟩
        refine ⟨_, rfl, fun q2 => ?_, fun q2 => ?_⟩
        · have hD : isD rows w0 b gv = false := by
            rcases eD with h | ⟨_, h⟩
            · exact h
            · have h2 : (!rsh x.2.sum x.1.sum b) = true := q2
              rw [h] at h2
              cases h2
          rw [hD] at hΦ
          walk_at "d"
          exact hΦ
        · have hB : rsh x.2.sum x.1.sum b = true := by
            have h2 : (!rsh x.2.sum x.1.sum b) = false := q2
            simpa using h2
          walk_at "d"
          refine ⟨_, by walk_at "wk", rfl, rfl, rfl, ?_⟩
          rw [etk, List.all_append, hpre, Bool.true_and]
          simp [hA, hB]
  · rintro m' ρ ⟨rfl, rfl, hpre⟩
    rw [List.length_map, List.take_length] at hpre
    walk_at "d"
    refine de_lcMap (f := fun d => .int (iOf d * b)) ?_
    walk_at "d"
    refine ⟨o2, q2, gv, w0, rfl, hrg, ?_⟩
    refine ⟨_, rfl, ?_⟩
    refine ⟨by rw [List.length_map, colS_len]; omega, fun d hd => ⟨_, dg_name (by simp), ?_⟩, ?_⟩
    · obtain ⟨v, _, rfl⟩ := List.mem_map.mp hd
      walk_at "d"
      rfl
    rw [show ((colS gv w0).map D.int).map (fun d => .int (iOf d * b)) = ((colS gv w0).map (· * b)).map D.int by
      rw [List.map_map, List.map_map]
      rfl]
    walk_at "d"
    refine ⟨o, q, rows, w0, rfl, hr, ?_⟩
    refine ops_eqInts rfl rfl ?_
    refine ⟨rfl, ?_⟩
    have hD : isD rows w0 b gv = decide ((colS gv w0).map (· * b) = colS rows w0) := by
      unfold isD
      rw [hpre]
      simp [hlen]
    rw [hD] at hΦ
    exact hΦ
end
end Pf
set_option Elab.async false
set_option linter.all false
set_option maxRecDepth 100000
set_option maxHeartbeats 1000000
namespace Pf
open PySem PySem.Spec PyProof.Rows L2 DL
/-! ### what a rounding begins with -/
def numOf (rows : List (List Int)) (r c : Nat) : Int := (rows.getD r []).getD c 0
def flr (rows : List (List Int)) (b : Int) : List (List Int) := rows.map fun r => r.map (· / b)
def rowN (n : Nat) : List Nd := (List.range n).map fun r => (0, r)
def colN (n : Nat) : List Nd := (List.range n).map fun c => (1, c)
def ndsOf (rows : List (List Int)) (w : Nat) : List Nd := rowN rows.length ++ colN w
def adjOf (rows : List (List Int)) (w : Nat) (b : Int) (n : Nd) : List Nd :=
  if n.1 = 0 then ((List.range w).filter fun c => decide (numOf rows n.2 c % b ≠ 0)).map fun c => (1, c)
  else ((List.range rows.length).filter fun r => decide (numOf rows r n.2 % b ≠ 0)).map fun r => (0, r)
def lackOf (rows : List (List Int)) (b : Int) (n : Nd) : Int := (rows.getD n.2 []).sum / b - ((flr rows b).getD n.2 []).sum
def roomOf (rows : List (List Int)) (b : Int) (n : Nd) : Int :=
  if n.1 = 0 then ((rows.getD n.2 []).sum + b - 1) / b - ((flr rows b).getD n.2 []).sum else colOf rows n.2 / b - colOf (flr rows b) n.2
def fs5 (fl : D) (ra ce ro la : List (List Key × D)) : List (Str × DL.It) := [("floors", .d fl), ("raised", .o (.dT ra)), ("cells", .o (.dT ce)), ("room", .o (.dT ro)), ("lack", .o (.dT la))]
def fs1 (fl : D) : List (Str × DL.It) := [("floors", .d fl)]
def fs2 (fl : D) : List (Str × DL.It) := [("floors", .d fl), ("raised", .o (.dT []))]
def fs3 (fl : D) : List (Str × DL.It) := [("floors", .d fl), ("raised", .o (.dT [])), ("cells", .o (.dT []))]
def fs4 (fl : D) : List (Str × DL.It) := [("floors", .d fl), ("raised", .o (.dT [])), ("cells", .o (.dT [])), ("room", .o (.dT []))]
theorem fs_1 (fl : D) : putI "floors" (.d fl) [] = fs1 fl := rfl
theorem fs_2 (fl : D) : putI "raised" (.o (.dT [])) (fs1 fl) = fs2 fl := rfl
theorem fs_3 (fl : D) : putI "cells" (.o (.dT [])) (fs2 fl) = fs3 fl := rfl
theorem fs_4 (fl : D) : putI "room" (.o (.dT [])) (fs3 fl) = fs4 fl := rfl
theorem fs_5 (fl : D) : putI "lack" (.o (.dT [])) (fs4 fl) = fs5 fl [] [] [] [] := rfl
theorem fs_ce (fl : D) (ra ce ro la x : List (List Key × D)) : putI "cells" (.o (.dT x)) (fs5 fl ra ce ro la) = fs5 fl ra x ro la := rfl
theorem fs_ro (fl : D) (ra ce ro la x : List (List Key × D)) : putI "room" (.o (.dT x)) (fs5 fl ra ce ro la) = fs5 fl ra ce x la := rfl
theorem fs_la (fl : D) (ra ce ro la x : List (List Key × D)) : putI "lack" (.o (.dT x)) (fs5 fl ra ce ro la) = fs5 fl ra ce ro x := rfl
theorem rowN_succ (n : Nat) : rowN (n + 1) = rowN n ++ [(0, n)] := by unfold rowN; rw [List.range_succ, List.map_append]; rfl
theorem colN_succ (n : Nat) : colN (n + 1) = colN n ++ [(1, n)] := by unfold colN; rw [List.range_succ, List.map_append]; rfl
theorem rowN_new (n : Nat) : ((0, n) : Nd) ∉ rowN n := fun h => by
  obtain ⟨r, hr, e⟩ := List.mem_map.mp h
  have := List.mem_range.mp hr
  injection e with _ e
  omega
theorem colN_new (R n : Nat) : ((1, n) : Nd) ∉ rowN R ++ colN n := fun h => by
  rcases List.mem_append.mp h with h | h
  · obtain ⟨r, hr, e⟩ := List.mem_map.mp h
    injection e with e _
    cases e
  · obtain ⟨r, hr, e⟩ := List.mem_map.mp h
    have := List.mem_range.mp hr
    injection e with _ e
    omega
theorem row_put {n : Nat} {f : Nd → D} {d : D} (h : f (0, n) = d) : putD (mpD (rowN n) f) (nk (0, n)) d = mpD (rowN (n + 1)) f := by
  rw [mp_new (rowN_new n), rowN_succ]
  exact mp_snoc h
theorem col_put {R n : Nat} {f : Nd → D} {d : D} (h : f (1, n) = d) : putD (mpD (rowN R ++ colN n) f) (nk (1, n)) d = mpD (rowN R ++ colN (n + 1)) f := by
  rw [mp_new (colN_new R n), colN_succ, ← List.append_assoc]
  exact mp_snoc h
theorem flr_len (rows : List (List Int)) (b : Int) : (flr rows b).length = rows.length := by unfold flr; rw [List.length_map]
theorem flr_at {rows : List (List Int)} {b : Int} {i : Nat} (h : i < rows.length) : (flr rows b).getD i [] = (rows.getD i []).map (· / b) := by
  unfold flr
  simp [List.getD, h]
theorem rows_at {rows : List (List Int)} {i : Nat} {d : D} (h : (rows.map lrD)[i]? = some d) : i < rows.length ∧ d = lrD (rows.getD i []) := by
  have h1 := (List.getElem?_eq_some_iff.mp h).1
  rw [List.length_map] at h1
  refine ⟨h1, ?_⟩
  rw [List.getElem?_map, List.getElem?_eq_getElem h1] at h
  rw [List.getD_eq_getElem?_getD, List.getElem?_eq_getElem h1]
  exact (Option.some.inj h).symm
theorem getD_in2 {rows : List (List Int)} {i : Nat} (h : i < rows.length) : rows.getD i [] ∈ rows := by
  rw [List.getD_eq_getElem?_getD, List.getElem?_eq_getElem h]
  exact List.getElem_mem _
theorem atI_rws {rows : List (List Int)} {i : Nat} (h : i < rows.length) : atI (rows.map lrD) (i : Nat) = some (lrD (rows.getD i [])) := atN (by
  rw [List.getElem?_map, List.getElem?_eq_getElem h, List.getD_eq_getElem?_getD, List.getElem?_eq_getElem h]
  rfl)
def tE (b : Int) : D → Bool
  | .tup [_, .int v] => decide (v % b ≠ 0)
  | _ => false
def tE2 (b : Int) (c : Nat) : D → Bool
  | .tup [_, r] => decide ((lOf r).getD c 0 % b ≠ 0)
  | _ => false
def fE (k : Nat) : D → D
  | .tup [c, _] => .tup [.int (k : Nat), c]
  | _ => .non
theorem enum_adj (r : List Int) (b : Int) (k : Nat) : ((enumD (r.map D.int)).filter (tE b)).map (fE k) = (((List.range r.length).filter fun c => decide (r.getD c 0 % b ≠ 0)).map fun c => ((k, c) : Nd)).map ndD := by
  unfold enumD
  rw [List.length_map, List.filter_map, List.map_map, List.map_map]
  have e : (List.range r.length).filter (tE b ∘ fun i : Nat => D.tup [D.int (i : Nat), (r.map D.int).getD i .non]) = (List.range r.length).filter fun c => decide (r.getD c 0 % b ≠ 0) := by
    refine List.filter_congr fun c hc => ?_
    have hc := List.mem_range.mp hc
    have e2 : (r.map D.int).getD c .non = .int (r.getD c 0) := by simp [List.getD, hc]
    show tE b (D.tup [D.int (c : Nat), (r.map D.int).getD c .non]) = _
    rw [e2]
    rfl
  rw [e]
  rfl
theorem flr_row {rows : List (List Int)} {w : Nat} {b : Int} (h : Rc rows w) (r : List Int) (hr : r ∈ flr rows b) : r.length = w := by
  obtain ⟨x, hx, rfl⟩ := List.mem_map.mp hr
  rw [List.length_map]
  exact h.eq x hx
theorem col_list (rows : List (List Int)) (c : Nat) : (rows.map lrD).map (fun d => D.int ((lOf d).getD c 0)) = (rows.map fun r => r.getD c 0).map D.int := by
  rw [List.map_map, List.map_map]
  exact List.map_congr_left fun r _ => by show D.int ((lOf (lrD r)).getD c 0) = _; rw [lOf_lr]; rfl
theorem rows_atQ {q : Bool} {rows : List (List Int)} {i : Nat} {d : D} (h : (rows.map (rwQ q))[i]? = some d) : i < rows.length ∧ d = rwQ q (rows.getD i []) := by
  have h1 := (List.getElem?_eq_some_iff.mp h).1
  rw [List.length_map] at h1
  refine ⟨h1, ?_⟩
  rw [List.getElem?_map, List.getElem?_eq_getElem h1] at h
  rw [List.getD_eq_getElem?_getD, List.getElem?_eq_getElem h1]
  exact (Option.some.inj h).symm
theorem enum_adj2Q (q : Bool) (rows : List (List Int)) (b : Int) (c : Nat) : ((enumD (rows.map (rwQ q))).filter (tE2 b c)).map (fE 0) = (((List.range rows.length).filter fun r => decide (numOf rows r c % b ≠ 0)).map fun r => ((0, r) : Nd)).map ndD := by
  unfold enumD
  rw [List.length_map, List.filter_map, List.map_map, List.map_map]
  have e : (List.range rows.length).filter (tE2 b c ∘ fun i : Nat => D.tup [D.int (i : Nat), (rows.map (rwQ q)).getD i .non]) = (List.range rows.length).filter fun r => decide (numOf rows r c % b ≠ 0) := by
    refine List.filter_congr fun i hi => ?_
    have hi := List.mem_range.mp hi
    have e2 : (rows.map (rwQ q)).getD i .non = rwQ q (rows.getD i []) := by simp [List.getD, hi]
    show tE2 b c (D.tup [D.int (i : Nat), (rows.map (rwQ q)).getD i .non]) = _
    rw [e2]
    show decide ((lOf (rwQ q _)).getD c 0 % b ≠ 0) = _
    rw [lOf_q]
    rfl
  rw [e]
  rfl
end Pf
set_option Elab.async false
set_option linter.all false
set_option maxRecDepth 100000
set_option maxHeartbeats 1000000
namespace Pf
open PySem PySem.Spec PyProof.Rows L2 DL
local macro_rules | `(tactic| walk_at "len") => `(tactic| with_unfolding_all first | exact Nat.le_of_ble_eq_true rfl | (simp; done) | (simp; omega))
local macro_rules | `(tactic| walk_at "side") => `(tactic| with_unfolding_all first | exact Or.inr ⟨by omega, by omega⟩ | exact Or.inl ⟨by omega, by omega⟩ | exact ⟨by omega, by omega⟩ | exact ⟨by omega, by omega, by omega⟩ | (show (0 : Int) < _; omega) | decide)
local macro_rules | `(tactic| walk_at "d1") => `(tactic| with_reducible first
  | (refine ds_seq ?_; try dsimp only [List.set_cons_zero, List.set_cons_succ, List.cons_append, List.nil_append, O.frz])
  | refine ds_asg ?_
  | refine ds_ret ?_
  | refine ds_retN ?_
  | refine ds_next ?_
  | refine ds_dropC ?_
  | refine ds_drop0 ?_
  | refine ds_dropB ?_
  | refine ds_if ?_
  | refine dt_test ?_
  | refine dt_B ?_
  | refine dt_not ?_
  | refine dt_and ?_
  | refine dt_or ?_
  | refine dt_yes ?_
  | refine de_int ?_
  | refine de_bl ?_
  | refine de_str ?_
  | refine de_non ?_
  | refine de_varD (by with_unfolding_all rfl) ?_
  | refine de_varO (by with_unfolding_all rfl) ?_
  | refine de_varA (by with_unfolding_all rfl) ?_
  | refine de_varV (by with_unfolding_all rfl) ?_
  | refine de_isi ?_
  | refine de_dget ?_
  | refine de_dget2 ?_
  | refine de_dnotin ?_
  | refine de_din ?_
  | refine de_dnew ?_
  | refine de_dnewT ?_
  | refine de_cb ?_
  | refine de_call0G ?_
  | refine de_callG ?_
  | refine de_andB ?_
  | refine de_orB ?_
  | refine de_notV ?_
  | refine de_ifE ?_
  | refine de_chain ?_
  | refine de_op ?_
  | refine de_neg ?_
  | refine de_tupG ?_
  | refine de_lstG ?_
  | refine de_slL ?_
  | refine de_slT ?_
  | refine do_none ?_
  | refine do_some ?_
  | refine daf_cons ?_
  | refine daf_nil ?_
  | refine daf_star ?_
  | refine da_cons ?_
  | refine da_nil ?_
  | refine lk_dat ?_
  | refine lk_nil ?_
  | refine ak_dat ?_
  | refine ak_nil ?_
  | refine ak_at ?_
  | refine ak_lst ?_
  | refine lk_lst ?_
  | refine ak_dK ?_
  | refine ak_dT ?_
  | refine ak_vw ?_
  | refine lk_dT ?_
  | refine lk_dK ?_
  | refine da_star ?_
  | refine de_lstRg1 ?_
  | refine de_lstRg2 ?_
  | refine de_revL ?_
  | refine de_count ?_
  | refine de_index ?_
  | refine di_enum ?_
  | refine dt_tru ?_
  | refine de_fldV ?_
  | refine de_prop ?_
  | refine di_rng1 ?_
  | refine di_rng2 ?_
  | refine di_list ?_
  | refine di_tup ?_
  | refine di_seq ?_
  | refine di_zip ?_
  | refine de_split ?_
  | refine de_join ?_
  | refine de_fmt ?_
  | refine de_jnil ?_
  | refine de_jcons ?_
  | refine de_ixS ?_
  | refine de_orT ?_
  | refine di_str ?_
  | refine ops_eqS ?_
  | refine ops_neS ?_
  | refine de_indexD ?_
  | refine ops_int ?_
  | (refine ops_cat (by with_unfolding_all rfl) (by with_unfolding_all rfl) ?side ?_; (case side => walk_at "len"))
  | (refine ops_catA ?side ?_; (case side => walk_at "len"))
  | refine ops_eqI ?_
  | refine ops_neI ?_
  | refine ops_bool ?_
  | (refine ops_intC ?side ?_; (case side => walk_at "side"))
  | refine cb_lenL (by with_unfolding_all rfl) ?_
  | refine cb_lenT (by with_unfolding_all rfl) ?_
  | refine cb_lenK (by with_unfolding_all rfl) ?_
  | refine cb_max2 ?_
  | refine cb_min2 ?_
  | refine cb_int ?_
  | refine ⟨fun _ => ?_, fun z => Bool.noConfusion z⟩
  | refine ⟨fun z => Bool.noConfusion z, fun _ => ?_⟩
  | refine ⟨rfl, ?_⟩
  | refine ⟨_, rfl, ?_⟩
  | refine ⟨_, Or.inl (by with_unfolding_all rfl), ?_⟩
  | (with_unfolding_all refine ⟨_, true, rfl, rfl, (fun _ z => by cases z), rfl, ?_⟩)
  | (with_unfolding_all refine ⟨_, false, rfl, rfl, (fun _ z => by cases z), rfl, ?_⟩))
local macro_rules | `(tactic| walk_at "d") => `(tactic| repeat walk_at "d1")
local macro_rules | `(tactic| walk_at "wk") => `(tactic| repeat first | exact Wk.nil | refine Wk.keep ?_ | refine Wk.drop ?_)
theorem ds_after {ι : Type} {c : Cc ι} {ρ : List S} {m : ι} {t : TS} {N B C : ι → List S → Prop} {R : ι → S → Prop} (h : Ds c m t ρ (fun m ρ' => Ds c m tNext ρ' N R B C) R B C) : Ds c m t ρ N R B C := ds_seq h
section
variable {P : Program} {w : World} {K : PySem.W.Frag} {mg : Str → Option Value} {base : Heap} {f : Addr} {fd : FuncData} {a_Rounding a_BadShares : Addr}
def C_Rounding___init (C : Addr) : FcO := fun _ W m oo ss Φ Ξ => ∃ (pa : Addr) (o q : Bool) (rows : List (List Int)) (w : Nat) (b : Int), ss = [.dat (rwK o q rows), .dat (.int b)] ∧ oo = .ins pa C [] ∧ Rc rows w ∧ 0 < b ∧ b < 1000000 ∧
  Φ m (.ins pa C (rdF (rwsD (flr rows b)) (.dit (mpD (rowN rows.length) fun n => .int (lackOf rows b n))) (ndsOf rows w) (adjOf rows w b) [] (roomOf rows b)))
abbrev s_Rounding___init : Stmt := (inClass (top 8) 0)
abbrev N_Rounding___init : List Str := ["self", "rows", "bottom", "at", "row", "kept", "column", "total", "number"]
theorem sc_Rounding___init : FnScope N_Rounding___init ["self", "rows", "bottom"] (defScope s_Rounding___init) := ⟨rfl, rfl, rfl, by decide +kernel, rfl, by decide +kernel, by decide +kernel⟩
theorem ok_Rounding___init (F : FunD K "__init__" "Rounding.__init__" (defArgs s_Rounding___init) (defBody s_Rounding___init) (defScope s_Rounding___init) [] [] f fd) (b : BI mg) (i_Rounding : Ci K a_Rounding ["floors", "raised", "cells", "room", "lack"]) (c_rounded_down : Cl P w K mg base CX0 1 "rounded_down" ["number", "bottom"] C_rounded_down) (c_rounded_up : Cl P w K mg base CX0 1 "rounded_up" ["number", "bottom"] C_rounded_up) (c_column_sums : Cl P w K mg base CX0 1 "column_sums" ["rows"] C_column_sums) : FnOk P w K mg base CX0 2 f fd ["self", "rows", "bottom"] (spO K (C_Rounding___init a_Rounding)) := by
  have hlen := spO_len (K := K) (C := (C_Rounding___init a_Rounding)) (n := 3) fun κ W m o ss Φ Ξ ⟨pa, o1, q, rows, w, b, e, _⟩ => by rw [e]; rfl
  refine F.ok sc_Rounding___init hlen ?_
  intro cdv A outer s H vs Q E hr h
  refine ⟨_, PSs.nox (pss_cons (k_sfld (K := K) rfl (pv 0) (pe_lc (own := [("row", 4)]) rfl sc_Rounding___init.nd (k_piS (K := K) rfl (pv 1)) (blkOk_by (own := [("row", 4)]) (N := N_Rounding___init) (sc := (defScope s_Rounding___init)) (by decide +kernel)) (fun _ _ _ _ _ => (pg_name (i := 4) sc_Rounding___init.nd rfl (by first | exact Or.inl rfl | exact Or.inr rfl))) (fun _ _ _ _ _ => pts_nil) (fun _ _ _ _ _ => (pe_lc (own := [("number", 8)]) rfl sc_Rounding___init.nd (k_piS (K := K) rfl (pv 4)) (blkOk_by (own := [("number", 8)]) (by kernel_rfl)) (fun _ _ _ _ _ => (pg_name (i := 8) sc_Rounding___init.nd rfl (by first | exact Or.inl rfl | exact Or.inr rfl))) (fun _ _ _ _ _ => pts_nil) (fun _ _ _ _ _ => (k_cl0 c_rounded_down rfl hr (pa_cons (pv 8) (pa_cons (pv 2) pa_nil))))))))
      (pss_cons (k_sfld (K := K) rfl (pv 0) pe_dnewT)
      (pss_cons (k_sfld (K := K) rfl (pv 0) pe_dnewT)
      (pss_cons (k_sfld (K := K) rfl (pv 0) pe_dnewT)
      (pss_cons (k_sfld (K := K) rfl (pv 0) pe_dnewT)
      (pss_cons (ps_for PassesOwn.never rfl (k_enumS (K := K) rfl rfl b.enumerate (pa_cons (pv 1) pa_nil)) (k_gTup (K := K) (n := 2) rfl rfl (pgs_cons (pg_name (i := 3) sc_Rounding___init.nd rfl (by first | exact Or.inl rfl | exact Or.inr rfl)) (pgs_cons (pg_name (i := 4) sc_Rounding___init.nd rfl (by first | exact Or.inl rfl | exact Or.inr rfl)) pgs_nil)))
      (pss_cons (ps_set (i := 5) sc_Rounding___init.nd rfl (by first | exact Or.inl rfl | exact Or.inr rfl) (pe_callB (k_sum (K := K) rfl rfl) rfl b.sum boot_sum (pa_cons (pe_ix (k_ixL (K := K) rfl) (k_fld (K := K) rfl (pv 0)) (pv 3) (fun _ _ => rfl)) pa_nil)))
      (pss_cons (ps_dput (hu_of hr) (k_fld (K := K) rfl (pv 0)) (pe_tup (pa_cons pe_int (pa_cons (pv 3) pa_nil))) (pe_op op_sub (k_cl0 c_rounded_down rfl hr (pa_cons (pe_callB (k_sum (K := K) rfl rfl) rfl b.sum boot_sum (pa_cons (pv 4) pa_nil)) (pa_cons (pv 2) pa_nil))) (pv 5)) rfl)
      (pss_cons (ps_dput (hu_of hr) (k_fld (K := K) rfl (pv 0)) (pe_tup (pa_cons pe_int (pa_cons (pv 3) pa_nil))) (pe_op op_sub (k_cl0 c_rounded_up rfl hr (pa_cons (pe_callB (k_sum (K := K) rfl rfl) rfl b.sum boot_sum (pa_cons (pv 4) pa_nil)) (pa_cons (pv 2) pa_nil))) (pv 5)) rfl)
      (pss_one (ps_dput (hu_of hr) (k_fld (K := K) rfl (pv 0)) (pe_tup (pa_cons pe_int (pa_cons (pv 3) pa_nil))) (pe_lc (own := [("column", 6), ("number", 8)]) rfl sc_Rounding___init.nd (k_enumS (K := K) rfl rfl b.enumerate (pa_cons (pv 4) pa_nil)) (blkOk_by (own := [("column", 6), ("number", 8)]) (N := N_Rounding___init) (sc := (defScope s_Rounding___init)) (by decide +kernel)) (fun _ _ _ _ _ => (k_gTup (K := K) (n := 2) rfl rfl (pgs_cons (pg_name (i := 6) sc_Rounding___init.nd rfl (by first | exact Or.inl rfl | exact Or.inr rfl)) (pgs_cons (pg_name (i := 8) sc_Rounding___init.nd rfl (by first | exact Or.inl rfl | exact Or.inr rfl)) pgs_nil)))) (fun _ _ _ _ _ => pts_one (pt_cmpR (k_neD (K := K) rfl hr.units) (pe_op op_mod (pv 8) (pv 2)) pe_int (nomark _))) (fun _ _ _ _ _ => (pe_tup (pa_cons pe_int (pa_cons (pv 6) pa_nil))))) rfl))))))
      (pss_one (ps_for PassesOwn.never rfl (k_enum (K := K) rfl rfl b.enumerate (pa_cons (k_cl0 c_column_sums rfl hr (pa_cons (pv 1) pa_nil)) pa_nil)) (k_gTup (K := K) (n := 2) rfl rfl (pgs_cons (pg_name (i := 6) sc_Rounding___init.nd rfl (by first | exact Or.inl rfl | exact Or.inr rfl)) (pgs_cons (pg_name (i := 7) sc_Rounding___init.nd rfl (by first | exact Or.inl rfl | exact Or.inr rfl)) pgs_nil)))
      (pss_cons (ps_set (i := 5) sc_Rounding___init.nd rfl (by first | exact Or.inl rfl | exact Or.inr rfl) (pe_callB (k_sum (K := K) rfl rfl) rfl b.sum boot_sum (pa_cons (pe_lc (own := [("row", 4)]) rfl sc_Rounding___init.nd (k_piL (K := K) rfl (k_fld (K := K) rfl (pv 0))) (blkOk_by (own := [("row", 4)]) (N := N_Rounding___init) (sc := (defScope s_Rounding___init)) (by decide +kernel)) (fun _ _ _ _ _ => (pg_name (i := 4) sc_Rounding___init.nd rfl (by first | exact Or.inl rfl | exact Or.inr rfl))) (fun _ _ _ _ _ => pts_nil) (fun _ _ _ _ _ => (pe_ix (k_ixSeq (K := K) rfl) (pv 4) (pv 6) (fun _ _ => rfl)))) pa_nil)))
      (pss_cons (ps_dput (hu_of hr) (k_fld (K := K) rfl (pv 0)) (pe_tup (pa_cons pe_int (pa_cons (pv 6) pa_nil))) (pe_op op_sub (k_cl0 c_rounded_down rfl hr (pa_cons (pv 7) (pa_cons (pv 2) pa_nil))) (pv 5)) rfl)
      (pss_one (ps_dput (hu_of hr) (k_fld (K := K) rfl (pv 0)) (pe_tup (pa_cons pe_int (pa_cons (pv 6) pa_nil))) (pe_lc (own := [("at", 3), ("row", 4)]) rfl sc_Rounding___init.nd (k_enumS (K := K) rfl rfl b.enumerate (pa_cons (pv 1) pa_nil)) (blkOk_by (own := [("at", 3), ("row", 4)]) (N := N_Rounding___init) (sc := (defScope s_Rounding___init)) (by decide +kernel)) (fun _ _ _ _ _ => (k_gTup (K := K) (n := 2) rfl rfl (pgs_cons (pg_name (i := 3) sc_Rounding___init.nd rfl (by first | exact Or.inl rfl | exact Or.inr rfl)) (pgs_cons (pg_name (i := 4) sc_Rounding___init.nd rfl (by first | exact Or.inl rfl | exact Or.inr rfl)) pgs_nil)))) (fun _ _ _ _ _ => pts_one (pt_cmpR (k_neD (K := K) rfl hr.units) (pe_op op_mod (pe_ix (k_ixSeq (K := K) rfl) (pv 4) (pv 6) (fun _ _ => rfl)) (pv 2)) pe_int (nomark _))) (fun _ _ _ _ _ => (pe_tup (pa_cons pe_int (pa_cons (pv 3) pa_nil))))) rfl)))))))))))), ?_⟩
  refine DL.run_fnO [.no, .no, .no, .no, .no, .no] (Nm := N_Rounding___init) (n := 3) (k := 6) rfl (hlen _ _ _ _ h) rfl h (fun κ W m pa C fs ss Φ Ξ G H0 hc => ?_) fun κ W m o ss Φ Ξ hc => ?_
  try dsimp only [cxOf, Cx.nox, Cx.wish, Cx.blk]
  case refine_2 => exact ⟨_, _, _, hc.choose_spec.choose_spec.choose_spec.choose_spec.choose_spec.choose_spec.2.1⟩
  obtain ⟨pa', o1, q, rows, w0, b, rfl, eo, hr, hb, hb2, hΦ⟩ := hc
  injection eo with e1 e2 e3
  subst e1 e2 e3
  have l1 := hr.l1
  have lw := hr.lw
  refine ds_seq ?_
  refine ds_setFl (i := 0) rfl i_Rounding.cl (i_Rounding.no _ (by simp)) (by decide) ?_
  refine de_frz ?_
  refine de_lcMap (f := fun d => lrD ((lOf d).map (· / b))) ?_
  walk_at "d"
  refine ⟨_, seq_sq _ _, ?_⟩
  refine ⟨by rw [List.length_map]; omega, fun d hd => ⟨_, dg_name (by simp), ?_⟩, ?_⟩
  · obtain ⟨r, hr2, rfl⟩ := List.mem_map.mp hd
    have hrl := hr.eq r hr2
    rw [lOf_q]
    refine de_lcMap (f := fun d => .int (iOf d / b)) ?_
    walk_at "d"
    refine ⟨_, seq_sq _ _, ?_⟩
    refine ⟨by rw [List.length_map]; omega, fun d hd => ⟨_, dg_name (by simp), ?_⟩, ?_⟩
    · obtain ⟨v, _, rfl⟩ := List.mem_map.mp hd
      walk_at "d"
      refine ⟨v, b, rfl, hb, hb2, ?_⟩
      exact ⟨rfl, rfl⟩
    · refine ⟨rfl, ?_⟩
      show S.dat (D.lst _) = S.dat (D.lst _)
      rw [List.map_map, List.map_map]
      rfl
  have efl : (rows.map (rwQ q)).map (fun d => lrD ((lOf d).map (· / b))) = (flr rows b).map lrD := by
    unfold flr
    rw [List.map_map, List.map_map]
    exact List.map_congr_left fun r _ => by show lrD ((lOf (rwQ q r)).map _) = _; rw [lOf_q]; rfl
  rw [efl]
  refine ⟨.d (rwsD (flr rows b)), rfl, ?_⟩
  rw [fs_1]
  refine ds_seq ?_
  refine ds_setFl (i := 0) rfl i_Rounding.cl (i_Rounding.no _ (by simp)) (by show 1 < 1000; decide) ?_
  refine de_dnewT ?_
  refine ⟨.o (.dT []), rfl, ?_⟩
  rw [fs_2]
  refine ds_seq ?_
  refine ds_setFl (i := 0) rfl i_Rounding.cl (i_Rounding.no _ (by simp)) (by show 2 < 1000; decide) ?_
  refine de_dnewT ?_
  refine ⟨.o (.dT []), rfl, ?_⟩
  rw [fs_3]
  refine ds_seq ?_
  refine ds_setFl (i := 0) rfl i_Rounding.cl (i_Rounding.no _ (by simp)) (by show 3 < 1000; decide) ?_
  refine de_dnewT ?_
  refine ⟨.o (.dT []), rfl, ?_⟩
  rw [fs_4]
  refine ds_seq ?_
  refine ds_setFl (i := 0) rfl i_Rounding.cl (i_Rounding.no _ (by simp)) (by show 4 < 1000; decide) ?_
  refine de_dnewT ?_
  refine ⟨.o (.dT []), rfl, ?_⟩
  rw [fs_5]
  refine ds_seq ?_
  refine ds_forW (vs := [3, 4]) ?_
  refine di_enumS ?_
  walk_at "d"
  refine ⟨_, seq_sq _ _, ?_⟩
  refine ⟨fun i m' ρ => m' = m ∧ ρ = [.own (.ins pa C (fs5 (rwsD (flr rows b)) [] (mpD (rowN i) fun n => .lst ((adjOf rows w0 b n).map ndD)) (mpD (rowN i) fun n => .int (roomOf rows b n)) (mpD (rowN i) fun n => .int (lackOf rows b n)))), .dat (rwK o1 q rows), .dat (.int b), .no, .no, .no, .no, .no, .no], ⟨_, Wk.refl _, rfl, rfl, rfl⟩, ?_, ?_⟩
  · rintro i d m' ρ hd ⟨rfl, rfl⟩
    obtain ⟨x, hx, rfl⟩ := enumD_at hd
    obtain ⟨hi, rfl⟩ := rows_atQ hx
    have hil := hr.eq _ (getD_in2 hi)
    refine ⟨_, dg_tup2 (by simp) (by simp), ?_⟩
    dsimp only [List.set_cons_zero, List.set_cons_succ]
    walk_at "d"
    refine ⟨pa, C, _, _, rfl, i_Rounding.cl, i_Rounding.no _ (by simp), rfl, ?_⟩
    walk_at "d"
    refine ops_ixL (d := lrD ((flr rows b).getD i [])) rfl (atI_rws (by rw [flr_len]; exact hi)) ?_
    walk_at "d"
    refine cb_sum (ns := (flr rows b).getD i []) (.inl rfl) ?_
    refine ⟨rfl, ?_⟩
    dsimp only [List.set_cons_zero, List.set_cons_succ]
    refine ds_seq ?_
    refine ds_dputF (i := 0) rfl i_Rounding.cl (i_Rounding.no _ (by simp)) rfl (by show (mpD _ _).length < 1000000; rw [mp_len]; simp [rowN]; omega) ?_
    walk_at "d"
    refine cb_sumQ ?_
    walk_at "d"
    refine ⟨(rows.getD i []).sum, b, rfl, hb, hb2, ?_⟩
    walk_at "d"
    refine ⟨.int (lackOf rows b (0, i)), ndD (0, i), _, rfl, rfl, PutS.t (nk (0, i)) _, ?_⟩
    rw [row_put (f := fun n => .int (lackOf rows b n)) rfl, fs_la]
    dsimp only [List.set_cons_zero, List.set_cons_succ]
    refine ds_seq ?_
    refine ds_dputF (i := 0) rfl i_Rounding.cl (i_Rounding.no _ (by simp)) rfl (by show (mpD _ _).length < 1000000; rw [mp_len]; simp [rowN]; omega) ?_
    walk_at "d"
    refine cb_sumQ ?_
    walk_at "d"
    refine ⟨(rows.getD i []).sum, b, rfl, hb, hb2, ?_⟩
    walk_at "d"
    refine ⟨.int (roomOf rows b (0, i)), ndD (0, i), _, rfl, rfl, PutS.t (nk (0, i)) _, ?_⟩
    rw [row_put (f := fun n => .int (roomOf rows b n)) rfl, fs_ro]
    dsimp only [List.set_cons_zero, List.set_cons_succ]
    refine ds_dputF (i := 0) rfl i_Rounding.cl (i_Rounding.no _ (by simp)) rfl (by show (mpD _ _).length < 1000000; rw [mp_len]; simp [rowN]; omega) ?_
    refine de_lcIf (f := fE 1) (t := tE b) ?_
    refine di_enumS ?_
    walk_at "d"
    refine ⟨_, seq_sq _ _, ?_⟩
    refine ⟨by rw [enumD_len, List.length_map]; omega, fun d hd => ?_, ?_⟩
    · obtain ⟨j, hj⟩ := List.getElem?_of_mem hd
      obtain ⟨x, hx, rfl⟩ := enumD_at hj
      obtain ⟨v, _, rfl⟩ := List.mem_map.mp (List.mem_of_getElem? hx)
      refine ⟨_, dg_tup2 (by simp) (by simp), ?_⟩
      walk_at "d"
      refine ⟨by simp [tE], fun _ => ?_⟩
      walk_at "d"
      rfl
    · walk_at "d"
      refine ⟨.lst ((adjOf rows w0 b (0, i)).map ndD), ndD (0, i), _, ?_, rfl, PutS.t (nk (0, i)) _, ?_⟩
      · show S.dat (D.lst _) = _
        rw [enum_adj, hil]
        rfl
      rw [row_put (f := fun n => .lst ((adjOf rows w0 b n).map ndD)) rfl, fs_ce]
      dsimp only [List.set_cons_zero, List.set_cons_succ]
      exact ⟨[.own (.ins pa C (fs5 (rwsD (flr rows b)) [] (mpD (rowN (i + 1)) fun n => .lst ((adjOf rows w0 b n).map ndD)) (mpD (rowN (i + 1)) fun n => .int (roomOf rows b n)) (mpD (rowN (i + 1)) fun n => .int (lackOf rows b n)))), .dat (rwK o1 q rows), .dat (.int b), .no, .no, .no, .no, .no, .no], by walk_at "wk", rfl, rfl, rfl⟩
  · rintro m' ρ ⟨rfl, rfl⟩
    rw [enumD_len, List.length_map]
    refine ds_after ?_
    refine ds_forW (vs := [6, 7]) ?_
    walk_at "d"
    refine ⟨o1, q, rows, w0, rfl, hr, ?_⟩
    walk_at "d"
    refine ⟨fun i m2 ρ => m2 = m' ∧ ρ = [.own (.ins pa C (fs5 (rwsD (flr rows b)) [] (mpD (rowN rows.length ++ colN i) fun n => .lst ((adjOf rows w0 b n).map ndD)) (mpD (rowN rows.length ++ colN i) fun n => .int (roomOf rows b n)) (mpD (rowN rows.length) fun n => .int (lackOf rows b n)))), .dat (rwK o1 q rows), .dat (.int b), .no, .no, .no, .no, .no, .no], ⟨_, Wk.refl _, rfl, rfl, by rw [show colN 0 = [] from rfl, List.append_nil]⟩, ?_, ?_⟩
    · rintro i d m2 ρ hd ⟨rfl, rfl⟩
      obtain ⟨x, hx, rfl⟩ := enumD_at hd
      obtain ⟨hi, rfl⟩ := colS_at hx
      refine ⟨_, dg_tup2 (by simp) (by simp), ?_⟩
      dsimp only [List.set_cons_zero, List.set_cons_succ]
      walk_at "d"
      refine de_lcMap (f := fun d => .int ((lOf d).getD i 0)) ?_
      walk_at "d"
      refine ⟨pa, C, _, _, rfl, i_Rounding.cl, i_Rounding.no _ (by simp), rfl, ?_⟩
      walk_at "d"
      refine ⟨by rw [List.length_map, flr_len]; omega, fun d hd => ⟨_, dg_name (by simp), ?_⟩, ?_⟩
      · obtain ⟨r, hr2, rfl⟩ := List.mem_map.mp hd
        walk_at "d"
        refine ops_ixQ (e := .int (r.getD i 0)) (.inl rfl) (atI_lr (by rw [flr_row hr r hr2]; exact hi)) ?_
        refine ⟨rfl, ?_⟩
        rw [lOf_lr]
        rfl
      · rw [col_list]
        walk_at "d"
        refine cb_sum (s := S.own (O.lst _)) (ns := (flr rows b).map fun r => r.getD i 0) (.inl rfl) ?_
        refine ⟨rfl, ?_⟩
        dsimp only [List.set_cons_zero, List.set_cons_succ]
        refine ds_seq ?_
        refine ds_dputF (i := 0) rfl i_Rounding.cl (i_Rounding.no _ (by simp)) rfl (by show (mpD _ _).length < 1000000; rw [mp_len]; simp [rowN, colN]; omega) ?_
        walk_at "d"
        refine ⟨colOf rows i, b, rfl, hb, hb2, ?_⟩
        walk_at "d"
        refine ⟨.int (roomOf rows b (1, i)), ndD (1, i), _, rfl, rfl, PutS.t (nk (1, i)) _, ?_⟩
        rw [col_put (f := fun n => .int (roomOf rows b n)) rfl, fs_ro]
        dsimp only [List.set_cons_zero, List.set_cons_succ]
        refine ds_dputF (i := 0) rfl i_Rounding.cl (i_Rounding.no _ (by simp)) rfl (by show (mpD _ _).length < 1000000; rw [mp_len]; simp [rowN, colN]; omega) ?_
        refine de_lcIf (f := fE 0) (t := tE2 b i) ?_
        refine di_enumS ?_
        walk_at "d"
        refine ⟨_, seq_sq _ _, ?_⟩
        refine ⟨by rw [enumD_len, List.length_map]; omega, fun d hd => ?_, ?_⟩
        · obtain ⟨j, hj⟩ := List.getElem?_of_mem hd
          obtain ⟨x, hx, rfl⟩ := enumD_at hj
          obtain ⟨hj2, rfl⟩ := rows_atQ hx
          refine ⟨_, dg_tup2 (by simp) (by simp), ?_⟩
          walk_at "d"
          refine ops_ixQ (e := .int ((rows.getD j []).getD i 0)) (sq_or _ _) (atI_lr (by rw [hr.eq _ (getD_in2 hj2)]; exact hi)) ?_
          walk_at "d"
          refine ⟨by show _ = decide ((lOf (rwQ q _)).getD i 0 % b ≠ 0); rw [lOf_q]; simp, fun _ => ?_⟩
          walk_at "d"
          rfl
        · walk_at "d"
          refine ⟨.lst ((adjOf rows w0 b (1, i)).map ndD), ndD (1, i), _, ?_, rfl, PutS.t (nk (1, i)) _, ?_⟩
          · show S.dat (D.lst _) = _
            rw [enum_adj2Q]
            rfl
          rw [col_put (f := fun n => .lst ((adjOf rows w0 b n).map ndD)) rfl, fs_ce]
          dsimp only [List.set_cons_zero, List.set_cons_succ]
          exact ⟨[.own (.ins pa C (fs5 (rwsD (flr rows b)) [] (mpD (rowN rows.length ++ colN (i + 1)) fun n => .lst ((adjOf rows w0 b n).map ndD)) (mpD (rowN rows.length ++ colN (i + 1)) fun n => .int (roomOf rows b n)) (mpD (rowN rows.length) fun n => .int (lackOf rows b n)))), .dat (rwK o1 q rows), .dat (.int b), .no, .no, .no, .no, .no, .no], by walk_at "wk", rfl, rfl, rfl⟩
    · rintro m2 ρ ⟨rfl, rfl⟩
      rw [enumD_len, List.length_map, colS_len]
      refine ds_frzF (i := 0) (f := "cells") rfl rfl ?_
      refine ds_frzF (i := 0) (f := "lack") rfl rfl ?_
      exact ds_next ⟨_, rfl, hΦ⟩
end
end Pf
set_option Elab.async false
set_option linter.all false
set_option maxRecDepth 100000
set_option maxHeartbeats 1000000
namespace Pf
open PySem PySem.Spec PyProof.Rows L2 DL
/-! ### sums -/
def sumN : Nat → (Nat → Int) → Int
  | 0, _ => 0
  | n + 1, f => sumN n f + f n
theorem sumN_congr {n : Nat} {f g : Nat → Int} (h : ∀ i, i < n → f i = g i) : sumN n f = sumN n g := by
  induction n with
  | zero => rfl
  | succ n ih => unfold sumN; rw [ih fun i hi => h i (by omega), h n (by omega)]
theorem sumN_le {n : Nat} {f g : Nat → Int} (h : ∀ i, i < n → f i ≤ g i) : sumN n f ≤ sumN n g := by
  induction n with
  | zero => exact Int.le_refl _
  | succ n ih => unfold sumN; have h1 := ih fun i hi => h i (by omega); have h2 := h n (by omega); omega
theorem sumN_zero (n : Nat) : sumN n (fun _ => 0) = 0 := by
  induction n with
  | zero => rfl
  | succ n ih => show sumN n _ + 0 = 0; rw [ih]; rfl
theorem sumN_nn {n : Nat} {f : Nat → Int} (h : ∀ i, i < n → 0 ≤ f i) : 0 ≤ sumN n f := by
  have := sumN_le (f := fun _ => 0) h
  rwa [sumN_zero] at this
theorem sumN_np {n : Nat} {f : Nat → Int} (h : ∀ i, i < n → f i ≤ 0) : sumN n f ≤ 0 := by
  have := sumN_le (g := fun _ => 0) h
  rwa [sumN_zero] at this
theorem sumN_neg {n : Nat} {f : Nat → Int} (h : ∀ i, i < n → f i ≤ 0) {j : Nat} (hj : j < n) (h0 : f j < 0) : sumN n f < 0 := by
  induction n with
  | zero => omega
  | succ n ih =>
    unfold sumN
    by_cases e : j = n
    · subst e
      have := sumN_np (n := j) fun i hi => h i (by omega)
      omega
    · have h1 := ih (fun i hi => h i (by omega)) (by omega)
      have h2 := h n (by omega)
      omega
theorem sumN_add {n : Nat} {f g : Nat → Int} : sumN n (fun i => f i + g i) = sumN n f + sumN n g := by
  induction n with
  | zero => rfl
  | succ n ih => unfold sumN; rw [ih]; show _ + (f n + g n) = _; omega
theorem sumN_sub {n : Nat} {f g : Nat → Int} : sumN n (fun i => f i - g i) = sumN n f - sumN n g := by
  induction n with
  | zero => rfl
  | succ n ih => unfold sumN; rw [ih]; show _ + (f n - g n) = _; omega
theorem sumN_mul {n : Nat} {f : Nat → Int} (b : Int) : sumN n (fun i => b * f i) = b * sumN n f := by
  induction n with
  | zero => simp [sumN]
  | succ n ih => unfold sumN; rw [ih, Int.mul_add]
theorem sumN_swap {n k : Nat} {f : Nat → Nat → Int} : sumN n (fun i => sumN k (f i)) = sumN k (fun j => sumN n fun i => f i j) := by
  induction n with
  | zero => exact (sumN_zero k).symm
  | succ n ih => show sumN n _ + sumN k (f n) = _; rw [ih, ← sumN_add]; rfl
theorem sumN_if {n : Nat} {p : Prop} [Decidable p] {f : Nat → Int} : sumN n (fun i => if p then f i else 0) = if p then sumN n f else 0 := by
  by_cases h : p
  · simp only [if_pos h]
  · simp only [if_neg h]; exact sumN_zero n
theorem sumN_one {n j : Nat} {d : Int} : sumN n (fun i => if i = j then d else 0) = if j < n then d else 0 := by
  induction n with
  | zero => simp [sumN]
  | succ n ih =>
    unfold sumN
    rw [ih]
    show _ + (if n = j then d else 0) = _
    by_cases e : n = j
    · subst e; simp
    · rw [if_neg e]
      by_cases h : j < n
      · rw [if_pos h, if_pos (by omega)]; omega
      · rw [if_neg h, if_neg (by omega)]; omega
theorem sumN_head {n : Nat} {f : Nat → Int} : sumN (n + 1) f = f 0 + sumN n fun i => f (i + 1) := by
  induction n with
  | zero => simp [sumN]
  | succ n ih => rw [show sumN (n + 1 + 1) f = sumN (n + 1) f + f (n + 1) from rfl, ih]; show _ = f 0 + (sumN n _ + f (n + 1)); omega
theorem sum_sumN : ∀ (l : List Int), l.sum = sumN l.length fun i => l.getD i 0
  | [] => rfl
  | x :: l => by
    rw [List.sum_cons, List.length_cons, sumN_head, sum_sumN l]
    rfl
theorem flow_abs {R w : Nat} {g : Nat → Nat → Int} {A B : Nat → Prop} [DecidablePred A] [DecidablePred B] {i0 : Nat} (hi : i0 < R) (a0 : A i0) (hp : ∀ i j, i < R → j < w → (if B j then g i j else 0) ≤ if A i then g i j else 0)
    (hA : ∀ i, i < R → A i → sumN w (g i) ≤ 0) (h0 : sumN w (g i0) < 0) (hB : ∀ j, j < w → B j → 0 ≤ sumN R fun i => g i j) : False := by
  have h1 : sumN R (fun i => sumN w fun j => if B j then g i j else 0) ≤ sumN R (fun i => sumN w fun j => if A i then g i j else 0) := sumN_le fun i hi => sumN_le fun j hj => hp i j hi hj
  have h2 : sumN R (fun i => sumN w fun j => if A i then g i j else 0) < 0 := by
    rw [sumN_congr fun i _ => sumN_if (n := w) (p := A i) (f := g i)]
    refine sumN_neg (fun i hi => ?_) hi (by rw [if_pos a0]; exact h0)
    by_cases h : A i
    · rw [if_pos h]; exact hA i hi h
    · rw [if_neg h]; exact Int.le_refl _
  have h3 : 0 ≤ sumN R (fun i => sumN w fun j => if B j then g i j else 0) := by
    rw [sumN_swap, sumN_congr fun j _ => sumN_if (n := R) (p := B j) (f := fun i => g i j)]
    refine sumN_nn fun j hj => ?_
    by_cases h : B j
    · rw [if_pos h]; exact hB j hj h
    · rw [if_neg h]; exact Int.le_refl _
  omega
/-! ### counts -/
def ind (p : Prop) [Decidable p] : Int := if p then 1 else 0
def cnt (R w : Nat) (ra : List Nd) (n : Nd) : Int := if n.1 = 0 then sumN w fun c => ind ((n.2, c) ∈ ra) else sumN R fun r => ind ((r, n.2) ∈ ra)
def fsN (rows : List (List Int)) (w : Nat) (b : Int) (n : Nd) : Int := if n.1 = 0 then sumN w fun c => numOf rows n.2 c % b else sumN rows.length fun r => numOf rows r n.2 % b
theorem nds_mem {rows : List (List Int)} {w : Nat} {n : Nd} : n ∈ ndsOf rows w ↔ (n.1 = 0 ∧ n.2 < rows.length) ∨ (n.1 = 1 ∧ n.2 < w) := by
  unfold ndsOf rowN colN
  rw [List.mem_append, List.mem_map, List.mem_map]
  constructor
  · rintro (⟨r, hr, rfl⟩ | ⟨r, hr, rfl⟩)
    · exact .inl ⟨rfl, List.mem_range.mp hr⟩
    · exact .inr ⟨rfl, List.mem_range.mp hr⟩
  · obtain ⟨a, c⟩ := n
    rintro (⟨h, h2⟩ | ⟨h, h2⟩)
    · exact .inl ⟨c, List.mem_range.mpr h2, by rw [show a = 0 from h]⟩
    · exact .inr ⟨c, List.mem_range.mpr h2, by rw [show a = 1 from h]⟩
/-- cells that are raised -/
structure Ed (rows : List (List Int)) (w : Nat) (b : Int) (ra : List Nd) : Prop where
  nd : ra.Nodup
  ed : ∀ x ∈ ra, x.1 < rows.length ∧ x.2 < w ∧ numOf rows x.1 x.2 % b ≠ 0
section
variable {rows : List (List Int)} {w : Nat} {b : Int} {ra : List Nd} {rm : Nd → Int} {s : Nd}
theorem adj_r {i j : Nat} (hj : j < w) (h : numOf rows i j % b ≠ 0) : ((1, j) : Nd) ∈ adjOf rows w b (0, i) := by
  unfold adjOf
  rw [if_pos rfl]
  exact List.mem_map.mpr ⟨j, List.mem_filter.mpr ⟨List.mem_range.mpr hj, by simpa using h⟩, rfl⟩
theorem adj_c {i j : Nat} (hi : i < rows.length) (h : numOf rows i j % b ≠ 0) : ((0, i) : Nd) ∈ adjOf rows w b (1, j) := by
  unfold adjOf
  rw [if_neg (show ¬ (1 : Nat) = 0 by decide)]
  exact List.mem_map.mpr ⟨i, List.mem_filter.mpr ⟨List.mem_range.mpr hi, by simpa using h⟩, rfl⟩
theorem cnt_g (n : Nd) : b * cnt rows.length w ra n - fsN rows w b n = if n.1 = 0 then sumN w fun c => b * ind ((n.2, c) ∈ ra) - numOf rows n.2 c % b else sumN rows.length fun r => b * ind ((r, n.2) ∈ ra) - numOf rows r n.2 % b := by
  unfold cnt fsN
  by_cases h : n.1 = 0
  · simp only [if_pos h]; rw [sumN_sub, sumN_mul]
  · simp only [if_neg h]; rw [sumN_sub, sumN_mul]
/-- there is a way -/
theorem no_clo (hb : 0 < b) (he : Ed rows w b ra) (hs : s ∈ ndsOf rows w) (h1 : b * cnt rows.length w ra s < fsN rows w b s) (h2 : ∀ n ∈ ndsOf rows w, n.1 = s.1 → b * cnt rows.length w ra n ≤ fsN rows w b n)
    (h3 : ∀ n ∈ ndsOf rows w, n.1 ≠ s.1 → rm n ≤ 0 → fsN rows w b n ≤ b * cnt rows.length w ra n) : ¬ Clo (ndsOf rows w) (adjOf rows w b) ra rm s := by
  rintro ⟨V, sV, hV, hc⟩
  have key : ∀ n ∈ V, n.1 ≠ s.1 → fsN rows w b n ≤ b * cnt rows.length w ra n := fun n hn h => h3 n (hV n hn).1 h ((hV n hn).2 h)
  have fr : ∀ i j : Nat, 0 ≤ numOf rows i j % b ∧ numOf rows i j % b < b := fun i j => ⟨Int.emod_nonneg _ (by omega), Int.emod_lt_of_pos _ hb⟩
  have g0 : ∀ i j : Nat, numOf rows i j % b = 0 → b * ind ((i, j) ∈ ra) - numOf rows i j % b = 0 := fun i j z => by
    have : (i, j) ∉ ra := fun y => (he.ed _ y).2.2 z
    rw [z]; unfold ind; rw [if_neg this]; omega
  have g1 : ∀ i j : Nat, (i, j) ∈ ra → 0 ≤ b * ind ((i, j) ∈ ra) - numOf rows i j % b := fun i j z => by
    have := fr i j
    unfold ind; rw [if_pos z]; omega
  have g2 : ∀ i j : Nat, (i, j) ∉ ra → b * ind ((i, j) ∈ ra) - numOf rows i j % b ≤ 0 := fun i j z => by
    have := fr i j
    unfold ind; rw [if_neg z]; omega
  rcases nds_mem.mp hs with ⟨s1, s2⟩ | ⟨s1, s2⟩
  · have es : s = (0, s.2) := by rw [← s1]
    refine flow_abs (R := rows.length) (w := w) (g := fun i j => b * ind ((i, j) ∈ ra) - numOf rows i j % b) (A := fun i => ((0, i) : Nd) ∈ V) (B := fun j => ((1, j) : Nd) ∈ V) s2 (by show (0, s.2) ∈ V; rw [← es]; exact sV) (fun i j hi hj => ?_) (fun i hi hA => ?_) ?_ fun j hj hB => ?_
    · by_cases z : numOf rows i j % b = 0
      · simp only [g0 i j z]; split <;> split <;> omega
      by_cases hA : ((0, i) : Nd) ∈ V
      · by_cases hB : ((1, j) : Nd) ∈ V
        · rw [if_pos hA, if_pos hB]; exact Int.le_refl _
        · rw [if_pos hA, if_neg hB]
          refine g1 i j (Classical.byContradiction fun nr => hB ?_)
          exact hc _ hA (1, j) ⟨adj_r hj z, by show decide ((i, j) ∈ ra) = decide ((0 : Nat) ≠ s.1); rw [s1]; simp [nr]⟩
      · by_cases hB : ((1, j) : Nd) ∈ V
        · rw [if_neg hA, if_pos hB]
          refine g2 i j fun nr => hA ?_
          exact hc _ hB (0, i) ⟨adj_c hi z, by show decide ((i, j) ∈ ra) = decide ((1 : Nat) ≠ s.1); rw [s1]; simp [nr]⟩
        · rw [if_neg hA, if_neg hB]; exact Int.le_refl _
    · have := h2 (0, i) (hV _ hA).1 s1.symm
      have e := cnt_g (rows := rows) (w := w) (b := b) (ra := ra) (0, i)
      rw [if_pos rfl] at e
      show sumN w (fun j => b * ind ((i, j) ∈ ra) - numOf rows i j % b) ≤ 0
      rw [← e]; omega
    · have e := cnt_g (rows := rows) (w := w) (b := b) (ra := ra) s
      rw [if_pos s1] at e
      show sumN w (fun j => b * ind ((s.2, j) ∈ ra) - numOf rows s.2 j % b) < 0
      rw [← e]; omega
    · have := key (1, j) hB (by show (1 : Nat) ≠ s.1; omega)
      have e := cnt_g (rows := rows) (w := w) (b := b) (ra := ra) (1, j)
      rw [if_neg (show ¬ (1 : Nat) = 0 by decide)] at e
      show 0 ≤ sumN rows.length (fun i => b * ind ((i, j) ∈ ra) - numOf rows i j % b)
      rw [← e]; omega
  · have es : s = (1, s.2) := by rw [← s1]
    have s0 : ¬ s.1 = 0 := by omega
    refine flow_abs (R := w) (w := rows.length) (g := fun j i => b * ind ((i, j) ∈ ra) - numOf rows i j % b) (A := fun i => ((1, i) : Nd) ∈ V) (B := fun j => ((0, j) : Nd) ∈ V) s2 (by show (1, s.2) ∈ V; rw [← es]; exact sV) (fun j i hj hi => ?_) (fun i hi hA => ?_) ?_ fun j hj hB => ?_
    · by_cases z : numOf rows i j % b = 0
      · simp only [g0 i j z]; split <;> split <;> omega
      by_cases hA : ((1, j) : Nd) ∈ V
      · by_cases hB : ((0, i) : Nd) ∈ V
        · rw [if_pos hA, if_pos hB]; exact Int.le_refl _
        · rw [if_pos hA, if_neg hB]
          refine g1 i j (Classical.byContradiction fun nr => hB ?_)
          exact hc _ hA (0, i) ⟨adj_c hi z, by show decide ((i, j) ∈ ra) = decide ((1 : Nat) ≠ s.1); rw [s1]; simp [nr]⟩
      · by_cases hB : ((0, i) : Nd) ∈ V
        · rw [if_neg hA, if_pos hB]
          refine g2 i j fun nr => hA ?_
          exact hc _ hB (1, j) ⟨adj_r hj z, by show decide ((i, j) ∈ ra) = decide ((0 : Nat) ≠ s.1); rw [s1]; simp [nr]⟩
        · rw [if_neg hA, if_neg hB]; exact Int.le_refl _
    · have := h2 (1, i) (hV _ hA).1 s1.symm
      have e := cnt_g (rows := rows) (w := w) (b := b) (ra := ra) (1, i)
      rw [if_neg (show ¬ (1 : Nat) = 0 by decide)] at e
      show sumN rows.length (fun j => b * ind ((j, i) ∈ ra) - numOf rows j i % b) ≤ 0
      rw [← e]; omega
    · have e := cnt_g (rows := rows) (w := w) (b := b) (ra := ra) s
      rw [if_neg s0] at e
      show sumN rows.length (fun j => b * ind ((j, s.2) ∈ ra) - numOf rows j s.2 % b) < 0
      rw [← e]; omega
    · have := key (0, j) hB (by show (0 : Nat) ≠ s.1; omega)
      have e := cnt_g (rows := rows) (w := w) (b := b) (ra := ra) (0, j)
      rw [if_pos rfl] at e
      show 0 ≤ sumN w (fun i => b * ind ((j, i) ∈ ra) - numOf rows j i % b)
      rw [← e]; omega
end
end Pf
set_option Elab.async false
set_option linter.all false
set_option maxRecDepth 100000
set_option maxHeartbeats 1000000
namespace Pf
open PySem PySem.Spec PyProof.Rows L2 DL
theorem mem_tgl {ra : List Nd} {c x : Nd} : x ∈ tgl ra c ↔ if x = c then c ∉ ra else x ∈ ra := by
  unfold tgl
  by_cases h : c ∈ ra
  · rw [if_pos h, List.mem_filter]
    by_cases e : x = c
    · rw [if_pos e]; simp [e, h]
    · rw [if_neg e]; simp [e]
  · rw [if_neg h, List.mem_append]
    by_cases e : x = c
    · rw [if_pos e]; simp [e, h]
    · rw [if_neg e]; simp [e]
theorem ind_tgl {ra : List Nd} {c x : Nd} : ind (x ∈ tgl ra c) = ind (x ∈ ra) + if x = c then (if c ∈ ra then -1 else 1) else 0 := by
  unfold ind
  by_cases e : x = c
  · subst e
    rw [if_pos rfl]
    by_cases h : x ∈ ra
    · have : x ∉ tgl ra x := fun z => by rw [mem_tgl, if_pos rfl] at z; exact z h
      simp [this, h]
    · have : x ∈ tgl ra x := by rw [mem_tgl, if_pos rfl]; exact h
      simp [this, h]
  · rw [if_neg e]
    by_cases h : x ∈ ra
    · have : x ∈ tgl ra c := by rw [mem_tgl, if_neg e]; exact h
      simp [this, h]
    · have : x ∉ tgl ra c := fun z => by rw [mem_tgl, if_neg e] at z; exact h z
      simp [this, h]
theorem cnt_tgl {R w i j : Nat} {ra : List Nd} (hi : i < R) (hj : j < w) {n : Nd} (hn : n.1 = 0 ∨ n.1 = 1) :
    cnt R w (tgl ra (i, j)) n = cnt R w ra n + (if (i, j) ∈ ra then -1 else 1) * (ind (n = (0, i)) + ind (n = (1, j))) := by
  obtain ⟨a, k⟩ := n
  rcases hn with h | h
  · obtain rfl : a = 0 := h
    unfold cnt
    rw [if_pos rfl, if_pos rfl]
    have e : ∀ c, ind ((k, c) ∈ tgl ra (i, j)) = ind ((k, c) ∈ ra) + if c = j then (if k = i then (if (i, j) ∈ ra then -1 else 1) else 0) else 0 := fun c => by
      rw [ind_tgl]
      congr 1
      by_cases z : c = j
      · subst z
        by_cases y : k = i
        · subst y; simp
        · simp [y]
      · simp [z]
    rw [sumN_congr fun c _ => e c, sumN_add, sumN_one, if_pos hj]
    congr 1
    have e2 : ind (((0, k) : Nd) = (1, j)) = 0 := by simp [ind]
    rw [e2]
    unfold ind
    by_cases y : k = i
    · subst y; simp
    · simp [y]
  · obtain rfl : a = 1 := h
    unfold cnt
    rw [if_neg (show ¬ (1 : Nat) = 0 by decide), if_neg (show ¬ (1 : Nat) = 0 by decide)]
    have e : ∀ c, ind ((c, k) ∈ tgl ra (i, j)) = ind ((c, k) ∈ ra) + if c = i then (if k = j then (if (i, j) ∈ ra then -1 else 1) else 0) else 0 := fun c => by
      rw [ind_tgl]
      congr 1
      by_cases z : c = i
      · subst z
        by_cases y : k = j
        · subst y; simp
        · simp [y]
      · simp [z]
    rw [sumN_congr fun c _ => e c, sumN_add, sumN_one, if_pos hi]
    congr 1
    have e2 : ind (((1, k) : Nd) = (0, i)) = 0 := by simp [ind]
    rw [e2]
    unfold ind
    by_cases y : k = j
    · subst y; simp
    · simp [y]
theorem zip_snoc {α : Type} : ∀ (l : List α) (n o : α), (l ++ [n] ++ [o]).zip (l ++ [n] ++ [o]).tail = (l ++ [n]).zip (l ++ [n]).tail ++ [(n, o)]
  | [], n, o => rfl
  | [x], n, o => rfl
  | x :: y :: l, n, o => by
    have := zip_snoc (y :: l) n o
    simp only [List.cons_append, List.tail_cons, List.zip_cons_cons] at this ⊢
    rw [this]
theorem tglW_snoc (l : List Nd) (n o : Nd) (ra : List Nd) : tglW (l ++ [n] ++ [o]) ra = tgl (tglW (l ++ [n]) ra) (cellOf n o) := by
  unfold tglW
  rw [zip_snoc, List.foldl_append]
  rfl
theorem last_eq {α : Type} {p q : List α} {a b : α} (h : p ++ [a] = q ++ [b]) : a = b := by
  have := congrArg List.getLast? h
  simpa using this
section
variable {rows : List (List Int)} {w : Nat} {b : Int} {ra : List Nd} {rm : Nd → Int} {s : Nd}
theorem adj_cases {n o : Nd} (hn : n ∈ ndsOf rows w) (ho : o ∈ adjOf rows w b n) : ∃ i j, i < rows.length ∧ j < w ∧ numOf rows i j % b ≠ 0 ∧ cellOf n o = (i, j) ∧ ((n = (0, i) ∧ o = (1, j)) ∨ (n = (1, j) ∧ o = (0, i))) := by
  obtain ⟨a, k⟩ := n
  rcases nds_mem.mp hn with ⟨h, hk⟩ | ⟨h, hk⟩
  · obtain rfl : a = 0 := h
    unfold adjOf at ho
    rw [if_pos rfl] at ho
    obtain ⟨j, hj, rfl⟩ := List.mem_map.mp ho
    obtain ⟨h1, h2⟩ := List.mem_filter.mp hj
    exact ⟨k, j, hk, List.mem_range.mp h1, by simpa using h2, rfl, .inl ⟨rfl, rfl⟩⟩
  · obtain rfl : a = 1 := h
    unfold adjOf at ho
    rw [if_neg (by simp)] at ho
    obtain ⟨i, hj, rfl⟩ := List.mem_map.mp ho
    obtain ⟨h1, h2⟩ := List.mem_filter.mp hj
    exact ⟨i, k, List.mem_range.mp h1, hk, by simpa using h2, rfl, .inr ⟨rfl, rfl⟩⟩
theorem Ed.tgl {i j : Nat} (h : Ed rows w b ra) (hi : i < rows.length) (hj : j < w) (hf : numOf rows i j % b ≠ 0) : Ed rows w b (tgl ra (i, j)) := by
  refine ⟨?_, fun x hx => ?_⟩
  · unfold Pf.tgl
    split
    · exact h.nd.sublist List.filter_sublist
    · rename_i hn
      rw [List.nodup_append]
      refine ⟨h.nd, by simp, fun a ha c hc => ?_⟩
      rw [List.mem_singleton] at hc
      subst hc
      exact fun z => hn (z ▸ ha)
  · rw [mem_tgl] at hx
    by_cases e : x = (i, j)
    · subst e; exact ⟨hi, hj, hf⟩
    · rw [if_neg e] at hx; exact h.ed x hx
theorem way_tgl (he : Ed rows w b ra) (hs : s ∈ ndsOf rows w) {q : List Nd} (h : Way (adjOf rows w b) ra s q) : (∀ x ∈ q, x ∈ ndsOf rows w) →
    Ed rows w b (tglW q ra) ∧ (∀ n o : Nd, n.1 + o.1 = 1 → o ∉ q → (cellOf n o ∈ tglW q ra ↔ cellOf n o ∈ ra)) ∧
      ∀ p e, q = p ++ [e] → ∀ x ∈ ndsOf rows w, cnt rows.length w (tglW q ra) x = cnt rows.length w ra x + ind (x = s) + if e.1 ≠ s.1 then ind (x = e) else - ind (x = e) := by
  induction h with
  | one =>
    intro _
    refine ⟨he, fun _ _ _ _ => Iff.rfl, fun p e h x _ => ?_⟩
    obtain rfl : s = e := last_eq (p := []) h
    rw [if_neg (by simp)]
    show cnt _ _ ra x = _
    omega
  | @snoc p n o hw ha no ih =>
    intro hq
    obtain ⟨h1, h2, h3⟩ := ih fun x hx => hq x (List.mem_append_left _ hx)
    have hn : n ∈ ndsOf rows w := hq n (by simp)
    obtain ⟨i, j, hi, hj, hf, ec, hno⟩ := adj_cases hn ha.1
    have mem : cellOf n o ∈ tglW (p ++ [n]) ra ↔ cellOf n o ∈ ra := h2 n o (by rcases hno with ⟨rfl, rfl⟩ | ⟨rfl, rfl⟩ <;> rfl) no
    have al := ha.2
    rw [tglW_snoc]
    rw [ec] at mem al ⊢
    refine ⟨h1.tgl hi hj hf, fun n' o' hno' ho' => ?_, fun p2 e hp x hx => ?_⟩
    · have o1 : o' ∉ p ++ [n] := fun z => ho' (List.mem_append_left _ z)
      have o2 : o' ≠ o := fun z => ho' (by rw [z]; simp)
      have o3 : o' ≠ n := fun z => o1 (by rw [z]; simp)
      have ne : cellOf n' o' ≠ (i, j) := fun z => by
        obtain ⟨na, nb⟩ := n'
        obtain ⟨oa, ob⟩ := o'
        unfold cellOf at z
        by_cases y : na = 0
        · subst y
          rw [if_pos rfl] at z
          injection z with z1 z2
          have : oa = 1 := by simpa using hno'
          subst this
          have z2 : ob = j := z2
          subst z2
          rcases hno with ⟨rfl, rfl⟩ | ⟨rfl, rfl⟩
          · exact o2 rfl
          · exact o3 rfl
        · rw [if_neg y] at z
          injection z with z1 z2
          have : oa = 0 := by have : na + oa = 1 := hno'; omega
          subst this
          have z1 : ob = i := z1
          subst z1
          rcases hno with ⟨rfl, rfl⟩ | ⟨rfl, rfl⟩
          · exact o3 rfl
          · exact o2 rfl
      rw [mem_tgl, if_neg ne]
      exact h2 n' o' hno' o1
    · obtain rfl : o = e := last_eq hp
      have sx : x.1 = 0 ∨ x.1 = 1 := by rcases nds_mem.mp hx with h | h <;> simp [h.1]
      have ss : s.1 = 0 ∨ s.1 = 1 := by rcases nds_mem.mp hs with h | h <;> simp [h.1]
      rw [cnt_tgl hi hj sx, h3 p n rfl x hx]
      have e1 : ind (x = (0, i)) + ind (x = (1, j)) = ind (x = n) + ind (x = o) := by
        rcases hno with ⟨rfl, rfl⟩ | ⟨rfl, rfl⟩ <;> omega
      rw [e1]
      have s1 : n.1 + o.1 = 1 := by rcases hno with ⟨rfl, rfl⟩ | ⟨rfl, rfl⟩ <;> rfl
      by_cases y : n.1 ≠ s.1
      · have m1 : (i, j) ∈ ra := by simpa [y] using al
        rw [if_pos y, if_pos (mem.mpr m1), if_neg (show ¬ o.1 ≠ s.1 by omega)]
        omega
      · have m1 : (i, j) ∉ ra := by simpa [y] using al
        rw [if_neg y, if_neg (fun z => m1 (mem.mp z)), if_pos (show o.1 ≠ s.1 by omega)]
        omega
/-- what stays true -/
structure Iv (rows : List (List Int)) (w : Nat) (b : Int) (ra : List Nd) (rm : Nd → Int) : Prop where
  ed : Ed rows w b ra
  rme : ∀ n ∈ ndsOf rows w, rm n = roomOf rows b n - cnt rows.length w ra n
  nn : ∀ n ∈ ndsOf rows w, 0 ≤ rm n
theorem less_ind (n x : Nd) : less rm n x = rm x - ind (x = n) := by
  unfold less ind
  split <;> omega
theorem Iv.step (hI : Iv rows w b ra rm) (hs : s ∈ ndsOf rows w) {p : List Nd} {e : Nd} (h : Way (adjOf rows w b) ra s (p ++ [e])) (hq : ∀ x ∈ p ++ [e], x ∈ ndsOf rows w) (he : e.1 ≠ s.1) (h0 : 0 < rm s) (h1 : 0 < rm e) :
    Iv rows w b (tglW (p ++ [e]) ra) (less (less rm s) e) ∧ ∀ x ∈ ndsOf rows w, cnt rows.length w (tglW (p ++ [e]) ra) x = cnt rows.length w ra x + ind (x = s) + ind (x = e) := by
  obtain ⟨a, _, c⟩ := way_tgl hI.ed hs h hq
  have c2 : ∀ x ∈ ndsOf rows w, cnt rows.length w (tglW (p ++ [e]) ra) x = cnt rows.length w ra x + ind (x = s) + ind (x = e) := fun x hx => by
    rw [c p e rfl x hx, if_pos he]
  have se : s ≠ e := fun z => he (by rw [z])
  refine ⟨⟨a, fun n hn => ?_, fun n hn => ?_⟩, c2⟩
  · rw [less_ind, less_ind, hI.rme n hn, c2 n hn]
    omega
  · rw [less_ind, less_ind]
    have := hI.nn n hn
    unfold ind
    by_cases y : n = e
    · subst y
      rw [if_pos rfl, if_neg (Ne.symm se)]
      omega
    · rw [if_neg y]
      by_cases z : n = s
      · subst z; rw [if_pos rfl]; omega
      · rw [if_neg z]; omega
theorem nodup_sub {α : Type} [DecidableEq α] : ∀ (l m : List α), l.Nodup → (∀ x ∈ l, x ∈ m) → l.length ≤ m.length
  | [], _, _, _ => Nat.zero_le _
  | a :: l, m, h, k => by
    obtain ⟨h1, h2⟩ := List.nodup_cons.mp h
    have hm := k a List.mem_cons_self
    have := nodup_sub l (m.erase a) h2 fun x hx => (List.mem_erase_of_ne (fun z => h1 (by rw [← z]; exact hx))).mpr (k x (List.mem_cons_of_mem _ hx))
    rw [List.length_erase_of_mem hm] at this
    have : 0 < m.length := List.length_pos_of_mem hm
    rw [List.length_cons]
    omega
theorem prod_len {α β γ : Type} (f : α → β → γ) (l : List α) (k : List β) : (l.flatMap fun x => k.map (f x)).length = l.length * k.length := by
  induction l with
  | nil => simp
  | cons a l ih => rw [List.flatMap_cons, List.length_append, ih, List.length_map, List.length_cons, Nat.add_mul, Nat.one_mul, Nat.add_comm]
theorem Ed.len (h : Ed rows w b ra) : ra.length ≤ rows.length * w := by
  have := nodup_sub ra ((List.range rows.length).flatMap fun i => (List.range w).map fun j => (i, j)) h.nd fun x hx => by
    obtain ⟨h1, h2, _⟩ := h.ed x hx
    exact List.mem_flatMap.mpr ⟨x.1, List.mem_range.mpr h1, List.mem_map.mpr ⟨x.2, List.mem_range.mpr h2, rfl⟩⟩
  rwa [prod_len, List.length_range, List.length_range] at this
theorem grOf (hr : Rc rows w) : Gr (ndsOf rows w) (adjOf rows w b) := by
  have l1 := hr.l1
  have lw := hr.lw
  refine ⟨?_, fun n hn => ?_, fun n hn o ho => ?_, fun n hn o ho => ?_, fun n hn => ?_, ?_, fun n hn => ?_⟩
  · unfold ndsOf rowN colN
    rw [List.nodup_append]
    have nm : ∀ (k m : Nat), ((List.range m).map fun c => ((k, c) : Nd)).Nodup := fun k m => by
      rw [List.Nodup, List.pairwise_map]
      exact (List.nodup_range (n := m)).imp fun {a b} h z => h (by injection z)
    refine ⟨nm 0 _, nm 1 _, fun a ha c hc => ?_⟩
    obtain ⟨i, _, rfl⟩ := List.mem_map.mp ha
    obtain ⟨j, _, rfl⟩ := List.mem_map.mp hc
    simp
  · rcases nds_mem.mp hn with h | h <;> simp [h.1]
  · obtain ⟨i, j, hi, hj, hf, _, ⟨rfl, rfl⟩ | ⟨rfl, rfl⟩⟩ := adj_cases hn ho
    · exact ⟨nds_mem.mpr (.inr ⟨rfl, hj⟩), rfl⟩
    · exact ⟨nds_mem.mpr (.inl ⟨rfl, hi⟩), rfl⟩
  · obtain ⟨i, j, hi, hj, hf, _, ⟨rfl, rfl⟩ | ⟨rfl, rfl⟩⟩ := adj_cases hn ho
    · exact adj_c hi hf
    · exact adj_r hj hf
  · unfold adjOf
    split
    · rw [List.Nodup, List.pairwise_map]
      exact ((List.nodup_range (n := w)).sublist List.filter_sublist).imp fun {a b} h z => h (by injection z)
    · rw [List.Nodup, List.pairwise_map]
      exact ((List.nodup_range (n := rows.length)).sublist List.filter_sublist).imp fun {a b} h z => h (by injection z)
  · unfold ndsOf rowN colN
    simp
    omega
  · unfold adjOf
    split
    · rw [List.length_map]
      have := List.length_filter_le (fun c => decide (numOf rows n.2 c % b ≠ 0)) (List.range w)
      rw [List.length_range] at this
      omega
    · rw [List.length_map]
      have := List.length_filter_le (fun r => decide (numOf rows r n.2 % b ≠ 0)) (List.range rows.length)
      rw [List.length_range] at this
      omega
end
end Pf
set_option Elab.async false
set_option linter.all false
set_option maxRecDepth 100000
set_option maxHeartbeats 1000000
namespace Pf
open PySem PySem.Spec PyProof.Rows L2 DL
section
variable {rows : List (List Int)} {w : Nat} {b : Int} {ra : List Nd} {rm : Nd → Int} {s : Nd}
theorem row_sum (hr : Rc rows w) {r : Nat} (h : r < rows.length) : (rows.getD r []).sum = sumN w fun c => numOf rows r c := by
  rw [sum_sumN, hr.eq _ (getD_in2 h)]
  rfl
theorem flr_num {r c : Nat} (hr : Rc rows w) (h : r < rows.length) (hc : c < w) : numOf (flr rows b) r c = numOf rows r c / b := by
  unfold numOf
  rw [flr_at h]
  have := hr.eq _ (getD_in2 h)
  generalize rows.getD r [] = l at this
  rw [List.getD_eq_getElem?_getD, List.getD_eq_getElem?_getD, List.getElem?_map, List.getElem?_eq_getElem (by omega)]
  rfl
theorem flr_sum (hr : Rc rows w) {r : Nat} (h : r < rows.length) : ((flr rows b).getD r []).sum = sumN w fun c => numOf rows r c / b := by
  rw [sum_sumN, flr_at h, List.length_map, hr.eq _ (getD_in2 h)]
  refine sumN_congr fun c hc => ?_
  rw [← flr_num hr h hc]
  unfold numOf
  rw [flr_at h]
theorem col_sumN (rows : List (List Int)) (c : Nat) : colOf rows c = sumN rows.length fun r => numOf rows r c := by
  unfold colOf
  rw [sum_sumN, List.length_map]
  refine sumN_congr fun r hr => ?_
  unfold numOf
  have e : rows.getD r [] = rows[r] := by rw [List.getD_eq_getElem?_getD, List.getElem?_eq_getElem hr]; rfl
  rw [e, List.getD_eq_getElem?_getD, List.getElem?_map, List.getElem?_eq_getElem hr]
  rfl
theorem col_flr (hr : Rc rows w) {c : Nat} (hc : c < w) : colOf (flr rows b) c = sumN rows.length fun r => numOf rows r c / b := by
  rw [col_sumN, flr_len]
  exact sumN_congr fun r h => flr_num hr h hc
theorem fs_row (hr : Rc rows w) {r : Nat} (h : r < rows.length) : fsN rows w b (0, r) = (rows.getD r []).sum - b * ((flr rows b).getD r []).sum := by
  unfold fsN
  rw [if_pos rfl, row_sum hr h, flr_sum hr h, ← sumN_mul, ← sumN_sub]
  exact sumN_congr fun c _ => Int.emod_def _ _
theorem fs_col (hr : Rc rows w) {c : Nat} (h : c < w) : fsN rows w b (1, c) = colOf rows c - b * colOf (flr rows b) c := by
  unfold fsN
  rw [if_neg (by simp), col_sumN, col_flr hr h, ← sumN_mul, ← sumN_sub]
  exact sumN_congr fun r _ => Int.emod_def _ _
theorem fs_nn (hb : 0 < b) (n : Nd) : 0 ≤ fsN rows w b n := by
  unfold fsN
  split <;> exact sumN_nn fun i _ => Int.emod_nonneg _ (by omega)
theorem le1 (hr : Rc rows w) (hb : 0 < b) {r : Nat} (h : r < rows.length) : b * lackOf rows b (0, r) ≤ fsN rows w b (0, r) := by
  rw [fs_row hr h]
  show b * ((rows.getD r []).sum / b - _) ≤ _
  rw [Int.mul_sub]
  have := Int.emod_nonneg (rows.getD r []).sum (show b ≠ 0 by omega)
  rw [Int.emod_def] at this
  show _ - b * ((flr rows b).getD r []).sum ≤ _
  omega
theorem le2 (hr : Rc rows w) (hb : 0 < b) {r : Nat} (h : r < rows.length) : fsN rows w b (0, r) ≤ b * roomOf rows b (0, r) := by
  rw [fs_row hr h]
  unfold roomOf
  rw [if_pos rfl, Int.mul_sub]
  have := Int.emod_lt_of_pos ((rows.getD r []).sum + b - 1) hb
  rw [Int.emod_def] at this
  show _ ≤ b * (((rows.getD r []).sum + b - 1) / b) - b * ((flr rows b).getD r []).sum
  omega
theorem le3 (hr : Rc rows w) {c : Nat} (h : c < w) (hw : colOf rows c % b = 0) : fsN rows w b (1, c) = b * roomOf rows b (1, c) := by
  rw [fs_col hr h]
  unfold roomOf
  rw [if_neg (by simp), Int.mul_sub]
  rw [Int.emod_def] at hw
  show _ = b * (colOf rows c / b) - b * colOf (flr rows b) c
  omega
theorem mul_nn {b x : Int} (hb : 0 < b) (h : 0 ≤ b * x) : 0 ≤ x := by
  rcases Int.lt_or_le x 0 with z | z
  · have := Int.mul_neg_of_pos_of_neg hb z; omega
  · exact z
theorem lack_nn (hr : Rc rows w) (hb : 0 < b) {r : Nat} (h : r < rows.length) : 0 ≤ lackOf rows b (0, r) := by
  have h1 := fs_nn (rows := rows) (w := w) hb (0, r)
  rw [fs_row hr h] at h1
  have h2 : ((flr rows b).getD r []).sum ≤ (rows.getD r []).sum / b := Int.le_ediv_of_mul_le hb (by rw [Int.mul_comm]; omega)
  show 0 ≤ (rows.getD r []).sum / b - ((flr rows b).getD r []).sum
  omega
theorem ceil2 (hb : 0 < b) (x : Int) : x / b ≤ (x + b - 1) / b ∧ (x + b - 1) / b ≤ x / b + 1 := by
  refine ⟨Int.ediv_le_ediv hb (by omega), ?_⟩
  have : x / b + 1 = (x + b) / b := by rw [Int.add_ediv_of_dvd_right (Int.dvd_refl b), Int.ediv_self (by omega)]
  rw [this]
  exact Int.ediv_le_ediv hb (by omega)
theorem lack_room (hb : 0 < b) (r : Nat) : lackOf rows b (0, r) ≤ roomOf rows b (0, r) := by
  have := (ceil2 hb (rows.getD r []).sum).1
  show (rows.getD r []).sum / b - _ ≤ ((rows.getD r []).sum + b - 1) / b - _
  show _ - ((flr rows b).getD r []).sum ≤ _ - ((flr rows b).getD r []).sum
  omega
/-- all columns are whole -/
def Whl (rows : List (List Int)) (w : Nat) (b : Int) : Prop := ∀ c, c < w → colOf rows c % b = 0
theorem Iv.init (hr : Rc rows w) (hb : 0 < b) (hw : Whl rows w b) : Iv rows w b [] (roomOf rows b) ∧ ∀ n, cnt rows.length w [] n = 0 := by
  have c0 : ∀ n, cnt rows.length w [] n = 0 := fun n => by
    unfold cnt
    have e : ∀ x : Nd, ind (x ∈ ([] : List Nd)) = 0 := fun x => by simp [ind]
    split
    · rw [sumN_congr fun c _ => e _]; exact sumN_zero _
    · rw [sumN_congr fun c _ => e _]; exact sumN_zero _
  refine ⟨⟨⟨List.nodup_nil, fun x hx => by cases hx⟩, fun n _ => by rw [c0 n]; omega, fun n hn => ?_⟩, c0⟩
  obtain ⟨a, k⟩ := n
  rcases nds_mem.mp hn with ⟨h, hk⟩ | ⟨h, hk⟩
  · obtain rfl : a = 0 := h
    have h1 : 0 ≤ lackOf rows b (0, k) := lack_nn hr hb hk
    have := lack_room (rows := rows) hb k
    omega
  · obtain rfl : a = 1 := h
    have h1 := fs_nn (rows := rows) (w := w) hb (1, k)
    rw [le3 hr hk (hw k hk)] at h1
    exact mul_nn hb h1
/-- rows are begun -/
structure P1 (rows : List (List Int)) (w : Nat) (b : Int) (i : Nat) (k : Int) (ra : List Nd) (rm : Nd → Int) : Prop where
  iv : Iv rows w b ra rm
  ct : ∀ r, r < rows.length → cnt rows.length w ra (0, r) = if r < i then lackOf rows b (0, r) else if r = i then k else 0
theorem P1.init (hr : Rc rows w) (hb : 0 < b) (hw : Whl rows w b) : P1 rows w b 0 0 [] (roomOf rows b) := by
  obtain ⟨a, c⟩ := Iv.init hr hb hw
  exact ⟨a, fun r _ => by rw [c]; simp⟩
theorem P1.next {i : Nat} (h : P1 rows w b i (lackOf rows b (0, i)) ra rm) : P1 rows w b (i + 1) 0 ra rm := by
  refine ⟨h.iv, fun r hr => ?_⟩
  rw [h.ct r hr]
  by_cases e : r < i
  · rw [if_pos e, if_pos (by omega)]
  · rw [if_neg e]
    by_cases e2 : r = i
    · subst e2; simp
    · rw [if_neg e2, if_neg (by omega)]; simp
theorem row_in {i : Nat} (hi : i < rows.length) : ((0, i) : Nd) ∈ ndsOf rows w := nds_mem.mpr (.inl ⟨rfl, hi⟩)
theorem col_in {i : Nat} (hi : i < w) : ((1, i) : Nd) ∈ ndsOf rows w := nds_mem.mpr (.inr ⟨rfl, hi⟩)
theorem P1.clo (hr : Rc rows w) (hb : 0 < b) (hw : Whl rows w b) {i : Nat} {k : Int} (h : P1 rows w b i k ra rm) (hi : i < rows.length) (hk0 : 0 ≤ k) (hk : k < lackOf rows b (0, i)) : ¬ Clo (ndsOf rows w) (adjOf rows w b) ra rm (0, i) := by
  have ci : cnt rows.length w ra (0, i) = k := by rw [h.ct i hi]; simp
  refine no_clo hb h.iv.ed (row_in hi) ?_ (fun n hn e => ?_) fun n hn e hz => ?_
  · rw [ci]
    have h1 := le1 hr hb hi
    have h2 := Int.mul_lt_mul_of_pos_left hk hb
    omega
  · obtain ⟨a, r⟩ := n
    obtain rfl : a = 0 := e
    have hr2 : r < rows.length := by rcases nds_mem.mp hn with ⟨_, z⟩ | ⟨z, _⟩; exact z; cases z
    have h1 := le1 hr hb hr2
    have h3 : cnt rows.length w ra (0, r) ≤ lackOf rows b (0, r) := by
      rw [h.ct r hr2]
      have := lack_nn hr hb hr2
      by_cases e1 : r < i
      · rw [if_pos e1]; exact Int.le_refl _
      · rw [if_neg e1]
        by_cases e2 : r = i
        · subst e2; rw [if_pos rfl]; omega
        · rw [if_neg e2]; exact this
    have h2 := Int.mul_le_mul_of_nonneg_left h3 (show 0 ≤ b by omega)
    omega
  · obtain ⟨a, c⟩ := n
    rcases nds_mem.mp hn with ⟨z, _⟩ | ⟨z, hc⟩
    · exact absurd z e
    obtain rfl : a = 1 := z
    have hc : c < w := hc
    rw [le3 hr hc (hw c hc)]
    have h1 := h.iv.rme _ hn
    exact Int.mul_le_mul_of_nonneg_left (by omega) (by omega)
theorem P1.room (hb : 0 < b) {i : Nat} {k : Int} (h : P1 rows w b i k ra rm) (hi : i < rows.length) (hk : k < lackOf rows b (0, i)) : 0 < rm (0, i) := by
  rw [h.iv.rme _ (row_in hi), h.ct i hi]
  have := lack_room (rows := rows) hb i
  simp
  omega
theorem P1.step (hb : 0 < b) {i : Nat} {k : Int} (h : P1 rows w b i k ra rm) (hi : i < rows.length) (hk : k < lackOf rows b (0, i)) {p : List Nd} {e : Nd}
    (hW : Way (adjOf rows w b) ra (0, i) (p ++ [e])) (hq : ∀ x ∈ p ++ [e], x ∈ ndsOf rows w) (he : e.1 ≠ 0) (h1 : 0 < rm e) : P1 rows w b i (k + 1) (tglW (p ++ [e]) ra) (less (less rm (0, i)) e) := by
  obtain ⟨a, c⟩ := h.iv.step (row_in hi) hW hq he (h.room hb hi hk) h1
  refine ⟨a, fun r hr => ?_⟩
  rw [c _ (row_in hr), h.ct r hr]
  have e0 : ind (((0, r) : Nd) = e) = 0 := by
    unfold ind
    rw [if_neg fun z => he (by rw [← z])]
  rw [e0]
  unfold ind
  by_cases e1 : r < i
  · have : ¬ ((0, r) : Nd) = (0, i) := fun z => by injection z with _ z; omega
    rw [if_pos e1, if_pos e1, if_neg this]; omega
  · rw [if_neg e1, if_neg e1]
    by_cases e2 : r = i
    · subst e2; simp
    · have : ¬ ((0, r) : Nd) = (0, i) := fun z => by injection z with _ z; exact e2 z
      rw [if_neg e2, if_neg e2, if_neg this]; omega
/-- columns are filled -/
structure P2 (rows : List (List Int)) (w : Nat) (b : Int) (i : Nat) (ra : List Nd) (rm : Nd → Int) : Prop where
  iv : Iv rows w b ra rm
  ct : ∀ r, r < rows.length → lackOf rows b (0, r) ≤ cnt rows.length w ra (0, r)
  dn : ∀ c, c < i → c < w → rm (1, c) = 0
theorem P1.done {k : Int} (h : P1 rows w b rows.length k ra rm) : P2 rows w b 0 ra rm :=
  ⟨h.iv, fun r hr => by rw [h.ct r hr, if_pos hr]; exact Int.le_refl _, fun c hc => by omega⟩
theorem P2.clo (hr : Rc rows w) (hb : 0 < b) (hw : Whl rows w b) {i : Nat} (h : P2 rows w b i ra rm) (hi : i < w) (h0 : 0 < rm (1, i)) : ¬ Clo (ndsOf rows w) (adjOf rows w b) ra rm (1, i) := by
  refine no_clo hb h.iv.ed (col_in hi) ?_ (fun n hn e => ?_) fun n hn e hz => ?_
  · rw [le3 hr hi (hw i hi)]
    have := h.iv.rme _ (col_in hi)
    exact Int.mul_lt_mul_of_pos_left (by omega) hb
  · obtain ⟨a, c⟩ := n
    obtain rfl : a = 1 := e
    have hc : c < w := by rcases nds_mem.mp hn with ⟨z, _⟩ | ⟨_, z⟩; cases z; exact z
    rw [le3 hr hc (hw c hc)]
    have h1 := h.iv.rme _ hn
    have h2 := h.iv.nn _ hn
    exact Int.mul_le_mul_of_nonneg_left (by omega) (by omega)
  · obtain ⟨a, r⟩ := n
    rcases nds_mem.mp hn with ⟨z, hc⟩ | ⟨z, _⟩
    · obtain rfl : a = 0 := z
      have hc : r < rows.length := hc
      have h1 := h.iv.rme _ hn
      have h2 := le2 hr hb hc
      have h3 := Int.mul_le_mul_of_nonneg_left (show roomOf rows b (0, r) ≤ cnt rows.length w ra (0, r) by omega) (show 0 ≤ b by omega)
      omega
    · exact absurd z e
theorem P2.step {i : Nat} (h : P2 rows w b i ra rm) (hi : i < w) (h0 : 0 < rm (1, i)) {p : List Nd} {e : Nd}
    (hW : Way (adjOf rows w b) ra (1, i) (p ++ [e])) (hq : ∀ x ∈ p ++ [e], x ∈ ndsOf rows w) (he : e.1 ≠ 1) (h1 : 0 < rm e) : P2 rows w b i (tglW (p ++ [e]) ra) (less (less rm (1, i)) e) ∧ less (less rm (1, i)) e (1, i) = rm (1, i) - 1 := by
  obtain ⟨a, c⟩ := h.iv.step (col_in hi) hW hq he h0 h1
  have e0 : ∀ c, ind (((1, c) : Nd) = e) = 0 := fun c => by
    unfold ind
    rw [if_neg fun z => he (by rw [← z])]
  refine ⟨⟨a, fun r hr => ?_, fun c hc hc2 => ?_⟩, ?_⟩
  · rw [c _ (row_in hr)]
    have := h.ct r hr
    unfold ind
    split <;> split <;> omega
  · rw [less_ind, less_ind, e0, h.dn c hc hc2]
    have : ¬ ((1, c) : Nd) = (1, i) := fun z => by injection z with _ z; omega
    unfold ind
    rw [if_neg this]
    rfl
  · rw [less_ind, less_ind, e0]
    unfold ind
    simp
theorem P2.next {i : Nat} (h : P2 rows w b i ra rm) (h0 : ¬ 0 < rm (1, i)) : P2 rows w b (i + 1) ra rm :=
  ⟨h.iv, h.ct, fun c hc hw => by
    by_cases e : c = i
    · subst e
      have := h.iv.nn _ (col_in (rows := rows) hw)
      omega
    · exact h.dn c (by omega) hw⟩
/-- what is dealt -/
def dlt (rows : List (List Int)) (b : Int) (ra : List Nd) : List (List Int) := (List.range rows.length).map fun r => (List.range (rows.getD r []).length).map fun c => numOf rows r c / b + ind ((r, c) ∈ ra)
structure Dl (rows : List (List Int)) (w : Nat) (b : Int) (gv : List (List Int)) : Prop where
  l : gv.map List.length = rows.map List.length
  e : ∀ r, r < rows.length → ∀ c, c < w → numOf gv r c = numOf rows r c / b ∨ numOf gv r c = (numOf rows r c + b - 1) / b
  r : ∀ r, r < rows.length → (gv.getD r []).sum = (rows.getD r []).sum / b ∨ (gv.getD r []).sum = ((rows.getD r []).sum + b - 1) / b
  c : ∀ c, c < w → colOf gv c * b = colOf rows c
theorem dlt_len : (dlt rows b ra).length = rows.length := by unfold dlt; simp
theorem dlt_at {r : Nat} (h : r < rows.length) : (dlt rows b ra).getD r [] = (List.range (rows.getD r []).length).map fun c => numOf rows r c / b + ind ((r, c) ∈ ra) := by
  unfold dlt
  simp [List.getD, h]
theorem dlt_num (hr : Rc rows w) {r c : Nat} (h : r < rows.length) (hc : c < w) : numOf (dlt rows b ra) r c = numOf rows r c / b + ind ((r, c) ∈ ra) := by
  show ((dlt rows b ra).getD r []).getD c 0 = _
  rw [dlt_at h, hr.eq _ (getD_in2 h)]
  simp [List.getD, hc]
theorem dlt_rc (hr : Rc rows w) : Rc (dlt rows b ra) w := by
  refine ⟨fun z => ?_, fun r hr2 => ?_, by rw [dlt_len]; exact hr.l1, hr.lw⟩
  · have := dlt_len (rows := rows) (b := b) (ra := ra)
    rw [z] at this
    exact hr.ne (List.length_eq_zero_iff.mp this.symm)
  · obtain ⟨i, hi, rfl⟩ := List.mem_map.mp hr2
    rw [List.length_map, List.length_range]
    exact hr.eq _ (getD_in2 (List.mem_range.mp hi))
theorem P2.end (hr : Rc rows w) (hb : 0 < b) (hw : Whl rows w b) (h : P2 rows w b w ra rm) : Dl rows w b (dlt rows b ra) := by
  have hd := dlt_rc (b := b) (ra := ra) hr
  refine ⟨?_, fun r hr2 c hc => ?_, fun r hr2 => ?_, fun c hc => ?_⟩
  · unfold dlt
    rw [List.map_map]
    apply List.ext_getElem
    · simp
    · intro i h1 h2
      simp [List.getD]
      have : i < rows.length := by simpa using h2
      simp [this]
  · rw [dlt_num hr hr2 hc]
    unfold ind
    by_cases m : (r, c) ∈ ra
    · rw [if_pos m]
      right
      have z := (h.iv.ed.ed _ m).2.2
      have h1 := ceil2 hb (numOf rows r c)
      have h2 : numOf rows r c / b < (numOf rows r c + b - 1) / b := by
        rw [Int.lt_iff_add_one_le]
        refine Int.le_ediv_of_mul_le hb ?_
        have e1 := Int.emod_nonneg (numOf rows r c) (show b ≠ 0 by omega)
        have z : numOf rows r c % b ≠ 0 := z
        rw [Int.emod_def] at z e1
        rw [Int.add_mul, Int.mul_comm (numOf rows r c / b)]
        omega
      omega
    · rw [if_neg m]; left; omega
  · have e1 : ((dlt rows b ra).getD r []).sum = ((flr rows b).getD r []).sum + cnt rows.length w ra (0, r) := by
      rw [row_sum hd (by rw [dlt_len]; exact hr2), flr_sum hr hr2]
      unfold cnt
      rw [if_pos rfl, ← sumN_add]
      exact sumN_congr fun c hc => dlt_num hr hr2 hc
    have h1 := h.ct r hr2
    have h2 := h.iv.nn _ (row_in (w := w) hr2)
    rw [h.iv.rme _ (row_in hr2)] at h2
    have h3 := ceil2 hb (rows.getD r []).sum
    have e2 : lackOf rows b (0, r) = (rows.getD r []).sum / b - ((flr rows b).getD r []).sum := rfl
    have e3 : roomOf rows b (0, r) = ((rows.getD r []).sum + b - 1) / b - ((flr rows b).getD r []).sum := rfl
    omega
  · have e1 : colOf (dlt rows b ra) c = colOf (flr rows b) c + cnt rows.length w ra (1, c) := by
      rw [col_sumN, dlt_len, col_flr hr hc]
      unfold cnt
      rw [if_neg (by simp), ← sumN_add]
      exact sumN_congr fun r hr2 => dlt_num hr hr2 hc
    have h1 := h.dn c hc hc
    rw [h.iv.rme _ (col_in hc)] at h1
    have e3 : roomOf rows b (1, c) = colOf rows c / b - colOf (flr rows b) c := rfl
    have e4 : colOf (dlt rows b ra) c = colOf rows c / b := by omega
    rw [e4, Int.mul_comm]
    have := hw c hc
    rw [Int.emod_def] at this
    omega
end
end Pf
set_option Elab.async false
set_option linter.all false
set_option maxRecDepth 100000
set_option maxHeartbeats 1000000
namespace DL
open PySem PySem.Spec PyProof.Rows L2
theorem cb_intB {ι : Type} {K : PySem.W.Frag} {W : Wd ι} {m : ι} {Φ : ι → S → Prop} {k : Bool} (h : Φ m (.dat (.int (if k then 1 else 0)))) : CbS K W m (fun xs H Q => (∃ i, xs = [V.int i] ∧ Q (.int i) H) ∨ ∃ k, xs = [V.bl k] ∧ Q (.int (if k then 1 else 0)) H) [.dat (.bl k)] Φ := fun H0 G H vs ok rr Q q => by
  obtain ⟨v, rfl, r⟩ := relss1 rr
  cases r
  exact .inr ⟨k, rfl, q _ (.dat (.int _)) m G H ok.refl (Rp.int _) h⟩
theorem ds_after {ι : Type} {c : Cc ι} {ρ : List S} {m : ι} {t : TS} {N B C : ι → List S → Prop} {R : ι → S → Prop} (h : Ds c m t ρ (fun m ρ' => Ds c m tNext ρ' N R B C) R B C) : Ds c m t ρ N R B C := ds_seq h
end DL
namespace Pf
open PySem PySem.Spec PyProof.Rows L2 DL
theorem sumN_const (n : Nat) (d : Int) : sumN n (fun _ => d) = n * d := by
  induction n with
  | zero => simp [sumN]
  | succ n ih => unfold sumN; rw [ih]; push_cast; rw [Int.add_mul]; omega
theorem lack_le {rows : List (List Int)} {w : Nat} {b : Int} (hr : Rc rows w) (hb : 0 < b) {r : Nat} (h : r < rows.length) : lackOf rows b (0, r) ≤ w := by
  have h1 := le1 hr hb h
  have h2 : fsN rows w b (0, r) ≤ w * b := by
    unfold fsN
    rw [if_pos rfl, ← sumN_const]
    exact sumN_le fun c _ => Int.le_of_lt (Int.emod_lt_of_pos _ hb)
  rw [Int.mul_comm (w : Int)] at h2
  exact Int.le_of_mul_le_mul_left (Int.le_trans h1 h2) hb
theorem lack_at {n : Nat} {f : Nd → D} {i : Nat} {d : D} (h : ((mpD (rowN n) f).map fun p => D.tup [keyT p.1, p.2])[i]? = some d) : i < n ∧ d = .tup [ndD (0, i), f (0, i)] := by
  have hi : i < n := by
    have := (List.getElem?_eq_some_iff.mp h).1
    simpa [mpD, rowN] using this
  refine ⟨hi, ?_⟩
  unfold mpD rowN at h
  rw [List.getElem?_map, List.getElem?_map, List.getElem?_map, List.getElem?_range hi] at h
  exact (Option.some.inj h).symm
def dltR (rows : List (List Int)) (b : Int) (ra : List Nd) (r : Nat) : List Int := (List.range (rows.getD r []).length).map fun c => numOf rows r c / b + ind ((r, c) ∈ ra)
def dltF (ra : List Nd) (r : Nat) : D → D
  | .tup [.int c, .int v] => .int (v + ind ((r, c.toNat) ∈ ra))
  | _ => .non
theorem enum_dlt {rows : List (List Int)} {b : Int} (ra : List Nd) {r : Nat} (h : r < rows.length) : (enumD (((flr rows b).getD r []).map D.int)).map (dltF ra r) = (dltR rows b ra r).map D.int := by
  unfold enumD dltR
  rw [List.map_map, List.map_map, flr_at h, List.length_map, List.length_map]
  refine List.map_congr_left fun c hc => ?_
  have hc := List.mem_range.mp hc
  have e2 : (((rows.getD r []).map (· / b)).map D.int).getD c .non = .int (numOf rows r c / b) := by
    unfold numOf
    generalize rows.getD r [] = l at hc ⊢
    simp [List.getD, hc]
  show dltF ra r (D.tup [D.int (c : Nat), _]) = _
  rw [e2]
  show D.int (numOf rows r c / b + ind ((r, (c : Int).toNat) ∈ ra)) = D.int (numOf rows r c / b + ind ((r, c) ∈ ra))
  rw [Int.toNat_natCast]
/-- the rows that are found so far -/
def dltN (rows : List (List Int)) (b : Int) (ra : List Nd) (i : Nat) : List DL.It := (List.range i).map fun r => .o (.lst ((dltR rows b ra r).map D.int))
theorem dltN_succ (rows : List (List Int)) (b : Int) (ra : List Nd) (i : Nat) : dltN rows b ra i ++ [.o (.lst ((dltR rows b ra i).map D.int))] = dltN rows b ra (i + 1) := by
  unfold dltN
  rw [List.range_succ, List.map_append]
  rfl
theorem dltN_all (rows : List (List Int)) (b : Int) (ra : List Nd) : dltN rows b ra rows.length = (dlt rows b ra).map fun r => DL.It.o (.lst (r.map D.int)) := by
  unfold dltN dlt
  rw [List.map_map]
  rfl
theorem dltN_len (rows : List (List Int)) (b : Int) (ra : List Nd) (i : Nat) : (dltN rows b ra i).length = i := by unfold dltN; simp
end Pf
set_option Elab.async false
set_option linter.all false
set_option maxRecDepth 100000
set_option maxHeartbeats 1000000
namespace Pf
open PySem PySem.Spec PyProof.Rows L2 DL
/-! ### what is dealt, as a function -/
def itF {α : Type} (f : α → α) : Nat → α → α
  | 0, x => x
  | k + 1, x => f (itF f k x)
def stepF (rows : List (List Int)) (w : Nat) (b : Int) (s : Nd) (x : List Nd × (Nd → Int)) : List Nd × (Nd → Int) :=
  (tglW (wayF (ndsOf rows w) (adjOf rows w b) x.1 x.2 s) x.1, less (less x.2 s) ((wayF (ndsOf rows w) (adjOf rows w b) x.1 x.2 s).getLast?.getD s))
theorem stepF_way {rows : List (List Int)} {w : Nat} {b : Int} {s e : Nd} {ra : List Nd} {rm : Nd → Int} {p : List Nd} (h : wayF (ndsOf rows w) (adjOf rows w b) ra rm s = p ++ [e]) : stepF rows w b s (ra, rm) = (tglW (p ++ [e]) ra, less (less rm s) e) := by
  unfold stepF
  rw [h]
  simp
def st1 (rows : List (List Int)) (w : Nat) (b : Int) : Nat → List Nd × (Nd → Int)
  | 0 => ([], roomOf rows b)
  | i + 1 => itF (stepF rows w b (0, i)) (lackOf rows b (0, i)).toNat (st1 rows w b i)
def st2 (rows : List (List Int)) (w : Nat) (b : Int) : Nat → List Nd × (Nd → Int)
  | 0 => st1 rows w b rows.length
  | c + 1 => itF (stepF rows w b (1, c)) ((st2 rows w b c).2 (1, c)).toNat (st2 rows w b c)
def dealtF (rows : List (List Int)) (w : Nat) (b : Int) : List (List Int) := dlt rows b (st2 rows w b w).1
end Pf
set_option Elab.async false
set_option linter.all false
set_option maxRecDepth 100000
set_option maxHeartbeats 1000000
namespace Pf
open PySem PySem.Spec PyProof.Rows L2 DL
local macro_rules | `(tactic| walk_at "len") => `(tactic| with_unfolding_all first | exact Nat.le_of_ble_eq_true rfl | (simp; done) | (simp; omega))
local macro_rules | `(tactic| walk_at "side") => `(tactic| with_unfolding_all first | exact Or.inr ⟨by omega, by omega⟩ | exact Or.inl ⟨by omega, by omega⟩ | exact ⟨by omega, by omega⟩ | exact ⟨by omega, by omega, by omega⟩ | (show (0 : Int) < _; omega) | decide)
local macro_rules | `(tactic| walk_at "d1") => `(tactic| with_reducible first
  | (refine ds_seq ?_; try dsimp only [List.set_cons_zero, List.set_cons_succ, List.cons_append, List.nil_append, O.frz])
  | refine ds_asg ?_
  | refine ds_ret ?_
  | refine ds_retN ?_
  | refine ds_next ?_
  | refine ds_dropC ?_
  | refine ds_drop0 ?_
  | refine ds_dropB ?_
  | refine ds_if ?_
  | refine dt_test ?_
  | refine dt_B ?_
  | refine dt_not ?_
  | refine dt_and ?_
  | refine dt_or ?_
  | refine dt_yes ?_
  | refine de_int ?_
  | refine de_bl ?_
  | refine de_str ?_
  | refine de_non ?_
  | refine de_varD (by with_unfolding_all rfl) ?_
  | refine de_varO (by with_unfolding_all rfl) ?_
  | refine de_varA (by with_unfolding_all rfl) ?_
  | refine de_varV (by with_unfolding_all rfl) ?_
  | refine de_isi ?_
  | refine de_dget ?_
  | refine de_dget2 ?_
  | refine de_dnotin ?_
  | refine de_din ?_
  | refine de_dnew ?_
  | refine de_dnewT ?_
  | refine de_cb ?_
  | refine de_call0G ?_
  | refine de_callG ?_
  | refine de_andB ?_
  | refine de_orB ?_
  | refine de_notV ?_
  | refine de_ifE ?_
  | refine de_chain ?_
  | refine de_op ?_
  | refine de_neg ?_
  | refine de_tupG ?_
  | refine de_lstG ?_
  | refine de_slL ?_
  | refine de_slT ?_
  | refine do_none ?_
  | refine do_some ?_
  | refine daf_cons ?_
  | refine daf_nil ?_
  | refine daf_star ?_
  | refine da_cons ?_
  | refine da_nil ?_
  | refine lk_dat ?_
  | refine lk_nil ?_
  | refine ak_dat ?_
  | refine ak_nil ?_
  | refine ak_at ?_
  | refine ak_lst ?_
  | refine lk_lst ?_
  | refine ak_dK ?_
  | refine ak_dT ?_
  | refine ak_vw ?_
  | refine lk_dT ?_
  | refine lk_dK ?_
  | refine da_star ?_
  | refine de_lstRg1 ?_
  | refine de_lstRg2 ?_
  | refine de_revL ?_
  | refine de_count ?_
  | refine de_index ?_
  | refine di_enum ?_
  | refine dt_tru ?_
  | refine de_fldV ?_
  | refine de_prop ?_
  | refine di_rng1 ?_
  | refine di_rng2 ?_
  | refine di_list ?_
  | refine di_tup ?_
  | refine di_seq ?_
  | refine di_zip ?_
  | refine de_split ?_
  | refine de_join ?_
  | refine de_fmt ?_
  | refine de_jnil ?_
  | refine de_jcons ?_
  | refine de_ixS ?_
  | refine de_orT ?_
  | refine di_str ?_
  | refine ops_eqS ?_
  | refine ops_neS ?_
  | refine de_indexD ?_
  | refine ops_int ?_
  | (refine ops_cat (by with_unfolding_all rfl) (by with_unfolding_all rfl) ?side ?_; (case side => walk_at "len"))
  | (refine ops_catA ?side ?_; (case side => walk_at "len"))
  | refine ops_eqI ?_
  | refine ops_neI ?_
  | refine ops_bool ?_
  | (refine ops_intC ?side ?_; (case side => walk_at "side"))
  | refine cb_lenL (by with_unfolding_all rfl) ?_
  | refine cb_lenT (by with_unfolding_all rfl) ?_
  | refine cb_lenK (by with_unfolding_all rfl) ?_
  | refine cb_max2 ?_
  | refine cb_min2 ?_
  | refine cb_int ?_
  | refine ⟨fun _ => ?_, fun z => Bool.noConfusion z⟩
  | refine ⟨fun z => Bool.noConfusion z, fun _ => ?_⟩
  | refine ⟨rfl, ?_⟩
  | refine ⟨_, rfl, ?_⟩
  | refine ⟨_, Or.inl (by with_unfolding_all rfl), ?_⟩
  | (with_unfolding_all refine ⟨_, true, rfl, rfl, (fun _ z => by cases z), rfl, ?_⟩)
  | (with_unfolding_all refine ⟨_, false, rfl, rfl, (fun _ z => by cases z), rfl, ?_⟩))
local macro_rules | `(tactic| walk_at "d") => `(tactic| repeat walk_at "d1")
local macro_rules | `(tactic| walk_at "wk") => `(tactic| repeat first | exact Wk.nil | refine Wk.keep ?_ | refine Wk.drop ?_)
section
variable {P : Program} {w : World} {K : PySem.W.Frag} {mg : Str → Option Value} {base : Heap} {f : Addr} {fd : FuncData} {a_Rounding a_BadShares : Addr}
def C_dealt (X C : Addr) : Fc := fun _ W m ss Φ Ξ => ∃ (o q : Bool) (rows : List (List Int)) (w : Nat) (b : Int), ss = [.dat (rwK o q rows), .dat (.int b)] ∧ (∀ a, ¬ W.L a) ∧ Rc rows w ∧ rows.length * w ≤ 100000 ∧ 0 < b ∧ b < 1000000 ∧
  (∀ c, c < w → colOf rows c % b ≠ 0 → (∀ c', c' < c → colOf rows c' % b = 0) → Ξ m X [("column", .int (c : Nat))]) ∧ (Whl rows w b → Dl rows w b (dealtF rows w b) → Φ m (.own (.nest ((dealtF rows w b).map fun r => .o (.lst (r.map D.int))))))
abbrev s_dealt : Stmt := (top 11)
abbrev N_dealt : List Str := ["rows", "bottom", "rounding", "column", "found", "start", "lack", "step", "at", "row", "number"]
theorem sc_dealt : FnScope N_dealt ["rows", "bottom"] (defScope s_dealt) := ⟨rfl, rfl, rfl, by decide +kernel, rfl, by decide +kernel, by decide +kernel⟩
theorem ok_dealt (F : FnP K "dealt" s_dealt f fd) (b : BI mg) (i_Rounding : Ci K a_Rounding ["floors", "raised", "cells", "room", "lack"]) (c_check_columns : Cl P w K mg base (L2.CX P w) 3 "check_columns" ["rows", "bottom"] (C_check_columns a_BadShares)) (c_Rounding___init : MiO P w K mg base 2 a_Rounding "Rounding" ["self", "rows", "bottom"] (C_Rounding___init a_Rounding)) (c_Rounding_raise_from : MeO P w K mg base 6 a_Rounding "raise_from" ["self", "start"] (C_Rounding_raise_from a_Rounding)) : FnOk P w K mg base (L2.CX P w) 8 f fd ["rows", "bottom"] (spF K (C_dealt a_BadShares a_Rounding)) := by
  have hlen := spF_len (K := K) (C := (C_dealt a_BadShares a_Rounding)) (m := 2) fun κ W m ss Φ Ξ ⟨o, q, rows, w, b, e, _⟩ => by first | exact e | (rw [e]; rfl)
  refine F.ok sc_dealt hlen ?_
  intro cdv A outer s H vs Q E hr h
  refine ⟨_, (pss_cons (ps_expr (k_cl c_check_columns rfl hr (passes_call (takes_of rfl rfl rfl rfl) (fun _ _ _ _ h => h)) (pa_cons (pv 0) (pa_cons (pv 1) pa_nil))))
      (pss_cons (ps_set (i := 2) sc_dealt.nd rfl (by first | exact Or.inl rfl | exact Or.inr rfl) (k_makeO c_Rounding___init rfl hr (pa_cons (pv 0) (pa_cons (pv 1) pa_nil))))
      (pss_cons (ps_lock (ps_for (passes_of rfl) rfl (pi_pairs (k_fld (K := K) rfl (pv 2))) (k_gTup (K := K) (n := 2) rfl rfl (pgs_cons (pg_name (i := 5) sc_dealt.nd rfl (by first | exact Or.inl rfl | exact Or.inr rfl)) (pgs_cons (pg_name (i := 6) sc_dealt.nd rfl (by first | exact Or.inl rfl | exact Or.inr rfl)) pgs_nil)))
      (pss_one (ps_for (passes_of rfl) rfl (pi_range1 rfl b.range (pa_cons (pv 6) pa_nil)) (pg_name (i := 7) sc_dealt.nd rfl (by first | exact Or.inl rfl | exact Or.inr rfl))
      (pss_one (ps_expr (k_methO c_Rounding_raise_from rfl hr (pv 2) (pa_cons (pv 5) pa_nil))))))))
      (pss_cons (ps_for (passes_of rfl) rfl (pi_range1 rfl b.range (pa_cons (pe_callB (k_len (K := K) rfl) rfl b.len boot_len (pa_cons (pe_ix (k_ixSeq (K := K) rfl) (pv 0) pe_int (fun _ _ => rfl)) pa_nil)) pa_nil)) (pg_name (i := 3) sc_dealt.nd rfl (by first | exact Or.inl rfl | exact Or.inr rfl))
      (pss_one (ps_while (passes_of rfl) (pt_cmpR op_gt (pe_dget (hu_of hr) (k_fld (K := K) rfl (pv 2)) (pe_tup (pa_cons pe_int (pa_cons (pv 3) pa_nil))) (fun _ _ => rfl)) pe_int (nomark _)) (pss_one (ps_expr (k_methO c_Rounding_raise_from rfl hr (pv 2) (pa_cons (pe_tup (pa_cons pe_int (pa_cons (pv 3) pa_nil))) pa_nil)))))))
      (pss_cons (ps_set (i := 4) sc_dealt.nd rfl (by first | exact Or.inl rfl | exact Or.inr rfl) (pe_lst pa_nil))
      (pss_cons (ps_for (passes_of rfl) rfl (k_enum (K := K) rfl rfl b.enumerate (pa_cons (k_fld (K := K) rfl (pv 2)) pa_nil)) (k_gTup (K := K) (n := 2) rfl rfl (pgs_cons (pg_name (i := 8) sc_dealt.nd rfl (by first | exact Or.inl rfl | exact Or.inr rfl)) (pgs_cons (pg_name (i := 9) sc_dealt.nd rfl (by first | exact Or.inl rfl | exact Or.inr rfl)) pgs_nil)))
      (pss_one (ps_expr (k_app (K := K) rfl (pv 4) (pa_cons (pe_lc (own := [("column", 3), ("number", 10)]) rfl sc_dealt.nd (k_enum (K := K) rfl rfl b.enumerate (pa_cons (pv 9) pa_nil)) (blkOk_by (own := [("column", 3), ("number", 10)]) (N := N_dealt) (sc := (defScope s_dealt)) (by decide +kernel)) (fun _ _ _ _ _ => (k_gTup (K := K) (n := 2) rfl rfl (pgs_cons (pg_name (i := 3) sc_dealt.nd rfl (by first | exact Or.inl rfl | exact Or.inr rfl)) (pgs_cons (pg_name (i := 10) sc_dealt.nd rfl (by first | exact Or.inl rfl | exact Or.inr rfl)) pgs_nil)))) (fun _ _ _ _ _ => pts_nil) (fun _ _ _ _ _ => (pe_op op_add (pv 10) (pe_callTy call_int1 rfl b.int_ boot_int (pa_cons (pe_cmp (pc_din (hu_of hr) (pe_tup (pa_cons (pv 8) (pa_cons (pv 3) pa_nil))) (k_fld (K := K) rfl (pv 2))) rfl) pa_nil))))) pa_nil)))))
      (pss_one (ps_ret (pv 4))))))))), ?_⟩
  refine DL.run_fnP  [.no, .no, .no, .no, .no, .no, .no, .no, .no] (Nm := N_dealt) (n := 2) (k := 9) rfl (hlen _ _ _ _ h) rfl h fun κ W m ss Φ Ξ G hc => ?_
  try dsimp only [cxOf, Cx.nox, Cx.wish, Cx.blk]
  obtain ⟨o, q, rows, w0, b, rfl, hL, hr, hrw, hb, hb2, hX, hΦ⟩ := hc
  have l1 := hr.l1
  have lw := hr.lw
  refine ds_seq ?_
  walk_at "d"
  refine ⟨o, q, rows, w0, b, rfl, hr, hb, hb2, hX, fun hw => ?_⟩
  refine ds_seq ?_
  refine ds_asg ?_
  refine de_makeO ?_
  walk_at "d"
  refine fun x => ⟨x, o, q, rows, w0, b, rfl, rfl, hr, hb, hb2, ?_⟩
  refine ⟨rfl, ?_⟩
  refine ds_seq ?_
  refine ds_lockForWH (vs := [5, 6]) (dph_fld (i := 2) rfl i_Rounding.cl (i_Rounding.no _ (by simp)) rfl) (.inr ⟨_, rfl⟩) hL walks_pairsT (fun j m2 ρ => m2 = m ∧ ∃ ra rm, P1 rows w0 b j 0 ra rm ∧ st1 rows w0 b j = (ra, rm) ∧ ρ = [.dat (rwK o q rows), .dat (.int b), .own (.ins x a_Rounding (rdF (rwsD (flr rows b)) (.dit (mpD (rowN rows.length) fun n => .int (lackOf rows b n))) (ndsOf rows w0) (adjOf rows w0 b) ra rm)), .no, .no, .no, .no, .no, .no, .no, .no]) ⟨_, Wk.refl _, rfl, rfl, _, _, P1.init hr hb hw, rfl, rfl⟩ ?_ ?_
  · rintro dd F i d m2 ρ hd ⟨rfl, ra, rm, hp, hst, rfl⟩
    obtain ⟨hi, rfl⟩ := lack_at hd
    have h0 := lack_nn hr hb hi
    have h9 := lack_le hr hb hi
    refine ⟨_, dg_tup2 (by simp) (by simp), ?_⟩
    dsimp only [List.set_cons_zero, List.set_cons_succ]
    refine ds_forW (vs := [7]) ?_
    walk_at "d"
    refine ⟨by omega, by omega, fun k m3 ρ => m3 = m2 ∧ ∃ ra rm, P1 rows w0 b i (k : Nat) ra rm ∧ itF (stepF rows w0 b (0, i)) k (st1 rows w0 b i) = (ra, rm) ∧ ρ = [.dat (rwK o q rows), .dat (.int b), .own (.ins x a_Rounding (rdF (rwsD (flr rows b)) (.dit (mpD (rowN rows.length) fun n => .int (lackOf rows b n))) (ndsOf rows w0) (adjOf rows w0 b) ra rm)), .no, .no, .dat (ndD (0, i)), .dat (.int (lackOf rows b (0, i))), .no, .no, .no, .no], ⟨_, Wk.refl _, rfl, rfl, ra, rm, hp, hst, rfl⟩, ?_, ?_⟩
    · rintro k d m3 ρ hd ⟨rfl, ra, rm, hp, hst, rfl⟩
      obtain ⟨hk, rfl⟩ := rng_at hd
      have hk2 : ((k : Nat) : Int) < lackOf rows b (0, i) := by omega
      refine ⟨_, dg_name (by simp), ?_⟩
      dsimp only [List.set_cons_zero, List.set_cons_succ]
      refine ds_methO (i := 2) rfl rfl rfl ?_
      walk_at "d"
      refine ⟨x, _, _, _, _, ra, rm, (0, i), rfl, rfl, grOf hr, row_in hi, Nat.le_trans hp.iv.ed.len hrw, fun p e hF hW hq he h1 => ?_, fun _ hclo => absurd hclo (hp.clo hr hb hw hi (by omega) hk2)⟩
      exact ⟨[.dat (rwK o q rows), .dat (.int b), .own (.ins x a_Rounding (rdF (rwsD (flr rows b)) (.dit (mpD (rowN rows.length) fun n => .int (lackOf rows b n))) (ndsOf rows w0) (adjOf rows w0 b) (tglW (p ++ [e]) ra) (less (less rm (0, i)) e))), .no, .no, .dat (ndD (0, i)), .dat (.int (lackOf rows b (0, i))), .no, .no, .no, .no], by walk_at "wk", rfl, rfl, _, _, hp.step hb hi hk2 hW hq he h1, by show stepF rows w0 b (0, i) (itF _ k _) = _; rw [hst]; exact stepF_way hF, rfl⟩
    · rintro m3 ρ ⟨rfl, ra, rm, hp, hst, rfl⟩
      rw [rng_len] at hp hst
      rw [show ((Int.toNat (lackOf rows b (0, i)) : Nat) : Int) = lackOf rows b (0, i) by omega] at hp
      exact ⟨[.dat (rwK o q rows), .dat (.int b), .own (.ins x a_Rounding (rdF (rwsD (flr rows b)) (.dit (mpD (rowN rows.length) fun n => .int (lackOf rows b n))) (ndsOf rows w0) (adjOf rows w0 b) ra rm)), .no, .no, .no, .no, .no, .no, .no, .no], by walk_at "wk", rfl, rfl, ra, rm, hp.next, hst, rfl⟩
  rintro m2 ρ ⟨rfl, ra, rm, hp, hst, rfl⟩
  rw [show ((mpD (rowN rows.length) fun n => D.int (lackOf rows b n)).map fun p => D.tup [keyT p.1, p.2]).length = rows.length by simp [mpD, rowN]] at hp hst
  have hp2 := hp.done
  refine ds_seq ?_
  refine ds_forW (vs := [3]) ?_
  obtain ⟨r0, rest, er, h0⟩ := hr.cons
  walk_at "d"
  refine ops_ixQ (e := rwQ q r0) (sq_or _ _) (by rw [er]; exact atN (i := 0) rfl) ?_
  walk_at "d"
  refine cb_lenQ ?_
  walk_at "d"
  rw [List.length_map, h0, Int.toNat_natCast]
  refine ⟨by omega, by omega, fun c m3 ρ => m3 = m2 ∧ ∃ ra rm, P2 rows w0 b c ra rm ∧ st2 rows w0 b c = (ra, rm) ∧ ρ = [.dat (rwK o q rows), .dat (.int b), .own (.ins x a_Rounding (rdF (rwsD (flr rows b)) (.dit (mpD (rowN rows.length) fun n => .int (lackOf rows b n))) (ndsOf rows w0) (adjOf rows w0 b) ra rm)), .no, .no, .no, .no, .no, .no, .no, .no], ⟨_, Wk.refl _, rfl, rfl, ra, rm, hp2, hst, rfl⟩, ?_, ?_⟩
  · rintro c d m3 ρ hd ⟨rfl, ra, rm, hp, hst, rfl⟩
    obtain ⟨hc, rfl⟩ := rng_at hd
    rw [Int.zero_add]
    refine ⟨_, dg_name (by simp), ?_⟩
    dsimp only [List.set_cons_zero, List.set_cons_succ]
    refine ds_whileW (fun k m4 ρ => m4 = m3 ∧ ∃ ra rm j, P2 rows w0 b c ra rm ∧ rm (1, c) = (k : Nat) ∧ itF (stepF rows w0 b (1, c)) j (st2 rows w0 b c) = (ra, rm) ∧ j + k = ((st2 rows w0 b c).2 (1, c)).toNat ∧ ρ = [.dat (rwK o q rows), .dat (.int b), .own (.ins x a_Rounding (rdF (rwsD (flr rows b)) (.dit (mpD (rowN rows.length) fun n => .int (lackOf rows b n))) (ndsOf rows w0) (adjOf rows w0 b) ra rm)), .dat (.int (c : Nat)), .no, .no, .no, .no, .no, .no, .no]) (rm (1, c)).toNat ⟨_, Wk.refl _, rfl, rfl, ra, rm, 0, hp, by have := hp.iv.nn _ (col_in (rows := rows) hc); omega, hst, by rw [hst]; show 0 + (rm (1, c)).toNat = (rm (1, c)).toNat; omega, rfl⟩ ?_
    rintro k m4 ρ ⟨rfl, ra, rm, j, hp, hk, hst2, hj, rfl⟩
    walk_at "d"
    refine ⟨x, a_Rounding, _, _, rfl, i_Rounding.cl, i_Rounding.no _ (by simp), rfl, ?_⟩
    walk_at "d"
    refine ⟨.T (mpD (ndsOf rows w0) fun n => .int (rm n)), ndD (1, c), .int (rm (1, c)), rfl, rfl, look_mp (col_in hc), ?_⟩
    walk_at "d"
    refine ⟨fun hb0 => ?_, fun hb0 => ?_⟩
    · have h1 : 0 < rm (1, c) := by simpa using hb0
      refine ds_methO (i := 2) rfl rfl rfl ?_
      walk_at "d"
      refine ⟨x, _, _, _, _, ra, rm, (1, c), rfl, rfl, grOf hr, col_in hc, Nat.le_trans hp.iv.ed.len hrw, fun p e hF hW hq he h2 => ?_, fun _ hclo => absurd hclo (hp.clo hr hb hw hc h1)⟩
      obtain ⟨s1, s2⟩ := hp.step hc h1 hW hq he h2
      exact ⟨k - 1, by omega, [.dat (rwK o q rows), .dat (.int b), .own (.ins x a_Rounding (rdF (rwsD (flr rows b)) (.dit (mpD (rowN rows.length) fun n => .int (lackOf rows b n))) (ndsOf rows w0) (adjOf rows w0 b) (tglW (p ++ [e]) ra) (less (less rm (1, c)) e))), .dat (.int (c : Nat)), .no, .no, .no, .no, .no, .no, .no], by walk_at "wk", rfl, rfl, _, _, j + 1, s1, by rw [s2]; omega, by show stepF rows w0 b (1, c) (itF _ j _) = _; rw [hst2]; exact stepF_way hF, by omega, rfl⟩
    · have h1 : ¬ 0 < rm (1, c) := by simpa using hb0
      exact ⟨[.dat (rwK o q rows), .dat (.int b), .own (.ins x a_Rounding (rdF (rwsD (flr rows b)) (.dit (mpD (rowN rows.length) fun n => .int (lackOf rows b n))) (ndsOf rows w0) (adjOf rows w0 b) ra rm)), .no, .no, .no, .no, .no, .no, .no, .no], by walk_at "wk", rfl, rfl, ra, rm, hp.next h1, by
        have hk0 : k = 0 := by omega
        show itF (stepF rows w0 b (1, c)) ((st2 rows w0 b c).2 (1, c)).toNat (st2 rows w0 b c) = _
        rw [← hj, hk0]; exact hst2, rfl⟩
  rintro m3 ρ ⟨rfl, ra, rm, hp, hst, rfl⟩
  rw [rng_len] at hp hst
  have hD := hp.end hr hb hw
  have hdf : dealtF rows w0 b = dlt rows b ra := by unfold dealtF; rw [hst]
  rw [hdf] at hΦ
  refine ds_seq ?_
  walk_at "d"
  refine ds_nest0 (i := 4) rfl ?_
  dsimp only [List.set_cons_zero, List.set_cons_succ]
  refine ds_forW (vs := [8, 9]) ?_
  walk_at "d"
  refine ⟨x, a_Rounding, _, _, rfl, i_Rounding.cl, i_Rounding.no _ (by simp), rfl, ?_⟩
  walk_at "d"
  refine ⟨fun i m4 ρ => m4 = m3 ∧ ρ = [.dat (rwK o q rows), .dat (.int b), .own (.ins x a_Rounding (rdF (rwsD (flr rows b)) (.dit (mpD (rowN rows.length) fun n => .int (lackOf rows b n))) (ndsOf rows w0) (adjOf rows w0 b) ra rm)), .no, .own (.nest (dltN rows b ra i)), .no, .no, .no, .no, .no, .no], ⟨_, Wk.refl _, rfl, rfl, rfl⟩, ?_, ?_⟩
  · rintro i d m4 ρ hd ⟨rfl, rfl⟩
    obtain ⟨y, hy, rfl⟩ := enumD_at hd
    obtain ⟨hi, rfl⟩ := rows_at hy
    rw [flr_len] at hi
    have hrl := hr.eq _ (getD_in2 hi)
    refine ⟨_, dg_tup2 (by simp) (by simp), ?_⟩
    dsimp only [List.set_cons_zero, List.set_cons_succ]
    refine ds_appN (i := 4) rfl (by rw [dltN_len]; omega) ?_
    refine de_lcMap (f := dltF ra i) ?_
    walk_at "d"
    refine ⟨by rw [enumD_len, List.length_map, flr_at hi, List.length_map, hrl]; omega, fun d hd => ?_, ?_⟩
    · obtain ⟨c, hc⟩ := List.getElem?_of_mem hd
      obtain ⟨z, hz, rfl⟩ := enumD_at hc
      obtain ⟨v, _, rfl⟩ := List.mem_map.mp (List.mem_of_getElem? hz)
      refine ⟨_, dg_tup2 (by simp) (by simp), ?_⟩
      walk_at "d"
      refine ⟨x, a_Rounding, _, _, rfl, i_Rounding.cl, i_Rounding.no _ (by simp), rfl, ?_⟩
      refine ⟨.T (mpD ra fun _ => .bl true), ndD (i, c), _, rfl, rfl, DL.Look.t (nk (i, c)), ?_⟩
      rw [mp_some]
      walk_at "d"
      refine cb_intB ?_
      walk_at "d"
      show S.dat (D.int _) = S.dat (D.int (v + ind ((i, (c : Int).toNat) ∈ ra)))
      rw [Int.toNat_natCast]
      unfold ind
      by_cases hm : ((i, c) : Nd) ∈ ra
      · simp [hm]
      · simp [hm]
    · rw [enum_dlt ra hi]
      refine ⟨_, rfl, ?_⟩
      rw [dltN_succ]
      exact ⟨[.dat (rwK o q rows), .dat (.int b), .own (.ins x a_Rounding (rdF (rwsD (flr rows b)) (.dit (mpD (rowN rows.length) fun n => .int (lackOf rows b n))) (ndsOf rows w0) (adjOf rows w0 b) ra rm)), .no, .own (.nest (dltN rows b ra (i + 1))), .no, .no, .no, .no, .no, .no], by walk_at "wk", rfl, rfl, rfl⟩
  rintro m4 ρ ⟨rfl, rfl⟩
  rw [enumD_len, List.length_map, flr_len, dltN_all]
  refine ds_retVar (i := 4) rfl ?_
  exact hΦ hw hD
end
end Pf
set_option Elab.async false
set_option linter.all false
set_option maxRecDepth 100000
set_option maxHeartbeats 1000000
namespace Pf
open PySem PySem.Spec PyProof.Rows L2 DL
local macro_rules | `(tactic| walk_at "len") => `(tactic| with_unfolding_all first | exact Nat.le_of_ble_eq_true rfl | (simp; done) | (simp; omega))
local macro_rules | `(tactic| walk_at "side") => `(tactic| with_unfolding_all first | exact Or.inr ⟨by omega, by omega⟩ | exact Or.inl ⟨by omega, by omega⟩ | exact ⟨by omega, by omega⟩ | exact ⟨by omega, by omega, by omega⟩ | (show (0 : Int) < _; omega) | decide)
local macro_rules | `(tactic| walk_at "d1") => `(tactic| with_reducible first
  | (refine ds_seq ?_; try dsimp only [List.set_cons_zero, List.set_cons_succ, List.cons_append, List.nil_append, O.frz])
  | refine ds_asg ?_
  | refine ds_ret ?_
  | refine ds_retN ?_
  | refine ds_next ?_
  | refine ds_dropC ?_
  | refine ds_drop0 ?_
  | refine ds_dropB ?_
  | refine ds_if ?_
  | refine dt_test ?_
  | refine dt_B ?_
  | refine dt_not ?_
  | refine dt_and ?_
  | refine dt_or ?_
  | refine dt_yes ?_
  | refine de_int ?_
  | refine de_bl ?_
  | refine de_str ?_
  | refine de_non ?_
  | refine de_varD (by with_unfolding_all rfl) ?_
  | refine de_varO (by with_unfolding_all rfl) ?_
  | refine de_varA (by with_unfolding_all rfl) ?_
  | refine de_varV (by with_unfolding_all rfl) ?_
  | refine de_isi ?_
  | refine de_dget ?_
  | refine de_dget2 ?_
  | refine de_dnotin ?_
  | refine de_din ?_
  | refine de_dnew ?_
  | refine de_dnewT ?_
  | refine de_cb ?_
  | refine de_call0G ?_
  | refine de_callG ?_
  | refine de_andB ?_
  | refine de_orB ?_
  | refine de_notV ?_
  | refine de_ifE ?_
  | refine de_chain ?_
  | refine de_op ?_
  | refine de_neg ?_
  | refine de_tupG ?_
  | refine de_lstG ?_
  | refine de_slL ?_
  | refine de_slT ?_
  | refine do_none ?_
  | refine do_some ?_
  | refine daf_cons ?_
  | refine daf_nil ?_
  | refine daf_star ?_
  | refine da_cons ?_
  | refine da_nil ?_
  | refine lk_dat ?_
  | refine lk_nil ?_
  | refine ak_dat ?_
  | refine ak_nil ?_
  | refine ak_at ?_
  | refine ak_lst ?_
  | refine lk_lst ?_
  | refine ak_dK ?_
  | refine ak_dT ?_
  | refine ak_vw ?_
  | refine lk_dT ?_
  | refine lk_dK ?_
  | refine da_star ?_
  | refine de_lstRg1 ?_
  | refine de_lstRg2 ?_
  | refine de_revL ?_
  | refine de_count ?_
  | refine de_index ?_
  | refine di_enum ?_
  | refine dt_tru ?_
  | refine de_fldV ?_
  | refine de_prop ?_
  | refine di_rng1 ?_
  | refine di_rng2 ?_
  | refine di_list ?_
  | refine di_tup ?_
  | refine di_seq ?_
  | refine di_zip ?_
  | refine de_split ?_
  | refine de_join ?_
  | refine de_fmt ?_
  | refine de_jnil ?_
  | refine de_jcons ?_
  | refine de_ixS ?_
  | refine de_orT ?_
  | refine di_str ?_
  | refine ops_eqS ?_
  | refine ops_neS ?_
  | refine de_indexD ?_
  | refine ops_int ?_
  | (refine ops_cat (by with_unfolding_all rfl) (by with_unfolding_all rfl) ?side ?_; (case side => walk_at "len"))
  | (refine ops_catA ?side ?_; (case side => walk_at "len"))
  | refine ops_eqI ?_
  | refine ops_neI ?_
  | refine ops_bool ?_
  | (refine ops_intC ?side ?_; (case side => walk_at "side"))
  | refine cb_lenL (by with_unfolding_all rfl) ?_
  | refine cb_lenT (by with_unfolding_all rfl) ?_
  | refine cb_lenK (by with_unfolding_all rfl) ?_
  | refine cb_max2 ?_
  | refine cb_min2 ?_
  | refine cb_int ?_
  | refine ⟨fun _ => ?_, fun z => Bool.noConfusion z⟩
  | refine ⟨fun z => Bool.noConfusion z, fun _ => ?_⟩
  | refine ⟨rfl, ?_⟩
  | refine ⟨_, rfl, ?_⟩
  | refine ⟨_, Or.inl (by with_unfolding_all rfl), ?_⟩
  | (with_unfolding_all refine ⟨_, true, rfl, rfl, (fun _ z => by cases z), rfl, ?_⟩)
  | (with_unfolding_all refine ⟨_, false, rfl, rfl, (fun _ z => by cases z), rfl, ?_⟩))
local macro_rules | `(tactic| walk_at "d") => `(tactic| repeat walk_at "d1")
local macro_rules | `(tactic| walk_at "wk") => `(tactic| repeat first | exact Wk.nil | refine Wk.keep ?_ | refine Wk.drop ?_)
section
variable {P : Program} {w : World} {K : PySem.W.Frag} {mg : Str → Option Value} {base : Heap} {f : Addr} {fd : FuncData} {a_Rounding a_BadShares : Addr}
def bigD : D → Bool
  | .int v => decide (10 ^ 18 ≤ v)
  | _ => false
theorem big_map (ns : List Int) : (ns.map D.int).filter bigD = (ns.filter fun v => decide (10 ^ 18 ≤ v)).map D.int := by
  rw [List.filter_map]
  rfl
def C_law_pool : Fc := fun _ W m ss Φ Ξ => ∃ (ns : List Int), ss = [.dat (.scr ns)] ∧ ns.length ≤ 1000 ∧ ∀ (cs : List Int) (a : Int), cs.length ≤ 1000 → 0 ≤ a → a < 2147483647 → Φ m (.own (.nest [.o (.lst (cs.map D.int)), .d (.int a), .d (.int 0)]))
abbrev s_law_pool : Stmt := (top 15)
abbrev N_law_pool : List Str := ["_law_script", "_law_seed", "_law_cell"]
theorem sc_law_pool : FnScope N_law_pool ["_law_script"] (defScope s_law_pool) := ⟨rfl, rfl, rfl, by decide +kernel, rfl, by decide +kernel, by decide +kernel⟩
theorem ok_law_pool (F : FnP K "_law_pool" s_law_pool f fd) (b : BI mg) : FnOk P w K mg base CX0 1 f fd ["_law_script"] (spF K C_law_pool) := by
  have hlen := spF_len (K := K) (C := C_law_pool) (m := 1) fun κ W m ss Φ Ξ ⟨ns, e, _⟩ => by first | exact e | (rw [e]; rfl)
  refine F.ok sc_law_pool hlen ?_
  intro cdv A outer s H vs Q E hr h
  refine ⟨_, PSs.nox (pss_cons (ps_set (i := 1) sc_law_pool.nd rfl (by first | exact Or.inl rfl | exact Or.inr rfl) pe_int)
      (pss_cons (ps_for PassesOwn.never rfl (k_piL (K := K) rfl (pv 0)) (pg_name (i := 2) sc_law_pool.nd rfl (by first | exact Or.inl rfl | exact Or.inr rfl))
      (pss_one (ps_set (i := 1) sc_law_pool.nd rfl (by first | exact Or.inl rfl | exact Or.inr rfl) (pe_op op_mod (pe_callTy call_int1 rfl b.int_ boot_int (pa_cons (pe_op op_add (pe_op op_mul (pv 1) pe_int) (pv 2)) pa_nil)) pe_int))))
      (pss_one (ps_ret (pe_lst (pa_cons (pe_lc (own := [("_law_cell", 2)]) rfl sc_law_pool.nd (k_piL (K := K) rfl (pv 0)) (blkOk_by (own := [("_law_cell", 2)]) (N := N_law_pool) (sc := (defScope s_law_pool)) (by decide +kernel)) (fun _ _ _ _ _ => (pg_name (i := 2) sc_law_pool.nd rfl (by first | exact Or.inl rfl | exact Or.inr rfl))) (fun _ _ _ _ _ => pts_one (pt_cmpR op_ge (pv 2) (pe_op op_pow pe_int pe_int) (nomark _))) (fun _ _ _ _ _ => (pv 2))) (pa_cons (pv 1) (pa_cons pe_int pa_nil)))))))), ?_⟩
  refine DL.run_fnP  [.no, .no] (Nm := N_law_pool) (n := 1) (k := 2) rfl (hlen _ _ _ _ h) rfl h fun κ W m ss Φ Ξ G hc => ?_
  try dsimp only [cxOf, Cx.nox, Cx.wish, Cx.blk]
  obtain ⟨ns, rfl, hl, hΦ⟩ := hc
  walk_at "d"
  refine ds_forW (vs := [2]) ?_
  walk_at "d"
  refine ⟨fun i m' ρ => m' = m ∧ ∃ a : Int, 0 ≤ a ∧ a < 2147483647 ∧ ρ = [.dat (.scr ns), .dat (.int a), .no], ⟨_, Wk.refl _, rfl, rfl, 1, by decide, by decide, rfl⟩, ?_, ?_⟩
  · rintro i d m' ρ hd ⟨rfl, a, h0, h1, rfl⟩
    obtain ⟨y, _, rfl⟩ := List.mem_map.mp (List.mem_of_getElem? hd)
    refine ⟨_, dg_name (by simp), ?_⟩
    walk_at "d"
    exact ⟨[.dat (.scr ns), .dat (.int ((a * 48271 + y) % 2147483647)), .no], by walk_at "wk", rfl, rfl, _, Int.emod_nonneg _ (by decide), Int.emod_lt_of_pos _ (by decide), rfl⟩
  · rintro m' ρ ⟨rfl, a, h0, h1, rfl⟩
    refine ds_ret ?_
    refine de_lstN3 ?_
    refine da_cons ?_
    refine de_lcIf (f := fun d => d) (t := bigD) ?_
    walk_at "d"
    refine ⟨by rw [List.length_map]; omega, fun d hd => ?_, ?_⟩
    · obtain ⟨y, _, rfl⟩ := List.mem_map.mp hd
      refine ⟨_, dg_name (by simp), ?_⟩
      walk_at "d"
      refine fun _ => ?_
      walk_at "d"
      rfl
    · walk_at "d"
      refine ⟨.lst ((ns.filter fun v => decide (10 ^ 18 ≤ v)).map D.int), .int a, .int 0, ?_, rfl, hΦ _ a ?_ h0 h1⟩
      · rw [List.map_id', big_map]
      · exact Nat.le_trans (List.length_filter_le _ _) hl
theorem atI_0 {α : Type} (y : α) (l : List α) : atI (y :: l) 0 = some y := by
  unfold atI ixN
  rw [if_pos (by decide), if_pos (by rw [List.length_cons]; omega)]
  rfl
theorem ixN_0 {α : Type} (y : α) (l : List α) : ixN (y :: l).length 0 = some 0 := by
  unfold ixN
  rw [if_pos (by decide), if_pos (by rw [List.length_cons]; omega)]
  rfl
theorem dpA_ints {K : PySem.W.Frag} {H : Hp} : ∀ ns : List Int, DpAll K H (ns.map V.int) (ns.map PyData.int)
  | [] => .nil
  | n :: ns => .cons (.int n) (dpA_ints ns)
def C_law_draw : Fc := fun _ W m ss Φ Ξ => ∃ (p q : Addr) (L : Pool W p q) (k : Nat), ss = [.at_ p, .dat (.int (k : Nat))] ∧ 0 < k ∧ k < 1000000 ∧ 0 < L.left m ∧ ∀ d : Nat, d < k → Φ (L.dec m) (.dat (.int (d : Nat)))
abbrev s_law_draw : Stmt := (top 16)
abbrev N_law_draw : List Str := ["_law_pool_here", "_law_limit", "_law_rest", "_law_first", "_law_second", "_law_value"]
theorem sc_law_draw : FnScope N_law_draw ["_law_pool_here", "_law_limit"] (defScope s_law_draw) := ⟨rfl, rfl, rfl, by decide +kernel, rfl, by decide +kernel, by decide +kernel⟩
theorem ok_law_draw (F : FnP K "_law_draw" s_law_draw f fd) (b : BI mg) : FnOk P w K mg base CX0 1 f fd ["_law_pool_here", "_law_limit"] (spF K C_law_draw) := by
  have hlen := spF_len (K := K) (C := C_law_draw) (m := 2) fun κ W m ss Φ Ξ ⟨p, q, L, k, e, _⟩ => by first | exact e | (rw [e]; rfl)
  refine F.ok sc_law_draw hlen ?_
  intro cdv A outer s H vs Q E hr h
  refine ⟨_, PSs.nox (pss_cons (ps_set (i := 2) sc_law_draw.nd rfl (by first | exact Or.inl rfl | exact Or.inr rfl) (pe_ix (k_ixL (K := K) rfl) (pv 0) pe_int (fun _ _ => rfl)))
      (pss_cons (ps_if (pt_cmpR (k_neD (K := K) rfl hr.units) (pv 2) (pe_lst pa_nil) (nomark _)) (pss_cons (ps_set (i := 5) sc_law_draw.nd rfl (by first | exact Or.inl rfl | exact Or.inr rfl) (pe_op op_mod (pe_callTy call_int1 rfl b.int_ boot_int (pa_cons (pe_ix (k_ixL (K := K) rfl) (pv 2) pe_int (fun _ _ => rfl)) pa_nil)) (pv 1)))
      (pss_cons (ps_asg (pe_op op_fdiv (pe_ix (k_ixL (K := K) rfl) (pv 2) pe_int (fun _ _ => rfl)) (pv 1)) (pg_sub (pv 2) pe_int set_list))
      (pss_cons (ps_if (pt_cmpR (k_eqD (K := K) rfl hr.units) (pe_ix (k_ixL (K := K) rfl) (pv 2) pe_int (fun _ _ => rfl)) pe_int (nomark _)) (pss_one (ps_expr (pe_bm PySem.F.plainAttrs_list PySem.F.slot_list_pop PySem.F.type_list_pop mt_popAt (pv 2) (pa_cons pe_int pa_nil)))) pss_nil)
      (pss_one (ps_ret (pv 5)))))) pss_nil)
      (pss_cons (ps_asg (pe_op op_add (pe_ix (k_ixL (K := K) rfl) (pv 0) pe_int (fun _ _ => rfl)) pe_int) (pg_sub (pv 0) pe_int set_list))
      (pss_cons (ps_set (i := 3) sc_law_draw.nd rfl (by first | exact Or.inl rfl | exact Or.inr rfl) (pe_op op_mod (pe_op op_pow (pe_callTy call_int1 rfl b.int_ boot_int (pa_cons (pe_op op_add (pe_ix (k_ixL (K := K) rfl) (pv 0) pe_int (fun _ _ => rfl)) (pe_op op_mul pe_int (pe_ix (k_ixL (K := K) rfl) (pv 0) pe_int (fun _ _ => rfl)))) pa_nil)) pe_int) pe_int))
      (pss_cons (ps_set (i := 4) sc_law_draw.nd rfl (by first | exact Or.inl rfl | exact Or.inr rfl) (pe_op op_mod (pe_callTy call_int1 rfl b.int_ boot_int (pa_cons (pe_op op_add (pe_op op_mul (pv 3) pe_int) (pe_ix (k_ixL (K := K) rfl) (pv 0) pe_int (fun _ _ => rfl))) pa_nil)) pe_int))
      (pss_one (ps_ret (pe_op op_mod (pe_op op_fdiv (pe_callTy call_int1 rfl b.int_ boot_int (pa_cons (pv 4) pa_nil)) pe_int) (pv 1))))))))), ?_⟩
  obtain ⟨κ, W, m, G, ss, Φ, Ξ, ok, rs, ha, ⟨p, q, L, k, rfl, hk, hk2, hl, hΦ⟩, hq, he⟩ := h
  obtain ⟨v1, v2, rfl, r1, r2⟩ := relss2 rs
  obtain rfl : v1 = .ref p := r1
  cases r2
  obtain ⟨ns, a, n, hp, hqq, hln, ha0, ha1, h0, hn⟩ := L.out _ _ _ ok.inv
  have pq := L.ne
  have fin : ∀ (H1 H' : Hp) (d : Int), Ok W m G H1 → Grow W G H m G H1 → 0 ≤ d → d < k → (∀ x, x ≠ p → x ≠ q → H' x = H1 x) → PoolOk p q (L.left m - 1) H' → Q (.int d) H' := fun H1 H' d ok1 g1 d0 d1 ne hp' => by
    obtain ⟨dn, rfl⟩ : ∃ dn : Nat, d = dn := ⟨d.toNat, by omega⟩
    exact hq _ (.dat (.int dn)) (L.dec m) G H' (g1.trans (pool_grow L ok1 hl ne hp')) (Rp.int _) (hΦ dn (by omega))
  dsimp only [tSeq, tAsg, tOp, tC, gSub, tIfS, tTest, tCB, tCons, tNil, gName, tRet, tNext]
  refine h_var rfl ?_
  refine h_ix hp rfl ?_
  refine h_var rfl ?_
  refine ⟨by show 0 ≤ _; decide, fun l hll => ?_⟩
  have g1 := Grow.new ok (o := .lst []) hll
  have ok1 := g1.ok ok
  have lp : p ≠ l := fun z => by rw [z, hll] at hp; cases hp
  have lq : q ≠ l := fun z => by rw [z, hll] at hqq; cases hqq
  have hp1 : upd H l (.lst []) p = some (.lst [.ref q, .int a, .int n]) := (upd_ne lp).trans hp
  have hq1 : upd H l (.lst []) q = some (.lst (ns.map V.int)) := (upd_ne lq).trans hqq
  have hl1 : upd H l (.lst []) l = some (.lst []) := upd_same
  generalize upd H l (.lst []) = H1 at g1 ok1 hp1 hq1 hl1
  refine ⟨.list (ns.map PyData.int), .list (([] : List Int).map PyData.int), .lst (SqL.of hq1) (dpA_ints ns), .lst (SqL.of hl1) .nil, (ok_ints ns).shaped (by omega), (ok_ints []).shaped (by omega), ?_⟩
  rw [PyData.eqv, eqv_ints]
  refine ⟨_, rfl, ?_⟩
  cases ns with
  | nil =>
    rw [if_neg (by simp)]
    refine h_var rfl ?_
    refine h_ix hp1 rfl ?_
    refine h_i0 ?_
    refine h_var rfl ?_
    refine h_set (j := 2) hp1 rfl ?_
    have hp2 : upd H1 p (.lst [.ref q, .int a, .int (n + 1)]) p = some (.lst [.ref q, .int a, .int (n + 1)]) := upd_same
    have hq2 : upd H1 p (.lst [.ref q, .int a, .int (n + 1)]) q = some (.lst []) := (upd_ne (Ne.symm pq)).trans hq1
    have ne2 : ∀ x, x ≠ p → x ≠ q → upd H1 p (.lst [.ref q, .int a, .int (n + 1)]) x = H1 x := fun x h1 _ => upd_ne h1
    have eH : upd H1 p (.lst (List.set [V.ref q, V.int a, V.int n] 2 (V.int (n + 1)))) = upd H1 p (.lst [.ref q, .int a, .int (n + 1)]) := rfl
    rw [eH]
    generalize upd H1 p (.lst [.ref q, .int a, .int (n + 1)]) = H2 at hp2 hq2 ne2
    refine h_var rfl ?_
    refine h_ix hp2 rfl ?_
    refine h_var rfl ?_
    refine h_ix hp2 rfl ?_
    refine h_i (Or.inl ⟨by decide, by decide⟩) ?_
    refine h_i0 ?_
    refine .inl ⟨_, rfl, ?_⟩
    refine h_i ⟨by decide, by decide, by omega⟩ ?_
    refine h_i (by show (0 : Int) < _; decide) ?_
    generalize ((a + 7919 * (n + 1)) ^ (5 : Int).toNat) % 2147483647 = mix
    refine h_var rfl ?_
    refine h_i (Or.inr ⟨by decide, by decide⟩) ?_
    refine h_var rfl ?_
    refine h_ix hp2 rfl ?_
    refine h_i0 ?_
    refine .inl ⟨_, rfl, ?_⟩
    refine h_i (by show (0 : Int) < _; decide) ?_
    refine h_var rfl ?_
    refine .inl ⟨_, rfl, ?_⟩
    refine h_i ⟨by decide, by decide⟩ ?_
    refine h_var rfl ?_
    refine h_i (by show (0 : Int) < _; omega) ?_
    exact fin H1 H2 _ ok1 g1 (Int.emod_nonneg _ (by omega)) (Int.emod_lt_of_pos _ (by omega)) ne2 ⟨[], a, n + 1, hp2, hq2, by simp, ha0, ha1, by omega, by omega⟩
  | cons y ns =>
    rw [if_pos (by simp)]
    have hq1 : H1 q = some (.lst (.int y :: ns.map V.int)) := hq1
    refine h_var rfl ?_
    refine h_ix hq1 (v := .int y) (atI_0 _ _) ?_
    refine .inl ⟨_, rfl, ?_⟩
    refine h_var rfl ?_
    refine h_i (by show (0 : Int) < _; omega) ?_
    refine h_var rfl ?_
    refine h_ix hq1 (v := .int y) (atI_0 _ _) ?_
    refine h_var rfl ?_
    refine h_i ⟨by omega, by omega⟩ ?_
    refine h_var rfl ?_
    refine h_set (j := 0) hq1 (ixN_0 _ _) ?_
    have hp2 : upd H1 q (.lst (.int (y / k) :: ns.map V.int)) p = some (.lst [.ref q, .int a, .int n]) := (upd_ne pq).trans hp1
    have hq2 : upd H1 q (.lst (.int (y / k) :: ns.map V.int)) q = some (.lst (.int (y / k) :: ns.map V.int)) := upd_same
    have ne2 : ∀ x, x ≠ p → x ≠ q → upd H1 q (.lst (.int (y / k) :: ns.map V.int)) x = H1 x := fun x _ h1 => upd_ne h1
    have eH : upd H1 q (.lst (List.set (V.int y :: ns.map V.int) 0 (V.int (y / k)))) = upd H1 q (.lst (.int (y / k) :: ns.map V.int)) := rfl
    rw [eH]
    generalize upd H1 q (.lst (.int (y / k) :: ns.map V.int)) = H2 at hp2 hq2 ne2
    refine h_var rfl ?_
    refine h_ix hq2 (v := .int (y / k)) (atI_0 _ _) ?_
    refine ⟨.int (y / k), .int 0, .int _, .int _, rfl, rfl, ?_⟩
    rw [PyData.eqv]
    refine ⟨_, rfl, ?_⟩
    by_cases hz : y / k = 0
    · rw [if_pos (by simp [hz])]
      refine ⟨_, rfl, .inl ⟨rfl, _, SqL.of hq2⟩, q, _, 0, 0, .int (y / k), rfl, rfl, hq2, by decide, by decide, ?_, rfl, ?_⟩
      · exact (ixN_seq (ixN_0 _ _)).1
      refine h_var rfl ?_
      have hp3 : upd H2 q (.lst (ns.map V.int)) p = some (.lst [.ref q, .int a, .int n]) := (upd_ne pq).trans hp2
      have hq3 : upd H2 q (.lst (ns.map V.int)) q = some (.lst (ns.map V.int)) := upd_same
      exact fin H1 _ _ ok1 g1 (Int.emod_nonneg _ (by omega)) (Int.emod_lt_of_pos _ (by omega)) (fun x h1 h2 => (upd_ne h2).trans (ne2 x h1 h2)) ⟨ns, a, n, hp3, hq3, by rw [List.length_cons] at hln; omega, ha0, ha1, by omega, by omega⟩
    · rw [if_neg (by simp [hz])]
      refine h_var rfl ?_
      exact fin H1 H2 _ ok1 g1 (Int.emod_nonneg _ (by omega)) (Int.emod_lt_of_pos _ (by omega)) ne2 ⟨y / k :: ns, a, n, hp2, hq2, by rw [List.length_cons] at hln ⊢; omega, ha0, ha1, by omega, by omega⟩
end
end Pf
set_option Elab.async false
set_option linter.all false
set_option maxRecDepth 100000
set_option maxHeartbeats 1000000
namespace Pf
open PySem PySem.Spec PyProof.Rows L2 DL
theorem zip_getD {α β : Type} {l : List α} {k : List β} {i : Nat} {x : α} {y : β} (h : i < l.length) (h2 : i < k.length) : (l.getD i x, k.getD i y) ∈ l.zip k := by
  have e : (l.zip k)[i]? = some (l.getD i x, k.getD i y) := by
    rw [List.getElem?_eq_getElem (by rw [List.length_zip]; omega), List.getElem_zip, List.getD_eq_getElem?_getD, List.getD_eq_getElem?_getD, List.getElem?_eq_getElem h, List.getElem?_eq_getElem h2]
    rfl
  exact List.mem_of_getElem? e
theorem zip_mem_at {α β : Type} {l : List α} {k : List β} {z : α × β} (x : α) (y : β) (h : z ∈ l.zip k) : ∃ i, i < l.length ∧ i < k.length ∧ z = (l.getD i x, k.getD i y) := by
  obtain ⟨i, hi, rfl⟩ := List.mem_iff_getElem.mp h
  rw [List.length_zip] at hi
  refine ⟨i, by omega, by omega, ?_⟩
  rw [List.getElem_zip, List.getD_eq_getElem?_getD, List.getD_eq_getElem?_getD, List.getElem?_eq_getElem (by omega), List.getElem?_eq_getElem (by omega)]
  rfl
section
variable {rows gv : List (List Int)} {w : Nat} {b : Int}
theorem len_at (hl : gv.map List.length = rows.map List.length) {k : Nat} (hk : k < rows.length) : gv.length = rows.length ∧ (gv.getD k []).length = (rows.getD k []).length := by
  have h1 : gv.length = rows.length := by have := congrArg List.length hl; simpa using this
  refine ⟨h1, ?_⟩
  have h2 : (gv.map List.length)[k]? = (rows.map List.length)[k]? := by rw [hl]
  rw [List.getElem?_map, List.getElem?_map, List.getElem?_eq_getElem hk, List.getElem?_eq_getElem (by omega)] at h2
  rw [List.getD_eq_getElem?_getD, List.getD_eq_getElem?_getD, List.getElem?_eq_getElem hk, List.getElem?_eq_getElem (by omega)]
  exact Option.some.inj h2
theorem isD_at (hl : gv.map List.length = rows.map List.length) (h : isD rows w b gv = true) {k : Nat} (hk : k < rows.length) : (∀ j, j < (rows.getD k []).length → rsh (numOf gv k j) (numOf rows k j) b = true) ∧ rsh (gv.getD k []).sum (rows.getD k []).sum b = true := by
  obtain ⟨h1, h2⟩ := len_at hl hk
  unfold isD at h
  rw [Bool.and_eq_true, Bool.and_eq_true, List.all_eq_true] at h
  have := h.1.2 _ (zip_getD (x := []) (y := []) hk (by omega : k < gv.length))
  rw [Bool.and_eq_true, List.all_eq_true] at this
  exact ⟨fun j hj => this.1 _ (zip_getD (x := 0) (y := 0) (show j < (gv.getD k []).length by omega) hj), this.2⟩
theorem isD_of (hl : gv.map List.length = rows.map List.length) (h : ∀ k, k < rows.length → (∀ j, j < (rows.getD k []).length → rsh (numOf gv k j) (numOf rows k j) b = true) ∧ rsh (gv.getD k []).sum (rows.getD k []).sum b = true) : isD rows w b gv = decide ((colS gv w).map (· * b) = colS rows w) := by
  have e : ((rows.zip gv).all fun x => ((x.2.zip x.1).all fun y => rsh y.1 y.2 b) && rsh x.2.sum x.1.sum b) = true := by
    rw [List.all_eq_true]
    intro x hx
    obtain ⟨k, hk, hk2, rfl⟩ := zip_mem_at [] [] hx
    obtain ⟨a, c⟩ := h k hk
    rw [Bool.and_eq_true, List.all_eq_true]
    refine ⟨fun y hy => ?_, c⟩
    obtain ⟨j, _, hj, rfl⟩ := zip_mem_at 0 0 hy
    exact a j hj
  unfold isD
  rw [e, decide_eq_true hl]
  rfl
end
end Pf
set_option Elab.async false
set_option linter.all false
set_option maxRecDepth 100000
set_option maxHeartbeats 1000000
namespace Pf
open PySem PySem.Spec PyProof.Rows L2 DL
/-- an own list of own rows -/
def nstD (gv : List (List Int)) : List DL.It := gv.map fun r => .o (.lst (r.map D.int))
theorem nst_len (gv : List (List Int)) : (nstD gv).length = gv.length := by unfold nstD; rw [List.length_map]
theorem nst_at {gv : List (List Int)} {j : Nat} (h : j < gv.length) : (nstD gv)[j]? = some (.o (.lst ((gv.getD j []).map D.int))) := by
  unfold nstD
  rw [List.getElem?_map, List.getElem?_eq_getElem h, List.getD_eq_getElem?_getD, List.getElem?_eq_getElem h]
  rfl
theorem nst_set (gv : List (List Int)) (j : Nat) (r : List Int) : (nstD gv).set j (.o (.lst (r.map D.int))) = nstD (gv.set j r) := by
  unfold nstD
  rw [List.map_set]
theorem nst_frz (gv : List (List Int)) : (nstD gv).map DL.It.frz = gv.map lrD := by
  unfold nstD
  rw [List.map_map]
  rfl
theorem nst_snoc (gv : List (List Int)) (r : List Int) : nstD gv ++ [.o (.lst (r.map D.int))] = nstD (gv ++ [r]) := by
  unfold nstD
  rw [List.map_append]
  rfl
theorem ints_set (r : List Int) (l : Nat) (v : Int) : (r.map D.int).set l (.int v) = (r.set l v).map D.int := by rw [List.map_set]
theorem ixN_nat {n k : Nat} (h : k < n) : ixN n (k : Nat) = some k := by
  unfold ixN
  rw [if_pos (by omega), if_pos (by omega), Int.toNat_natCast]
theorem pl_rws {n : Nat} (gv : List (List Int)) : Pl (n + 2) (rwsD gv) := .lst fun d hd => by
  obtain ⟨r, _, rfl⟩ := List.mem_map.mp hd
  exact .lst fun d hd => by
    obtain ⟨v, _, rfl⟩ := List.mem_map.mp hd
    exact .int v
/-- how large the rows may have become -/
def Bd (gv gv2 : List (List Int)) : Prop := (gv2.length ≤ gv.length + 1 ∨ gv2.length ≤ 400) ∧ ∀ g ∈ gv2, g.length ≤ 400 ∨ ∃ g' ∈ gv, g.length ≤ g'.length + 1
theorem Bd.refl (gv : List (List Int)) : Bd gv gv := ⟨.inl (Nat.le_succ _), fun g hg => .inr ⟨g, hg, Nat.le_succ _⟩⟩
theorem Bd.nil (gv : List (List Int)) : Bd gv [] := ⟨.inl (Nat.zero_le _), fun g hg => by cases hg⟩
theorem getD_in3 {gv : List (List Int)} {j : Nat} (h : j < gv.length) : gv.getD j [] ∈ gv := getD_in2 h
theorem Bd.set {gv gv2 : List (List Int)} {j : Nat} {r : List Int} (h : Bd gv gv2) (hr : ∃ g' ∈ gv, r.length ≤ g'.length + 1) : Bd gv (gv2.set j r) :=
  ⟨by rw [List.length_set]; exact h.1, fun g hg => by
    rcases List.mem_or_eq_of_mem_set hg with z | rfl
    · exact h.2 g z
    · exact .inr hr⟩
theorem getD_set {gv : List (List Int)} {j : Nat} (r : List Int) (h : j < gv.length) : (gv.set j r).getD j [] = r := by
  rw [List.getD_eq_getElem?_getD, List.getElem?_set]
  simp [h]
theorem getD_set_ne {gv : List (List Int)} {j k : Nat} (r : List Int) (h : j ≠ k) : (gv.set j r).getD k [] = gv.getD k [] := by
  rw [List.getD_eq_getElem?_getD, List.getElem?_set_ne h, List.getD_eq_getElem?_getD]
end Pf
set_option Elab.async false
set_option linter.all false
set_option maxRecDepth 100000
set_option maxHeartbeats 1000000
namespace Pf
open PySem PySem.Spec PyProof.Rows L2 DL
theorem num_set {rows : List (List Int)} {k : Nat} {r' : List Int} (hk : k < rows.length) (r c : Nat) : numOf (rows.set k r') r c = numOf rows r c + if r = k then r'.getD c 0 - numOf rows k c else 0 := by
  show ((rows.set k r').getD r []).getD c 0 = _
  by_cases e : r = k
  · subst e
    rw [getD_set r' hk, if_pos rfl]
    omega
  · rw [getD_set_ne r' (Ne.symm e), if_neg e, Int.add_zero]
    rfl
theorem col_set {rows : List (List Int)} {k : Nat} {r' : List Int} (hk : k < rows.length) (c : Nat) : colOf (rows.set k r') c = colOf rows c + (r'.getD c 0 - numOf rows k c) := by
  rw [col_sumN, col_sumN, List.length_set, sumN_congr fun r _ => num_set hk r c, sumN_add, sumN_one, if_pos hk]
/-- what the last row is made of -/
def fixA (S b : Int) : Int := (b - S % b) % b
theorem fixA_whole {b : Int} (hb : 0 < b) (S : Int) : (S + fixA S b) % b = 0 := by
  unfold fixA
  have h0 := Int.emod_nonneg S (show b ≠ 0 by omega)
  have h1 := Int.emod_lt_of_pos S hb
  have h2 := Int.emod_def S b
  by_cases z : S % b = 0
  · rw [z, Int.sub_zero, Int.emod_self, Int.add_zero, z]
  · rw [Int.emod_eq_of_lt (show 0 ≤ b - S % b by omega) (by omega)]
    have : S + (b - S % b) = b * (S / b + 1) := by rw [Int.mul_add, Int.mul_one]; omega
    rw [this]
    exact Int.mul_emod_right _ _
theorem fix_whl {rows : List (List Int)} {w k : Nat} {b : Int} {r' : List Int} (hb : 0 < b) (hk : k < rows.length) (h : ∀ c, c < w → r'.getD c 0 = numOf rows k c + fixA (colOf rows c) b) : Whl (rows.set k r') w b := fun c hc => by
  rw [col_set hk, h c hc]
  have := fixA_whole hb (colOf rows c)
  rw [show colOf rows c + (numOf rows k c + fixA (colOf rows c) b - numOf rows k c) = colOf rows c + fixA (colOf rows c) b by omega]
  exact this
theorem rc_set {rows : List (List Int)} {w k : Nat} {r' : List Int} (hr : Rc rows w) (h : r'.length = w) : Rc (rows.set k r') w := by
  refine ⟨fun z => hr.ne ?_, fun r hr2 => ?_, by rw [List.length_set]; exact hr.l1, hr.lw⟩
  · have := congrArg List.length z
    rw [List.length_set] at this
    exact List.length_eq_zero_iff.mp this
  · rcases List.mem_or_eq_of_mem_set hr2 with z | rfl
    · exact hr.eq r z
    · exact h
theorem getD_setI {r : List Int} {j c : Nat} {v : Int} (h : j < r.length) : (r.set j v).getD c 0 = if c = j then v else r.getD c 0 := by
  rw [List.getD_eq_getElem?_getD, List.getElem?_set]
  by_cases e : j = c
  · subst e; simp [h]
  · rw [if_neg e, if_neg (fun z => e z.symm), List.getD_eq_getElem?_getD]
end Pf
set_option Elab.async false
set_option linter.all false
set_option maxRecDepth 100000
set_option maxHeartbeats 1000000
set_option Elab.async false
set_option linter.all false
set_option maxRecDepth 100000
set_option maxHeartbeats 1000000
namespace Pf
open PySem PySem.Spec PyProof.Rows L2 DL
theorem set_getD_self (gv : List (List Int)) (k : Nat) : gv.set k (gv.getD k []) = gv := by
  apply List.ext_getElem?
  intro j
  rw [List.getElem?_set]
  by_cases e : k = j
  · subst e
    rw [if_pos rfl]
    by_cases h : k < gv.length
    · rw [if_pos h, List.getD_eq_getElem?_getD, List.getElem?_eq_getElem h]
      rfl
    · rw [if_neg h, List.getElem?_eq_none (by omega)]
  · rw [if_neg e]
theorem colS_atD {rows : List (List Int)} {w j : Nat} (h : j < w) : (colS rows w).getD j 0 = colOf rows j := by
  unfold colS
  simp [List.getD, h]
end Pf
set_option Elab.async false
set_option linter.all false
set_option maxRecDepth 100000
set_option maxHeartbeats 1000000
namespace Pf
open PySem PySem.Spec PyProof.Rows L2 DL
section
variable {rows gv : List (List Int)} {w : Nat} {b : Int}
theorem Dl.isD (hr : Rc rows w) (h : Dl rows w b gv) : isD rows w b gv = true := by
  rw [isD_of h.l fun k hk => ⟨fun j hj => ?_, ?_⟩]
  · refine decide_eq_true ?_
    unfold colS
    rw [List.map_map]
    exact List.map_congr_left fun c hc => h.c c (by simpa using hc)
  · have hw := hr.eq _ (getD_in2 hk)
    exact decide_eq_true (h.e k hk j (by omega))
  · exact decide_eq_true (h.r k hk)
theorem rc_len (hr : Rc rows w) (h : gv.map List.length = rows.map List.length) : Rc gv w := by
  have hl : gv.length = rows.length := by have := congrArg List.length h; simpa using this
  refine ⟨fun z => ?_, fun g hg => ?_, by rw [hl]; exact hr.l1, hr.lw⟩
  · rw [z] at hl
    exact hr.ne (List.length_eq_zero_iff.mp hl.symm)
  · have : g.length ∈ rows.map List.length := by rw [← h]; exact List.mem_map.mpr ⟨g, hg, rfl⟩
    obtain ⟨r, hr2, e⟩ := List.mem_map.mp this
    rw [← e, hr.eq r hr2]
theorem Dl.rc (hr : Rc rows w) (h : Dl rows w b gv) : Rc gv w := rc_len hr h.l
theorem Dl.one (hr : Rc rows w) (h : Dl rows w 1 gv) : gv = rows := by
  have hg := h.rc hr
  have hl : gv.length = rows.length := by have := congrArg List.length h.l; simpa using this
  apply List.ext_getElem hl
  intro i h1 h2
  have e1 : (gv.getD i []) = gv[i] := by simp [List.getD, h1]
  have e2 : (rows.getD i []) = rows[i] := by simp [List.getD, h2]
  rw [← e1, ← e2]
  have l1 := hg.eq _ (getD_in2 h1)
  have l2 := hr.eq _ (getD_in2 h2)
  apply List.ext_getElem (by omega)
  intro j h3 h4
  have e3 : (gv.getD i []).getD j 0 = (gv.getD i [])[j] := by rw [List.getD_eq_getElem?_getD, List.getElem?_eq_getElem h3]; rfl
  have e4 : (rows.getD i []).getD j 0 = (rows.getD i [])[j] := by rw [List.getD_eq_getElem?_getD, List.getElem?_eq_getElem h4]; rfl
  rw [← e3, ← e4]
  have := h.e i h2 j (by omega)
  unfold numOf at this
  rw [Int.ediv_one, Int.ediv_one] at this
  omega
/-- columns whose sums are not whole -/
def badC (rows : List (List Int)) (w : Nat) (b : Int) : List Nat := (List.range w).filter fun c => decide (colOf rows c % b ≠ 0)
theorem badC_nil (h : badC rows w b = []) : Whl rows w b := fun c hc => by
  have := List.filter_eq_nil_iff.mp h c (by simpa using hc)
  simpa using this
theorem badC_hd {c0 : Nat} {rest : List Nat} (h : badC rows w b = c0 :: rest) {c : Nat} (hc : c < w) (h1 : colOf rows c % b ≠ 0) (h2 : ∀ c', c' < c → colOf rows c' % b = 0) : c0 = c := by
  have hm : c0 ∈ badC rows w b := by rw [h]; simp
  obtain ⟨m1, m2⟩ := List.mem_filter.mp hm
  have m2 : colOf rows c0 % b ≠ 0 := by simpa using m2
  have hge : ¬ c0 < c := fun z => m2 (h2 c0 z)
  have hcm : c ∈ badC rows w b := List.mem_filter.mpr ⟨by simpa using hc, by simpa using h1⟩
  have hs : (badC rows w b).Pairwise (· < ·) := List.Pairwise.filter _ (List.pairwise_lt_range)
  rw [h] at hs hcm
  rcases List.mem_cons.mp hcm with z | z
  · exact z.symm
  · have := (List.pairwise_cons.mp hs).1 c z
    omega
theorem badC_whl {c0 : Nat} {rest : List Nat} (h : badC rows w b = c0 :: rest) : ¬ Whl rows w b := fun hw => by
  have hm : c0 ∈ badC rows w b := by rw [h]; simp
  obtain ⟨m1, m2⟩ := List.mem_filter.mp hm
  have m2 : colOf rows c0 % b ≠ 0 := by simpa using m2
  exact m2 (hw c0 (by simpa using m1))
theorem badC_flt (rows : List (List Int)) (w : Nat) (b : Int) : ((rngD 0 w).filter fun d => decide (colOf rows (iOf d).toNat % b ≠ 0)) = (badC rows w b).map fun c : Nat => D.int (c : Nat) := by
  unfold rngD badC
  rw [List.filter_map]
  have e : (List.range w).filter ((fun d => decide (colOf rows (iOf d).toNat % b ≠ 0)) ∘ fun i : Nat => D.int (0 + (i : Int))) = (List.range w).filter fun c => decide (colOf rows c % b ≠ 0) := List.filter_congr fun c _ => by show decide (colOf rows (0 + (c : Int)).toNat % b ≠ 0) = _; rw [Int.zero_add, Int.toNat_natCast]
  rw [e]
  exact List.map_congr_left fun c _ => by simp
end
end Pf
set_option Elab.async false
set_option linter.all false
set_option maxRecDepth 100000
set_option maxHeartbeats 1000000
namespace Pf
open PySem PySem.Spec PyProof.Rows L2 DL
local macro_rules | `(tactic| walk_at "len") => `(tactic| with_unfolding_all first | exact Nat.le_of_ble_eq_true rfl | (simp; done) | (simp; omega))
local macro_rules | `(tactic| walk_at "side") => `(tactic| with_unfolding_all first | exact Or.inr ⟨by omega, by omega⟩ | exact Or.inl ⟨by omega, by omega⟩ | exact ⟨by omega, by omega⟩ | exact ⟨by omega, by omega, by omega⟩ | (show (0 : Int) < _; omega) | decide)
local macro_rules | `(tactic| walk_at "d1") => `(tactic| with_reducible first
  | (refine ds_seq ?_; try dsimp only [List.set_cons_zero, List.set_cons_succ, List.cons_append, List.nil_append, O.frz])
  | refine ds_asg ?_
  | refine ds_ret ?_
  | refine ds_retN ?_
  | refine ds_next ?_
  | refine ds_dropC ?_
  | refine ds_drop0 ?_
  | refine ds_dropB ?_
  | refine ds_if ?_
  | refine dt_test ?_
  | refine dt_B ?_
  | refine dt_not ?_
  | refine dt_and ?_
  | refine dt_or ?_
  | refine dt_yes ?_
  | refine de_int ?_
  | refine de_bl ?_
  | refine de_str ?_
  | refine de_non ?_
  | refine de_varD (by with_unfolding_all rfl) ?_
  | refine de_varO (by with_unfolding_all rfl) ?_
  | refine de_varA (by with_unfolding_all rfl) ?_
  | refine de_varV (by with_unfolding_all rfl) ?_
  | refine de_isi ?_
  | refine de_dget ?_
  | refine de_dget2 ?_
  | refine de_dnotin ?_
  | refine de_din ?_
  | refine de_dnew ?_
  | refine de_dnewT ?_
  | refine de_cb ?_
  | refine de_call0G ?_
  | refine de_callG ?_
  | refine de_andB ?_
  | refine de_orB ?_
  | refine de_notV ?_
  | refine de_ifE ?_
  | refine de_chain ?_
  | refine de_op ?_
  | refine de_neg ?_
  | refine de_tupG ?_
  | refine de_lstG ?_
  | refine de_slL ?_
  | refine de_slT ?_
  | refine do_none ?_
  | refine do_some ?_
  | refine daf_cons ?_
  | refine daf_nil ?_
  | refine daf_star ?_
  | refine da_cons ?_
  | refine da_nil ?_
  | refine lk_dat ?_
  | refine lk_nil ?_
  | refine ak_dat ?_
  | refine ak_nil ?_
  | refine ak_at ?_
  | refine ak_lst ?_
  | refine lk_lst ?_
  | refine ak_dK ?_
  | refine ak_dT ?_
  | refine ak_vw ?_
  | refine lk_dT ?_
  | refine lk_dK ?_
  | refine da_star ?_
  | refine de_lstRg1 ?_
  | refine de_lstRg2 ?_
  | refine de_revL ?_
  | refine de_count ?_
  | refine de_index ?_
  | refine di_enum ?_
  | refine dt_tru ?_
  | refine de_fldV ?_
  | refine de_prop ?_
  | refine di_rng1 ?_
  | refine di_rng2 ?_
  | refine di_list ?_
  | refine di_tup ?_
  | refine di_seq ?_
  | refine di_zip ?_
  | refine de_split ?_
  | refine de_join ?_
  | refine de_fmt ?_
  | refine de_jnil ?_
  | refine de_jcons ?_
  | refine de_ixS ?_
  | refine de_orT ?_
  | refine di_str ?_
  | refine ops_eqS ?_
  | refine ops_neS ?_
  | refine de_indexD ?_
  | refine ops_int ?_
  | (refine ops_cat (by with_unfolding_all rfl) (by with_unfolding_all rfl) ?side ?_; (case side => walk_at "len"))
  | (refine ops_catA ?side ?_; (case side => walk_at "len"))
  | refine ops_eqI ?_
  | refine ops_neI ?_
  | refine ops_bool ?_
  | (refine ops_intC ?side ?_; (case side => walk_at "side"))
  | refine cb_lenL (by with_unfolding_all rfl) ?_
  | refine cb_lenT (by with_unfolding_all rfl) ?_
  | refine cb_lenK (by with_unfolding_all rfl) ?_
  | refine cb_max2 ?_
  | refine cb_min2 ?_
  | refine cb_int ?_
  | refine ⟨fun _ => ?_, fun z => Bool.noConfusion z⟩
  | refine ⟨fun z => Bool.noConfusion z, fun _ => ?_⟩
  | refine ⟨rfl, ?_⟩
  | refine ⟨_, rfl, ?_⟩
  | refine ⟨_, Or.inl (by with_unfolding_all rfl), ?_⟩
  | (with_unfolding_all refine ⟨_, true, rfl, rfl, (fun _ z => by cases z), rfl, ?_⟩)
  | (with_unfolding_all refine ⟨_, false, rfl, rfl, (fun _ z => by cases z), rfl, ?_⟩))
local macro_rules | `(tactic| walk_at "d") => `(tactic| repeat walk_at "d1")
local macro_rules | `(tactic| walk_at "wk") => `(tactic| repeat first | exact Wk.nil | refine Wk.keep ?_ | refine Wk.drop ?_)
section
variable {P : Program} {w : World} {K : PySem.W.Frag} {mg : Str → Option Value} {base : Heap} {f : Addr} {fd : FuncData} {a_Rounding a_BadShares a_TeamError : Addr}
def C_law_sums : Fc := fun _ W m ss Φ Ξ => ∃ (rows : List (List Int)) (w : Nat), ss = [.dat (rwsD rows)] ∧ Rc rows w ∧ Φ m (.own (.lst ((colS rows w).map D.int)))
abbrev s_law_sums : Stmt := (top 17)
abbrev N_law_sums : List Str := ["_law_rows", "_law_k", "_law_row"]
theorem sc_law_sums : FnScope N_law_sums ["_law_rows"] (defScope s_law_sums) := ⟨rfl, rfl, rfl, by decide +kernel, rfl, by decide +kernel, by decide +kernel⟩
theorem ok_law_sums (F : FnP K "_law_sums" s_law_sums f fd) (b : BI mg) : FnOk P w K mg base CX0 1 f fd ["_law_rows"] (spF K C_law_sums) := by
  have hlen := spF_len (K := K) (C := C_law_sums) (m := 1) fun κ W m ss Φ Ξ ⟨rows, w, e, _⟩ => by first | exact e | (rw [e]; rfl)
  refine F.ok sc_law_sums hlen ?_
  intro cdv A outer s H vs Q E hr h
  refine ⟨_, PSs.nox (pss_one (ps_ret (pe_lc (own := [("_law_k", 1)]) rfl sc_law_sums.nd (pi_range1 rfl b.range (pa_cons (pe_callB (k_len (K := K) rfl) rfl b.len boot_len (pa_cons (pe_ix (k_ixL (K := K) rfl) (pv 0) pe_int (fun _ _ => rfl)) pa_nil)) pa_nil)) (blkOk_by (own := [("_law_k", 1)]) (N := N_law_sums) (sc := (defScope s_law_sums)) (by decide +kernel)) (fun _ _ _ _ _ => (pg_name (i := 1) sc_law_sums.nd rfl (by first | exact Or.inl rfl | exact Or.inr rfl))) (fun _ _ _ _ _ => pts_nil) (fun _ _ _ _ _ => (pe_callB (k_sum (K := K) rfl rfl) rfl b.sum boot_sum (pa_cons (pe_lc (own := [("_law_row", 2)]) rfl sc_law_sums.nd (k_piL (K := K) rfl (pv 0)) (blkOk_by (own := [("_law_row", 2)]) (by kernel_rfl)) (fun _ _ _ _ _ => (pg_name (i := 2) sc_law_sums.nd rfl (by first | exact Or.inl rfl | exact Or.inr rfl))) (fun _ _ _ _ _ => pts_nil) (fun _ _ _ _ _ => (pe_ix (k_ixL (K := K) rfl) (pv 2) (pv 1) (fun _ _ => rfl)))) pa_nil)))))), ?_⟩
  refine DL.run_fnP  [.no, .no] (Nm := N_law_sums) (n := 1) (k := 2) rfl (hlen _ _ _ _ h) rfl h fun κ W m ss Φ Ξ G hc => ?_
  try dsimp only [cxOf, Cx.nox, Cx.wish, Cx.blk]
  obtain ⟨rows, w0, rfl, hr, hΦ⟩ := hc
  have l1 := hr.l1
  have lw := hr.lw
  obtain ⟨r0, rest, er, hr0⟩ := hr.cons
  have fin2 : (rngD 0 w0).map (fun d => D.int (colOf rows (iOf d).toNat)) = (colS rows w0).map D.int := by
    rw [rng_map w0 _ (fun c => D.int (colOf rows c)) fun c _ => by simp [iOf]]
    unfold colS
    rw [List.map_map]
    rfl
  walk_at "d"
  refine de_lcMap (f := fun d => D.int (colOf rows (iOf d).toNat)) ?_
  walk_at "d"
  refine ops_ixL (d := lrD r0) rfl (by rw [er]; exact atN (i := 0) rfl) ?_
  walk_at "d"
  rw [List.length_map, hr0, Int.toNat_natCast]
  refine ⟨by omega, by omega, by rw [rng_len]; omega, fun d hd => ⟨_, dg_name (by simp), ?_⟩, ?_⟩
  · obtain ⟨c, hc, rfl⟩ := rng_mem hd
    walk_at "d"
    refine de_lcMap (f := fun d => D.int ((lOf d).getD c 0)) ?_
    walk_at "d"
    refine ⟨by rw [List.length_map]; omega, fun d hd => ⟨_, dg_name (by simp), ?_⟩, ?_⟩
    · obtain ⟨r, hr2, rfl⟩ := List.mem_map.mp hd
      have hrl := hr.eq r hr2
      walk_at "d"
      refine ops_ixL (d := .int (r.getD c 0)) rfl (atI_lr (by omega)) ?_
      exact ⟨rfl, by rw [lOf_lr]; rfl⟩
    · walk_at "d"
      refine cb_sum (ns := rows.map fun r => r.getD c 0) (.inl (by
        show some _ = some _
        rw [col_list])) ?_
      exact ⟨rfl, by simp [iOf, colOf]; rfl⟩
  · rw [fin2]
    exact ⟨rfl, hΦ⟩
def C_law_rounds_it : Fc := fun _ W m ss Φ Ξ => ∃ (v a b : Int), ss = [.dat (.int v), .dat (.int a), .dat (.int b)] ∧ 0 < b ∧ b < 1000000 ∧ Φ m (.dat (.bl (rsh v a b)))
abbrev s_law_rounds_it : Stmt := (top 18)
abbrev N_law_rounds_it : List Str := ["_law_value", "_law_number", "_law_bottom"]
theorem sc_law_rounds_it : FnScope N_law_rounds_it ["_law_value", "_law_number", "_law_bottom"] (defScope s_law_rounds_it) := ⟨rfl, rfl, rfl, by decide +kernel, rfl, by decide +kernel, by decide +kernel⟩
theorem ok_law_rounds_it (F : FnP K "_law_rounds_it" s_law_rounds_it f fd) (b : BI mg) : FnOk P w K mg base CX0 1 f fd ["_law_value", "_law_number", "_law_bottom"] (spF K C_law_rounds_it) := by
  have hlen := spF_len (K := K) (C := C_law_rounds_it) (m := 3) fun κ W m ss Φ Ξ ⟨v, a, b, e, _⟩ => by first | exact e | (rw [e]; rfl)
  refine F.ok sc_law_rounds_it hlen ?_
  intro cdv A outer s H vs Q E hr h
  refine ⟨_, PSs.nox (pss_cons (ps_if (PW.pt (pw_or (pt_not (pt_val (pe_callB (k_isi (K := K) rfl) rfl b.isinstance boot_isinstance (pa_cons (pv 0) (pa_cons (pe_bltn (v := .ty "int") rfl b.int_ boot_int rfl) pa_nil))))) (pw_or1 (pt_val (pe_callB (k_isi (K := K) rfl) rfl b.isinstance boot_isinstance (pa_cons (pv 0) (pa_cons (pe_bltn (v := .ty "bool") rfl b.bool_ boot_bool rfl) pa_nil))))))) (pss_one (ps_ret pe_bl)) pss_nil)
      (pss_one (ps_ret (pe_or (pe_cmpR (k_eqD (K := K) rfl hr.units) (pv 0) (pe_op op_fdiv (pv 1) (pv 2)) (nomark _)) (pe_one (pe_cmpR (k_eqD (K := K) rfl hr.units) (pv 0) (pe_op op_fdiv (pe_op op_sub (pe_op op_add (pv 1) (pv 2)) pe_int) (pv 2)) (nomark _))))))), ?_⟩
  refine DL.run_fnP  [] (Nm := N_law_rounds_it) (n := 3) (k := 0) rfl (hlen _ _ _ _ h) rfl h fun κ W m ss Φ Ξ G hc => ?_
  try dsimp only [cxOf, Cx.nox, Cx.wish, Cx.blk]
  obtain ⟨v, a, b, rfl, hb, hb2, hΦ⟩ := hc
  walk_at "d"
  refine ⟨fun h1 => ?_, fun h1 => ?_⟩
  · have e : rsh v a b = decide (v = (a + b - 1) / b) := by
      unfold rsh
      have : ¬ v = a / b := by simpa using h1
      simp [this]
    rw [e] at hΦ
    walk_at "d"
    exact hΦ
  · have e : rsh v a b = true := by
      unfold rsh
      have : v = a / b := by simpa using h1
      simp [this]
    rw [e] at hΦ
    exact ⟨rfl, hΦ⟩
def C_law_right : Fc := fun _ W m ss Φ Ξ => ∃ (rows : List (List Int)) (w : Nat) (b : Int) (gv : List (List Int)), ss = [.dat (rwsD rows), .dat (.int b), .dat (rwsD gv)] ∧ Rc rows w ∧ 0 < b ∧ b < 1000000 ∧ gv.length ≤ 1000 ∧ (∀ g ∈ gv, g.length ≤ 1000) ∧ Φ m (.dat (.bl (isD rows w b gv)))
abbrev s_law_right : Stmt := (top 19)
abbrev N_law_right : List Str := ["_law_rows", "_law_bottom", "_law_told", "_law_k", "_law_j", "_law_total", "_law_row"]
theorem sc_law_right : FnScope N_law_right ["_law_rows", "_law_bottom", "_law_told"] (defScope s_law_right) := ⟨rfl, rfl, rfl, by decide +kernel, rfl, by decide +kernel, by decide +kernel⟩
theorem ok_law_right (F : FnP K "_law_right" s_law_right f fd) (b : BI mg) (c_law_rounds_it : Cl P w K mg base CX0 1 "_law_rounds_it" ["_law_value", "_law_number", "_law_bottom"] C_law_rounds_it) (c_law_sums : Cl P w K mg base CX0 1 "_law_sums" ["_law_rows"] C_law_sums) : FnOk P w K mg base CX0 2 f fd ["_law_rows", "_law_bottom", "_law_told"] (spF K C_law_right) := by
  have hlen := spF_len (K := K) (C := C_law_right) (m := 3) fun κ W m ss Φ Ξ ⟨rows, w, b, gv, e, _⟩ => by first | exact e | (rw [e]; rfl)
  refine F.ok sc_law_right hlen ?_
  intro cdv A outer s H vs Q E hr h
  refine ⟨_, PSs.nox (pss_cons (ps_if (PW.pt (pw_or (pt_not (pt_val (pe_callB (k_isi (K := K) rfl) rfl b.isinstance boot_isinstance (pa_cons (pv 2) (pa_cons (pe_bltn (v := .ty "list") rfl b.list_ boot_list rfl) pa_nil))))) (pw_or1 (pt_cmpR (k_neD (K := K) rfl hr.units) (pe_lc (own := [("_law_row", 6)]) rfl sc_law_right.nd (k_piL (K := K) rfl (pv 2)) (blkOk_by (own := [("_law_row", 6)]) (N := N_law_right) (sc := (defScope s_law_right)) (by decide +kernel)) (fun _ _ _ _ _ => (pg_name (i := 6) sc_law_right.nd rfl (by first | exact Or.inl rfl | exact Or.inr rfl))) (fun _ _ _ _ _ => pts_nil) (fun _ _ _ _ _ => (pe_callB (k_len (K := K) rfl) rfl b.len boot_len (pa_cons (pv 6) pa_nil)))) (pe_lc (own := [("_law_row", 6)]) rfl sc_law_right.nd (k_piL (K := K) rfl (pv 0)) (blkOk_by (own := [("_law_row", 6)]) (N := N_law_right) (sc := (defScope s_law_right)) (by decide +kernel)) (fun _ _ _ _ _ => (pg_name (i := 6) sc_law_right.nd rfl (by first | exact Or.inl rfl | exact Or.inr rfl))) (fun _ _ _ _ _ => pts_nil) (fun _ _ _ _ _ => (pe_callB (k_len (K := K) rfl) rfl b.len boot_len (pa_cons (pv 6) pa_nil)))) (nomark _))))) (pss_one (ps_ret pe_bl)) pss_nil)
      (pss_cons (ps_for PassesOwn.never rfl (pi_range1 rfl b.range (pa_cons (pe_callB (k_len (K := K) rfl) rfl b.len boot_len (pa_cons (pv 0) pa_nil)) pa_nil)) (pg_name (i := 3) sc_law_right.nd rfl (by first | exact Or.inl rfl | exact Or.inr rfl))
      (pss_cons (ps_for PassesOwn.never rfl (pi_range1 rfl b.range (pa_cons (pe_callB (k_len (K := K) rfl) rfl b.len boot_len (pa_cons (pe_ix (k_ixL (K := K) rfl) (pv 0) (pv 3) (fun _ _ => rfl)) pa_nil)) pa_nil)) (pg_name (i := 4) sc_law_right.nd rfl (by first | exact Or.inl rfl | exact Or.inr rfl))
      (pss_one (ps_if (pt_not (pt_val (k_cl0 c_law_rounds_it rfl hr (pa_cons (pe_ix (k_ixL (K := K) rfl) (pe_ix (k_ixL (K := K) rfl) (pv 2) (pv 3) (fun _ _ => rfl)) (pv 4) (fun _ _ => rfl)) (pa_cons (pe_ix (k_ixL (K := K) rfl) (pe_ix (k_ixL (K := K) rfl) (pv 0) (pv 3) (fun _ _ => rfl)) (pv 4) (fun _ _ => rfl)) (pa_cons (pv 1) pa_nil)))))) (pss_one (ps_ret pe_bl)) pss_nil)))
      (pss_one (ps_if (pt_not (pt_val (k_cl0 c_law_rounds_it rfl hr (pa_cons (pe_callB (k_sum (K := K) rfl rfl) rfl b.sum boot_sum (pa_cons (pe_ix (k_ixL (K := K) rfl) (pv 2) (pv 3) (fun _ _ => rfl)) pa_nil)) (pa_cons (pe_callB (k_sum (K := K) rfl rfl) rfl b.sum boot_sum (pa_cons (pe_ix (k_ixL (K := K) rfl) (pv 0) (pv 3) (fun _ _ => rfl)) pa_nil)) (pa_cons (pv 1) pa_nil)))))) (pss_one (ps_ret pe_bl)) pss_nil))))
      (pss_one (ps_ret (pe_cmpR (k_eqD (K := K) rfl hr.units) (pe_lc (own := [("_law_total", 5)]) rfl sc_law_right.nd (k_piL (K := K) rfl (k_cl0 c_law_sums rfl hr (pa_cons (pv 2) pa_nil))) (blkOk_by (own := [("_law_total", 5)]) (N := N_law_right) (sc := (defScope s_law_right)) (by decide +kernel)) (fun _ _ _ _ _ => (pg_name (i := 5) sc_law_right.nd rfl (by first | exact Or.inl rfl | exact Or.inr rfl))) (fun _ _ _ _ _ => pts_nil) (fun _ _ _ _ _ => (pe_op op_mul (pv 5) (pv 1)))) (k_cl0 c_law_sums rfl hr (pa_cons (pv 0) pa_nil)) (nomark _)))))), ?_⟩
  refine DL.run_fnP  [.no, .no, .no, .no] (Nm := N_law_right) (n := 3) (k := 4) rfl (hlen _ _ _ _ h) rfl h fun κ W m ss Φ Ξ G hc => ?_
  try dsimp only [cxOf, Cx.nox, Cx.wish, Cx.blk]
  obtain ⟨rows, w0, b, gv, rfl, hr, hb, hb2, hg1, hg2, hΦ⟩ := hc
  have l1 := hr.l1
  have lw := hr.lw
  have el : ∀ rs : List (List Int), (rs.map lrD).map (fun d => D.int ((lOf d).length : Nat)) = ((rs.map List.length).map fun n : Nat => (n : Int)).map D.int := fun rs => by
    rw [List.map_map, List.map_map, List.map_map]
    exact List.map_congr_left fun r _ => by show D.int ((lOf (lrD r)).length : Nat) = _; rw [lOf_lr]; rfl
  walk_at "d"
  refine de_lcMap (f := fun d => D.int ((lOf d).length : Nat)) ?_
  walk_at "d"
  refine ⟨by rw [List.length_map]; omega, fun d hd => ⟨_, dg_name (by simp), ?_⟩, ?_⟩
  · obtain ⟨r, hr2, rfl⟩ := List.mem_map.mp hd
    walk_at "d"
    rw [lOf_lr, List.length_map]
    rfl
  refine de_lcMap (f := fun d => D.int ((lOf d).length : Nat)) ?_
  walk_at "d"
  refine ⟨by rw [List.length_map]; omega, fun d hd => ⟨_, dg_name (by simp), ?_⟩, ?_⟩
  · obtain ⟨r, hr2, rfl⟩ := List.mem_map.mp hd
    walk_at "d"
    rw [lOf_lr, List.length_map]
    rfl
  rw [el, el]
  refine ops_neInts rfl rfl ?_
  refine ⟨_, rfl, fun hn => ?_, fun hn => ?_⟩
  · have hne : gv.map List.length ≠ rows.map List.length := fun z => by
      rw [z] at hn
      simp at hn
    have : isD rows w0 b gv = false := by unfold isD; simp [hne]
    rw [this] at hΦ
    walk_at "d"
    exact hΦ
  have hlen : gv.map List.length = rows.map List.length := natc_inj.mp (by simpa using hn)
  walk_at "d"
  refine ds_forW (vs := [3]) ?_
  walk_at "d"
  rw [List.length_map, Int.toNat_natCast]
  refine ⟨by omega, by omega, fun i m' ρ => m' = m ∧ ρ = [.dat (rwsD rows), .dat (.int b), .dat (rwsD gv), .no, .no, .no, .no] ∧ ∀ k, k < i → (∀ j, j < (rows.getD k []).length → rsh (numOf gv k j) (numOf rows k j) b = true) ∧ rsh (gv.getD k []).sum (rows.getD k []).sum b = true, ⟨_, Wk.refl _, rfl, rfl, rfl, fun k hk => by omega⟩, ?_, ?_⟩
  · rintro i d m' ρ hd ⟨rfl, rfl, hpre⟩
    obtain ⟨hi, rfl⟩ := rng_at hd
    rw [Int.zero_add]
    obtain ⟨hgl, hgi⟩ := len_at hlen hi
    have hri := hr.eq _ (getD_in2 hi)
    refine ⟨_, dg_name (by simp), ?_⟩
    dsimp only [List.set_cons_zero, List.set_cons_succ]
    refine ds_seq ?_
    refine ds_forW (vs := [4]) ?_
    walk_at "d"
    refine ops_ixL (d := lrD (rows.getD i [])) rfl (atI_rws hi) ?_
    walk_at "d"
    rw [List.length_map, Int.toNat_natCast]
    refine ⟨by omega, by omega, fun j m2 ρ => m2 = m' ∧ ρ = [.dat (rwsD rows), .dat (.int b), .dat (rwsD gv), .dat (.int (i : Nat)), .no, .no, .no] ∧ ∀ j', j' < j → rsh (numOf gv i j') (numOf rows i j') b = true, ⟨_, Wk.refl _, rfl, rfl, rfl, fun k hk => by omega⟩, ?_, ?_⟩
    · rintro j d m2 ρ hd ⟨rfl, rfl, hpj⟩
      obtain ⟨hj, rfl⟩ := rng_at hd
      rw [Int.zero_add]
      refine ⟨_, dg_name (by simp), ?_⟩
      walk_at "d"
      refine ops_ixL (d := lrD (gv.getD i [])) rfl (atI_rws (by omega)) ?_
      walk_at "d"
      refine ops_ixL (d := .int (numOf gv i j)) rfl (atI_lr (by omega)) ?_
      walk_at "d"
      refine ops_ixL (d := lrD (rows.getD i [])) rfl (atI_rws hi) ?_
      walk_at "d"
      refine ops_ixL (d := .int (numOf rows i j)) rfl (atI_lr (by omega)) ?_
      walk_at "d"
      refine ⟨_, _, _, rfl, hb, hb2, ?_⟩
      refine ⟨_, rfl, fun q => ?_, fun q => ?_⟩
      · have hD : isD rows w0 b gv = false := by
          cases hh : isD rows w0 b gv with
          | false => rfl
          | true =>
            have := (isD_at hlen hh hi).1 j hj
            have h2 : (!rsh (numOf gv i j) (numOf rows i j) b) = true := q
            rw [this] at h2
            cases h2
        rw [hD] at hΦ
        walk_at "d"
        exact hΦ
      · have h2 : (!rsh (numOf gv i j) (numOf rows i j) b) = false := q
        walk_at "d"
        refine ⟨[.dat (rwsD rows), .dat (.int b), .dat (rwsD gv), .dat (.int (i : Nat)), .no, .no, .no], by walk_at "wk", rfl, rfl, rfl, fun j' hj' => ?_⟩
        by_cases e : j' = j
        · subst e; simpa using h2
        · exact hpj j' (by omega)
    · rintro m2 ρ ⟨rfl, rfl, hpj⟩
      rw [rng_len] at hpj
      walk_at "d"
      refine ops_ixL (d := lrD (gv.getD i [])) rfl (atI_rws (by omega)) ?_
      walk_at "d"
      refine cb_sum (ns := gv.getD i []) (.inl rfl) ?_
      walk_at "d"
      refine ops_ixL (d := lrD (rows.getD i [])) rfl (atI_rws hi) ?_
      walk_at "d"
      refine cb_sum (ns := rows.getD i []) (.inl rfl) ?_
      walk_at "d"
      refine ⟨_, _, _, rfl, hb, hb2, ?_⟩
      refine ⟨_, rfl, fun q => ?_, fun q => ?_⟩
      · have hD : isD rows w0 b gv = false := by
          cases hh : isD rows w0 b gv with
          | false => rfl
          | true =>
            have := (isD_at hlen hh hi).2
            have h2 : (!rsh (gv.getD i []).sum (rows.getD i []).sum b) = true := q
            rw [this] at h2
            cases h2
        rw [hD] at hΦ
        walk_at "d"
        exact hΦ
      · have h2 : (!rsh (gv.getD i []).sum (rows.getD i []).sum b) = false := q
        walk_at "d"
        refine ⟨[.dat (rwsD rows), .dat (.int b), .dat (rwsD gv), .no, .no, .no, .no], by walk_at "wk", rfl, rfl, rfl, fun k hk => ?_⟩
        by_cases e : k = i
        · subst e; exact ⟨hpj, by simpa using h2⟩
        · exact hpre k (by omega)
  · rintro m' ρ ⟨rfl, rfl, hpre⟩
    rw [rng_len] at hpre
    rw [isD_of hlen hpre] at hΦ
    have hrcg : Rc gv w0 := rc_len hr hlen
    walk_at "d"
    refine de_lcMap (f := fun d => .int (iOf d * b)) ?_
    walk_at "d"
    refine ⟨gv, w0, rfl, hrcg, ?_⟩
    refine ⟨_, rfl, ?_⟩
    refine ⟨by rw [List.length_map, colS_len]; omega, fun d hd => ⟨_, dg_name (by simp), ?_⟩, ?_⟩
    · obtain ⟨v, _, rfl⟩ := List.mem_map.mp hd
      walk_at "d"
      rfl
    rw [show ((colS gv w0).map D.int).map (fun d => .int (iOf d * b)) = ((colS gv w0).map (· * b)).map D.int by
      rw [List.map_map, List.map_map]
      rfl]
    walk_at "d"
    refine ⟨rows, w0, rfl, hr, ?_⟩
    refine ops_eqInts rfl rfl ?_
    refine ⟨rfl, ?_⟩
    exact hΦ
end
end Pf
set_option Elab.async false
set_option linter.all false
set_option maxRecDepth 100000
set_option maxHeartbeats 1000000
namespace Pf
open PySem PySem.Spec PyProof.Rows L2 DL
local macro_rules | `(tactic| walk_at "len") => `(tactic| with_unfolding_all first | exact Nat.le_of_ble_eq_true rfl | (simp; done) | (simp; omega))
local macro_rules | `(tactic| walk_at "side") => `(tactic| with_unfolding_all first | exact Or.inr ⟨by omega, by omega⟩ | exact Or.inl ⟨by omega, by omega⟩ | exact ⟨by omega, by omega⟩ | exact ⟨by omega, by omega, by omega⟩ | (show (0 : Int) < _; omega) | decide)
local macro_rules | `(tactic| walk_at "d1") => `(tactic| with_reducible first
  | (refine ds_seq ?_; try dsimp only [List.set_cons_zero, List.set_cons_succ, List.cons_append, List.nil_append, O.frz])
  | refine ds_asg ?_
  | refine ds_ret ?_
  | refine ds_retN ?_
  | refine ds_next ?_
  | refine ds_dropC ?_
  | refine ds_drop0 ?_
  | refine ds_dropB ?_
  | refine ds_if ?_
  | refine dt_test ?_
  | refine dt_B ?_
  | refine dt_not ?_
  | refine dt_and ?_
  | refine dt_or ?_
  | refine dt_yes ?_
  | refine de_int ?_
  | refine de_bl ?_
  | refine de_str ?_
  | refine de_non ?_
  | refine de_varD (by with_unfolding_all rfl) ?_
  | refine de_varO (by with_unfolding_all rfl) ?_
  | refine de_varA (by with_unfolding_all rfl) ?_
  | refine de_varV (by with_unfolding_all rfl) ?_
  | refine de_isi ?_
  | refine de_dget ?_
  | refine de_dget2 ?_
  | refine de_dnotin ?_
  | refine de_din ?_
  | refine de_dnew ?_
  | refine de_dnewT ?_
  | refine de_cb ?_
  | refine de_call0G ?_
  | refine de_callG ?_
  | refine de_andB ?_
  | refine de_orB ?_
  | refine de_notV ?_
  | refine de_ifE ?_
  | refine de_chain ?_
  | refine de_op ?_
  | refine de_neg ?_
  | refine de_tupG ?_
  | refine de_lstG ?_
  | refine de_slL ?_
  | refine de_slT ?_
  | refine do_none ?_
  | refine do_some ?_
  | refine daf_cons ?_
  | refine daf_nil ?_
  | refine daf_star ?_
  | refine da_cons ?_
  | refine da_nil ?_
  | refine lk_dat ?_
  | refine lk_nil ?_
  | refine ak_dat ?_
  | refine ak_nil ?_
  | refine ak_at ?_
  | refine ak_lst ?_
  | refine lk_lst ?_
  | refine ak_dK ?_
  | refine ak_dT ?_
  | refine ak_vw ?_
  | refine lk_dT ?_
  | refine lk_dK ?_
  | refine da_star ?_
  | refine de_lstRg1 ?_
  | refine de_lstRg2 ?_
  | refine de_revL ?_
  | refine de_count ?_
  | refine de_index ?_
  | refine di_enum ?_
  | refine dt_tru ?_
  | refine de_fldV ?_
  | refine de_prop ?_
  | refine di_rng1 ?_
  | refine di_rng2 ?_
  | refine di_list ?_
  | refine di_tup ?_
  | refine di_seq ?_
  | refine di_zip ?_
  | refine de_split ?_
  | refine de_join ?_
  | refine de_fmt ?_
  | refine de_jnil ?_
  | refine de_jcons ?_
  | refine de_ixS ?_
  | refine de_orT ?_
  | refine di_str ?_
  | refine ops_eqS ?_
  | refine ops_neS ?_
  | refine de_indexD ?_
  | refine ops_int ?_
  | (refine ops_cat (by with_unfolding_all rfl) (by with_unfolding_all rfl) ?side ?_; (case side => walk_at "len"))
  | (refine ops_catA ?side ?_; (case side => walk_at "len"))
  | refine ops_eqI ?_
  | refine ops_neI ?_
  | refine ops_bool ?_
  | (refine ops_intC ?side ?_; (case side => walk_at "side"))
  | refine cb_lenL (by with_unfolding_all rfl) ?_
  | refine cb_lenT (by with_unfolding_all rfl) ?_
  | refine cb_lenK (by with_unfolding_all rfl) ?_
  | refine cb_max2 ?_
  | refine cb_min2 ?_
  | refine cb_int ?_
  | refine ⟨fun _ => ?_, fun z => Bool.noConfusion z⟩
  | refine ⟨fun z => Bool.noConfusion z, fun _ => ?_⟩
  | refine ⟨rfl, ?_⟩
  | refine ⟨_, rfl, ?_⟩
  | refine ⟨_, Or.inl (by with_unfolding_all rfl), ?_⟩
  | (with_unfolding_all refine ⟨_, true, rfl, rfl, (fun _ z => by cases z), rfl, ?_⟩)
  | (with_unfolding_all refine ⟨_, false, rfl, rfl, (fun _ z => by cases z), rfl, ?_⟩))
local macro_rules | `(tactic| walk_at "d") => `(tactic| repeat walk_at "d1")
local macro_rules | `(tactic| walk_at "wk") => `(tactic| repeat first | exact Wk.nil | refine Wk.keep ?_ | refine Wk.drop ?_)
section
variable {P : Program} {w : World} {K : PySem.W.Frag} {mg : Str → Option Value} {base : Heap} {f : Addr} {fd : FuncData} {a_Rounding a_BadShares a_TeamError : Addr}
def C_law_error (X T C : Addr) : Fc := fun _ W m ss Φ Ξ => ∃ (rows : List (List Int)) (w : Nat) (b : Int) (gv : List (List Int)) (c0 : Nat) (rest : List Nat), ss = [.dat (rwsD rows), .dat (.int b), .dat (rwsD gv)] ∧ (∀ a, ¬ W.L a) ∧ Rc rows w ∧ rows.length * w ≤ 100000 ∧ 0 < b ∧ b < 1000000 ∧ gv.length ≤ 1000 ∧ (∀ g ∈ gv, g.length ≤ 1000) ∧ badC rows w b = c0 :: rest ∧ Φ m (.dat (.int (c0 : Nat)))
abbrev s_law_error : Stmt := (top 20)
abbrev N_law_error : List Str := ["_law_rows", "_law_bottom", "_law_given", "e", "_law_column"]
theorem sc_law_error : FnScope N_law_error ["_law_rows", "_law_bottom", "_law_given"] (defScope s_law_error) := ⟨rfl, rfl, rfl, by decide +kernel, rfl, by decide +kernel, by decide +kernel⟩
theorem ok_law_error (F : FnP K "_law_error" s_law_error f fd) (b : BI mg) (x_BadShares : Xc P w K mg base "BadShares" a_BadShares ["column"]) (gx_TeamError : mg "TeamError" = some (.ref a_TeamError)) (xi_BadShares : Ex2 K a_BadShares a_TeamError) (nv : mg "ValueError" = none) (c_dealt : Cl P w K mg base (L2.CX P w) 8 "dealt" ["rows", "bottom"] (C_dealt a_BadShares a_Rounding)) (c_is_dealt : Cl P w K mg base (L2.CX P w) 4 "is_dealt" ["rows", "bottom", "given"] (C_is_dealt a_BadShares)) : FnOk P w K mg base CX0 9 f fd ["_law_rows", "_law_bottom", "_law_given"] (spF K (C_law_error a_BadShares a_TeamError a_Rounding)) := by
  have hlen := spF_len (K := K) (C := (C_law_error a_BadShares a_TeamError a_Rounding)) (m := 3) fun κ W m ss Φ Ξ ⟨rows, w, b, gv, c0, rest, e, _⟩ => by first | exact e | (rw [e]; rfl)
  refine F.ok sc_law_error hlen ?_
  intro cdv A outer s H vs Q E hr h
  refine ⟨_, PSs.nox (pss_cons (ps_try_as (i := 3) rfl rfl sc_law_error.nd rfl rfl ⟨rfl, by decide, Or.inl x_BadShares.gC⟩ takes0
      (fun W pn xe tk po => (pss_one (ps_if (pt_cmpR (k_eqD (K := K) rfl hr.units) (pv 2) (pe_lst pa_nil) (nomark _)) (pss_one (ps_expr (k_clS c_dealt rfl hr tk (pa_cons (pv 0) (pa_cons (pv 1) pa_nil))))) (pss_one (ps_expr (k_clS c_is_dealt rfl hr tk (pa_cons (pv 0) (pa_cons (pv 1) (pa_cons (pv 2) pa_nil)))))))))
      (fun a oe cls d pn hz hf => (pss_cons (ps_set (i := 4) sc_law_error.nd rfl (by first | exact Or.inl rfl | exact Or.inr rfl) (pe_xf x_BadShares.xf (x_BadShares.noat _ (by simp)) hz hf (pv 3)))
      (pss_cons (ps_if (PW.pt (pw_or (pt_val (pe_callB (k_isi (K := K) rfl) rfl b.isinstance boot_isinstance (pa_cons (pv 4) (pa_cons (pe_bltn (v := .ty "bool") rfl b.bool_ boot_bool rfl) pa_nil)))) (pw_or (pt_not (pt_val (pe_callB (k_isE2 (K := K) rfl hz hf) rfl b.isinstance boot_isinstance (pa_cons (pv 3) (pa_cons (pe_glob (v := .ref a_TeamError) rfl gx_TeamError rfl) pa_nil))))) (pw_or1 (pt_not (pt_val (pe_callB (k_isE2 (K := K) rfl hz hf) rfl b.isinstance boot_isinstance (pa_cons (pv 3) (pa_cons (pe_bltn (v := .ty "ValueError") rfl nv boot_VErr rfl) pa_nil))))))))) (pss_one (ps_ret (pe_un un_neg pe_int))) pss_nil)
      (pss_one (ps_ret (pv 4)))))))
      (pss_one (ps_ret (pe_un un_neg pe_int)))), ?_⟩
  refine DL.run_fnP  [.no, .no] (Nm := N_law_error) (n := 3) (k := 2) rfl (hlen _ _ _ _ h) rfl h fun κ W m ss Φ Ξ G hc => ?_
  try dsimp only [cxOf, Cx.nox, Cx.wish, Cx.blk]
  obtain ⟨rows, w0, b, gv, c0, rest, rfl, hL, hr, hrw, hb, hb2, hg1, hg2, hbad, hΦ⟩ := hc
  refine ds_seq ?_
  refine ds_tryIfS ?_
  refine dt_test ?_
  refine de_op ?_
  walk_at "d"
  refine ops_eqNil (pl_rws (n := 58) gv) rfl rfl ?_
  refine ⟨_, rfl, fun h0 => ?_, fun h0 => ?_⟩
  · refine ds_tryDropW (fun m' C fs => m' = m ∧ C = a_BadShares ∧ fs = [(("column" : Str), D.int (c0 : Nat))]) ?_ ?_
    · walk_at "d"
      refine ⟨true, true, rows, w0, b, rfl, hL, hr, hrw, hb, hb2, fun c hc h1 h2 => ⟨rfl, rfl, by rw [badC_hd hbad hc h1 h2]⟩, fun hw => absurd hw (badC_whl hbad)⟩
    · rintro m' C fs ⟨rfl, rfl, rfl⟩
      refine hx_as (l := []) x_BadShares.te fun a d => ?_
      dsimp only [List.cons_append, List.nil_append, List.set_cons_zero, List.set_cons_succ]
      refine ds_seq ?_
      refine ds_asg ?_
      refine de_xf rfl (by with_unfolding_all rfl) ?_
      refine ⟨rfl, ?_⟩
      dsimp only [List.set_cons_zero, List.set_cons_succ]
      repeat first
        | refine de_isE (cc := .ref a_TeamError) (cv := .ref a_TeamError) rfl xi_BadShares.c (fun u r => r) xi_BadShares.t ?_
        | refine de_isE (cc := .ty "ValueError") (cv := .type "ValueError") rfl xi_BadShares.c (fun u r => r) xi_BadShares.v ?_
        | walk_at "d1"
      exact hΦ
  · refine ds_tryDropW (fun m' C fs => m' = m ∧ C = a_BadShares ∧ fs = [(("column" : Str), D.int (c0 : Nat))]) ?_ ?_
    · walk_at "d"
      refine ⟨true, true, true, true, rows, w0, b, gv, rfl, hr, hb, hb2, hg1, hg2, fun c hc h1 h2 => ⟨rfl, rfl, by rw [badC_hd hbad hc h1 h2]⟩, fun hw => absurd hw (badC_whl hbad)⟩
    · rintro m' C fs ⟨rfl, rfl, rfl⟩
      refine hx_as (l := []) x_BadShares.te fun a d => ?_
      dsimp only [List.cons_append, List.nil_append, List.set_cons_zero, List.set_cons_succ]
      refine ds_seq ?_
      refine ds_asg ?_
      refine de_xf rfl (by with_unfolding_all rfl) ?_
      refine ⟨rfl, ?_⟩
      dsimp only [List.set_cons_zero, List.set_cons_succ]
      repeat first
        | refine de_isE (cc := .ref a_TeamError) (cv := .ref a_TeamError) rfl xi_BadShares.c (fun u r => r) xi_BadShares.t ?_
        | refine de_isE (cc := .ty "ValueError") (cv := .type "ValueError") rfl xi_BadShares.c (fun u r => r) xi_BadShares.v ?_
        | walk_at "d1"
      exact hΦ
def C_law_drawn : Fc := fun _ W m ss Φ Ξ => ∃ (p q : Addr) (L : Pool W p q) (b : Nat), ss = [.at_ p, .dat (.int (b : Nat))] ∧ 0 < b ∧ b ≤ 60 ∧ 1000 ≤ L.left m ∧ Dn W ∧ ∀ m2 rows w, L.left m ≤ L.left m2 + 600 → Rc rows w → Whl rows w (b : Nat) → rows.length * w ≤ 400 → rows.length ≤ 130 → 0 < w → w ≤ 130 → Φ m2 (.own (.nest (nstD rows)))
abbrev s_law_drawn : Stmt := (top 21)
abbrev N_law_drawn : List Str := ["_law_pool_here", "_law_bottom", "_law_many", "_law_wide", "_law_rows", "_law_k", "_law_last", "_law_sums_here", "_law_j", "_law_most"]
theorem sc_law_drawn : FnScope N_law_drawn ["_law_pool_here", "_law_bottom"] (defScope s_law_drawn) := ⟨rfl, rfl, rfl, by decide +kernel, rfl, by decide +kernel, by decide +kernel⟩
theorem ok_law_drawn (F : FnP K "_law_drawn" s_law_drawn f fd) (b : BI mg) (c_law_draw : Cl P w K mg base CX0 1 "_law_draw" ["_law_pool_here", "_law_limit"] C_law_draw) (c_law_sums : Cl P w K mg base CX0 1 "_law_sums" ["_law_rows"] C_law_sums) : FnOk P w K mg base CX0 2 f fd ["_law_pool_here", "_law_bottom"] (spF K C_law_drawn) := by
  have hlen := spF_len (K := K) (C := C_law_drawn) (m := 2) fun κ W m ss Φ Ξ ⟨p, q, L, b, e, _⟩ => by first | exact e | (rw [e]; rfl)
  refine F.ok sc_law_drawn hlen ?_
  intro cdv A outer s H vs Q E hr h
  refine ⟨_, PSs.nox (pss_cons (ps_set (i := 2) sc_law_drawn.nd rfl (by first | exact Or.inl rfl | exact Or.inr rfl) (pe_op op_add pe_int (k_cl0 c_law_draw rfl hr (pa_cons (pv 0) (pa_cons pe_int pa_nil)))))
      (pss_cons (ps_set (i := 3) sc_law_drawn.nd rfl (by first | exact Or.inl rfl | exact Or.inr rfl) (pe_op op_add pe_int (k_cl0 c_law_draw rfl hr (pa_cons (pv 0) (pa_cons pe_int pa_nil)))))
      (pss_cons (ps_if (pt_cmpR (k_eqD (K := K) rfl hr.units) (k_cl0 c_law_draw rfl hr (pa_cons (pv 0) (pa_cons pe_int pa_nil))) pe_int (nomark _)) (pss_cons (ps_set (i := 2) sc_law_drawn.nd rfl (by first | exact Or.inl rfl | exact Or.inr rfl) (pe_op op_add pe_int (k_cl0 c_law_draw rfl hr (pa_cons (pv 0) (pa_cons pe_int pa_nil)))))
      (pss_cons (ps_set (i := 3) sc_law_drawn.nd rfl (by first | exact Or.inl rfl | exact Or.inr rfl) pe_int)
      (pss_one (ps_if (pt_cmpR (k_eqD (K := K) rfl hr.units) (k_cl0 c_law_draw rfl hr (pa_cons (pv 0) (pa_cons pe_int pa_nil))) pe_int (nomark _)) (pss_cons (ps_set (i := 3) sc_law_drawn.nd rfl (by first | exact Or.inl rfl | exact Or.inr rfl) (pv 2))
      (pss_one (ps_set (i := 2) sc_law_drawn.nd rfl (by first | exact Or.inl rfl | exact Or.inr rfl) pe_int))) pss_nil)))) pss_nil)
      (pss_cons (ps_set (i := 4) sc_law_drawn.nd rfl (by first | exact Or.inl rfl | exact Or.inr rfl) (pe_lst pa_nil))
      (pss_cons (ps_for PassesOwn.never rfl (pi_range1 rfl b.range (pa_cons (pv 2) pa_nil)) (pg_name (i := 5) sc_law_drawn.nd rfl (by first | exact Or.inl rfl | exact Or.inr rfl))
      (pss_cons (ps_set (i := 9) sc_law_drawn.nd rfl (by first | exact Or.inl rfl | exact Or.inr rfl) (pe_ix (k_ixL (K := K) rfl) (pe_lst (pa_cons pe_int (pa_cons pe_int (pa_cons (pv 1) (pa_cons pe_int (pa_cons pe_int pa_nil)))))) (k_cl0 c_law_draw rfl hr (pa_cons (pv 0) (pa_cons pe_int pa_nil))) (fun _ _ => rfl)))
      (pss_one (ps_expr (k_app (K := K) rfl (pv 4) (pa_cons (pe_lc (own := [("_law_j", 8)]) rfl sc_law_drawn.nd (pi_range1 rfl b.range (pa_cons (pv 3) pa_nil)) (blkOk_by (own := [("_law_j", 8)]) (N := N_law_drawn) (sc := (defScope s_law_drawn)) (by decide +kernel)) (fun _ _ _ _ _ => (pg_name (i := 8) sc_law_drawn.nd rfl (by first | exact Or.inl rfl | exact Or.inr rfl))) (fun _ _ _ _ _ => pts_nil) (fun _ _ _ _ _ => (k_cl0 c_law_draw rfl hr (pa_cons (pv 0) (pa_cons (pv 9) pa_nil))))) pa_nil))))))
      (pss_cons (ps_set (i := 6) sc_law_drawn.nd rfl (by first | exact Or.inl rfl | exact Or.inr rfl) (pe_ix (k_ixL (K := K) rfl) (pv 4) (pe_op op_sub (pv 2) pe_int) (fun _ _ => rfl)))
      (pss_cons (ps_set (i := 7) sc_law_drawn.nd rfl (by first | exact Or.inl rfl | exact Or.inr rfl) (k_cl0 c_law_sums rfl hr (pa_cons (pv 4) pa_nil)))
      (pss_cons (ps_for PassesOwn.never rfl (pi_range1 rfl b.range (pa_cons (pv 3) pa_nil)) (pg_name (i := 8) sc_law_drawn.nd rfl (by first | exact Or.inl rfl | exact Or.inr rfl))
      (pss_one (ps_asg (pe_op op_add (pe_ix (k_ixL (K := K) rfl) (pv 6) (pv 8) (fun _ _ => rfl)) (pe_op op_mod (pe_op op_sub (pv 1) (pe_op op_mod (pe_callTy call_int1 rfl b.int_ boot_int (pa_cons (pe_ix (k_ixL (K := K) rfl) (pv 7) (pv 8) (fun _ _ => rfl)) pa_nil)) (pv 1))) (pv 1))) (pg_sub (pv 6) (pv 8) set_list))))
      (pss_one (ps_ret (pv 4))))))))))), ?_⟩
  refine DL.run_fnP  [.no, .no, .no, .no, .no, .no, .no, .no] (Nm := N_law_drawn) (n := 2) (k := 8) rfl (hlen _ _ _ _ h) rfl h fun κ W m ss Φ Ξ G hc => ?_
  try dsimp only [cxOf, Cx.nox, Cx.wish, Cx.blk]
  obtain ⟨p, q, L, b, rfl, hb0, hb1, hL, hgf, hΦ⟩ := hc
  dsimp only [List.cons_append, List.nil_append]
  refine ds_cut (fun m2 ρ => ∃ (many : Nat), 0 < many ∧ many ≤ 9 ∧ L.left m ≤ L.left m2 + 1 ∧ ρ = [.at_ p, .dat (.int (b : Nat)), .dat (.int (many : Nat)), .no, .no, .no, .no, .no, .no, .no]) ?_ ?_
  · walk_at "d"
    refine ⟨p, q, L, 9, rfl, by decide, by decide, by omega, fun x1 hx1 => ?_⟩
    have hl1 := L.less m (by omega)
    walk_at "d"
    exact ⟨_, Wk.refl _, rfl, x1 + 1, by omega, by omega, by omega, by rw [show (1 : Int) + (x1 : Nat) = ((x1 + 1 : Nat) : Int) by omega]; rfl⟩
  rintro m1 ρ ⟨many, hm0, hm1, hl1, rfl⟩
  refine ds_cut (fun m2 ρ => ∃ (wide : Nat), 0 < wide ∧ wide ≤ 9 ∧ L.left m ≤ L.left m2 + 2 ∧ ρ = [.at_ p, .dat (.int (b : Nat)), .dat (.int (many : Nat)), .dat (.int (wide : Nat)), .no, .no, .no, .no, .no, .no]) ?_ ?_
  · walk_at "d"
    refine ⟨p, q, L, 9, rfl, by decide, by decide, by omega, fun x1 hx1 => ?_⟩
    have hl2 := L.less m1 (by omega)
    walk_at "d"
    exact ⟨_, Wk.refl _, rfl, x1 + 1, by omega, by omega, by omega, by rw [show (1 : Int) + (x1 : Nat) = ((x1 + 1 : Nat) : Int) by omega]; rfl⟩
  rintro m2 ρ ⟨wide, hw0, hw1, hl2, rfl⟩
  refine ds_cut (fun m3 ρ => ∃ (many wide : Nat), 0 < many ∧ 0 < wide ∧ many ≤ 130 ∧ wide ≤ 130 ∧ many * wide ≤ 400 ∧ L.left m ≤ L.left m3 + 5 ∧ ρ = [.at_ p, .dat (.int (b : Nat)), .dat (.int (many : Nat)), .dat (.int (wide : Nat)), .no, .no, .no, .no, .no, .no]) ?_ ?_
  · walk_at "d"
    refine ⟨p, q, L, 8, rfl, by decide, by decide, by omega, fun x1 hx1 => ?_⟩
    have hl3 := L.less m2 (by omega)
    generalize L.dec m2 = m3 at hl3
    walk_at "d"
    refine ⟨fun _ => ?_, fun _ => ?_⟩
    · walk_at "d"
      refine ⟨p, q, L, 91, rfl, by decide, by decide, by omega, fun x2 hx2 => ?_⟩
      have hl4 := L.less m3 (by omega)
      generalize L.dec m3 = m4 at hl4
      walk_at "d"
      rw [show (40 : Int) + (x2 : Nat) = ((x2 + 40 : Nat) : Int) by omega]
      refine ⟨p, q, L, 2, rfl, by decide, by decide, by omega, fun x3 hx3 => ?_⟩
      have hl5 := L.less m4 (by omega)
      generalize L.dec m4 = m5 at hl5
      walk_at "d"
      refine ⟨fun _ => ?_, fun _ => ?_⟩
      · walk_at "d"
        exact ⟨_, Wk.refl _, rfl, 3, x2 + 40, by omega, by omega, by omega, by omega, by omega, by omega, rfl⟩
      · walk_at "d"
        exact ⟨_, Wk.refl _, rfl, x2 + 40, 3, by omega, by omega, by omega, by omega, by omega, by omega, rfl⟩
    · walk_at "d"
      exact ⟨_, Wk.refl _, rfl, many, wide, by omega, by omega, by omega, by omega, Nat.le_trans (Nat.mul_le_mul hm1 hw1) (by decide), by omega, rfl⟩
  clear hm0 hm1 hw0 hw1
  clear many wide
  rintro m3 ρ ⟨many, wide, hm0, hw0, hm1, hw1, hmw, hl3, rfl⟩
  walk_at "d"
  refine ds_nest0 (i := 4) rfl ?_
  dsimp only [List.set_cons_zero, List.set_cons_succ]
  refine ds_forW (vs := [5]) ?_
  walk_at "d"
  rw [Int.toNat_natCast]
  refine ⟨by omega, by omega, fun k mm ρ => ∃ R : List (List Int), R.length = k ∧ (∀ r ∈ R, r.length = wide) ∧ L.left m ≤ L.left mm + 5 + k * (wide + 1) ∧ ρ = [.at_ p, .dat (.int (b : Nat)), .dat (.int (many : Nat)), .dat (.int (wide : Nat)), .own (.nest (nstD R)), .no, .no, .no, .no, .no], ⟨_, Wk.refl _, rfl, [], rfl, (fun r h => by cases h), by omega, rfl⟩, ?_, ?_⟩
  · rintro k d mm ρ hd ⟨R, hRl, hRw, hlm, rfl⟩
    obtain ⟨hk, rfl⟩ := rng_at hd
    have hkw : (k + 1) * (wide + 1) ≤ 530 := by
      have h1 := Nat.mul_le_mul (show k + 1 ≤ many by omega) (Nat.le_refl (wide + 1))
      rw [Nat.mul_add many wide 1] at h1
      omega
    have hk1 : (k + 1) * (wide + 1) = k * (wide + 1) + (wide + 1) := Nat.succ_mul _ _
    refine ⟨_, dg_name (by simp), ?_⟩
    dsimp only [List.set_cons_zero, List.set_cons_succ]
    refine ds_seq ?_
    walk_at "d"
    refine ⟨p, q, L, 5, rfl, by decide, by decide, by omega, fun x1 hx1 => ?_⟩
    have hl4 := L.less mm (by omega)
    generalize L.dec mm = m4 at hl4
    obtain ⟨most, h0, h1, ha⟩ : ∃ most : Nat, 0 < most ∧ most < 1000000 ∧ atI [D.int 3, .int 101, .int (b : Nat), .int 1, .int 9800] (x1 : Nat) = some (.int (most : Nat)) := by
      have : x1 = 0 ∨ x1 = 1 ∨ x1 = 2 ∨ x1 = 3 ∨ x1 = 4 := by omega
      rcases this with rfl | rfl | rfl | rfl | rfl
      · exact ⟨3, by decide, by decide, rfl⟩
      · exact ⟨101, by decide, by decide, rfl⟩
      · exact ⟨b, by omega, by omega, rfl⟩
      · exact ⟨1, by decide, by decide, rfl⟩
      · exact ⟨9800, by decide, by decide, rfl⟩
    refine ops_ixL (d := .int (most : Nat)) rfl ha ?_
    refine ⟨rfl, ?_⟩
    dsimp only [List.set_cons_zero, List.set_cons_succ]
    refine ds_appN (i := 4) rfl (by rw [nst_len]; omega) ?_
    refine de_lc (by with_unfolding_all rfl) ?_
    walk_at "d"
    rw [Int.toNat_natCast]
    refine ⟨by omega, by omega, by rw [rng_len]; omega, fun j m5 acc2 => ∃ r : List Int, r.length = j ∧ acc2 = r.map D.int ∧ L.left m ≤ L.left m5 + 5 + k * (wide + 1) + 1 + j, ⟨[], rfl, rfl, by omega⟩, ?_, ?_⟩
    · rintro j d m5 acc2 hd ⟨r, hrl, rfl, hlm5⟩
      obtain ⟨hj, rfl⟩ := rng_at hd
      refine ⟨_, dg_name (by simp), ?_⟩
      walk_at "d"
      refine ⟨p, q, L, most, rfl, h0, h1, by omega, fun x hx => ?_⟩
      have hl5 := L.less m5 (by omega)
      exact ⟨_, rfl, r ++ [(x : Int)], by rw [List.length_append, hrl]; rfl, by rw [List.map_append]; rfl, by omega⟩
    · rintro m5 acc2 ⟨r, hrl, rfl, hlm5⟩
      rw [rng_len] at hrl hlm5
      refine ⟨_, rfl, [.at_ p, .dat (.int (b : Nat)), .dat (.int (many : Nat)), .dat (.int (wide : Nat)), .own (.nest (nstD (R ++ [r]))), .no, .no, .no, .no, .no], ?_, rfl, R ++ [r], by rw [List.length_append, hRl]; rfl, fun x hx => ?_, by omega, rfl⟩
      · rw [nst_snoc]
        walk_at "wk"
      · rcases List.mem_append.mp hx with z | z
        · exact hRw x z
        · rw [List.mem_singleton] at z; rw [z]; omega
  rintro m6 ρ ⟨rows, hRl, hRw, hlm, rfl⟩
  rw [rng_len] at hRl hlm
  have hmw2 : many * (wide + 1) ≤ 530 := by
    rw [Nat.mul_add many wide 1]
    omega
  have hrc : Rc rows wide := ⟨fun z => by rw [z] at hRl; simp at hRl; omega, hRw, by omega, by omega⟩
  refine ds_seq ?_
  refine ds_asgEl (i := 4) rfl (by decide) ?_
  walk_at "d"
  obtain ⟨k, hk, ek⟩ : ∃ k : Nat, k < rows.length ∧ ((many : Nat) : Int) - 1 = (k : Nat) := ⟨many - 1, by omega, by omega⟩
  refine ⟨_, k, _, rfl, by rw [ek, nst_len]; exact ixN_nat hk, nst_at hk, ?_⟩
  dsimp only [List.set_cons_zero, List.set_cons_succ]
  refine ds_seq ?_
  refine ds_asg ?_
  refine de_lendW (i := 4) (ρ2 := [.at_ p, .dat (.int (b : Nat)), .dat (.int (many : Nat)), .dat (.int (wide : Nat)), .own (.nest (nstD rows)), .no, .no, .no, .no, .no]) (by walk_at "wk") rfl hgf ?_
  dsimp only [O.frz, O1.frz, List.set_cons_zero, List.set_cons_succ]
  rw [nst_frz]
  walk_at "d"
  refine ⟨rows, wide, rfl, hrc, .inr (.inr (.inl ⟨_, rfl⟩)), ?_⟩
  refine ⟨rfl, ?_⟩
  refine ds_seq ?_
  refine ds_forW (vs := [8]) ?_
  walk_at "d"
  rw [Int.toNat_natCast]
  refine ⟨by omega, by omega, fun j mm ρ => mm = m6 ∧ ∃ r' : List Int, r'.length = wide ∧ (∀ c, c < wide → r'.getD c 0 = if c < j then numOf rows k c + fixA (colOf rows c) (b : Nat) else numOf rows k c) ∧ ρ = [.at_ p, .dat (.int (b : Nat)), .dat (.int (many : Nat)), .dat (.int (wide : Nat)), .own (.nest (nstD (rows.set k r'))), .no, .el 4 k, .own (.lst ((colS rows wide).map D.int)), .no, .no], ⟨_, Wk.refl _, rfl, rfl, rows.getD k [], hRw _ (getD_in3 hk), fun c _ => by rw [if_neg (by omega)]; rfl, by rw [set_getD_self]⟩, ?_, ?_⟩
  · rintro j d mm ρ hd ⟨rfl, r', hrl, hrv, rfl⟩
    obtain ⟨hj, rfl⟩ := rng_at hd
    rw [Int.zero_add]
    refine ⟨_, dg_name (by simp), ?_⟩
    dsimp only [List.set_cons_zero, List.set_cons_succ]
    have hk2 : k < (rows.set k r').length := by rw [List.length_set]; exact hk
    have gk : (rows.set k r').getD k [] = r' := getD_set r' hk
    have nk2 := nst_at hk2
    rw [gk] at nk2
    refine ds_setE (k := 6) (i := 4) (j := k) rfl rfl nk2 ?_
    walk_at "d"
    refine de_varE (i := 4) rfl rfl nk2 ?_
    walk_at "d"
    refine ops_ixL (d := .int (r'.getD j 0)) rfl (atI_lr (by omega)) ?_
    walk_at "d"
    refine ops_ixL (d := .int ((colS rows wide).getD j 0)) rfl (atI_lr (by rw [colS_len]; exact hj)) ?_
    walk_at "d"
    rw [colS_atD hj]
    refine ⟨_, _, j, rfl, rfl, ixN_nat (by rw [List.length_map]; omega), ?_⟩
    rw [ints_set, nst_set, List.set_set]
    dsimp only [List.set_cons_zero, List.set_cons_succ]
    refine ⟨[.at_ p, .dat (.int (b : Nat)), .dat (.int (many : Nat)), .dat (.int (wide : Nat)), .own (.nest (nstD (rows.set k (r'.set j (r'.getD j 0 + ((b : Nat) - colOf rows j % (b : Nat)) % (b : Nat)))))), .no, .el 4 k, .own (.lst ((colS rows wide).map D.int)), .no, .no], by walk_at "wk", rfl, rfl, r'.set j (r'.getD j 0 + ((b : Nat) - colOf rows j % (b : Nat)) % (b : Nat)), by rw [List.length_set]; exact hrl, fun c hc => ?_, rfl⟩
    rw [getD_setI (by omega)]
    by_cases ec : c = j
    · subst ec
      rw [if_pos rfl, if_pos (by omega), hrv c hc, if_neg (by omega)]
      rfl
    · rw [if_neg ec, hrv c hc]
      by_cases h1 : c < j
      · rw [if_pos h1, if_pos (by omega)]
      · rw [if_neg h1, if_neg (by omega)]
  rintro mm ρ ⟨rfl, r', hrl, hrv, rfl⟩
  rw [rng_len] at hrv
  have hwh : Whl (rows.set k r') wide (b : Nat) := fix_whl (by omega) hk fun c hc => by rw [hrv c hc, if_pos hc]
  have hrc2 : Rc (rows.set k r') wide := rc_set hrc hrl
  refine ds_forget (ρ' := [.at_ p, .dat (.int (b : Nat)), .no, .no, .own (.nest (nstD (rows.set k r'))), .no, .no, .no, .no, .no]) (by walk_at "wk") ?_
  refine ds_retVar (i := 4) rfl ?_
  have hln : (rows.set k r').length = many := by rw [List.length_set]; exact hRl
  exact hΦ _ _ wide (by omega) hrc2 hwh (by rw [hln]; exact hmw) (by omega) hw0 hw1
end
end Pf
set_option Elab.async false
set_option linter.all false
set_option maxRecDepth 100000
set_option maxHeartbeats 1000000
namespace Pf
open PySem PySem.Spec PyProof.Rows L2 DL
local macro_rules | `(tactic| walk_at "len") => `(tactic| with_unfolding_all first | exact Nat.le_of_ble_eq_true rfl | (simp; done) | (simp; omega))
local macro_rules | `(tactic| walk_at "side") => `(tactic| with_unfolding_all first | exact Or.inr ⟨by omega, by omega⟩ | exact Or.inl ⟨by omega, by omega⟩ | exact ⟨by omega, by omega⟩ | exact ⟨by omega, by omega, by omega⟩ | (show (0 : Int) < _; omega) | decide)
local macro_rules | `(tactic| walk_at "d1") => `(tactic| with_reducible first
  | (refine ds_seq ?_; try dsimp only [List.set_cons_zero, List.set_cons_succ, List.cons_append, List.nil_append, O.frz])
  | refine ds_asg ?_
  | refine ds_ret ?_
  | refine ds_retN ?_
  | refine ds_next ?_
  | refine ds_dropC ?_
  | refine ds_drop0 ?_
  | refine ds_dropB ?_
  | refine ds_if ?_
  | refine dt_test ?_
  | refine dt_B ?_
  | refine dt_not ?_
  | refine dt_and ?_
  | refine dt_or ?_
  | refine dt_yes ?_
  | refine de_int ?_
  | refine de_bl ?_
  | refine de_str ?_
  | refine de_non ?_
  | refine de_varD (by with_unfolding_all rfl) ?_
  | refine de_varO (by with_unfolding_all rfl) ?_
  | refine de_varA (by with_unfolding_all rfl) ?_
  | refine de_varV (by with_unfolding_all rfl) ?_
  | refine de_isi ?_
  | refine de_dget ?_
  | refine de_dget2 ?_
  | refine de_dnotin ?_
  | refine de_din ?_
  | refine de_dnew ?_
  | refine de_dnewT ?_
  | refine de_cb ?_
  | refine de_call0G ?_
  | refine de_callG ?_
  | refine de_andB ?_
  | refine de_orB ?_
  | refine de_notV ?_
  | refine de_ifE ?_
  | refine de_chain ?_
  | refine de_op ?_
  | refine de_neg ?_
  | refine de_tupG ?_
  | refine de_lstG ?_
  | refine de_slL ?_
  | refine de_slT ?_
  | refine do_none ?_
  | refine do_some ?_
  | refine daf_cons ?_
  | refine daf_nil ?_
  | refine daf_star ?_
  | refine da_cons ?_
  | refine da_nil ?_
  | refine lk_dat ?_
  | refine lk_nil ?_
  | refine ak_dat ?_
  | refine ak_nil ?_
  | refine ak_at ?_
  | refine ak_lst ?_
  | refine lk_lst ?_
  | refine ak_dK ?_
  | refine ak_dT ?_
  | refine ak_vw ?_
  | refine lk_dT ?_
  | refine lk_dK ?_
  | refine da_star ?_
  | refine de_lstRg1 ?_
  | refine de_lstRg2 ?_
  | refine de_revL ?_
  | refine de_count ?_
  | refine de_index ?_
  | refine di_enum ?_
  | refine dt_tru ?_
  | refine de_fldV ?_
  | refine de_prop ?_
  | refine di_rng1 ?_
  | refine di_rng2 ?_
  | refine di_list ?_
  | refine di_tup ?_
  | refine di_seq ?_
  | refine di_zip ?_
  | refine de_split ?_
  | refine de_join ?_
  | refine de_fmt ?_
  | refine de_jnil ?_
  | refine de_jcons ?_
  | refine de_ixS ?_
  | refine de_orT ?_
  | refine di_str ?_
  | refine ops_eqS ?_
  | refine ops_neS ?_
  | refine de_indexD ?_
  | refine ops_int ?_
  | (refine ops_cat (by with_unfolding_all rfl) (by with_unfolding_all rfl) ?side ?_; (case side => walk_at "len"))
  | (refine ops_catA ?side ?_; (case side => walk_at "len"))
  | refine ops_eqI ?_
  | refine ops_neI ?_
  | refine ops_bool ?_
  | (refine ops_intC ?side ?_; (case side => walk_at "side"))
  | refine cb_lenL (by with_unfolding_all rfl) ?_
  | refine cb_lenT (by with_unfolding_all rfl) ?_
  | refine cb_lenK (by with_unfolding_all rfl) ?_
  | refine cb_max2 ?_
  | refine cb_min2 ?_
  | refine cb_int ?_
  | refine ⟨fun _ => ?_, fun z => Bool.noConfusion z⟩
  | refine ⟨fun z => Bool.noConfusion z, fun _ => ?_⟩
  | refine ⟨rfl, ?_⟩
  | refine ⟨_, rfl, ?_⟩
  | refine ⟨_, Or.inl (by with_unfolding_all rfl), ?_⟩
  | (with_unfolding_all refine ⟨_, true, rfl, rfl, (fun _ z => by cases z), rfl, ?_⟩)
  | (with_unfolding_all refine ⟨_, false, rfl, rfl, (fun _ z => by cases z), rfl, ?_⟩))
local macro_rules | `(tactic| walk_at "d") => `(tactic| repeat walk_at "d1")
local macro_rules | `(tactic| walk_at "wk") => `(tactic| repeat first | exact Wk.nil | refine Wk.keep ?_ | refine Wk.drop ?_)
section
variable {P : Program} {w : World} {K : PySem.W.Frag} {mg : Str → Option Value} {base : Heap} {f : Addr} {fd : FuncData} {a_Rounding a_BadShares a_TeamError : Addr}
theorem tq_map (rows : List (List Int)) : (rows.map lrD).map (fun d => D.tup ((lOf d).map D.int)) = rows.map (rwQ false) := by
  rw [List.map_map]
  exact List.map_congr_left fun r _ => by show D.tup ((lOf (lrD r)).map D.int) = _; rw [lOf_lr]; rfl
def C_law : Fc := fun _ W m ss Φ Ξ => ∃ ns, ss = [.dat (.scr ns)] ∧ ns.length ≤ 1000 ∧ (∀ a, ¬ W.L a) ∧ Dn W ∧ ∀ m', Φ m' (.dat (.bl true))
abbrev s_law : Stmt := (top 22)
abbrev N_law : List Str := ["_law_script", "_law_pool_here", "_law_bottom", "_law_rows", "_law_at", "_law_column", "_law_passed", "_law_told", "_law_kept", "_law_bent", "_law_row", "_law_sums_here", "_law_bad", "_law_k"]
theorem sc_law : FnScope N_law ["_law_script"] (defScope s_law) := ⟨rfl, rfl, rfl, by decide +kernel, rfl, by decide +kernel, by decide +kernel⟩
theorem ok_law (F : FnP K "law" s_law f fd) (b : BI mg) (c_law_pool : Cl P w K mg base CX0 1 "_law_pool" ["_law_script"] C_law_pool) (c_law_draw : Cl P w K mg base CX0 1 "_law_draw" ["_law_pool_here", "_law_limit"] C_law_draw) (c_law_drawn : Cl P w K mg base CX0 2 "_law_drawn" ["_law_pool_here", "_law_bottom"] C_law_drawn) (c_dealt : Cl P w K mg base (L2.CX P w) 8 "dealt" ["rows", "bottom"] (C_dealt a_BadShares a_Rounding)) (c_law_right : Cl P w K mg base CX0 2 "_law_right" ["_law_rows", "_law_bottom", "_law_told"] C_law_right) (c_is_dealt : Cl P w K mg base (L2.CX P w) 4 "is_dealt" ["rows", "bottom", "given"] (C_is_dealt a_BadShares)) (c_law_sums : Cl P w K mg base CX0 1 "_law_sums" ["_law_rows"] C_law_sums) (c_law_error : Cl P w K mg base CX0 9 "_law_error" ["_law_rows", "_law_bottom", "_law_given"] (C_law_error a_BadShares a_TeamError a_Rounding)) : FnOk P w K mg base CX0 10 f fd ["_law_script"] (spF K C_law) := by
  have hlen := spF_len (K := K) (C := C_law) (m := 1) fun κ W m ss Φ Ξ ⟨ns, e, _⟩ => by first | exact e | (rw [e]; rfl)
  refine F.ok sc_law hlen ?_
  intro cdv A outer s H vs Q E hr h
  refine ⟨_, PSs.nox (pss_cons (ps_set (i := 1) sc_law.nd rfl (by first | exact Or.inl rfl | exact Or.inr rfl) (k_cl0 c_law_pool rfl hr (pa_cons (pv 0) pa_nil)))
      (pss_cons (ps_set (i := 2) sc_law.nd rfl (by first | exact Or.inl rfl | exact Or.inr rfl) (pe_op op_add pe_int (k_cl0 c_law_draw rfl hr (pa_cons (pv 1) (pa_cons (pe_ix (k_ixL (K := K) rfl) (pe_lst (pa_cons pe_int (pa_cons pe_int (pa_cons pe_int pa_nil)))) (k_cl0 c_law_draw rfl hr (pa_cons (pv 1) (pa_cons pe_int pa_nil))) (fun _ _ => rfl)) pa_nil)))))
      (pss_cons (ps_set (i := 3) sc_law.nd rfl (by first | exact Or.inl rfl | exact Or.inr rfl) (k_cl0 c_law_drawn rfl hr (pa_cons (pv 1) (pa_cons (pv 2) pa_nil))))
      (pss_cons (ps_set (i := 4) sc_law.nd rfl (by first | exact Or.inl rfl | exact Or.inr rfl) (k_cl0 c_law_draw rfl hr (pa_cons (pv 1) (pa_cons (pe_callB (k_len (K := K) rfl) rfl b.len boot_len (pa_cons (pv 3) pa_nil)) pa_nil))))
      (pss_cons (ps_set (i := 5) sc_law.nd rfl (by first | exact Or.inl rfl | exact Or.inr rfl) (k_cl0 c_law_draw rfl hr (pa_cons (pv 1) (pa_cons (pe_callB (k_len (K := K) rfl) rfl b.len boot_len (pa_cons (pe_ix (k_ixL (K := K) rfl) (pv 3) pe_int (fun _ _ => rfl)) pa_nil)) pa_nil))))
      (pss_cons (ps_setLc (i := 6) (own := [("_law_row", 10)]) rfl sc_law.nd rfl rfl (sw_true rfl rfl rfl (by decide +kernel)) (k_piL (K := K) rfl (pv 3)) (blkOk_by (own := [("_law_row", 10)]) (N := N_law) (sc := (defScope s_law)) (by decide +kernel)) (fun _ _ _ _ _ => (pg_name (i := 10) sc_law.nd rfl (by first | exact Or.inl rfl | exact Or.inr rfl))) (fun _ _ _ _ _ => pts_nil) (fun _ _ _ _ _ => (pe_callTy (k_listOf (K := K) rfl) rfl b.list_ boot_list (pa_cons (pv 10) pa_nil))))
      (pss_cons (ps_set (i := 7) sc_law.nd rfl (by first | exact Or.inl rfl | exact Or.inr rfl) (k_clL c_dealt rfl hr (pa_cons (pv 6) (pa_cons (pv 2) pa_nil))))
      (pss_cons (ps_if (PW.pt (pw_or (pt_not (pt_val (k_cl0 c_law_right rfl hr (pa_cons (pv 3) (pa_cons (pv 2) (pa_cons (pv 7) pa_nil)))))) (pw_or1 (pt_cmpR (k_neD (K := K) rfl hr.units) (pv 6) (pv 3) (nomark _))))) (pss_one (ps_ret pe_bl)) pss_nil)
      (pss_cons (ps_if (pt_cmpR op_ntB (k_clL c_is_dealt rfl hr (pa_cons (pv 6) (pa_cons (pv 2) (pa_cons (pv 7) pa_nil)))) pe_bl (nomark _)) (pss_one (ps_ret pe_bl)) pss_nil)
      (pss_cons (ps_setLc (i := 8) (own := [("_law_row", 10)]) rfl sc_law.nd rfl rfl (sw_true rfl rfl rfl (by decide +kernel)) (k_piL (K := K) rfl (pv 7)) (blkOk_by (own := [("_law_row", 10)]) (N := N_law) (sc := (defScope s_law)) (by decide +kernel)) (fun _ _ _ _ _ => (pg_name (i := 10) sc_law.nd rfl (by first | exact Or.inl rfl | exact Or.inr rfl))) (fun _ _ _ _ _ => pts_nil) (fun _ _ _ _ _ => (pe_callTy (k_listOf (K := K) rfl) rfl b.list_ boot_list (pa_cons (pv 10) pa_nil))))
      (pss_cons (ps_expr (k_app (K := K) rfl (pe_ix (k_ixL (K := K) rfl) (pv 7) pe_int (fun _ _ => rfl)) (pa_cons pe_int pa_nil)))
      (pss_cons (ps_expr (k_app (K := K) rfl (pv 7) (pa_cons (pe_lst (pa_cons pe_int pa_nil)) pa_nil)))
      (pss_cons (ps_if (PW.pt (pw_or (pt_cmpR (k_neD (K := K) rfl hr.units) (k_clL c_dealt rfl hr (pa_cons (pe_callTy (k_tupleOf (K := K) rfl) rfl b.tuple_ boot_tuple (pa_cons (pe_lc (own := [("_law_row", 10)]) rfl sc_law.nd (k_piL (K := K) rfl (pv 6)) (blkOk_by (own := [("_law_row", 10)]) (N := N_law) (sc := (defScope s_law)) (by decide +kernel)) (fun _ _ _ _ _ => (pg_name (i := 10) sc_law.nd rfl (by first | exact Or.inl rfl | exact Or.inr rfl))) (fun _ _ _ _ _ => pts_nil) (fun _ _ _ _ _ => (pe_callTy (k_tupleOf (K := K) rfl) rfl b.tuple_ boot_tuple (pa_cons (pv 10) pa_nil)))) pa_nil)) (pa_cons (pv 2) pa_nil))) (pv 8) (nomark _)) (pw_or1 (pt_cmpR (k_neD (K := K) rfl hr.units) (pv 6) (pv 3) (nomark _))))) (pss_one (ps_ret pe_bl)) pss_nil)
      (pss_cons (ps_if (pt_cmpR op_ntB (k_clL c_is_dealt rfl hr (pa_cons (pe_callTy (k_tupleOf (K := K) rfl) rfl b.tuple_ boot_tuple (pa_cons (pv 6) pa_nil)) (pa_cons (pv 2) (pa_cons (pe_callTy (k_tupleOf (K := K) rfl) rfl b.tuple_ boot_tuple (pa_cons (pe_lc (own := [("_law_row", 10)]) rfl sc_law.nd (k_piL (K := K) rfl (pv 8)) (blkOk_by (own := [("_law_row", 10)]) (N := N_law) (sc := (defScope s_law)) (by decide +kernel)) (fun _ _ _ _ _ => (pg_name (i := 10) sc_law.nd rfl (by first | exact Or.inl rfl | exact Or.inr rfl))) (fun _ _ _ _ _ => pts_nil) (fun _ _ _ _ _ => (pe_callTy (k_tupleOf (K := K) rfl) rfl b.tuple_ boot_tuple (pa_cons (pv 10) pa_nil)))) pa_nil)) pa_nil)))) pe_bl (nomark _)) (pss_one (ps_ret pe_bl)) pss_nil)
      (pss_cons (ps_if (pt_cmpR (k_eqD (K := K) rfl hr.units) (pv 2) pe_int (nomark _)) (pss_one (ps_ret (pe_cmpR (k_eqD (K := K) rfl hr.units) (pv 8) (pv 3) (nomark _)))) pss_nil)
      (pss_cons (ps_setLc (i := 9) (own := [("_law_row", 10)]) rfl sc_law.nd rfl rfl (sw_true rfl rfl rfl (by decide +kernel)) (k_piL (K := K) rfl (pv 3)) (blkOk_by (own := [("_law_row", 10)]) (N := N_law) (sc := (defScope s_law)) (by decide +kernel)) (fun _ _ _ _ _ => (pg_name (i := 10) sc_law.nd rfl (by first | exact Or.inl rfl | exact Or.inr rfl))) (fun _ _ _ _ _ => pts_nil) (fun _ _ _ _ _ => (pe_callTy (k_listOf (K := K) rfl) rfl b.list_ boot_list (pa_cons (pv 10) pa_nil))))
      (pss_cons (ps_set (i := 10) sc_law.nd rfl (by first | exact Or.inl rfl | exact Or.inr rfl) (pe_ix (k_ixL (K := K) rfl) (pv 9) (pv 4) (fun _ _ => rfl)))
      (pss_cons (ps_asg (pe_op op_add (pe_op op_add (pe_ix (k_ixL (K := K) rfl) (pv 10) (pv 5) (fun _ _ => rfl)) pe_int) (k_cl0 c_law_draw rfl hr (pa_cons (pv 1) (pa_cons (pe_op op_sub (pv 2) pe_int) pa_nil)))) (pg_sub (pv 10) (pv 5) set_list))
      (pss_cons (ps_if (pt_cmpR (k_eqD (K := K) rfl hr.units) (k_cl0 c_law_draw rfl hr (pa_cons (pv 1) (pa_cons pe_int pa_nil))) pe_int (nomark _)) (pss_one (ps_asg (pe_op op_add (pe_ix (k_ixL (K := K) rfl) (pv 10) (pe_op op_sub (pe_callB (k_len (K := K) rfl) rfl b.len boot_len (pa_cons (pv 10) pa_nil)) pe_int) (fun _ _ => rfl)) pe_int) (pg_sub (pv 10) (pe_op op_sub (pe_callB (k_len (K := K) rfl) rfl b.len boot_len (pa_cons (pv 10) pa_nil)) pe_int) set_list))) pss_nil)
      (pss_cons (ps_set (i := 11) sc_law.nd rfl (by first | exact Or.inl rfl | exact Or.inr rfl) (k_cl0 c_law_sums rfl hr (pa_cons (pv 9) pa_nil)))
      (pss_cons (ps_setLc (i := 12) (own := [("_law_k", 13)]) rfl sc_law.nd rfl rfl (sw_true rfl rfl rfl (by decide +kernel)) (pi_range1 rfl b.range (pa_cons (pe_callB (k_len (K := K) rfl) rfl b.len boot_len (pa_cons (pv 11) pa_nil)) pa_nil)) (blkOk_by (own := [("_law_k", 13)]) (N := N_law) (sc := (defScope s_law)) (by decide +kernel)) (fun _ _ _ _ _ => (pg_name (i := 13) sc_law.nd rfl (by first | exact Or.inl rfl | exact Or.inr rfl))) (fun _ _ _ _ _ => pts_one (pt_cmpR (k_neD (K := K) rfl hr.units) (pe_op op_mod (pe_callTy call_int1 rfl b.int_ boot_int (pa_cons (pe_ix (k_ixL (K := K) rfl) (pv 11) (pv 13) (fun _ _ => rfl)) pa_nil)) (pv 2)) pe_int (nomark _))) (fun _ _ _ _ _ => (pv 13)))
      (pss_cons (ps_if (pt_cmpR (k_eqD (K := K) rfl hr.units) (pv 12) (pe_lst pa_nil) (nomark _)) (pss_one (ps_ret (k_cl0 c_law_right rfl hr (pa_cons (pv 9) (pa_cons (pv 2) (pa_cons (k_clL c_dealt rfl hr (pa_cons (pv 9) (pa_cons (pv 2) pa_nil))) pa_nil)))))) pss_nil)
      (pss_one (ps_ret (pe_and (pe_cmpR (k_eqD (K := K) rfl hr.units) (k_cl0 c_law_error rfl hr (pa_cons (pv 9) (pa_cons (pv 2) (pa_cons (pe_lst pa_nil) pa_nil)))) (pe_ix (k_ixL (K := K) rfl) (pv 12) pe_int (fun _ _ => rfl)) (nomark _)) (pe_one (pe_cmpR (k_eqD (K := K) rfl hr.units) (k_cl0 c_law_error rfl hr (pa_cons (pv 9) (pa_cons (pv 2) (pa_cons (pv 8) pa_nil)))) (pe_ix (k_ixL (K := K) rfl) (pv 12) pe_int (fun _ _ => rfl)) (nomark _)))))))))))))))))))))))))))), ?_⟩
  refine DL.run_fnP  [.no, .no, .no, .no, .no, .no, .no, .no, .no, .no, .no, .no, .no] (Nm := N_law) (n := 1) (k := 13) rfl (hlen _ _ _ _ h) rfl h fun κ W m ss Φ Ξ G hc => ?_
  try dsimp only [cxOf, Cx.nox, Cx.wish, Cx.blk]
  obtain ⟨ns, rfl, hnl, hL, hgf, hΦ⟩ := hc
  dsimp only [List.cons_append, List.nil_append]
  refine ds_seq ?_
  walk_at "d"
  refine ⟨ns, rfl, hnl, fun cs a0 hcs ha0 ha1 => ?_⟩
  refine ⟨rfl, ?_⟩
  dsimp only [List.set_cons_zero, List.set_cons_succ]
  refine ds_pool (i := 1) 1000000 rfl hcs ⟨ha0, ha1⟩ ⟨by decide, by decide⟩ rfl fun p q G1 H1 hpq np nq => ?_
  dsimp only [List.set_cons_zero, List.set_cons_succ]
  let L : Pool (poolW W p q) p q := poolL hpq np nq
  have hl0 : L.left (m, 1000000) = 1000000 := rfl
  have hgf : Dn (poolW W p q) := dn_pool hgf
  generalize ((m, 1000000) : κ × Nat) = m0 at hl0
  refine ds_seq ?_
  walk_at "d"
  refine ⟨p, q, L, 3, rfl, by decide, by decide, by omega, fun x1 hx1 => ?_⟩
  have hl1 := L.less m0 (by omega)
  generalize L.dec m0 = m1 at hl1
  obtain ⟨most, h0, h1, ha⟩ : ∃ most : Nat, 0 < most ∧ most ≤ 60 ∧ atI [D.int 4, .int 10, .int 60] (x1 : Nat) = some (.int (most : Nat)) := by
    have : x1 = 0 ∨ x1 = 1 ∨ x1 = 2 := by omega
    rcases this with rfl | rfl | rfl
    · exact ⟨4, by decide, by decide, rfl⟩
    · exact ⟨10, by decide, by decide, rfl⟩
    · exact ⟨60, by decide, by decide, rfl⟩
  refine ops_ixL (d := .int (most : Nat)) rfl ha ?_
  walk_at "d"
  refine ⟨p, q, L, most, rfl, h0, by omega, by omega, fun b1 hb1 => ?_⟩
  have hl2 := L.less m1 (by omega)
  generalize L.dec m1 = m2 at hl2
  walk_at "d"
  rw [show (1 : Int) + (b1 : Nat) = ((b1 + 1 : Nat) : Int) by omega]
  have hb : 0 < b1 + 1 := by omega
  have hb2 : b1 + 1 ≤ 60 := by omega
  generalize b1 + 1 = b at hb hb2
  refine ⟨p, q, L, b, rfl, hb, hb2, by omega, hgf, fun m3 rows w0 hl3 hrc hwh hrw hr130 hw0 hw130 => ?_⟩
  refine ⟨rfl, ?_⟩
  dsimp only [List.set_cons_zero, List.set_cons_succ]
  refine ds_frzK (i := 3) rfl ?_
  refine ds_frz (i := 3) rfl ?_
  dsimp only [O.frz, O1.frz, List.set_cons_zero, List.set_cons_succ]
  rw [nst_frz]
  have hr0 : 0 < rows.length := List.length_pos_iff.mpr hrc.ne
  obtain ⟨r0, rest, er, hr0w⟩ := hrc.cons
  have hbZ : (0 : Int) < (b : Nat) := by omega
  have hbZ2 : ((b : Nat) : Int) < 1000000 := by omega
  have hrw2 : rows.length * w0 ≤ 100000 := by omega
  refine ds_seq ?_
  walk_at "d"
  rw [List.length_map]
  refine ⟨p, q, L, rows.length, rfl, hr0, by omega, by omega, fun at_ hat => ?_⟩
  have hl4 := L.less m3 (by omega)
  generalize L.dec m3 = m4 at hl4
  refine ⟨rfl, ?_⟩
  dsimp only [List.set_cons_zero, List.set_cons_succ]
  refine ds_seq ?_
  walk_at "d"
  refine ops_ixL (d := lrD r0) rfl (by rw [er]; exact atN (i := 0) rfl) ?_
  walk_at "d"
  rw [List.length_map, hr0w]
  refine ⟨p, q, L, w0, rfl, hw0, by omega, by omega, fun cl hcl => ?_⟩
  have hl5 := L.less m4 (by omega)
  generalize L.dec m4 = m5 at hl5
  refine ⟨rfl, ?_⟩
  dsimp only [List.set_cons_zero, List.set_cons_succ]
  have hidm : ∀ gv : List (List Int), (gv.map lrD).map (fun d => d) = gv.map lrD := fun gv => by rw [List.map_id']
  refine ds_seq ?_
  refine ds_asg ?_
  refine de_lcMap (f := fun d => d) ?_
  walk_at "d"
  refine ⟨by rw [List.length_map]; omega, fun d hd => ⟨_, dg_name (by simp), ?_⟩, ?_⟩
  · obtain ⟨r, hr2, rfl⟩ := List.mem_map.mp hd
    walk_at "d"
    refine cb_list (s := .dat (lrD r)) (.inl rfl) ?_
    exact ⟨rfl, rfl⟩
  rw [hidm]
  refine ⟨rfl, ?_⟩
  dsimp only [List.set_cons_zero, List.set_cons_succ]
  refine ds_frz (i := 6) rfl ?_
  dsimp only [O.frz, O1.frz, List.set_cons_zero, List.set_cons_succ]
  refine ds_seq ?_
  walk_at "d"
  refine ⟨true, true, rows, w0, _, rfl, hL, hrc, hrw2, hbZ, hbZ2, fun c hc hne _ => absurd (hwh c hc) hne, fun _ hD => ?_⟩
  generalize hgv : dealtF rows w0 (b : Nat) = gv at hD
  have hgc : Rc gv w0 := hD.rc hrc
  have hgl : gv.length = rows.length := by have := congrArg List.length hD.l; simpa using this
  have hg1 : gv.length ≤ 1000 := by omega
  have hg2 : ∀ g ∈ gv, g.length ≤ 1000 := fun g hg => by rw [hgc.eq g hg]; omega
  have hiD := hD.isD hrc
  rw [show (gv.map fun r => DL.It.o (.lst (r.map D.int))) = nstD gv from rfl]
  refine ⟨rfl, ?_⟩
  dsimp only [List.set_cons_zero, List.set_cons_succ]
  refine ds_seq ?_
  refine ds_if ?_
  refine dt_or ?_
  refine dt_not ?_
  refine dt_B ?_
  refine de_lendW (i := 7) (Wk.refl _) rfl hgf ?_
  dsimp only [O.frz, O1.frz, List.set_cons_zero, List.set_cons_succ]
  rw [nst_frz]
  walk_at "d"
  refine ⟨rows, w0, _, gv, rfl, hrc, hbZ, hbZ2, hg1, hg2, ?_⟩
  rw [hiD]
  refine ⟨.inl ⟨_, rfl⟩, _, rfl, ?_, fun z => by cases z⟩
  refine fun _ => ?_
  walk_at "d"
  refine ops_neSelf (pl_rws (n := 62) rows) rfl rfl ?_
  refine ⟨_, rfl, (fun h => by cases h), fun _ => ?_⟩
  walk_at "d1"
  refine ds_seq ?_
  refine ds_if ?_
  refine dt_test ?_
  refine de_op ?_
  refine de_lendW (i := 7) (Wk.refl _) rfl hgf ?_
  dsimp only [O.frz, O1.frz, List.set_cons_zero, List.set_cons_succ]
  rw [nst_frz]
  walk_at "d"
  refine ⟨true, true, true, true, rows, w0, _, gv, rfl, hrc, hbZ, hbZ2, hg1, hg2, fun c hc hne _ => absurd (hwh c hc) hne, fun _ => ?_⟩
  rw [hiD]
  refine ⟨.inl ⟨_, rfl⟩, ?_⟩
  walk_at "d"
  refine ops_ntB ?_
  refine ⟨_, rfl, (fun h => by cases h), fun _ => ?_⟩
  walk_at "d1"
  refine ds_seq ?_
  refine ds_asg ?_
  refine de_lendW (i := 7) (Wk.refl _) rfl hgf ?_
  dsimp only [O.frz, O1.frz, List.set_cons_zero, List.set_cons_succ]
  rw [nst_frz]
  refine de_lcNM (f := fun d => .lst ((lOf d).map D.int)) ?_
  walk_at "d"
  refine ⟨by rw [List.length_map]; omega, fun d hd => ⟨_, dg_name (by simp), ?_⟩, ?_⟩
  · obtain ⟨r, hr2, rfl⟩ := List.mem_map.mp hd
    walk_at "d"
    refine cb_list (s := .dat (lrD r)) (.inl rfl) ?_
    exact ⟨rfl, by rw [lOf_lr]⟩
  rw [show ((gv.map lrD).map fun d => DL.It.o (.lst ((lOf d).map D.int))) = nstD gv by
    unfold nstD
    rw [List.map_map]
    exact List.map_congr_left fun r _ => by show DL.It.o (.lst ((lOf (lrD r)).map D.int)) = _; rw [lOf_lr]]
  refine ⟨.inr (.inr (.inr ⟨gv, rfl⟩)), ?_⟩
  refine ⟨rfl, ?_⟩
  refine ds_frzK (i := 8) rfl ?_
  refine ds_frz (i := 8) rfl ?_
  dsimp only [O.frz, O1.frz, List.set_cons_zero, List.set_cons_succ]
  rw [nst_frz]
  obtain ⟨g0, grest, eg, hg0w⟩ := hgc.cons
  refine ds_seq ?_
  refine ds_appAt (i := 7) (j := 0) (ds := (gv.getD 0 []).map D.int) rfl (by rw [nst_len]; exact ixN_nat (k := 0) (by omega)) (nst_at (by omega)) (by rw [List.length_map]; have := hg2 _ (getD_in3 (gv := gv) (j := 0) (by omega)); omega) ?_
  dsimp only [List.set_cons_zero, List.set_cons_succ]
  refine ds_cut (fun m' ρ' => m' = m5 ∧ ρ' = [.dat (.scr ns), .at_ p, .dat (.int (b : Nat)), .dat (rwsD rows), .dat (.int (at_ : Nat)), .dat (.int (cl : Nat)), .dat (rwsD rows), .no, .dat (rwsD gv), .no, .no, .no, .no, .no]) ?_ ?_
  · refine ds_appN (i := 7) rfl (by rw [List.length_set, nst_len]; omega) ?_
    walk_at "d"
    exact ⟨_, by walk_at "wk", rfl, rfl, rfl⟩
  rintro m5' ρ ⟨rfl, rfl⟩
  refine ds_seq ?_
  refine ds_if ?_
  refine dt_or ?_
  refine dt_test ?_
  refine de_op ?_
  refine de_frz ?_
  walk_at "d"
  refine de_frz ?_
  refine de_lcMap (f := fun d => D.tup ((lOf d).map D.int)) ?_
  walk_at "d"
  refine ⟨by rw [List.length_map]; omega, fun d hd => ⟨_, dg_name (by simp), ?_⟩, ?_⟩
  · obtain ⟨r, hr2, rfl⟩ := List.mem_map.mp hd
    walk_at "d"
    refine cb_tuple (s := .dat (lrD r)) (.inl rfl) ?_
    exact ⟨rfl, by rw [lOf_lr]; rfl⟩
  rw [tq_map]
  walk_at "d"
  refine cb_tuple (.inl rfl) ?_
  walk_at "d"
  refine ⟨false, false, rows, w0, _, rfl, hL, hrc, hrw2, hbZ, hbZ2, fun c hc hne _ => absurd (hwh c hc) hne, fun _ _ => ?_⟩
  rw [hgv]
  refine (show De _ _ _ _ _ from ?_)
  have efz : (S.own (O.nest (gv.map fun r => DL.It.o (.lst (r.map D.int))))).frz = .dat (rwsD gv) := by
    show S.dat (D.lst _) = S.dat (D.lst _)
    rw [List.map_map]
    rfl
  rw [efz]
  walk_at "d"
  refine ops_neSelf (pl_rws (n := 62) gv) rfl rfl ?_
  refine ⟨_, rfl, ?_, fun z => by cases z⟩
  refine fun _ => ?_
  walk_at "d"
  refine ops_neSelf (pl_rws (n := 62) rows) rfl rfl ?_
  refine ⟨_, rfl, (fun h => by cases h), fun _ => ?_⟩
  walk_at "d"
  refine cb_tuple (.inl rfl) ?_
  walk_at "d"
  refine de_frz ?_
  refine de_lcMap (f := fun d => D.tup ((lOf d).map D.int)) ?_
  walk_at "d"
  refine ⟨by rw [List.length_map]; omega, fun d hd => ⟨_, dg_name (by simp), ?_⟩, ?_⟩
  · obtain ⟨r, hr2, rfl⟩ := List.mem_map.mp hd
    walk_at "d"
    refine cb_tuple (s := .dat (lrD r)) (.inl rfl) ?_
    exact ⟨rfl, by rw [lOf_lr]; rfl⟩
  rw [tq_map]
  walk_at "d"
  refine cb_tuple (.inl rfl) ?_
  walk_at "d"
  refine ⟨false, true, false, false, rows, w0, _, gv, rfl, hrc, hbZ, hbZ2, hg1, hg2, fun c hc hne _ => absurd (hwh c hc) hne, fun _ => ?_⟩
  rw [hiD]
  walk_at "d"
  refine ops_ntB ?_
  refine ⟨_, rfl, (fun h => by cases h), fun _ => ?_⟩
  walk_at "d"
  refine ⟨fun h1 => ?_, fun h1 => ?_⟩
  · have e1 : b = 1 := by
      have := of_decide_eq_true h1
      omega
    subst e1
    have := Dl.one hrc hD
    subst this
    walk_at "d"
    refine ops_eqSelf (pl_rws (n := 62) gv) rfl rfl ?_
    exact ⟨rfl, hΦ _⟩
  have hb3 : 1 < b := by
    have := of_decide_eq_false h1
    omega
  walk_at "d1"
  refine ds_seq ?_
  refine ds_asg ?_
  refine de_lcNM (f := fun d => .lst ((lOf d).map D.int)) ?_
  walk_at "d"
  refine ⟨by rw [List.length_map]; omega, fun d hd => ⟨_, dg_name (by simp), ?_⟩, ?_⟩
  · obtain ⟨r, hr2, rfl⟩ := List.mem_map.mp hd
    walk_at "d"
    refine cb_list (s := .dat (lrD r)) (.inl rfl) ?_
    exact ⟨rfl, by rw [lOf_lr]⟩
  rw [show ((rows.map lrD).map fun d => DL.It.o (.lst ((lOf d).map D.int))) = nstD rows by
    unfold nstD
    rw [List.map_map]
    exact List.map_congr_left fun r _ => by show DL.It.o (.lst ((lOf (lrD r)).map D.int)) = _; rw [lOf_lr]]
  refine ⟨rfl, ?_⟩
  dsimp only [List.set_cons_zero, List.set_cons_succ]
  refine ds_seq ?_
  refine ds_asgEl (i := 9) rfl (by decide) ?_
  walk_at "d"
  refine ⟨_, at_, _, rfl, by rw [nst_len]; exact ixN_nat hat, nst_at hat, ?_⟩
  dsimp only [List.set_cons_zero, List.set_cons_succ]
  have hrat : (rows.getD at_ []).length = w0 := hrc.eq _ (getD_in3 hat)
  refine ds_cut (fun m' ρ' => L.left m5' ≤ L.left m' + 1 ∧ ∃ r' : List Int, r'.length = w0 ∧ ρ' = [.dat (.scr ns), .at_ p, .dat (.int (b : Nat)), .dat (rwsD rows), .dat (.int (at_ : Nat)), .dat (.int (cl : Nat)), .dat (rwsD rows), .no, .dat (rwsD gv), .own (.nest (nstD (rows.set at_ r'))), .el 9 at_, .no, .no, .no]) ?_ ?_
  · refine ds_setE (k := 10) (i := 9) (j := at_) rfl rfl (nst_at hat) ?_
    walk_at "d"
    refine de_varE (i := 9) rfl rfl (nst_at hat) ?_
    walk_at "d"
    refine ops_ixL (d := .int ((rows.getD at_ []).getD cl 0)) rfl (atI_lr (by omega)) ?_
    walk_at "d"
    rw [show ((b : Nat) : Int) - 1 = ((b - 1 : Nat) : Int) by omega]
    refine ⟨p, q, L, b - 1, rfl, by omega, by omega, by omega, fun x2 hx2 => ?_⟩
    have hl6 := L.less m5' (by omega)
    walk_at "d"
    refine ⟨_, _, cl, rfl, rfl, ixN_nat (by rw [List.length_map]; omega), ?_⟩
    rw [ints_set, nst_set]
    dsimp only [List.set_cons_zero, List.set_cons_succ]
    exact ⟨_, Wk.refl _, rfl, by omega, _, by rw [List.length_set]; exact hrat, rfl⟩
  rintro m6 ρ ⟨hl6, r1, hr1, rfl⟩
  have hat2 : at_ < (rows.set at_ r1).length := by rw [List.length_set]; exact hat
  have gk : (rows.set at_ r1).getD at_ [] = r1 := getD_set r1 hat
  have nk2 := nst_at hat2
  rw [gk] at nk2
  refine ds_cut (fun m' ρ' => L.left m5' ≤ L.left m' + 2 ∧ ∃ r' : List Int, r'.length = w0 ∧ ρ' = [.dat (.scr ns), .at_ p, .dat (.int (b : Nat)), .dat (rwsD rows), .dat (.int (at_ : Nat)), .dat (.int (cl : Nat)), .dat (rwsD rows), .no, .dat (rwsD gv), .own (.nest (nstD (rows.set at_ r'))), .no, .no, .no, .no]) ?_ ?_
  · walk_at "d"
    refine ⟨p, q, L, 2, rfl, by decide, by decide, by omega, fun x2 hx2 => ?_⟩
    have hl7 := L.less m6 (by omega)
    generalize L.dec m6 = m7 at hl7
    walk_at "d"
    refine ⟨fun _ => ?_, fun _ => ?_⟩
    · refine ds_setE (k := 10) (i := 9) (j := at_) rfl rfl nk2 ?_
      walk_at "d"
      refine de_varE (i := 9) rfl rfl nk2 ?_
      walk_at "d"
      refine de_varE (i := 9) rfl rfl nk2 ?_
      walk_at "d"
      rw [List.length_map, hr1, show ((w0 : Nat) : Int) - 1 = ((w0 - 1 : Nat) : Int) by omega]
      refine ops_ixL (d := .int (r1.getD (w0 - 1) 0)) rfl (atI_lr (by omega)) ?_
      walk_at "d"
      refine de_varE (i := 9) rfl rfl nk2 ?_
      walk_at "d"
      rw [List.length_map, hr1, show ((w0 : Nat) : Int) - 1 = ((w0 - 1 : Nat) : Int) by omega]
      refine ⟨_, _, w0 - 1, rfl, rfl, ixN_nat (by first | omega | (rw [List.length_map]; omega)), ?_⟩
      rw [ints_set, nst_set, List.set_set]
      dsimp only [List.set_cons_zero, List.set_cons_succ]
      refine ⟨[.dat (.scr ns), .at_ p, .dat (.int (b : Nat)), .dat (rwsD rows), .dat (.int (at_ : Nat)), .dat (.int (cl : Nat)), .dat (rwsD rows), .no, .dat (rwsD gv), .own (.nest (nstD (rows.set at_ (r1.set (w0 - 1) (r1.getD (w0 - 1) 0 + 1))))), .no, .no, .no, .no], by walk_at "wk", rfl, by omega, _, by rw [List.length_set]; exact hr1, rfl⟩
    · walk_at "d"
      refine ⟨[.dat (.scr ns), .at_ p, .dat (.int (b : Nat)), .dat (rwsD rows), .dat (.int (at_ : Nat)), .dat (.int (cl : Nat)), .dat (rwsD rows), .no, .dat (rwsD gv), .own (.nest (nstD (rows.set at_ r1))), .no, .no, .no, .no], by walk_at "wk", rfl, by omega, r1, hr1, rfl⟩
  rintro m8 ρ ⟨hl8, r2, hr2, rfl⟩
  have hbc : Rc (rows.set at_ r2) w0 := rc_set hrc hr2
  have hbl : (rows.set at_ r2).length = rows.length := by rw [List.length_set]
  generalize rows.set at_ r2 = bt at hbc hbl
  have hbw2 : bt.length * w0 ≤ 100000 := by rw [hbl]; exact hrw2
  refine ds_frzK (i := 9) rfl ?_
  refine ds_frz (i := 9) rfl ?_
  dsimp only [O.frz, O1.frz, List.set_cons_zero, List.set_cons_succ]
  rw [nst_frz]
  walk_at "d"
  refine ⟨bt, w0, rfl, hbc, ?_⟩
  refine ⟨rfl, ?_⟩
  dsimp only [List.set_cons_zero, List.set_cons_succ]
  refine ds_seq ?_
  refine ds_asg ?_
  refine de_lcIf (f := fun d => d) (t := fun d => decide (colOf bt (iOf d).toNat % (b : Nat) ≠ 0)) ?_
  walk_at "d"
  rw [List.length_map, colS_len, Int.toNat_natCast]
  refine ⟨by omega, by omega, by rw [rng_len]; omega, fun d hd => ?_, ?_⟩
  · obtain ⟨c, hc, rfl⟩ := rng_mem hd
    refine ⟨_, dg_name (by simp), ?_⟩
    walk_at "d"
    refine ops_ixL (d := .int ((colS bt w0).getD c 0)) rfl (atI_lr (by rw [colS_len]; exact hc)) ?_
    walk_at "d"
    rw [colS_atD hc]
    refine ⟨by show _ = decide (¬ colOf bt (c : Int).toNat % (b : Nat) = 0); rw [Int.toNat_natCast, decide_not], fun _ => ?_⟩
    walk_at "d"
    rfl
  rw [List.map_id', badC_flt]
  refine ⟨rfl, ?_⟩
  dsimp only [List.set_cons_zero, List.set_cons_succ]
  refine ds_seq ?_
  walk_at "d"
  refine ops_eqNil (Pl.lst fun d hd => by obtain ⟨c, _, rfl⟩ := List.mem_map.mp hd; exact .int _) rfl rfl ?_
  rw [List.length_map]
  refine ⟨_, rfl, fun h0 => ?_, fun h0 => ?_⟩
  · have e0 : badC bt w0 (b : Nat) = [] := List.length_eq_zero_iff.mp (of_decide_eq_true h0)
    have hwh2 := badC_nil e0
    refine ds_ret ?_
    refine de_call0G ?_
    refine daf_cons ?_
    refine de_varD (by with_unfolding_all rfl) ?_
    refine daf_cons ?_
    refine de_varD (by with_unfolding_all rfl) ?_
    refine daf_cons ?_
    refine de_frz ?_
    walk_at "d"
    refine ⟨true, true, bt, w0, _, rfl, hL, hbc, hbw2, hbZ, hbZ2, fun c hc hne _ => absurd (hwh2 c hc) hne, fun _ hD2 => ?_⟩
    generalize hgv2 : dealtF bt w0 (b : Nat) = gv2 at hD2
    have hgc2 : Rc gv2 w0 := hD2.rc hbc
    have hgl2 : gv2.length = bt.length := by have := congrArg List.length hD2.l; simpa using this
    have hiD2 := hD2.isD hbc
    rw [show (S.own (O.nest (gv2.map fun r => DL.It.o (.lst (r.map D.int))))).frz = .dat (rwsD gv2) by
      show S.dat (D.lst _) = S.dat (D.lst _)
      rw [List.map_map]
      rfl]
    walk_at "d"
    refine ⟨bt, w0, _, gv2, rfl, hbc, hbZ, hbZ2, by omega, fun g hg => by rw [hgc2.eq g hg]; omega, ?_⟩
    rw [hiD2]
    exact ⟨rfl, hΦ _⟩
  · obtain ⟨c0, brest, eb⟩ : ∃ c0 brest, badC bt w0 (b : Nat) = c0 :: brest := by
      cases e : badC bt w0 (b : Nat) with
      | nil => rw [e] at h0; simp at h0
      | cons a l => exact ⟨a, l, rfl⟩
    rw [eb]
    walk_at "d"
    refine ⟨bt, w0, _, [], c0, brest, rfl, hL, hbc, hbw2, hbZ, hbZ2, by decide, (fun g hg => by cases hg), eb, ?_⟩
    walk_at "d"
    refine ops_ixL (d := .int (c0 : Nat)) rfl (atN (i := 0) rfl) ?_
    walk_at "d"
    refine ⟨fun _ => ?_, fun z => by simp at z⟩
    walk_at "d"
    refine ⟨bt, w0, _, gv, c0, brest, rfl, hL, hbc, hbw2, hbZ, hbZ2, hg1, hg2, eb, ?_⟩
    walk_at "d"
    refine ops_ixL (d := .int (c0 : Nat)) rfl (atN (i := 0) rfl) ?_
    walk_at "d"
    rw [show decide (((c0 : Nat) : Int) = (c0 : Nat)) = true by simp]
    exact hΦ _
end
end Pf
set_option Elab.async false
set_option linter.all false
set_option maxRecDepth 100000
set_option maxHeartbeats 0
namespace Pf
open PySem PySem.Spec PyProof.Rows L2 DL
section
variable {P : Program} {w : World} {K : PySem.W.Frag} {mg : Str → Option Value} {base : Heap} {f : Addr} {fd : FuncData}
abbrev si_BadShares : Stmt := (inClass (top 2) 0)
theorem sci_BadShares : FnScope ["self", "column"] ["self", "column"] (defScope si_BadShares) := ⟨rfl, rfl, rfl, by decide +kernel, rfl, by decide +kernel, by decide +kernel⟩
theorem ini_BadShares {C : Addr} (F : FunD K "__init__" "BadShares.__init__" (defArgs si_BadShares) (defBody si_BadShares) (defScope si_BadShares) [] [] f fd) (T : OexC K C) (n0 : PySem.W.findIn K (.ref C) "column" = some none) : FnOk P w K mg base CX0 1 f fd ["self", "column"] (spX C ["column"]) := by
  refine F.ok sci_BadShares (fun vs H Q E h => by obtain ⟨a, ws, rfl, hl, _⟩ := h; simp [hl]) ?_
  intro cdv A outer s H vs Q E hr h
  exact ⟨_, PSs.nox (pss_one (ps_ost (pv 0) (pv 1))), init1 T n0 h⟩
end
theorem facts {P : Program} {w : World} {K : PySem.W.Frag} {h : Heap} {mg : Str → Option Value} {f : Addr} (X : K.In h) (G : h.Ns mainGlobals mg) (hfa : mg ("law" : Str) = some (.ref f)) (c : SaysP fa fn pr ex K) :
    ∃ fd : FuncData, (∀ (s : Shared) (v : Value), BindsTo s fd ⟨[v], []⟩ [("_law_script", v)]) ∧ ∀ base : Heap, K.In base → base.Ns mainGlobals mg → FnOk P w K mg base CX0 10 f fd ["_law_script"] (spF K C_law) := by
  obtain ⟨fd_law_pool, F_law_pool⟩ := c.d.def_ 0 (d := d_law_pool) rfl
  obtain ⟨fd_law_draw, F_law_draw⟩ := c.d.def_ 1 (d := d_law_draw) rfl
  obtain ⟨fd_law_sums, F_law_sums⟩ := c.d.def_ 2 (d := d_law_sums) rfl
  obtain ⟨fd_law_drawn, F_law_drawn⟩ := c.d.def_ 3 (d := d_law_drawn) rfl
  obtain ⟨fd_column_sums, F_column_sums⟩ := c.d.def_ 4 (d := d_column_sums) rfl
  obtain ⟨fd_check_columns, F_check_columns⟩ := c.d.def_ 5 (d := d_check_columns) rfl
  obtain ⟨fd_rounded_down, F_rounded_down⟩ := c.d.def_ 6 (d := d_rounded_down) rfl
  obtain ⟨fd_rounded_up, F_rounded_up⟩ := c.d.def_ 7 (d := d_rounded_up) rfl
  obtain ⟨fd_Rounding___init, F_Rounding___init⟩ := c.d.def_ 8 (d := d_Rounding___init) rfl
  obtain ⟨fd_way_back, F_way_back⟩ := c.d.def_ 9 (d := d_way_back) rfl
  obtain ⟨fd_cell_of, F_cell_of⟩ := c.d.def_ 10 (d := d_cell_of) rfl
  obtain ⟨fd_Rounding_ahead, F_Rounding_ahead⟩ := c.d.def_ 11 (d := d_Rounding_ahead) rfl
  obtain ⟨fd_Rounding_way_from, F_Rounding_way_from⟩ := c.d.def_ 12 (d := d_Rounding_way_from) rfl
  obtain ⟨fd_Rounding_raise_from, F_Rounding_raise_from⟩ := c.d.def_ 13 (d := d_Rounding_raise_from) rfl
  obtain ⟨fd_dealt, F_dealt⟩ := c.d.def_ 14 (d := d_dealt) rfl
  obtain ⟨fd_law_rounds_it, F_law_rounds_it⟩ := c.d.def_ 15 (d := d_law_rounds_it) rfl
  obtain ⟨fd_law_right, F_law_right⟩ := c.d.def_ 16 (d := d_law_right) rfl
  obtain ⟨fd_rounds_share, F_rounds_share⟩ := c.d.def_ 17 (d := d_rounds_share) rfl
  obtain ⟨fd_is_dealt, F_is_dealt⟩ := c.d.def_ 18 (d := d_is_dealt) rfl
  obtain ⟨fd_law_error, F_law_error⟩ := c.d.def_ 19 (d := d_law_error) rfl
  obtain ⟨fd_law, F_law⟩ := c.d.def_ 20 (d := d_law) rfl
  obtain ⟨fd_BadShares___init, F_BadShares___init⟩ := c.d.def_ 21 (d := d_BadShares___init) rfl
  have e := hfa.symm.trans (He.glo_ok X G (c.d.fact 0 rfl))
  cases e
  have bb := FunD.bindsA (ps := ["_law_script"]) F_law fun _ _ _ _ _ _ us hl => match us, hl with | [_], _ => rfl
  refine ⟨fd_law, fun s v => bb s [v] rfl, fun base _ _ => ?_⟩
  have b : BI mg := ⟨He.free_ok X G (c.d.fact 1 rfl), He.free_ok X G (c.d.fact 2 rfl), He.free_ok X G (c.d.fact 3 rfl), He.free_ok X G (c.d.fact 4 rfl), He.free_ok X G (c.d.fact 5 rfl), He.free_ok X G (c.d.fact 6 rfl), He.free_ok X G (c.d.fact 7 rfl), He.free_ok X G (c.d.fact 8 rfl), He.free_ok X G (c.d.fact 9 rfl), He.free_ok X G (c.d.fact 10 rfl), He.free_ok X G (c.d.fact 11 rfl), He.free_ok X G (c.d.fact 12 rfl), He.free_ok X G (c.d.fact 13 rfl), He.free_ok X G (c.d.fact 14 rfl), He.free_ok X G (c.d.fact 15 rfl), He.free_ok X G (c.d.fact 16 rfl), He.free_ok X G (c.d.fact 17 rfl), He.free_ok X G (c.d.fact 18 rfl), He.free_ok X G (c.d.fact 19 rfl), He.free_ok X G (c.d.fact 20 rfl)⟩
  have hx := c.more
  unfold ex exZ at hx
  obtain ⟨hx0, hx⟩ := He.ba hx
  have hx1 := hx
  have x_BadShares : Xc P w K mg base "BadShares" (He.ga K "BadShares") ["column"] := ⟨(oexB_ok hx0).1, (oexB_ok hx0).2, He.glo_ok X G (c.d.fact 22 rfl), He.exm_ok (c.d.fact 23 rfl), ⟨_, fd_BadShares___init, (He.meth_ok (c.d.fact 24 rfl)).at_, isFn_ok (He.meth_ok (c.d.fact 24 rfl)).fn, ini_BadShares F_BadShares___init (oexB_ok hx0).1 (He.noat_ok (c.d.fact 21 rfl)), F_BadShares___init.bindsN fun _ _ _ _ _ _ us hl => match us, hl with | [_, _], _ => rfl⟩, fun f hf => by simp only [List.mem_cons, List.not_mem_nil, or_false] at hf; rcases hf with rfl; exact He.noat_ok (c.d.fact 21 rfl)⟩
  have gx_TeamError : mg "TeamError" = some (.ref (He.ga K "TeamError")) := He.glo_ok X G (c.d.fact 25 rfl)
  have nv : mg "ValueError" = none := He.free_ok X G (c.d.fact 26 rfl)
  have xi_BadShares : Ex2 K (He.ga K "BadShares") (He.ga K "TeamError") := ex2B_ok hx1
  have i_Rounding : Ci K (He.ga K "Rounding") ["floors", "raised", "cells", "room", "lack"] := ⟨He.cls_ok (c.d.fact 27 rfl), fun f hf => by simp only [List.mem_cons, List.not_mem_nil, or_false] at hf; rcases hf with rfl | rfl | rfl | rfl | rfl <;> first | exact He.noat_ok (c.d.fact 28 rfl) | exact He.noat_ok (c.d.fact 29 rfl) | exact He.noat_ok (c.d.fact 30 rfl) | exact He.noat_ok (c.d.fact 31 rfl) | exact He.noat_ok (c.d.fact 32 rfl)⟩
  have c_law_pool : Cl P w K mg base CX0 1 "_law_pool" ["_law_script"] C_law_pool := ⟨_, fd_law_pool, ok_law_pool F_law_pool b, He.glo_ok X G (c.d.fact 33 rfl), F_law_pool.kp, F_law_pool.bindsN fun _ _ _ _ _ _ us hl => match us, hl with | [_], _ => rfl⟩
  have c_law_draw : Cl P w K mg base CX0 1 "_law_draw" ["_law_pool_here", "_law_limit"] C_law_draw := ⟨_, fd_law_draw, ok_law_draw F_law_draw b, He.glo_ok X G (c.d.fact 34 rfl), F_law_draw.kp, F_law_draw.bindsN fun _ _ _ _ _ _ us hl => match us, hl with | [_, _], _ => rfl⟩
  have c_law_sums : Cl P w K mg base CX0 1 "_law_sums" ["_law_rows"] C_law_sums := ⟨_, fd_law_sums, ok_law_sums F_law_sums b, He.glo_ok X G (c.d.fact 35 rfl), F_law_sums.kp, F_law_sums.bindsN fun _ _ _ _ _ _ us hl => match us, hl with | [_], _ => rfl⟩
  have c_law_drawn : Cl P w K mg base CX0 2 "_law_drawn" ["_law_pool_here", "_law_bottom"] C_law_drawn := ⟨_, fd_law_drawn, ok_law_drawn F_law_drawn b c_law_draw c_law_sums, He.glo_ok X G (c.d.fact 36 rfl), F_law_drawn.kp, F_law_drawn.bindsN fun _ _ _ _ _ _ us hl => match us, hl with | [_, _], _ => rfl⟩
  have c_column_sums : Cl P w K mg base CX0 1 "column_sums" ["rows"] C_column_sums := ⟨_, fd_column_sums, ok_column_sums F_column_sums b, He.glo_ok X G (c.d.fact 37 rfl), F_column_sums.kp, F_column_sums.bindsN fun _ _ _ _ _ _ us hl => match us, hl with | [_], _ => rfl⟩
  have c_check_columns : Cl P w K mg base (L2.CX P w) 3 "check_columns" ["rows", "bottom"] (C_check_columns (He.ga K "BadShares")) := ⟨_, fd_check_columns, ok_check_columns F_check_columns b x_BadShares c_column_sums, He.glo_ok X G (c.d.fact 38 rfl), F_check_columns.kp, F_check_columns.bindsN fun _ _ _ _ _ _ us hl => match us, hl with | [_, _], _ => rfl⟩
  have c_rounded_down : Cl P w K mg base CX0 1 "rounded_down" ["number", "bottom"] C_rounded_down := ⟨_, fd_rounded_down, ok_rounded_down F_rounded_down b, He.glo_ok X G (c.d.fact 39 rfl), F_rounded_down.kp, F_rounded_down.bindsN fun _ _ _ _ _ _ us hl => match us, hl with | [_, _], _ => rfl⟩
  have c_rounded_up : Cl P w K mg base CX0 1 "rounded_up" ["number", "bottom"] C_rounded_up := ⟨_, fd_rounded_up, ok_rounded_up F_rounded_up b, He.glo_ok X G (c.d.fact 40 rfl), F_rounded_up.kp, F_rounded_up.bindsN fun _ _ _ _ _ _ us hl => match us, hl with | [_, _], _ => rfl⟩
  have c_Rounding___init : MiO P w K mg base 2 (He.ga K "Rounding") "Rounding" ["self", "rows", "bottom"] (C_Rounding___init (He.ga K "Rounding")) := ⟨_, fd_Rounding___init, He.mkr_ok (c.d.fact 41 rfl), ok_Rounding___init F_Rounding___init b i_Rounding c_rounded_down c_rounded_up c_column_sums, He.glo_ok X G (c.d.fact 42 rfl), F_Rounding___init.bindsN fun _ _ _ _ _ _ us hl => match us, hl with | [_, _, _], _ => rfl⟩
  have c_way_back : Cl P w K mg base CX0 1 "way_back" ["before", "node"] C_way_back := ⟨_, fd_way_back, ok_way_back F_way_back b, He.glo_ok X G (c.d.fact 43 rfl), F_way_back.kp, F_way_back.bindsN fun _ _ _ _ _ _ us hl => match us, hl with | [_, _], _ => rfl⟩
  have c_cell_of : Cl P w K mg base CX0 1 "cell_of" ["node", "other"] C_cell_of := ⟨_, fd_cell_of, ok_cell_of F_cell_of b, He.glo_ok X G (c.d.fact 44 rfl), F_cell_of.kp, F_cell_of.bindsN fun _ _ _ _ _ _ us hl => match us, hl with | [_, _], _ => rfl⟩
  have c_Rounding_ahead : Me P w K mg base CX0 2 (He.ga K "Rounding") "ahead" ["self", "node", "is_raised"] (C_Rounding_ahead (He.ga K "Rounding")) := ⟨i_Rounding.cl, _, fd_Rounding_ahead, He.meth_ok (c.d.fact 45 rfl), ok_Rounding_ahead F_Rounding_ahead b i_Rounding c_cell_of, F_Rounding_ahead.bindsN fun _ _ _ _ _ _ us hl => match us, hl with | [_, _, _], _ => rfl⟩
  have c_Rounding_way_from : Me P w K mg base CX0 4 (He.ga K "Rounding") "way_from" ["self", "start"] (C_Rounding_way_from (He.ga K "Rounding")) := ⟨i_Rounding.cl, _, fd_Rounding_way_from, He.meth_ok (c.d.fact 46 rfl), ok_Rounding_way_from F_Rounding_way_from b i_Rounding c_way_back c_Rounding_ahead, F_Rounding_way_from.bindsN fun _ _ _ _ _ _ us hl => match us, hl with | [_, _], _ => rfl⟩
  have c_Rounding_raise_from : MeO P w K mg base 6 (He.ga K "Rounding") "raise_from" ["self", "start"] (C_Rounding_raise_from (He.ga K "Rounding")) := ⟨i_Rounding.cl, _, fd_Rounding_raise_from, He.meth_ok (c.d.fact 47 rfl), ok_Rounding_raise_from F_Rounding_raise_from b i_Rounding c_Rounding_way_from c_cell_of, F_Rounding_raise_from.bindsN fun _ _ _ _ _ _ us hl => match us, hl with | [_, _], _ => rfl⟩
  have c_dealt : Cl P w K mg base (L2.CX P w) 8 "dealt" ["rows", "bottom"] (C_dealt (He.ga K "BadShares") (He.ga K "Rounding")) := ⟨_, fd_dealt, ok_dealt F_dealt b i_Rounding c_check_columns c_Rounding___init c_Rounding_raise_from, He.glo_ok X G (c.d.fact 48 rfl), F_dealt.kp, F_dealt.bindsN fun _ _ _ _ _ _ us hl => match us, hl with | [_, _], _ => rfl⟩
  have c_law_rounds_it : Cl P w K mg base CX0 1 "_law_rounds_it" ["_law_value", "_law_number", "_law_bottom"] C_law_rounds_it := ⟨_, fd_law_rounds_it, ok_law_rounds_it F_law_rounds_it b, He.glo_ok X G (c.d.fact 49 rfl), F_law_rounds_it.kp, F_law_rounds_it.bindsN fun _ _ _ _ _ _ us hl => match us, hl with | [_, _, _], _ => rfl⟩
  have c_law_right : Cl P w K mg base CX0 2 "_law_right" ["_law_rows", "_law_bottom", "_law_told"] C_law_right := ⟨_, fd_law_right, ok_law_right F_law_right b c_law_rounds_it c_law_sums, He.glo_ok X G (c.d.fact 50 rfl), F_law_right.kp, F_law_right.bindsN fun _ _ _ _ _ _ us hl => match us, hl with | [_, _, _], _ => rfl⟩
  have c_rounds_share : Cl P w K mg base CX0 2 "rounds_share" ["value", "number", "bottom"] C_rounds_share := ⟨_, fd_rounds_share, ok_rounds_share F_rounds_share b c_rounded_up c_rounded_down, He.glo_ok X G (c.d.fact 51 rfl), F_rounds_share.kp, F_rounds_share.bindsN fun _ _ _ _ _ _ us hl => match us, hl with | [_, _, _], _ => rfl⟩
  have c_is_dealt : Cl P w K mg base (L2.CX P w) 4 "is_dealt" ["rows", "bottom", "given"] (C_is_dealt (He.ga K "BadShares")) := ⟨_, fd_is_dealt, ok_is_dealt F_is_dealt b c_check_columns c_rounds_share c_column_sums, He.glo_ok X G (c.d.fact 52 rfl), F_is_dealt.kp, F_is_dealt.bindsN fun _ _ _ _ _ _ us hl => match us, hl with | [_, _, _], _ => rfl⟩
  have c_law_error : Cl P w K mg base CX0 9 "_law_error" ["_law_rows", "_law_bottom", "_law_given"] (C_law_error (He.ga K "BadShares") (He.ga K "TeamError") (He.ga K "Rounding")) := ⟨_, fd_law_error, ok_law_error F_law_error b x_BadShares gx_TeamError xi_BadShares nv c_dealt c_is_dealt, He.glo_ok X G (c.d.fact 53 rfl), F_law_error.kp, F_law_error.bindsN fun _ _ _ _ _ _ us hl => match us, hl with | [_, _, _], _ => rfl⟩
  exact ok_law F_law b c_law_pool c_law_draw c_law_drawn c_dealt c_law_right c_is_dealt c_law_sums c_law_error
end Pf
theorem PySem.Challenge.cw_allteams_k18_shares_dealt_holds : PySem.Challenge.rw_allteams_k18_shares_dealt.Holds := by
  exact Pf.fin Pf.C_law (fun ns hl => ⟨ns, rfl, Nat.le_trans hl (by decide), fun _ z => z, fun _ _ _ _ _ h => h, fun _ => rfl⟩) fun P w => Pf.facts
