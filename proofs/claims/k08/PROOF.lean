import PyProof.Rows.All
import Wide.All
import OpenK.AllK
import Wide.FinOn
import HandS.ForMost
import HandS.Walk
import HandS.More
import HandS.IsInst
import HandS.Conv
import HandS.DictComp
import HandS.ListItems
import HandS.Wide
import HandS.WideMore
import HandS.SortKw
import HandS.SortRule
import HandS.SortInts
import HandS.Codes
import HandS.Deep
import HandS.RaiseMore
import HandS.Style
import HandS.Zip
import HandS.Defaults
import HandS.Flow
import HandS.Steps
import HandS.TupLe
import HandS.OwnEq
import HandS.DictTup
import HandS.ExcInit
import PyProof.ReprRoads
import PyProof.ReprLen
import PyProof.FitsInt
import KE.KDictWalk
import KE.KDictZip
import KE.SortData
import KE.KExcIs
import HandS.WordsExc
import HandS.ExcIs
import HandS.ExcField
import HandS.Strs
import HandS.SetFor
import HandS.SetBool
import HandS.HotCalls
import HandS.ExcInitHot
import HandS.ExcValue
import HandS.ExcIs
import PyProof.ExcBaseAll.ValueError
import PyProof.ZipIter
import PyProof.ListNew
import KE.KItemsList
import PyProof.SumAny
import HandS.FStr
import PySem.Challenge.RW_elderinn_k08_whole_any_arrangement
set_option Elab.async false
set_option linter.all false
set_option maxRecDepth 100000
set_option maxHeartbeats 4000000
namespace EB
open PySem L2

/-! ### lists that go together -/
def All2 {A B : Type} (R : A → B → Prop) : List A → List B → Prop
  | [], [] => True
  | a :: as, b :: bs => R a b ∧ All2 R as bs
  | [], _ :: _ => False
  | _ :: _, [] => False
section
variable {A B : Type} {R S : A → B → Prop}
theorem All2.mono (h : ∀ a b, R a b → S a b) : ∀ {as : List A} {bs : List B}, All2 R as bs → All2 S as bs
  | [], [], _ => trivial
  | _ :: _, _ :: _, ⟨x, y⟩ => ⟨h _ _ x, All2.mono h y⟩
theorem All2.len : ∀ {as : List A} {bs : List B}, All2 R as bs → as.length = bs.length
  | [], [], _ => rfl
  | _ :: _, _ :: _, ⟨_, y⟩ => congrArg (· + 1) (All2.len y)
theorem All2.get : ∀ {as : List A} {bs : List B} {i : Nat} {b : B}, All2 R as bs → bs[i]? = some b → ∃ a, as[i]? = some a ∧ R a b
  | [], [], _, _, _, h => by simp at h
  | a :: _, b :: _, 0, _, ⟨x, _⟩, h => ⟨a, rfl, (Option.some.inj h) ▸ x⟩
  | _ :: _, _ :: _, i + 1, _, ⟨_, y⟩, h => All2.get (i := i) y h
theorem All2.get' : ∀ {as : List A} {bs : List B} {i : Nat} {a : A}, All2 R as bs → as[i]? = some a → ∃ b, bs[i]? = some b ∧ R a b
  | [], [], _, _, _, h => by simp at h
  | _ :: _, b :: _, 0, _, ⟨x, _⟩, h => ⟨b, rfl, (Option.some.inj h) ▸ x⟩
  | _ :: _, _ :: _, i + 1, _, ⟨_, y⟩, h => All2.get' (i := i) y h
theorem All2.app : ∀ {as : List A} {bs : List B} {cs : List A} {ds : List B}, All2 R as bs → All2 R cs ds → All2 R (as ++ cs) (bs ++ ds)
  | [], [], _, _, _, h => h
  | _ :: _, _ :: _, _, _, ⟨x, y⟩, h => ⟨x, All2.app y h⟩
theorem All2.take : ∀ {as : List A} {bs : List B} (n : Nat), All2 R as bs → All2 R (as.take n) (bs.take n)
  | [], [], n, _ => by simp [All2]
  | _ :: _, _ :: _, 0, _ => trivial
  | _ :: _, _ :: _, n + 1, ⟨x, y⟩ => ⟨x, All2.take n y⟩
theorem All2.drop : ∀ {as : List A} {bs : List B} (n : Nat), All2 R as bs → All2 R (as.drop n) (bs.drop n)
  | [], [], n, _ => by simp [All2]
  | _ :: _, _ :: _, 0, h => h
  | _ :: _, _ :: _, n + 1, ⟨_, y⟩ => All2.drop n y
theorem All2.rev : ∀ {as : List A} {bs : List B}, All2 R as bs → All2 R as.reverse bs.reverse
  | [], [], _ => trivial
  | a :: as, b :: bs, ⟨x, y⟩ => by
    rw [List.reverse_cons, List.reverse_cons]
    exact All2.app (All2.rev y) ⟨x, trivial⟩
theorem All2.set : ∀ {as : List A} {bs : List B} (n : Nat) {a : A} {b : B}, All2 R as bs → R a b → All2 R (as.set n a) (bs.set n b)
  | [], [], _, _, _, _, _ => trivial
  | _ :: _, _ :: _, 0, _, _, ⟨_, y⟩, h => ⟨h, y⟩
  | _ :: _, _ :: _, n + 1, _, _, ⟨x, y⟩, h => ⟨x, All2.set n y h⟩
theorem All2.erase : ∀ {as : List A} {bs : List B} (n : Nat), All2 R as bs → All2 R (as.eraseIdx n) (bs.eraseIdx n)
  | [], [], _, _ => trivial
  | _ :: _, _ :: _, 0, ⟨_, y⟩ => y
  | _ :: _, _ :: _, n + 1, ⟨x, y⟩ => ⟨x, All2.erase n y⟩
theorem All2.one {a : A} {b : B} (h : R a b) : All2 R [a] [b] := ⟨h, trivial⟩
theorem All2.dropLast : ∀ {as : List A} {bs : List B}, All2 R as bs → All2 R as.dropLast bs.dropLast
  | [], [], _ => trivial
  | [_], [_], _ => trivial
  | [_], _ :: _ :: _, ⟨_, h⟩ => h.elim
  | _ :: _ :: _, [_], ⟨_, h⟩ => h.elim
  | _ :: a :: as, _ :: b :: bs, ⟨x, y⟩ => ⟨x, All2.dropLast (as := a :: as) (bs := b :: bs) y⟩
theorem All2.ofMap {f : B → A} (h : ∀ b, R (f b) b) : ∀ bs : List B, All2 R (bs.map f) bs
  | [] => trivial
  | b :: bs => ⟨h b, All2.ofMap h bs⟩
theorem All2.toMap {f : B → A} (h : ∀ a b, R a b → a = f b) : ∀ {as : List A} {bs : List B}, All2 R as bs → as = bs.map f
  | [], [], _ => rfl
  | _ :: _, _ :: _, ⟨x, y⟩ => by rw [List.map_cons, h _ _ x, All2.toMap h y]
theorem All2.mem {as : List A} {bs : List B} {b : B} (h : All2 R as bs) (hb : b ∈ bs) : ∃ a ∈ as, R a b := by
  obtain ⟨i, hi⟩ := List.mem_iff_getElem?.mp hb
  obtain ⟨a, h1, h2⟩ := h.get hi
  exact ⟨a, List.mem_of_getElem? h1, h2⟩
end

/-! ### what a value stands for, over a heap part that is not written any more -/
class Rp (A : Type) where
  rep : Hp → V → A → Prop
  up : ∀ {G G' : Hp} {v : V} {x : A}, Same G G' → rep G v x → rep G' v x
def Rep {A : Type} [Rp A] (G : Hp) (v : V) (x : A) : Prop := Rp.rep G v x
theorem Rep.up {A : Type} [Rp A] {G G' : Hp} {v : V} {x : A} (h : Rep G v x) (s : Same G G') : Rep G' v x := Rp.up s h
instance : Rp Int := ⟨fun _ v x => v = .int x, fun _ h => h⟩
instance : Rp Bool := ⟨fun _ v x => v = .bl x, fun _ h => h⟩
instance : Rp Str := ⟨fun _ v x => v = .str x, fun _ h => h⟩
instance : Rp Unit := ⟨fun _ v _ => v = .non, fun _ h => h⟩
instance {A : Type} [Rp A] : Rp (Option A) := ⟨fun G v x => match x with
  | none => v = .non
  | some a => Rep G v a, fun {G G' v x} s h => match x, h with
  | none, h => h
  | some _, h => Rep.up h s⟩
instance {A B : Type} [Rp A] [Rp B] : Rp (A × B) := ⟨fun G v x => ∃ p a b, v = .ref p ∧ G p = some (.tup [a, b]) ∧ Rep G a x.1 ∧ Rep G b x.2,
  fun s ⟨p, a, b, e, h, x, y⟩ => ⟨p, a, b, e, s _ _ h, x.up s, y.up s⟩⟩
instance {A : Type} [Rp A] : Rp (List A) := ⟨fun G v x => ∃ p vs, v = .ref p ∧ G p = some (.lst vs) ∧ All2 (Rep G) vs x,
  fun s ⟨p, vs, e, h, x⟩ => ⟨p, vs, e, s _ _ h, x.mono fun _ _ r => r.up s⟩⟩
abbrev Reps {A : Type} [Rp A] (G : Hp) (vs : List V) (xs : List A) : Prop := All2 (Rep G) vs xs
theorem Reps.up {A : Type} [Rp A] {G G' : Hp} {vs : List V} {xs : List A} (h : Reps G vs xs) (s : Same G G') : Reps G' vs xs := h.mono fun _ _ r => r.up s
theorem rep_int {G : Hp} {n : Int} : Rep G (.int n) n := rfl
theorem rep_bl {G : Hp} {n : Bool} : Rep G (.bl n) n := rfl
theorem rep_str {G : Hp} {n : Str} : Rep G (.str n) n := rfl
theorem rep_none {A : Type} [Rp A] {G : Hp} : Rep G .non (none : Option A) := rfl
theorem rep_some {A : Type} [Rp A] {G : Hp} {v : V} {a : A} (h : Rep G v a) : Rep G v (some a) := h
theorem Rep.int {G : Hp} {v : V} {n : Int} (h : Rep G v n) : v = .int n := h
theorem Rep.bl {G : Hp} {v : V} {n : Bool} (h : Rep G v n) : v = .bl n := h
theorem Rep.str {G : Hp} {v : V} {n : Str} (h : Rep G v n) : v = .str n := h
theorem reps_ints {G : Hp} (ns : List Int) : Reps G (ns.map V.int) ns := All2.ofMap (f := V.int) (fun _ => rfl) ns
theorem Reps.ints {G : Hp} {vs : List V} {ns : List Int} (h : Reps G vs ns) : vs = ns.map V.int := All2.toMap (fun _ _ e => e) h
theorem Reps.strs {G : Hp} {vs : List V} {ns : List Str} (h : Reps G vs ns) : vs = ns.map V.str := All2.toMap (fun _ _ e => e) h
theorem reps_strs {G : Hp} (ns : List Str) : Reps G (ns.map V.str) ns := All2.ofMap (f := V.str) (fun _ => rfl) ns
theorem Reps.bls {G : Hp} {vs : List V} {ns : List Bool} (h : Reps G vs ns) : vs = ns.map V.bl := All2.toMap (fun _ _ e => e) h
theorem reps_bls {G : Hp} (ns : List Bool) : Reps G (ns.map V.bl) ns := All2.ofMap (f := V.bl) (fun _ => rfl) ns

/-! ### resources: what stands in cells of its own -/
structure Res where
  P : Hp → Hp → Prop
  up : ∀ {G G' h : Hp}, Same G G' → P G h → P G' h
def Join (h1 h2 h : Hp) : Prop := ∀ a, (h1 a = none ∧ h a = h2 a) ∨ (h2 a = none ∧ h a = h1 a)
def Star : List Res → Hp → Hp → Prop
  | [], _, h => ∀ a, h a = none
  | R :: L, G, h => ∃ h1 h2, Join h1 h2 h ∧ R.P G h1 ∧ Star L G h2
theorem Star.up {G G' : Hp} (s : Same G G') : ∀ {L : List Res} {h : Hp}, Star L G h → Star L G' h
  | [], _, x => x
  | R :: _, _, ⟨h1, h2, j, p, q⟩ => ⟨h1, h2, j, R.up s p, Star.up s q⟩
theorem Join.comm {h1 h2 h : Hp} (j : Join h1 h2 h) : Join h2 h1 h := fun a => (j a).symm
theorem Join.assoc {a b bc c h : Hp} (j : Join a bc h) (k : Join b c bc) : ∃ ac, Join b ac h ∧ Join a c ac := by
  refine ⟨fun x => if a x = none then c x else a x, fun x => ?_, fun x => ?_⟩
  · show (b x = none ∧ h x = if a x = none then c x else a x) ∨ ((if a x = none then c x else a x) = none ∧ h x = b x)
    rcases j x with ⟨e1, e2⟩ | ⟨e1, e2⟩ <;> rcases k x with ⟨e3, e4⟩ | ⟨e3, e4⟩
    · exact .inl ⟨e3, by rw [e2, e4, if_pos e1]⟩
    · exact .inr ⟨by rw [if_pos e1]; exact e3, by rw [e2, e4]⟩
    · refine .inl ⟨e3, ?_⟩
      rw [e2]
      by_cases z : a x = none
      · rw [if_pos z, z, ← e4, e1]
      · rw [if_neg z]
    · refine .inl ⟨by rw [← e4]; exact e1, ?_⟩
      rw [e2]
      by_cases z : a x = none
      · rw [if_pos z, z, e3]
      · rw [if_neg z]
  · show (a x = none ∧ (if a x = none then c x else a x) = c x) ∨ (c x = none ∧ (if a x = none then c x else a x) = a x)
    by_cases z : a x = none
    · exact .inl ⟨z, by rw [if_pos z]⟩
    · rcases j x with ⟨e1, _⟩ | ⟨e1, _⟩
      · exact absurd e1 z
      · rcases k x with ⟨e3, e4⟩ | ⟨e3, e4⟩
        · exact .inr ⟨by rw [← e4]; exact e1, by rw [if_neg z]⟩
        · exact .inr ⟨e3, by rw [if_neg z]⟩
theorem Star.swap {A B : Res} {L : List Res} {G h : Hp} : Star (A :: B :: L) G h → Star (B :: A :: L) G h := by
  rintro ⟨h1, h2, j, p, h3, h4, k, q, r⟩
  obtain ⟨ac, m, n⟩ := j.assoc k
  exact ⟨h3, ac, m, q, h1, h4, n, p, r⟩
theorem Star.perm {L L' : List Res} (p : L.Perm L') : ∀ {G h : Hp}, Star L G h → Star L' G h := by
  induction p with
  | nil => exact fun x => x
  | cons x _ ih => exact fun ⟨h1, h2, j, p, q⟩ => ⟨h1, h2, j, p, ih q⟩
  | swap x y l => exact Star.swap
  | trans _ _ ih1 ih2 => exact fun x => ih2 (ih1 x)

/-- G the part that is not written any more, L what stands in cells of its own, both within H -/
structure Sep (G H : Hp) (L : List Res) : Prop where
  gh : Same G H
  ex : ∃ h, Star L G h ∧ Same h H ∧ ∀ a, h a ≠ none → G a = none
section
variable {G H : Hp} {L L' : List Res} {A B C D : Res}
theorem Sep.perm (s : Sep G H L) (p : L.Perm L') : Sep G H L' :=
  let ⟨h, x, y, z⟩ := s.ex
  ⟨s.gh, h, x.perm p, y, z⟩
theorem Sep.sw (s : Sep G H (A :: B :: L)) : Sep G H (B :: A :: L) := s.perm (.swap _ _ _)
theorem Sep.r3 (s : Sep G H (A :: B :: C :: L)) : Sep G H (C :: A :: B :: L) := s.perm ((List.Perm.cons _ (.swap _ _ _)).trans (.swap _ _ _))
theorem Sep.l3 (s : Sep G H (C :: A :: B :: L)) : Sep G H (A :: B :: C :: L) := s.perm ((List.Perm.swap _ _ _).trans (.cons _ (.swap _ _ _)))
theorem Sep.sw2 (s : Sep G H (A :: B :: C :: L)) : Sep G H (A :: C :: B :: L) := s.perm (.cons _ (.swap _ _ _))
theorem Sep.r4 (s : Sep G H (A :: B :: C :: D :: L)) : Sep G H (D :: A :: B :: C :: L) :=
  s.perm ((List.Perm.cons _ (.cons _ (.swap _ _ _))).trans ((List.Perm.cons _ (.swap _ _ _)).trans (.swap _ _ _)))
/-- all is kept -/
theorem Sep.keep {H' : Hp} (s : Sep G H L) (k : Same H H') : Sep G H' L :=
  let ⟨h, x, y, z⟩ := s.ex
  ⟨s.gh.trans k, h, x, y.trans k, z⟩
theorem same_upd {H : Hp} {p : Addr} {o : HO} (h : H p = none) : Same H (upd H p o) := fun b x e => by
  rw [upd_ne (ne_of_none e h)]
  exact e
theorem same_upd_upd {G H : Hp} {p : Addr} {o : HO} (s : Same G H) : Same (upd G p o) (upd H p o) := fun b x e => by
  by_cases z : b = p
  · subst z
    rw [upd_same] at e ⊢
    exact e
  · rw [upd_ne z] at e ⊢
    exact s _ _ e
/-- a new thing that is not written any more -/
theorem Sep.imm {p : Addr} {o : HO} (s : Sep G H L) (hp : H p = none) : Same G (upd G p o) ∧ Sep (upd G p o) (upd H p o) L := by
  have hg : G p = none := s.gh.free hp
  obtain ⟨h, x, y, z⟩ := s.ex
  refine ⟨same_upd hg, same_upd_upd s.gh, h, x.up (same_upd hg), y.trans (same_upd hp), fun a ha => ?_⟩
  have q : a ≠ p := fun e => ha (by rw [e]; exact y.free hp)
  rw [upd_ne q]
  exact z a ha
/-- a new thing of its own -/
theorem Sep.own {p : Addr} {o : HO} {R : Res} (s : Sep G H L) (hp : H p = none) (r : R.P G (upd (fun _ => none) p o)) : Sep G (upd H p o) (R :: L) := by
  obtain ⟨h, x, y, z⟩ := s.ex
  have hh : h p = none := y.free hp
  refine ⟨s.gh.trans (same_upd hp), upd h p o, ⟨_, h, fun a => ?_, r, x⟩, same_upd_upd y, fun a ha => ?_⟩
  · by_cases e : a = p
    · subst e
      exact .inr ⟨hh, by rw [upd_same, upd_same]⟩
    · exact .inl ⟨by rw [upd_ne e], by rw [upd_ne e]⟩
  · by_cases e : a = p
    · subst e
      exact s.gh.free hp
    · rw [upd_ne e] at ha
      exact z a ha
/-- what is there is there -/
theorem Sep.get (s : Sep G H (A :: L)) : ∃ h, A.P G h ∧ Same h H ∧ ∀ a, h a ≠ none → G a = none := by
  obtain ⟨h, ⟨h1, h2, j, p, q⟩, y, z⟩ := s.ex
  have k : Same h1 h := fun a o e => by
    rcases j a with ⟨e1, _⟩ | ⟨_, e2⟩
    · rw [e1] at e
      cases e
    · rw [e2]
      exact e
  exact ⟨h1, p, k.trans y, fun a ha => z a (by
    cases e : h1 a with
    | none => exact absurd e ha
    | some o => rw [k a o e]; simp)⟩
/-- a resource is written: what else stands, stands -/
theorem Sep.chg {H' : Hp} {B : Res} (s : Sep G H (A :: L)) (w : ∀ h, A.P G h → Same h H → ∃ h', B.P G h' ∧ (∀ a, h' a ≠ none → h a ≠ none ∨ H a = none) ∧ Same h' H' ∧ ∀ a o, h a = none → H a = some o → H' a = some o) : Sep G H' (B :: L) := by
  obtain ⟨h, ⟨h1, h2, j, p, q⟩, y, z⟩ := s.ex
  have k : Same h1 h := fun a o e => by
    rcases j a with ⟨e1, _⟩ | ⟨_, e2⟩
    · rw [e1] at e
      cases e
    · rw [e2]
      exact e
  have k2 : Same h2 h := fun a o e => by
    rcases j a with ⟨_, e2⟩ | ⟨e1, _⟩
    · rw [e2]
      exact e
    · rw [e1] at e
      cases e
  have ap : ∀ a o, h2 a = some o → h1 a = none := fun a o e => by
    rcases j a with ⟨e1, _⟩ | ⟨e1, _⟩
    · exact e1
    · rw [e1] at e
      cases e
  have gn : ∀ a, h1 a ≠ none → G a = none := fun a ha => z a (by
    cases e : h1 a with
    | none => exact absurd e ha
    | some o => rw [k a o e]; simp)
  obtain ⟨h', b, n, sm, fr⟩ := w h1 p (k.trans y)
  have h2n : ∀ a, h' a ≠ none → h2 a = none := fun a ha => by
    cases e : h2 a with
    | none => rfl
    | some o =>
      rcases n a ha with n | n
      · exact absurd (ap a o e) n
      · exact absurd (y _ _ (k2 _ _ e)) (by rw [n]; simp)
  refine ⟨fun a o e => fr a o ?_ (s.gh _ _ e), fun a => if h' a = none then h2 a else h' a, ⟨h', h2, fun a => ?_, b, q⟩, fun a o e => ?_, fun a ha => ?_⟩
  · cases e2 : h1 a with
    | none => rfl
    | some u =>
      have := gn a (by rw [e2]; simp)
      rw [this] at e
      cases e
  · by_cases e : h' a = none
    · exact .inl ⟨e, by simp [e]⟩
    · exact .inr ⟨h2n a e, by simp [e]⟩
  · by_cases e2 : h' a = none
    · simp only [e2, if_true] at e
      exact fr a o (ap a o e) (y _ _ (k2 _ _ e))
    · simp only [e2, if_false] at e
      exact sm _ _ e
  · by_cases e2 : h' a = none
    · simp only [e2, if_true] at ha
      cases e3 : h2 a with
      | none => exact absurd e3 ha
      | some o => exact z a (by rw [k2 _ _ e3]; simp)
    · rcases n a e2 with n | n
      · exact gn a n
      · exact s.gh.free n
/-- a resource is written no more -/
theorem Sep.frz (s : Sep G H (A :: L)) : ∃ G', Same G G' ∧ Sep G' H L ∧ ∃ h, A.P G h ∧ Same h G' := by
  obtain ⟨h, ⟨h1, h2, j, p, q⟩, y, z⟩ := s.ex
  have k : Same h1 h := fun a o e => by
    rcases j a with ⟨e1, _⟩ | ⟨_, e2⟩
    · rw [e1] at e
      cases e
    · rw [e2]
      exact e
  have k2 : Same h2 h := fun a o e => by
    rcases j a with ⟨_, e2⟩ | ⟨e1, _⟩
    · rw [e2]
      exact e
    · rw [e1] at e
      cases e
  have gn : ∀ a, h1 a ≠ none → G a = none := fun a ha => z a (by
    cases e : h1 a with
    | none => exact absurd e ha
    | some o => rw [k a o e]; simp)
  have g1 : Same G (fun a => if h1 a = none then G a else h1 a) := fun a o e => by
    by_cases e2 : h1 a = none
    · simp only [e2, if_true]
      exact e
    · rw [gn a e2] at e
      cases e
  refine ⟨fun a => if h1 a = none then G a else h1 a, g1, ⟨fun a o e => ?_, h2, q.up g1, k2.trans y, fun a ha => ?_⟩, h1, p, fun a o e => ?_⟩
  · by_cases e2 : h1 a = none
    · simp only [e2, if_true] at e
      exact s.gh _ _ e
    · simp only [e2, if_false] at e
      exact y _ _ (k _ _ e)
  · have e1 : h1 a = none := by
      rcases j a with ⟨e1, _⟩ | ⟨e1, _⟩
      · exact e1
      · exact absurd e1 ha
    simp only [e1, if_true]
    cases e3 : h2 a with
    | none => exact absurd e3 ha
    | some o => exact z a (by rw [k2 _ _ e3]; simp)
  · have e2 : h1 a ≠ none := by rw [e]; simp
    simp only [e2, if_false]
    exact e
/-- all that is tracked, taken as not written any more -/
theorem Sep.all (H : Hp) : Sep H H [] := ⟨Same.refl H, (fun _ => none), (fun _ => rfl), (fun _ _ (e : (none : Option HO) = some _) => by cases e), fun _ h => absurd rfl h⟩
end
end EB

namespace EB
open PySem L2 PyProof.Rows

/-! ### a stronger reading -/
section
variable {X : Cx} {e : Expr} {pos : Pos}
theorem PEimp {t t' : TE} (h : PE X e t) (w : ∀ σ H Q, t' σ H Q → t σ H Q) : PE X e t' := ⟨fun pins s σ H Q I q => h.run pins s σ H Q I (w σ H Q q)⟩
theorem PTimp {t t' : TT} (h : PT X e t) (w : ∀ σ H Q, t' σ H Q → t σ H Q) : PT X e t' := ⟨fun pins s σ H Q I q => h.run pins s σ H Q I (w σ H Q q)⟩
theorem OpR.imp {f : Value → Value → Sem Value} {r r' : R2} (h : OpR X f r) (w : ∀ x y H Q, r' x y H Q → r x y H Q) : OpR X f r' := fun pins s σ H x y v u Q I rx ry q => h pins s σ H x y v u Q I rx ry (w x y H Q q)
end

/-! ### operators, by what the values are -/
def rAdd : R2 := fun x y H Q => match x, y with
  | .int i, .int j => Q (.int (i + j)) H
  | .int i, .bl k => Q (.int (i + b2i k)) H
  | .str a, .str b => a.length + b.length ≤ sizeLine ∧ Q (.str (a ++ b)) H
  | .ref l, .ref b => ∃ xs zs, H l = some (.lst xs) ∧ H b = some (.lst zs) ∧ xs.length + zs.length ≤ sizeLine ∧ ∀ p, H p = none → Q (.ref p) (upd H p (.lst (xs ++ zs)))
  | _, _ => False
def rSub : R2 := fun x y H Q => match x, y with
  | .int i, .int j => Q (.int (i - j)) H
  | _, _ => False
/-- what a product asks -/
def CM (i j : Int) : Prop := i.natAbs < 2 ^ 250 ∧ j.natAbs < 2 ^ 250
def rMul : R2 := fun x y H Q => match x, y with
  | .int i, .int j => CM i j ∧ Q (.int (i * j)) H
  | .ref l, .int k => ∃ xs, H l = some (.lst xs) ∧ k < 2 ^ 63 ∧ -(2 ^ 63) ≤ k ∧ xs.length * k.toNat ≤ sizeLine ∧ ∀ p, H p = none → Q (.ref p) (upd H p (.lst ((List.replicate k.toNat xs).flatten)))
  | _, _ => False
def rDiv : R2 := fun x y H Q => match x, y with
  | .int i, .int j => 0 < j ∧ j.natAbs < 2 ^ 250 ∧ Q (.int (i / j)) H
  | _, _ => False
def rMod : R2 := fun x y H Q => match x, y with
  | .int i, .int j => 0 < j ∧ Q (.int (i % j)) H
  | _, _ => False
def rPow : R2 := fun x y H Q => match x, y with
  | .int i, .int j => (0 ≤ j ∧ j ≤ 64 ∧ i.natAbs < 2 ^ 250) ∧ Q (.int (i ^ j.toNat)) H
  | _, _ => False
section
variable {X : Cx}
theorem opAdd : OpR X (binaryOp .Add) rAdd := by
  intro pins s σ H x y v u Q I rx ry h
  cases x <;> cases y <;> first
    | exact (show False from h).elim
    | exact op_add pins s σ H _ _ v u Q I rx ry ⟨_, _, rfl, rfl, h⟩
    | exact op_add_ib pins s σ H _ _ v u Q I rx ry ⟨_, _, rfl, rfl, h⟩
    | exact op_add_str pins s σ H _ _ v u Q I rx ry ⟨_, _, rfl, rfl, h.1, h.2⟩
    | exact op_cat pins s σ H _ _ v u Q I rx ry (let ⟨xs, zs, a, b, c, d⟩ := h; ⟨_, _, xs, zs, rfl, rfl, a, b, c, d⟩)
theorem opSub : OpR X (binaryOp .Sub) rSub := by
  intro pins s σ H x y v u Q I rx ry h
  cases x <;> cases y <;> first
    | exact (show False from h).elim
    | exact op_sub pins s σ H _ _ v u Q I rx ry ⟨_, _, rfl, rfl, h⟩
theorem CM.w {i j : Int} (h : CM i j) : CMulW i j := wide_mul h.1 h.2 (by decide) (by decide) (by decide)
theorem opMul : OpR X (binaryOp .Mult) rMul := by
  intro pins s σ H x y v u Q I rx ry h
  cases x <;> cases y <;> first
    | exact (show False from h).elim
    | exact op_mulW pins s σ H _ _ v u Q I rx ry ⟨_, _, rfl, rfl, CM.w h.1, h.2⟩
    | exact op_rep pins s σ H _ _ v u Q I rx ry (let ⟨xs, a, b, c, d, e⟩ := h; ⟨_, _, xs, rfl, rfl, a, c, b, d, e⟩)
theorem opDiv : OpR X (binaryOp .FloorDiv) rDiv := by
  intro pins s σ H x y v u Q I rx ry h
  cases x <;> cases y <;> first
    | exact (show False from h).elim
    | exact op_fdivW pins s σ H _ _ v u Q I rx ry ⟨_, _, rfl, rfl, wide_div h.1 h.2.1 (by decide) (by decide), h.2.2⟩
theorem opMod : OpR X (binaryOp .Mod) rMod := by
  intro pins s σ H x y v u Q I rx ry h
  cases x <;> cases y <;> first
    | exact (show False from h).elim
    | exact op_mod pins s σ H _ _ v u Q I rx ry ⟨_, _, rfl, rfl, h.1, h.2⟩
theorem bits_lt {x : Int} {n : Nat} (h : x.natAbs < 2 ^ n) (h0 : 0 < n) : Builtin.Int.intBits x ≤ n := by
  have b : Builtin.Int.intBits x ≤ x.natAbs.log2 + 1 := by
    unfold Builtin.Int.intBits
    split <;> omega
  have := PySem.Flt.log2_lt_of h0 h
  omega
theorem opPow : OpR X (binaryOp .Pow) rPow := by
  intro pins s σ H x y v u Q I rx ry h
  cases x <;> cases y <;> first
    | exact (show False from h).elim
    | (rename_i i j
       obtain ⟨⟨a, b, c⟩, d⟩ := h
       obtain ⟨t, rfl⟩ := rx
       obtain ⟨t', rfl⟩ := ry
       refine pow_int a ?_ ⟨.int _, H, I.tok _, ⟨_, rfl⟩, d⟩
       have := bits_lt c (by decide)
       have e : (Builtin.Int.intBits i : Int) * j ≤ 1000 * 64 := Int.mul_le_mul (by omega) b a (by decide)
       exact Int.le_trans e (by decide))
/-- a power of written numbers -/
theorem pe_k {e : Expr} {t : TE} {n : Int} (h : PE X e t) (w : ∀ σ H Q, Q (.int n) H → t σ H Q) : PE X e (tC (.int n)) := PEimp h w
def rEqA (K : PySem.W.Frag) : R2 := fun x y H Q => rEq x y H Q ∨ rEqD K x y H Q
def rNeA (K : PySem.W.Frag) : R2 := fun x y H Q => rNe x y H Q ∨ rNeD K x y H Q
theorem opEq (hu : X.A.units + 64 < cLine) : OpR X (compareOp .Eq) (rEqA X.K) := op_eq.or (op_eqD hu)
theorem opNe (hu : X.A.units + 64 < cLine) : OpR X (compareOp .NotEq) (rNeA X.K) := op_ne.or (op_neD hu)
/-- in: a flat thing in a list or tuple of flat things; any data in a list; a sign in a text -/
def rInS : R2 := fun x y H Q => ∃ (c : Nat) (z : Str), x = .str ⟨#[c]⟩ ∧ y = .str z ∧ Q (.bl (decide (c ∈ z.cps.toList))) H
def rNiS : R2 := fun x y H Q => ∃ (c : Nat) (z : Str), x = .str ⟨#[c]⟩ ∧ y = .str z ∧ Q (.bl (!decide (c ∈ z.cps.toList))) H
def rInA (K : PySem.W.Frag) : R2 := fun x y H Q => rIn K false x y H Q ∨ (rInD K x y H Q ∨ rInS x y H Q)
def rNiA (K : PySem.W.Frag) : R2 := fun x y H Q => rIn K true x y H Q ∨ (rNotInD K x y H Q ∨ rNiS x y H Q)
theorem opIn (hu : X.A.units + 65 < cLine) : OpR X (compareOp .In) (rInA X.K) := op_in_seq.or ((op_inD hu).or op_in_sign)
theorem opNi (hu : X.A.units + 65 < cLine) : OpR X (compareOp .NotIn) (rNiA X.K) := op_notIn_seq.or ((op_notInD hu).or op_notIn_sign)
def rSlA (K : PySem.W.Frag) : V → Option Int → Option Int → Hp → VK → Prop := fun x lo hi H Q => rSlL K x lo hi H Q ∨ (∃ z, x = .str z ∧ z.length ≤ sizeLine ∧ Q (.str (cutS z lo hi)) H)
theorem slA : SlR X (rSlA X.K) := sl_list.or sl_str
end
theorem units64 {A : Around} {k : Nat} (hr : Room k A) : A.units + 64 < cLine := hr.units
theorem units65 {A : Around} {k : Nat} (hr : Room k A) : A.units + 65 < cLine := by
  have := hr.un
  omega
end EB

namespace EB
open PySem L2 PyProof.Rows

/-! ### the names that no text stores -/
structure Bn (mg : Str → Option Value) : Prop where
  len : mg "len" = none
  range : mg "range" = none
  sorted : mg "sorted" = none
  list : mg "list" = none
  dict : mg "dict" = none
  set : mg "set" = none
  sum : mg "sum" = none
  max : mg "max" = none
  min : mg "min" = none
  abs : mg "abs" = none
  int : mg "int" = none
  str : mg "str" = none
  repr : mg "repr" = none
  zip : mg "zip" = none
  enumerate : mg "enumerate" = none
  reversed : mg "reversed" = none
  any : mg "any" = none
  all : mg "all" = none
  isinstance : mg "isinstance" = none
  tuple : mg "tuple" = none
  bool : mg "bool" = none
  vErr : mg "ValueError" = none

/-! ### defs called by name: by place, by keyword -/
structure Cal (P : Program) (w : World) (K : PySem.W.Frag) (mg : Str → Option Value) (base : Heap) (k : Nat) (x : Str) (sp : Sp) : Prop where
  ex : ∃ (f : Addr) (fd : FuncData) (ps : List Str), FnOk P w K mg base CX0 k f fd ps sp ∧ mg x = some (.ref f) ∧ PySem.W.keepIn K (.ref f) = true ∧ Binds K fd ps []
structure CalKw (P : Program) (w : World) (K : PySem.W.Frag) (mg : Str → Option Value) (base : Heap) (k : Nat) (x : Str) (ks : List Str) (gV : List V → List V → List V) (sp : Sp) : Prop where
  ex : ∃ (f : Addr) (fd : FuncData) (ps : List Str) (g : List Value → List Value → List Value), FnOk P w K mg base CX0 k f fd ps sp ∧ mg x = some (.ref f) ∧ PySem.W.keepIn K (.ref f) = true ∧ KBinds K fd ps ks g gV
section
variable {X : Cx} {k j : Nat} {x : Str} {p pos apos : Pos} {e o : Expr} {es : List Expr} {kws : List Keyword} {t tk : TA} {ks : List Str} {gV : List V → List V → List V} {sp : Sp}
theorem pe_c (c : Cal X.prog X.w X.K X.mg X.base k x sp) (hr : Room j X.A) (hk : k ≤ j) (hg : Gl X x) (ha : PA X (e :: es) t)
    (hdb : (x == ("__debug__" : Str)) = false := by decide) (he : starEach (e :: es) X.env = (false, eval e X.env) :: starEach es X.env := by rfl) (hpl : (backTo pos (starEach es X.env)).any (·.1) = false := by rfl) :
    PE X (.Call (.Name x p) (e :: es) [] pos) (tCall sp [] E0 t) := by
  obtain ⟨f, fd, ps, F, hm, kp, b⟩ := c.ex
  exact pe_call F (hr.mono hk) hg hm kp b .nil pass0 ha hdb he hpl
theorem pe_kw0 (c : CalKw X.prog X.w X.K X.mg X.base k x ks gV sp) (hr : Room j X.A) (hk : k ≤ j) (hg : Gl X x) (ha : PA X [] tNil) (hkw : PK X kws tk)
    (hall : (backToKw pos (keywordEach kws X.env)).all (·.1.isSome) = true := by rfl) (hks : (backToKw pos (keywordEach kws X.env)).filterMap (·.1) = ks := by rfl) (hdb : (x == ("__debug__" : Str)) = false := by decide)
    (hpl : ((backTo pos (starEach [] X.env)).any (·.1) || (backToKw pos (keywordEach kws X.env)).any (·.1.isNone)) = false := by rfl) :
    PE X (.Call (.Name x p) [] kws pos) (tCallK sp gV E0 tNil tk) := by
  obtain ⟨f, fd, ps, g, F, hm, kp, hb⟩ := c.ex
  refine ⟨fun pins s σ H Q I h => ?_⟩
  refine wpAny_Call_Name_kw (ld_glob I hg hm ?_ hdb)
  refine PySem.W.callWith_KW0 (h₀ := X.base) I.ok.mod.kin kp hall ?_ hpl
  refine thn (hkw.run pos pins s σ H _ I h) fun ws s2 ⟨zs, H2, I2, rz, q2⟩ => ⟨I2.kIn, ?_⟩
  rw [hks]
  exact run_fnk (us := []) (vs := []) F (hr.mono hk) hb pass0 I2 .nil rz q2
end
section
variable {P : Program} {w : World} {K : PySem.W.Frag} {mg : Str → Option Value} {base : Heap} {x qual : Str} {st : Stmt} {f : Addr} {fd : FuncData} {ps ks : List Str} {k : Nat} {sp : Sp} {gV : List V → List V → List V}
theorem cal_of (F : Fun K x qual st f fd) (hm : mg x = some (.ref f)) (hb : Binds K fd ps []) (G : FnOk P w K mg base CX0 k f fd ps sp) : Cal P w K mg base k x sp := ⟨f, fd, ps, G, hm, F.kp, hb⟩
theorem calkw_of {g : List Value → List Value → List Value} (F : Fun K x qual st f fd) (hm : mg x = some (.ref f)) (hb : KBinds K fd ps ks g gV) (G : FnOk P w K mg base CX0 k f fd ps sp) : CalKw P w K mg base k x ks gV sp := ⟨f, fd, ps, g, G, hm, F.kp, hb⟩
end

/-! ### built-in names -/
def rLen (K : PySem.W.Frag) : List V → Hp → VK → Prop := fun xs H Q => match xs with
  | [.str z] => z.length ≤ sizeLine ∧ Q (.int z.length) H
  | [.ref p] => (∃ ys, (SqL K H p ys ∨ SqT K H p ys) ∧ Q (.int ys.length) H) ∨ ∃ kvs, H p = some (.dK kvs) ∧ Q (.int kvs.length) H
  | _ => False
def rAbs : List V → Hp → VK → Prop := fun xs H Q => match xs with
  | [.int i] => Q (.int (if i < 0 then -i else i)) H
  | _ => False
def rMx2 : List V → Hp → VK → Prop := fun xs H Q => match xs with
  | [.int i, .int j] => Q (.int (max i j)) H
  | _ => False
def rMn2 : List V → Hp → VK → Prop := fun xs H Q => match xs with
  | [.int i, .int j] => Q (.int (min i j)) H
  | _ => False
def rInt : List V → Hp → VK → Prop := fun xs H Q => match xs with
  | [.int i] => Q (.int i) H
  | [.bl k] => Q (.int (if k then 1 else 0)) H
  | [.str a] => ∃ n, PySem.intText? a = some n ∧ a.length ≤ 640 ∧ Q (.int n) H
  | _ => False
/-- what a number's text asks -/
def CS (i : Int) : Prop := i.natAbs < 2 ^ 250
def rStr : List V → Hp → VK → Prop := fun xs H Q => match xs with
  | [.int i] => CS i ∧ Q (.str (toString i)) H
  | _ => False
def rSum (K : PySem.W.Frag) : List V → Hp → VK → Prop := fun xs H Q => match xs with
  | [.ref a] => ∃ ns : List Int, SqL K H a (ns.map V.int) ∧ Q (.int ns.sum) H
  | _ => False
def rLst (K : PySem.W.Frag) : List V → Hp → VK → Prop := fun xs H Q => match xs with
  | [.ref p] => ∃ ys, (SqL K H p ys ∨ SqT K H p ys) ∧ ∀ l, H l = none → Q (.ref l) (upd H l (.lst ys))
  | _ => False
section
variable {X : Cx}
theorem cLen : CallR X (.builtin "len") (rLen X.K) := by
  intro pins s σ H xs us Q I r h
  match xs, r, h with
  | [.str z], r, h => exact call_len_str pins s σ H _ us Q I r ⟨z, rfl, h.1, h.2⟩
  | [.ref p], r, h =>
    rcases h with ⟨ys, h, q⟩ | ⟨kvs, h, q⟩
    · exact call_len_seq pins s σ H _ us Q I r ⟨p, ys, rfl, h, q⟩
    · exact call_lenD pins s σ H _ us Q I r ⟨p, kvs, rfl, h, q⟩
theorem cAbs : CallR X (.builtin "abs") rAbs := by
  intro pins s σ H xs us Q I r h
  match xs, r, h with
  | [.int i], r, h => exact call_abs pins s σ H _ us Q I r ⟨i, rfl, h⟩
theorem cMax2 (hc : X.calm = true) : CallR X (.builtin "max") rMx2 := by
  intro pins s σ H xs us Q I r h
  match xs, r, h with
  | [.int i, .int j], r, h => exact call_max2 hc pins s σ H _ us Q I r ⟨i, j, rfl, by
      have e : (if j > i then j else i) = max i j := by
        rw [Int.max_def]
        split <;> split <;> omega
      rw [e]
      exact h⟩
theorem cMin2 (hc : X.calm = true) : CallR X (.builtin "min") rMn2 := by
  intro pins s σ H xs us Q I r h
  match xs, r, h with
  | [.int i, .int j], r, h => exact call_min2 hc pins s σ H _ us Q I r ⟨i, j, rfl, by
      have e : (if j < i then j else i) = min i j := by
        rw [Int.min_def]
        split <;> split <;> omega
      rw [e]
      exact h⟩
theorem cInt : CallR X (.type "int") rInt := by
  intro pins s σ H xs us Q I r h
  match xs, r, h with
  | [.int i], r, h => exact call_int1 pins s σ H _ us Q I r (.inl ⟨i, rfl, h⟩)
  | [.bl k], r, h => exact call_int1 pins s σ H _ us Q I r (.inr ⟨k, rfl, h⟩)
  | [.str a], r, h => exact call_int_str pins s σ H _ us Q I r (let ⟨n, x, y, z⟩ := h; ⟨a, n, rfl, x, y, z⟩)
theorem CS.w {i : Int} (h : CS i) : i.natAbs.log2 < 1920 := Nat.lt_of_lt_of_le (PySem.Flt.log2_lt_of (by decide) h) (by decide)
theorem cStr : CallR X (.type "str") rStr := by
  intro pins s σ H xs us Q I r h
  match xs, r, h with
  | [.int i], r, h => exact call_str_int pins s σ H _ us Q I r ⟨i, rfl, h.1.w, h.2⟩
theorem cRepr : CallR X (.builtin "repr") rStr := by
  intro pins s σ H xs us Q I r h
  match xs, r, h with
  | [.int i], r, h => exact SkE.call_repr_int pins s σ H _ us Q I r ⟨i, rfl, h.1.w, h.2⟩
theorem cSum (hc : X.calm = true) : CallR X (.builtin "sum") (rSum X.K) := by
  intro pins s σ H xs us Q I r h
  match xs, r, h with
  | [.ref a], r, h => exact cr_sum hc pins s σ H _ us Q I r (let ⟨ns, x, y⟩ := h; ⟨a, ns, rfl, x, y⟩)
theorem cList : CallR X (.type "list") (rLst X.K) := by
  intro pins s σ H xs us Q I r h
  match xs, r, h with
  | [.ref p], r, h => exact call_list_of pins s σ H _ us Q I r (let ⟨ys, x, y⟩ := h; ⟨p, ys, rfl, x, y⟩)
end
/-! ### what the names hold -/
theorem bt_len : bootBuiltins "len" = some (.builtin "len") := by decide +kernel
theorem bt_abs : bootBuiltins "abs" = some (.builtin "abs") := by decide +kernel
theorem bt_max : bootBuiltins "max" = some (.builtin "max") := by decide +kernel
theorem bt_min : bootBuiltins "min" = some (.builtin "min") := by decide +kernel
theorem bt_sum : bootBuiltins "sum" = some (.builtin "sum") := by decide +kernel
theorem bt_sorted : bootBuiltins "sorted" = some (.builtin "sorted") := by decide +kernel
theorem bt_repr : bootBuiltins "repr" = some (.builtin "repr") := by decide +kernel
theorem bt_any : bootBuiltins "any" = some (.builtin "any") := by decide +kernel
theorem bt_all : bootBuiltins "all" = some (.builtin "all") := by decide +kernel
theorem bt_isinstance : bootBuiltins "isinstance" = some (.builtin "isinstance") := by decide +kernel
theorem bt_int : bootBuiltins "int" = some (.type "int") := by decide +kernel
theorem bt_str : bootBuiltins "str" = some (.type "str") := by decide +kernel
theorem bt_bool : bootBuiltins "bool" = some (.type "bool") := by decide +kernel
theorem bt_list : bootBuiltins "list" = some (.type "list") := by decide +kernel
theorem bt_dict : bootBuiltins "dict" = some (.type "dict") := by decide +kernel
theorem bt_set : bootBuiltins "set" = some (.type "set") := by decide +kernel
theorem bt_tuple : bootBuiltins "tuple" = some (.type "tuple") := by decide +kernel
theorem bt_zip : bootBuiltins "zip" = some (.type "zip") := by decide +kernel
theorem bt_enumerate : bootBuiltins "enumerate" = some (.type "enumerate") := by decide +kernel
theorem bt_reversed : bootBuiltins "reversed" = some (.type "reversed") := by decide +kernel
theorem bt_range : bootBuiltins "range" = some (.type "range") := by decide +kernel
/-! ### written numbers -/
section
variable {X : Cx} {a b : Expr} {pos : Pos} {i j n : Int}
theorem pc_of (v : Int) {k : Nat} : PE X (.Constant (.int v) k pos) (tC (.int v)) := pe_int
theorem kPow (e : i ^ j.toNat = n) (h : 0 ≤ j ∧ j ≤ 64 ∧ i.natAbs < 2 ^ 250) (h' : True) (ha : PE X a (tC (.int i))) (hb : PE X b (tC (.int j))) : PE X (.BinOp a .Pow b pos) (tC (.int n)) :=
  PEimp (pe_op opPow ha hb) fun _ _ _ q => ⟨h, by rw [e]; exact q⟩
theorem kMul (e : i * j = n) (h : CM i j) (h' : True) (ha : PE X a (tC (.int i))) (hb : PE X b (tC (.int j))) : PE X (.BinOp a .Mult b pos) (tC (.int n)) :=
  PEimp (pe_op opMul ha hb) fun _ _ _ q => ⟨h, by rw [e]; exact q⟩
theorem kAdd (e : i + j = n) (h h' : True) (ha : PE X a (tC (.int i))) (hb : PE X b (tC (.int j))) : PE X (.BinOp a .Add b pos) (tC (.int n)) :=
  PEimp (pe_op opAdd ha hb) fun _ _ _ q => by
    subst e
    exact q
theorem kSub (e : i - j = n) (h h' : True) (ha : PE X a (tC (.int i))) (hb : PE X b (tC (.int j))) : PE X (.BinOp a .Sub b pos) (tC (.int n)) :=
  PEimp (pe_op opSub ha hb) fun _ _ _ q => by
    subst e
    exact q
end
end EB

namespace EB
open PySem L2

/-! ### readings, step by step -/
section
variable {σ : St} {H : Hp} {Q : VK} {D : Ends} {ta tb te : TE} {t u : TS} {c : TT} {i j : Nat} {v w x y : V} {r : R2} {tr : TA} {K : PySem.W.Frag}
theorem g_seq (h : t { D with nx := u D } σ H) : tSeq t u D σ H := h
theorem g_asg (h : te σ H fun x H1 => D.nx (σ.set i (some x)) H1) : tAsg te (gName i) D σ H := h
theorem g_asgT {n : Nat} {g : TGs} (h : te σ H fun x H1 => gTup K n g x σ H1 D.nx) : tAsg te (gTup K n g) D σ H := h
theorem g_asgS {s : TSet} (h : te σ H fun x H1 => ta σ H1 fun o H2 => tb σ H2 fun k H3 => s o k x H3 fun H4 => D.nx σ H4) : tAsg te (gSub ta tb s) D σ H := h
theorem g_name {P : St → Hp → Prop} (h : P (σ.set i (some v)) H) : gName i v σ H P := h
theorem g_par (h : tr σ H fun vs H1 => ∃ v w, vs = [v, w] ∧ D.nx ((σ.set i (some v)).set j (some w)) H1) : tPar i j tr D σ H := h
theorem g_par2 {P : V → V → Prop} (h : P v w) : ∃ a b, [v, w] = [a, b] ∧ P a b := ⟨v, w, rfl, h⟩
theorem g_ret (h : te σ H D.rt) : tRet te D σ H := h
theorem g_drop (h : te σ H fun _ H1 => D.nx σ H1) : tDrop te D σ H := h
theorem g_next (h : D.nx σ H) : tNext D σ H := h
theorem g_brk (h : D.bk σ H) : tBreak D σ H := h
theorem g_if (h : c σ H fun b H1 => if b = true then t D σ H1 else u D σ H1) : tIfS c t u D σ H := h
theorem g_test {P : Bool → Hp → Prop} (h : te σ H fun x H' => ∃ k, x = .bl k ∧ P k H') : tTest te σ H P := h
theorem g_B {P : Bool → Hp → Prop} (h : te σ H fun x H' => ∃ k, x = .bl k ∧ P k H') : tB te σ H P := h
theorem g_bl {b : Bool} {P : Bool → Prop} (h : P b) : ∃ k, V.bl b = .bl k ∧ P k := ⟨b, rfl, h⟩
theorem g_and {c d : TT} {P : Bool → Hp → Prop} (h : c σ H fun b H1 => if b = true then d σ H1 P else P false H1) : tAnd c d σ H P := h
theorem g_or {c d : TT} {P : Bool → Hp → Prop} (h : c σ H fun b H1 => if b = true then P true H1 else d σ H1 P) : tOr c d σ H P := h
theorem g_not {c : TT} {P : Bool → Hp → Prop} (h : c σ H fun b H1 => P (!b) H1) : tNot c σ H P := h
theorem g_ifE {c : TT} (h : c σ H fun b H1 => if b = true then ta σ H1 Q else tb σ H1 Q) : tIf c ta tb σ H Q := h
theorem g_var (hv : σ[i]? = some (some v)) (h : Q v H) : tVar i σ H Q := ⟨v, hv, h⟩
theorem g_c (h : Q v H) : tC v σ H Q := h
theorem g_op (h : ta σ H fun x H1 => tb σ H1 fun y H2 => r x y H2 Q) : tOp r ta tb σ H Q := h
theorem g_un {f : V → Hp → VK → Prop} (h : ta σ H fun x H1 => f x H1 Q) : tUn f ta σ H Q := h
theorem g_cb {f : List V → Hp → VK → Prop} (h : tr σ H fun vs H1 => f vs H1 Q) : tCB f tr σ H Q := h
theorem g_nil {P : List V → Hp → Prop} (h : P [] H) : tNil σ H P := h
theorem g_cons {P : List V → Hp → Prop} (h : ta σ H fun x H1 => tr σ H1 fun xs H2 => P (x :: xs) H2) : tCons ta tr σ H P := h
theorem g_tup (h : tr σ H fun xs H1 => xs.length ≤ sizeLine ∧ ∀ p, H1 p = none → Q (.ref p) (upd H1 p (.tup xs))) : tTup tr σ H Q := h
theorem g_lst (h : tr σ H fun xs H1 => xs.length ≤ sizeLine ∧ ∀ p, H1 p = none → Q (.ref p) (upd H1 p (.lst xs))) : tLst tr σ H Q := h
theorem g_call {sp : Sp} {E : XK} (h : tr σ H fun vs H1 => sp vs H1 Q E) : tCall sp [] E tr σ H Q := by
  show tr σ H fun vs H1 => sp (vs ++ []) H1 Q E
  have e : (fun (vs : List V) (H1 : Hp) => sp (vs ++ []) H1 Q E) = fun vs H1 => sp vs H1 Q E := by
    funext vs H1
    rw [List.append_nil]
  rw [e]
  exact h
theorem g_callK {sp : Sp} {E : XK} {g : List V → List V → List V} {tk : TA} (h : tr σ H fun vs H1 => tk σ H1 fun zs H2 => sp (g vs zs) H2 Q E) : tCallK sp g E tr tk σ H Q := h
theorem g_aug {ti : TIp} (hv : σ[i]? = some (some x)) (h : te σ H fun y H1 => ti x y H1 fun z H2 => D.nx (σ.set i (some z)) H2) : tAug i te ti D σ H := ⟨x, hv, h⟩
theorem g_ipI {f : Int → Int → Int} {a b : Int} (h : Q (.int (f a b)) H) : ipI f (.int a) (.int b) H Q := ⟨a, b, rfl, rfl, h⟩
/-! the values' own steps -/
theorem g_rI0 {g : Int → Int → V} {a b : Int} (h : Q (g a b) H) : rI0 g (.int a) (.int b) H Q := ⟨a, b, rfl, rfl, h⟩
theorem g_rU {g : Int → V} {a : Int} (h : Q (g a) H) : rU g (.int a) H Q := ⟨a, rfl, h⟩
theorem g_add {a b : Int} (h : Q (.int (a + b)) H) : rAdd (.int a) (.int b) H Q := h
theorem g_addb {a : Int} {b : Bool} (h : Q (.int (a + PyProof.Rows.b2i b)) H) : rAdd (.int a) (.bl b) H Q := h
theorem g_sub {a b : Int} (h : Q (.int (a - b)) H) : rSub (.int a) (.int b) H Q := h
theorem g_mul {a b : Int} (hc : CM a b) (h : Q (.int (a * b)) H) : rMul (.int a) (.int b) H Q := ⟨hc, h⟩
theorem g_div {a b : Int} (h0 : 0 < b) (h1 : b.natAbs < 2 ^ 250) (h : Q (.int (a / b)) H) : rDiv (.int a) (.int b) H Q := ⟨h0, h1, h⟩
theorem g_mod {a b : Int} (h0 : 0 < b) (h : Q (.int (a % b)) H) : rMod (.int a) (.int b) H Q := ⟨h0, h⟩
theorem g_pow {a b : Int} (h0 : 0 ≤ b ∧ b ≤ 64 ∧ a.natAbs < 2 ^ 250) (h : Q (.int (a ^ b.toNat)) H) : rPow (.int a) (.int b) H Q := ⟨h0, h⟩
theorem g_abs {a : Int} (h : Q (.int (if a < 0 then -a else a)) H) : rAbs [.int a] H Q := h
theorem g_max {a b : Int} (h : Q (.int (max a b)) H) : rMx2 [.int a, .int b] H Q := h
theorem g_min {a b : Int} (h : Q (.int (min a b)) H) : rMn2 [.int a, .int b] H Q := h
theorem g_intI {a : Int} (h : Q (.int a) H) : rInt [.int a] H Q := h
theorem g_intB {a : Bool} (h : Q (.int (if a then 1 else 0)) H) : rInt [.bl a] H Q := h
theorem g_str {a : Int} (hc : CS a) (h : Q (.str (toString a)) H) : rStr [.int a] H Q := ⟨hc, h⟩
theorem g_eqI {a b : Int} (h : Q (.bl (decide (a = b))) H) : rEqA K (.int a) (.int b) H Q := .inl ⟨rfl, by
  have e : decide (V.int a = V.int b) = decide (a = b) := by simp
  rw [e]; exact h⟩
theorem g_neI {a b : Int} (h : Q (.bl (decide (a ≠ b))) H) : rNeA K (.int a) (.int b) H Q := .inl ⟨rfl, by
  have e : (!decide (V.int a = V.int b)) = decide (a ≠ b) := by simp
  rw [e]; exact h⟩
theorem g_eqS {a b : Str} (h : Q (.bl (decide (a = b))) H) : rEqA K (.str a) (.str b) H Q := .inl ⟨rfl, by
  have e : decide (V.str a = V.str b) = decide (a = b) := by simp
  rw [e]; exact h⟩
theorem g_neS {a b : Str} (h : Q (.bl (decide (a ≠ b))) H) : rNeA K (.str a) (.str b) H Q := .inl ⟨rfl, by
  have e : (!decide (V.str a = V.str b)) = decide (a ≠ b) := by simp
  rw [e]; exact h⟩
theorem g_isN (h : Q (.bl (decide (x = .non))) H) : rIsN x .non H Q := ⟨rfl, h⟩
theorem g_notN (h : Q (.bl (!decide (x = .non))) H) : rNotN x .non H Q := ⟨rfl, h⟩
theorem g_ite {p A B : Prop} [Decidable p] (h1 : p → A) (h2 : ¬ p → B) : if decide p = true then A else B := by
  by_cases h : p
  · rw [decide_eq_true h, if_pos rfl]
    exact h1 h
  · rw [decide_eq_false h, if_neg Bool.false_ne_true]
    exact h2 h
theorem g_iteT {A B : Prop} (h : A) : if true = true then A else B := by
  rw [if_pos rfl]
  exact h
theorem g_iteF {A B : Prop} (h : B) : if false = true then A else B := by
  rw [if_neg Bool.false_ne_true]
  exact h
theorem g_iteN {p A B : Prop} [Decidable p] (h1 : ¬ p → A) (h2 : p → B) : if (!decide p) = true then A else B := by
  by_cases h : p
  · rw [decide_eq_true h]
    exact g_iteF (h2 h)
  · rw [decide_eq_false h]
    exact g_iteT (h1 h)
theorem g_iteb {b : Bool} {A B : Prop} (h1 : b = true → A) (h2 : b = false → B) : if b = true then A else B := by
  cases b
  · exact g_iteF (h2 rfl)
  · exact g_iteT (h1 rfl)
/-! targets that are tuples -/
theorem g_tg2 {g1 g2 : TG} {P : St → Hp → Prop} {a : Addr} (h : SqT K H a [v, w]) (q : g1 v σ H fun σ1 H1 => g2 w σ1 H1 P) : gTup K 2 (gCons g1 (gCons g2 gNil)) (.ref a) σ H P :=
  ⟨a, [v, w], rfl, h, rfl, v, [w], rfl, by
    have e : (fun σ' H' => gCons g2 gNil [w] σ' H' P) = fun σ1 H1 => g2 w σ1 H1 P := by
      funext σ' H'
      apply propext
      constructor
      · rintro ⟨a, b, e, z⟩
        cases e
        have e2 : (fun σ2 H2 => gNil [] σ2 H2 P) = P := by
          funext σ2 H2
          apply propext
          exact ⟨fun z => z.2, fun z => ⟨rfl, z⟩⟩
        rw [e2] at z
        exact z
      · intro z
        refine ⟨w, [], rfl, ?_⟩
        have e2 : (fun σ2 H2 => gNil [] σ2 H2 P) = P := by
          funext σ2 H2
          apply propext
          exact ⟨fun z => z.2, fun z => ⟨rfl, z⟩⟩
        rw [e2]
        exact z
    rw [e]
    exact q⟩
theorem Rep.pair {A B : Type} [Rp A] [Rp B] {G H : Hp} {v : V} {x : A × B} (h : Rep G v x) (s : Same G H) : ∃ p a b, v = .ref p ∧ SqT K H p [a, b] ∧ Rep G a x.1 ∧ Rep G b x.2 :=
  let ⟨p, a, b, e, h, x, y⟩ := h
  ⟨p, a, b, e, .inl (.inl (s _ _ h)), x, y⟩
theorem Rep.list {A : Type} [Rp A] {G H : Hp} {v : V} {x : List A} (h : Rep G v x) (s : Same G H) : ∃ p vs, v = .ref p ∧ SqL K H p vs ∧ Reps G vs x :=
  let ⟨p, vs, e, h, x⟩ := h
  ⟨p, vs, e, .inl (.inl (s _ _ h)), x⟩
end

/-! ### loops -/
/-- a for over a list that stands for xs in a part G that is not written while the loop goes -/
theorem for_rep {A : Type} [Rp A] {K : PySem.W.Frag} {G : Hp} {p : Addr} {vs : List V} {xs : List A} {g : TG} {tb : TS} {D : Ends} {σ : St} {H : Hp} (rs : Reps G vs xs) (Pv : Nat → St → Hp → Prop) (h0 : Pv 0 σ H) (hl : ∀ i σ H, i ≤ xs.length → Pv i σ H → SqL K H p vs)
    (hs : ∀ i v x σ H, xs[i]? = some x → Rep G v x → Pv i σ H → g v σ H fun σ2 H2 => tb { D with nx := Pv (i + 1), ct := Pv (i + 1), bk := D.nx } σ2 H2) (hd : ∀ σ H, Pv xs.length σ H → D.nx σ H) :
    ∃ W : Nat → Nat → St → Hp → Prop, (∃ m, W 0 m σ H) ∧ ∀ i m σ H, W i m σ H →
      ((Itl K p).stop i H ∧ D.nx σ H) ∨ ((Itl K p).go i H ∧ ∃ N : St → Hp → Prop, (∀ σ' H', N σ' H' → ∃ m', m' < m ∧ W (i + 1) m' σ' H') ∧ ∀ x H', (Itl K p).yld i H x H' → g x σ H' fun σ2 H2 => tb { D with nx := N, ct := N, bk := D.nx } σ2 H2) := by
  refine for_list (K := K) (a := p) (xs := vs) Pv h0 (fun i σ H hi => hl i σ H (by rw [← rs.len]; exact hi)) (fun i v σ H hi pv => ?_) (fun σ H pv => hd σ H (by rw [← rs.len]; exact pv))
  obtain ⟨x, hx, r⟩ := rs.get' hi
  exact hs i v x σ H hx r pv
end EB

namespace EB
open PySem L2

section
variable {σ : St} {H : Hp} {Q : VK} {D : Ends} {ta tb te tl : TE} {t u : TS} {c : TT} {i j : Nat} {v w x y : V} {r : R2} {tr : TA} {K : PySem.W.Frag} {g g1 g2 : TG} {tbd : TS}

/-! ### targets -/
theorem g_tgP {A B : Type} [Rp A] [Rp B] {x : A × B} {G : Hp} {n : Nat} {P : St → Hp → Prop} (r : Rep G v x) (s : Same G H) (hn : n = 2) (q : ∀ a b, Rep G a x.1 → Rep G b x.2 → g1 a σ H fun σ1 H1 => g2 b σ1 H1 P) :
    gTup K n (gCons g1 (gCons g2 gNil)) v σ H P := by
  obtain ⟨p, a, b, rfl, hs, ra, rb⟩ := r.pair (K := K) s
  subst hn
  exact g_tg2 hs (q a b ra rb)
theorem g_tgII {x : Int × Int} {G : Hp} {n : Nat} {P : St → Hp → Prop} (r : Rep G v x) (s : Same G H) (hn : n = 2) (q : g1 (.int x.1) σ H fun σ1 H1 => g2 (.int x.2) σ1 H1 P) :
    gTup K n (gCons g1 (gCons g2 gNil)) v σ H P := g_tgP r s hn fun a b ra rb => by
  obtain rfl := ra.int
  obtain rfl := rb.int
  exact q
/-- the pair of an enumerate or a zip -/
theorem g_tgN {n : Nat} {P : St → Hp → Prop} {T : Addr} {a b : V} (hT : H T = none) (hn : n = 2) (q : g1 a σ (upd H T (.tup [a, b])) fun σ1 H1 => g2 b σ1 H1 P) :
    gTup K n (gCons g1 (gCons g2 gNil)) (.ref T) σ (upd H T (.tup [a, b])) P := by
  subst hn
  exact g_tg2 (.inl (.inl upd_same)) q

/-! ### for -/
/-- what a for asks of an iterator -/
def Loop (J : It) (g : TG) (tbd : TS) (D : Ends) (σ : St) (H : Hp) : Prop := ∃ W : Nat → Nat → St → Hp → Prop, (∃ m, W 0 m σ H) ∧ ∀ i m σ H, W i m σ H →
      (J.stop i H ∧ D.nx σ H) ∨ (J.go i H ∧ ∃ N : St → Hp → Prop, (∀ σ' H', N σ' H' → ∃ m', m' < m ∧ W (i + 1) m' σ' H') ∧ ∀ x H', J.yld i H x H' → g x σ H' fun σ2 H2 => tbd { D with nx := N, ct := N, bk := D.nx } σ2 H2)
theorem g_for {wi : TI} (h : wi σ H fun J H1 => Loop J g tbd D σ H1) : tFor wi g tbd D σ H := h
theorem g_iL {R : It → Hp → Prop} (h : tl σ H fun x H1 => ∃ a, x = .ref a ∧ (∃ xs, SqL K H1 a xs) ∧ R (Itl K a) H1) : iList K tl σ H R := h
theorem g_iT {R : It → Hp → Prop} (h : tl σ H fun x H1 => ∃ a, x = .ref a ∧ (∃ xs, SqT K H1 a xs) ∧ R (Itt K a) H1) : iTup K tl σ H R := h
theorem g_iR1 {R : It → Hp → Prop} (h : tr σ H fun vs H1 => ∃ j : Int, vs = [.int j] ∧ -(2 ^ 62) ≤ j ∧ j < 2 ^ 62 ∧ R (Itr 0 j.toNat) H1) : iRng1 tr σ H R := h
theorem g_iR2 {R : It → Hp → Prop} (h : tr σ H fun vs H1 => ∃ i j : Int, vs = [.int i, .int j] ∧ (-(2 ^ 62) ≤ i ∧ i < 2 ^ 62 ∧ -(2 ^ 62) ≤ j ∧ j < 2 ^ 62) ∧ R (Itr i (j - i).toNat) H1) : iRng2 tr σ H R := h
theorem g_iE {R : It → Hp → Prop} (h : tr σ H fun vs H1 => ∃ a xs, vs = [.ref a] ∧ SqL K H1 a xs ∧ R (Ite K a) H1) : iEnum K tr σ H R := h
theorem g_iZ {R : It → Hp → Prop} (h : tr σ H fun vs H1 => ∃ a b xs ys, vs = [.ref a, .ref b] ∧ SqL K H1 a xs ∧ SqL K H1 b ys ∧ R (Itz K a b) H1) : iZip K tr σ H R := h
theorem g_iV {R : It → Hp → Prop} (h : tr σ H fun vs H1 => ∃ (a : Addr) (xs : List V), vs = [.ref a] ∧ SqL K H1 a xs ∧ R (Itv K a xs.length) H1) : iRev K tr σ H R := h
/-- over a list that stands for xs -/
theorem loopL {A : Type} [Rp A] {G : Hp} {xs : List A} (r : Rep G v xs) (s : Same G H) (Pv : Nat → St → Hp → Prop) (h0 : Pv 0 σ H) (hl : ∀ i σ H, i ≤ xs.length → Pv i σ H → Same G H)
    (hs : ∀ i v x σ H, xs[i]? = some x → Rep G v x → Pv i σ H → g v σ H fun σ2 H2 => tbd { D with nx := Pv (i + 1), ct := Pv (i + 1), bk := D.nx } σ2 H2) (hd : ∀ σ H, Pv xs.length σ H → D.nx σ H) :
    ∃ a, v = .ref a ∧ (∃ xs, SqL K H a xs) ∧ Loop (Itl K a) g tbd D σ H := by
  obtain ⟨p, vs, rfl, h, rs⟩ := id r
  have sq : ∀ {H}, Same G H → SqL K H p vs := fun s => .inl (.inl (s _ _ h))
  exact ⟨p, rfl, ⟨vs, sq s⟩, for_rep rs Pv h0 (fun i σ H hi pv => sq (hl i σ H hi pv)) hs hd⟩
/-- over a list of ints, read off the heap (the script) -/
theorem loopI {a : Addr} {ns : List Int} (s : SqL K H a (ns.map V.int)) (Pv : Nat → St → Hp → Prop) (h0 : Pv 0 σ H) (hl : ∀ i σ H, i ≤ ns.length → Pv i σ H → SqL K H a (ns.map V.int))
    (hs : ∀ i n σ H, ns[i]? = some n → Pv i σ H → g (.int n) σ H fun σ2 H2 => tbd { D with nx := Pv (i + 1), ct := Pv (i + 1), bk := D.nx } σ2 H2) (hd : ∀ σ H, Pv ns.length σ H → D.nx σ H) :
    ∃ p, V.ref a = .ref p ∧ (∃ xs, SqL K H p xs) ∧ Loop (Itl K p) g tbd D σ H :=
  ⟨a, rfl, ⟨_, s⟩, for_list (K := K) (a := a) (xs := ns.map V.int) Pv h0 (fun i σ H hi pv => hl i σ H (by simpa using hi) pv) (fun i x σ H hi pv => by
    rw [List.getElem?_map] at hi
    cases e : ns[i]? with
    | none => rw [e] at hi; cases hi
    | some n =>
      rw [e] at hi
      cases hi
      exact hs i n σ H e pv) (fun σ H pv => hd σ H (by simpa using pv))⟩
/-- over a range -/
theorem loopR1 {n : Int} (b : n < 2 ^ 62) (b' : -(2 ^ 62) ≤ n) (Pv : Nat → St → Hp → Prop) (h0 : Pv 0 σ H)
    (hs : ∀ i σ H, i < n.toNat → Pv i σ H → g (.int i) σ H fun σ2 H2 => tbd { D with nx := Pv (i + 1), ct := Pv (i + 1), bk := D.nx } σ2 H2) (hd : ∀ σ H, Pv n.toNat σ H → D.nx σ H) :
    ∃ j : Int, [V.int n] = [.int j] ∧ -(2 ^ 62) ≤ j ∧ j < 2 ^ 62 ∧ Loop (Itr 0 j.toNat) g tbd D σ H :=
  ⟨n, rfl, b', b, for_range Pv h0 (fun i σ H hi pv => by
    rw [Int.zero_add]
    exact hs i σ H hi pv) hd⟩
theorem loopR2 {m n : Int} (b : -(2 ^ 62) ≤ m ∧ m < 2 ^ 62 ∧ -(2 ^ 62) ≤ n ∧ n < 2 ^ 62) (Pv : Nat → St → Hp → Prop) (h0 : Pv 0 σ H)
    (hs : ∀ i σ H, i < (n - m).toNat → Pv i σ H → g (.int (m + i)) σ H fun σ2 H2 => tbd { D with nx := Pv (i + 1), ct := Pv (i + 1), bk := D.nx } σ2 H2) (hd : ∀ σ H, Pv (n - m).toNat σ H → D.nx σ H) :
    ∃ i j : Int, [V.int m, V.int n] = [.int i, .int j] ∧ (-(2 ^ 62) ≤ i ∧ i < 2 ^ 62 ∧ -(2 ^ 62) ≤ j ∧ j < 2 ^ 62) ∧ Loop (Itr i (j - i).toNat) g tbd D σ H :=
  ⟨m, n, rfl, b, for_range Pv h0 hs hd⟩
/-- enumerate of a list that stands for xs: the turn's pair is unpacked -/
theorem loopE {A : Type} [Rp A] {G : Hp} {xs : List A} {n : Nat} (r : Rep G v xs) (s : Same G H) (hn : n = 2) (Pv : Nat → St → Hp → Prop) (h0 : Pv 0 σ H) (hl : ∀ i σ H, i ≤ xs.length → Pv i σ H → Same G H)
    (hs : ∀ i v x σ H H', xs[i]? = some x → Rep G v x → Pv i σ H → Same H H' → g1 (.int i) σ H' fun σ1 H1 => g2 v σ1 H1 fun σ2 H2 => tbd { D with nx := Pv (i + 1), ct := Pv (i + 1), bk := D.nx } σ2 H2) (hd : ∀ σ H, Pv xs.length σ H → D.nx σ H) :
    ∃ a xs, [v] = [V.ref a] ∧ SqL K H a xs ∧ Loop (Ite K a) (gTup K n (gCons g1 (gCons g2 gNil))) tbd D σ H := by
  obtain ⟨p, vs, rfl, h, rs⟩ := id r
  have sq : ∀ {H}, Same G H → SqL K H p vs := fun s => .inl (.inl (s _ _ h))
  refine ⟨p, vs, rfl, sq s, for_it (walk_enum (xs := vs)) Pv h0 (fun i σ H hi pv => sq (hl i σ H (by rw [← rs.len]; exact hi) pv)) (fun i x σ H H' hi pv y => ?_) (fun σ H pv => hd σ H (by rw [← rs.len]; exact pv))⟩
  obtain ⟨T, a, b, rfl, hT, rfl, ea, eb⟩ := y
  cases ea
  obtain ⟨z, hz, rz⟩ := rs.get' eb
  refine g_tgN hT hn ?_
  exact hs i b z σ H _ hz rz pv (same_upd hT)
/-- zip of two lists -/
theorem loopZ {A B : Type} [Rp A] [Rp B] {G : Hp} {xs : List A} {ys : List B} {n : Nat} (r : Rep G v xs) (r' : Rep G w ys) (s : Same G H) (hn : n = 2) (Pv : Nat → St → Hp → Prop) (h0 : Pv 0 σ H) (hl : ∀ i σ H, i ≤ min xs.length ys.length → Pv i σ H → Same G H)
    (hs : ∀ i a b x y σ H H', xs[i]? = some x → ys[i]? = some y → Rep G a x → Rep G b y → Pv i σ H → Same H H' → g1 a σ H' fun σ1 H1 => g2 b σ1 H1 fun σ2 H2 => tbd { D with nx := Pv (i + 1), ct := Pv (i + 1), bk := D.nx } σ2 H2)
    (hd : ∀ σ H, Pv (min xs.length ys.length) σ H → D.nx σ H) :
    ∃ a b xs ys, [v, w] = [V.ref a, V.ref b] ∧ SqL K H a xs ∧ SqL K H b ys ∧ Loop (Itz K a b) (gTup K n (gCons g1 (gCons g2 gNil))) tbd D σ H := by
  obtain ⟨p, vs, rfl, h, rs⟩ := id r
  obtain ⟨q, ws, rfl, h', rs'⟩ := id r'
  have sq : ∀ {H}, Same G H → SqL K H p vs := fun s => .inl (.inl (s _ _ h))
  have sq' : ∀ {H}, Same G H → SqL K H q ws := fun s => .inl (.inl (s _ _ h'))
  have e : min xs.length ys.length = min vs.length ws.length := by rw [rs.len, rs'.len]
  refine ⟨p, q, vs, ws, rfl, sq s, sq' s, for_it (walk_zip (xs := vs) (ys := ws) e) Pv h0 (fun i σ H hi pv => ⟨sq (hl i σ H hi pv), sq' (hl i σ H hi pv)⟩) (fun i x σ H H' hi pv y => ?_) hd⟩
  obtain ⟨T, a, b, rfl, hT, rfl, ea, eb⟩ := y
  obtain ⟨z, hz, rz⟩ := rs.get' ea
  obtain ⟨z', hz', rz'⟩ := rs'.get' eb
  refine g_tgN hT hn ?_
  exact hs i a b z z' σ H _ hz hz' rz rz' pv (same_upd hT)
/-- reversed of a list -/
theorem loopV {A : Type} [Rp A] {G : Hp} {xs : List A} (r : Rep G v xs) (s : Same G H) (Pv : Nat → St → Hp → Prop) (h0 : Pv 0 σ H) (hl : ∀ i σ H, i ≤ xs.length → Pv i σ H → Same G H)
    (hs : ∀ i v x σ H, i < xs.length → xs[xs.length - 1 - i]? = some x → Rep G v x → Pv i σ H → g v σ H fun σ2 H2 => tbd { D with nx := Pv (i + 1), ct := Pv (i + 1), bk := D.nx } σ2 H2) (hd : ∀ σ H, Pv xs.length σ H → D.nx σ H) :
    ∃ (a : Addr) (xs : List V), [v] = [V.ref a] ∧ SqL K H a xs ∧ Loop (Itv K a xs.length) g tbd D σ H := by
  obtain ⟨p, vs, rfl, h, rs⟩ := id r
  have sq : ∀ {H}, Same G H → SqL K H p vs := fun s => .inl (.inl (s _ _ h))
  refine ⟨p, vs, rfl, sq s, for_it (walk_rev (xs := vs)) Pv h0 (fun i σ H hi pv => sq (hl i σ H (by rw [← rs.len]; exact hi) pv)) (fun i x σ H H' hi pv y => ?_) (fun σ H pv => hd σ H (by rw [← rs.len]; exact pv))⟩
  obtain ⟨rfl, e⟩ := y
  obtain ⟨z, hz, rz⟩ := rs.get' e
  rw [rs.len] at hz hi
  exact hs i x z σ H' hi hz rz pv
end
theorem take_more {A : Type} {l : List A} {i : Nat} {x : A} (h : l[i]? = some x) : l.take (i + 1) = l.take i ++ [x] := by
  rw [List.take_add_one, h]
  rfl
theorem foldl_more {A B : Type} {l : List A} {i : Nat} {x : A} {f : B → A → B} {b : B} (h : l[i]? = some x) : (l.take (i + 1)).foldl f b = f ((l.take i).foldl f b) x := by
  rw [take_more h, List.foldl_append]
  rfl
end EB

namespace EB
open PySem L2

/-! ### resources by their cells -/
def emp : Hp := fun _ => none
theorem Join.left {h : Hp} : Join h emp h := fun a => by
  cases e : h a with
  | none => exact .inl ⟨rfl, rfl⟩
  | some o => exact .inr ⟨rfl, rfl⟩
theorem star_one {A : Res} {G h : Hp} (p : A.P G h) : Star [A] G h := ⟨h, emp, Join.left, p, fun _ => rfl⟩
theorem join_emp {h1 h2 h : Hp} (j : Join h1 h2 h) (e : ∀ a, h2 a = none) : h = h1 := by
  funext a
  rcases j a with ⟨e1, e2⟩ | ⟨_, e2⟩
  · rw [e1, e2, e a]
  · exact e2
theorem star_app : ∀ {L L' : List Res} {G h : Hp}, Star (L ++ L') G h ↔ ∃ h1 h2, Join h1 h2 h ∧ Star L G h1 ∧ Star L' G h2
  | [], L', G, h => by
    constructor
    · intro x
      exact ⟨emp, h, Join.left.comm, fun _ => rfl, x⟩
    · rintro ⟨h1, h2, j, e, x⟩
      have : h = h2 := join_emp j.comm e
      rw [this]
      exact x
  | A :: L, L', G, h => by
    constructor
    · rintro ⟨h1, h2, j, p, q⟩
      obtain ⟨h3, h4, k, x, y⟩ := star_app.mp q
      -- h = h1 + (h3 + h4)
      obtain ⟨ac, m, n⟩ := j.assoc k.comm
      -- h = h4 + ac, ac = h1 + h3
      exact ⟨ac, h4, m.comm, ⟨h1, h3, n, p, x⟩, y⟩
    · rintro ⟨h1, h2, j, ⟨h3, h4, k, p, q⟩, y⟩
      obtain ⟨ac, m, n⟩ := j.comm.assoc k
      exact ⟨h3, ac, m, p, star_app.mpr ⟨h4, h2, n.comm, q, y⟩⟩
def cell (p : Addr) (o : HO) : Res := ⟨fun _ h => h = upd emp p o, fun _ x => x⟩
def Res.ex {A : Type} (f : A → Res) : Res := ⟨fun G h => ∃ a, (f a).P G h, fun s ⟨a, x⟩ => ⟨a, (f a).up s x⟩⟩
def Res.if (c : Prop) (R : Res) : Res := ⟨fun G h => c ∧ R.P G h, fun s ⟨c, x⟩ => ⟨c, R.up s x⟩⟩
def Res.all (L : List Res) : Res := ⟨fun G h => Star L G h, fun s x => x.up s⟩
/-- a list of its own that stands for xs -/
def OwnL {A : Type} [Rp A] (p : Addr) (xs : List A) : Res := ⟨fun G h => ∃ vs, h = upd emp p (.lst vs) ∧ Reps G vs xs, fun s ⟨vs, e, r⟩ => ⟨vs, e, r.up s⟩⟩
section
variable {G H : Hp} {L : List Res} {A : Res} {p : Addr} {o o' : HO}
theorem Sep.imp {A B : Res} (s : Sep G H (A :: L)) (f : ∀ h, A.P G h → B.P G h) : Sep G H (B :: L) :=
  let ⟨h, ⟨h1, h2, j, p, q⟩, y, z⟩ := s.ex
  ⟨s.gh, h, ⟨h1, h2, j, f _ p, q⟩, y, z⟩
theorem Sep.exO {B : Type} {f : B → Res} (s : Sep G H (Res.ex f :: L)) : ∃ a, Sep G H (f a :: L) :=
  let ⟨h, ⟨h1, h2, j, ⟨a, p⟩, q⟩, y, z⟩ := s.ex
  ⟨a, s.gh, h, ⟨h1, h2, j, p, q⟩, y, z⟩
theorem Sep.exI {B : Type} {f : B → Res} (a : B) (s : Sep G H (f a :: L)) : Sep G H (Res.ex f :: L) := s.imp fun _ x => ⟨a, x⟩
theorem Sep.ifO {c : Prop} (s : Sep G H (Res.if c A :: L)) : c ∧ Sep G H (A :: L) :=
  let ⟨h, ⟨h1, h2, j, ⟨a, p⟩, q⟩, y, z⟩ := s.ex
  ⟨a, s.gh, h, ⟨h1, h2, j, p, q⟩, y, z⟩
theorem Sep.ifI {c : Prop} (hc : c) (s : Sep G H (A :: L)) : Sep G H (Res.if c A :: L) := s.imp fun _ x => ⟨hc, x⟩
theorem Sep.allO {M : List Res} (s : Sep G H (Res.all M :: L)) : Sep G H (M ++ L) :=
  let ⟨h, ⟨h1, h2, j, p, q⟩, y, z⟩ := s.ex
  ⟨s.gh, h, star_app.mpr ⟨h1, h2, j, p, q⟩, y, z⟩
theorem Sep.allI {M : List Res} (s : Sep G H (M ++ L)) : Sep G H (Res.all M :: L) :=
  let ⟨h, x, y, z⟩ := s.ex
  let ⟨h1, h2, j, p, q⟩ := star_app.mp x
  ⟨s.gh, h, ⟨h1, h2, j, p, q⟩, y, z⟩
theorem Sep.cellAt (s : Sep G H (cell p o :: L)) : H p = some o := by
  obtain ⟨h, e, y, _⟩ := s.get
  have e' : h = upd emp p o := e
  subst e'
  exact y p o upd_same
theorem Sep.cellG (s : Sep G H (cell p o :: L)) : G p = none := by
  obtain ⟨h, e, _, z⟩ := s.get
  have e' : h = upd emp p o := e
  subst e'
  exact z p (by rw [upd_same]; simp)
theorem Sep.cellSet (s : Sep G H (cell p o :: L)) : Sep G (upd H p o') (cell p o' :: L) := by
  refine s.chg (B := cell p o') fun h e y => ?_
  have e' : h = upd emp p o := e
  subst e'
  refine ⟨upd emp p o', rfl, fun a ha => ?_, fun a u e => ?_, fun a u e1 e2 => ?_⟩
  · by_cases z : a = p
    · subst z
      exact .inl (by rw [upd_same]; simp)
    · rw [upd_ne z] at ha
      exact absurd rfl ha
  · by_cases z : a = p
    · subst z
      rw [upd_same] at e ⊢
      exact e
    · rw [upd_ne z] at e
      cases e
  · have z : a ≠ p := fun z => by
      subst z
      rw [upd_same] at e1
      cases e1
    rw [upd_ne z]
    exact e2
theorem Sep.cellNew (s : Sep G H L) (hp : H p = none) : Sep G (upd H p o) (cell p o :: L) := s.own hp rfl
theorem Sep.cellNe {q : Addr} {u : HO} (s : Sep G H (cell p o :: cell q u :: L)) : p ≠ q := fun z => by
  subst z
  obtain ⟨h, ⟨h1, h2, j, e1, h3, h4, k, e2, _⟩, _, _⟩ := s.ex
  have e1' : h1 = upd emp p o := e1
  have e2' : h3 = upd emp p u := e2
  subst e1' e2'
  rcases j p with ⟨e, _⟩ | ⟨e, _⟩
  · rw [upd_same] at e; cases e
  · rcases k p with ⟨e', _⟩ | ⟨_, e'⟩
    · rw [upd_same] at e'; cases e'
    · rw [e', upd_same] at e; cases e
/-! lists of their own -/
section
variable {B : Type} [Rp B] {xs ys : List B} {x : B} {v : V} {vs : List V}
theorem Sep.ownO (s : Sep G H (OwnL p xs :: L)) : ∃ vs, Reps G vs xs ∧ Sep G H (cell p (.lst vs) :: L) :=
  let ⟨h, ⟨h1, h2, j, ⟨vs, e, r⟩, q⟩, y, z⟩ := s.ex
  ⟨vs, r, s.gh, h, ⟨h1, h2, j, e, q⟩, y, z⟩
theorem Sep.ownI (r : Reps G vs xs) (s : Sep G H (cell p (.lst vs) :: L)) : Sep G H (OwnL p xs :: L) := s.imp fun _ e => ⟨vs, e, r⟩
theorem Sep.ownNew (s : Sep G H L) (hp : H p = none) (r : Reps G vs xs) : Sep G (upd H p (.lst vs)) (OwnL p xs :: L) := (s.cellNew hp).ownI r
/-- it is read at the heap as it stands -/
theorem Sep.ownRep (s : Sep G H (OwnL p xs :: L)) : Rep H (.ref p) xs :=
  let ⟨vs, r, s'⟩ := s.ownO
  ⟨p, vs, rfl, s'.cellAt, r.up s.gh⟩
/-- it is written no more -/
theorem Sep.ownFrz (s : Sep G H (OwnL p xs :: L)) : ∃ G', Same G G' ∧ Sep G' H L ∧ Rep G' (.ref p) xs := by
  obtain ⟨G', a, b, h, ⟨vs, e, r⟩, d⟩ := s.frz
  subst e
  exact ⟨G', a, b, p, vs, rfl, d _ _ upd_same, r.up a⟩
end
/-- a new pair, a new list that are not written any more -/
theorem Sep.tupNew {B C : Type} [Rp B] [Rp C] {a b : V} {x : B} {y : C} (s : Sep G H L) (hp : H p = none) (ra : Rep G a x) (rb : Rep G b y) :
    ∃ G', Same G G' ∧ Sep G' (upd H p (.tup [a, b])) L ∧ Rep G' (.ref p) (x, y) :=
  let ⟨u, t⟩ := s.imm (o := .tup [a, b]) hp
  ⟨_, u, t, p, a, b, rfl, upd_same, ra.up u, rb.up u⟩
theorem Sep.lstNew {B : Type} [Rp B] {vs : List V} {xs : List B} (s : Sep G H L) (hp : H p = none) (r : Reps G vs xs) :
    ∃ G', Same G G' ∧ Sep G' (upd H p (.lst vs)) L ∧ Rep G' (.ref p) xs :=
  let ⟨u, t⟩ := s.imm (o := .lst vs) hp
  ⟨_, u, t, p, vs, rfl, upd_same, r.up u⟩
/-- a thing that is forgotten -/
theorem Sep.trash (s : Sep G H L) (hp : H p = none) : Sep G (upd H p o) L := s.keep (same_upd hp)
theorem Sep.drop (s : Sep G H (A :: L)) : Sep G H L := by
  obtain ⟨h, ⟨h1, h2, j, p, q⟩, y, z⟩ := s.ex
  have k2 : Same h2 h := fun a o e => by
    rcases j a with ⟨_, e2⟩ | ⟨e1, _⟩
    · rw [e2]
      exact e
    · rw [e1] at e
      cases e
  exact ⟨s.gh, h2, q, k2.trans y, fun a ha => z a (by
    cases e : h2 a with
    | none => exact absurd e ha
    | some o => rw [k2 a o e]; simp)⟩
end
end EB

namespace EB
open PySem L2

/-! ### readings of what stands for data -/
theorem small_le {n : Nat} (h : n ≤ 1000000) : n ≤ sizeLine := Nat.le_trans h (by decide)
theorem small_lt {n : Nat} (h : n < 1000000) : n < sizeLine := Nat.lt_of_lt_of_le h (by decide)
theorem Rep.sql {A : Type} [Rp A] {G H : Hp} {K : PySem.W.Frag} {p : Addr} {xs : List A} (r : Rep G (.ref p) xs) (s : Same G H) : ∃ vs, SqL K H p vs ∧ Reps G vs xs := by
  obtain ⟨q, vs, e, h, rs⟩ := r
  cases e
  exact ⟨vs, .inl (.inl (s _ _ h)), rs⟩
def rInsert : V → List V → Hp → VK → Prop := fun x vs H Q => ∃ (l : Addr) (xs : List V) (i : Int) (y : V), x = .ref l ∧ vs = [.int i, y] ∧ H l = some (.lst xs) ∧ xs.length < sizeLine ∧ 0 ≤ i ∧ i < 2 ^ 63 ∧ Q V.non (upd H l (.lst (xs.take i.toNat ++ [y] ++ xs.drop i.toNat)))
theorem mt_insertA {X : Cx} : MtR X "list.insert" rInsert := mt_insert
section
variable {σ : St} {G H : Hp} {Q : VK} {D : Ends} {ta tb te tl : TE} {i j : Nat} {v w x y : V} {tr : TA} {K : PySem.W.Frag} {L : List Res} {p : Addr}
variable {A : Type} [Rp A] {xs ys : List A} {a : A}
theorem g_lenL (r : Rep G v xs) (s : Same G H) (q : Q (.int (xs.length : Int)) H) : rLen K [v] H Q := by
  obtain ⟨p, vs, rfl, h, rs⟩ := r
  exact .inl ⟨vs, .inl (.inl (.inl (s _ _ h))), by rw [rs.len]; exact q⟩
theorem g_lenI {ns : List Int} (h : SqL K H p (ns.map V.int)) (q : Q (.int (ns.length : Int)) H) : rLen K [.ref p] H Q :=
  .inl ⟨_, .inl h, by rw [List.length_map]; exact q⟩
theorem g_lenS {z : Str} (h : z.length ≤ 1000000) (q : Q (.int (z.length : Int)) H) : rLen K [.str z] H Q := ⟨small_le h, q⟩
theorem at_pos {B : Type} {xs : List B} {i : Int} {b : B} (h0 : 0 ≤ i) (h : xs[i.toNat]? = some b) : atI xs i = some b := by
  have e : i = ((i.toNat : Nat) : Int) := (Int.toNat_of_nonneg h0).symm
  rw [e]
  exact atI_nat h
theorem g_ixL {k : Int} (r : Rep G v xs) (s : Same G H) (h0 : 0 ≤ k) (h1 : xs[k.toNat]? = some a) (q : ∀ w, Rep G w a → Q w H) : rIx K v (.int k) H Q := by
  obtain ⟨p, vs, rfl, h, rs⟩ := r
  obtain ⟨w, hw, rw'⟩ := rs.get h1
  exact .inl ⟨p, vs, k, w, rfl, rfl, .inl (.inl (s _ _ h)), at_pos h0 hw, q w rw'⟩
theorem g_ixLast {ys : List A} (r : Rep G v (ys ++ [a])) (s : Same G H) (q : ∀ w, Rep G w a → Q w H) : rIx K v (.int (-1)) H Q := by
  obtain ⟨p, vs, rfl, h, rs⟩ := r
  have hl := rs.len
  obtain ⟨w, hw, rw'⟩ := rs.get (i := ys.length) (b := a) (by simp)
  have e : vs = vs.dropLast ++ [w] := by
    have hne : vs ≠ [] := by
      intro z
      subst z
      simp at hl
    have hg : vs.getLast hne = w := by
      rw [List.getLast_eq_getElem]
      have h2 : vs.length - 1 = ys.length := by
        rw [hl]
        simp
      have h3 := (List.getElem?_eq_some_iff.mp hw).2
      simp only [h2]
      exact h3
    rw [← hg]
    exact (List.dropLast_concat_getLast hne).symm
  refine .inl ⟨p, vs, -1, w, rfl, rfl, .inl (.inl (s _ _ h)), ?_, q w rw'⟩
  rw [e]
  exact atI_last _ _
/-- an item of a tuple (a list) of values that were just laid -/
theorem g_ixT {vs : List V} {k : Int} (h : G p = some (.tup vs)) (s : Same G H) (h0 : 0 ≤ k) (h1 : vs[k.toNat]? = some w) (q : Q w H) : rIx K (.ref p) (.int k) H Q :=
  .inr (.inl ⟨p, vs, k, w, rfl, rfl, .inl (.inl (s _ _ h)), at_pos h0 h1, q⟩)
theorem pick {B : Type} {xs : List B} {k : Int} (h0 : 0 ≤ k) (h1 : k < xs.length) : ∃ b, xs[k.toNat]? = some b ∧ b ∈ xs := by
  have h : k.toNat < xs.length := by omega
  exact ⟨xs[k.toNat], by simp [h], List.getElem_mem h⟩
theorem g_ixTI {vs : List V} {ns : List Int} {k : Int} (h : G p = some (.tup vs)) (e : vs = ns.map V.int) (s : Same G H) (h0 : 0 ≤ k) (h1 : k < ns.length) (q : ∀ n, n ∈ ns → ns[k.toNat]? = some n → Q (.int n) H) : rIx K (.ref p) (.int k) H Q := by
  obtain ⟨b, hb, hm⟩ := pick h0 h1
  exact g_ixT h s h0 (by rw [e, List.getElem?_map, hb]; rfl) (q b hm hb)
theorem g_ixLI {vs : List V} {ns : List Int} {k : Int} (h : G p = some (.lst vs)) (e : vs = ns.map V.int) (s : Same G H) (h0 : 0 ≤ k) (h1 : k < ns.length) (q : ∀ n, n ∈ ns → ns[k.toNat]? = some n → Q (.int n) H) : rIx K (.ref p) (.int k) H Q := by
  obtain ⟨b, hb, hm⟩ := pick h0 h1
  exact .inl ⟨p, vs, k, .int b, rfl, rfl, .inl (.inl (s _ _ h)), at_pos h0 (by rw [e, List.getElem?_map, hb]; rfl), q b hm hb⟩
/-- a place of a pair -/
theorem g_ixP0 {B C : Type} [Rp B] [Rp C] {z : B × C} (r : Rep G v z) (s : Same G H) (q : ∀ w, Rep G w z.1 → Q w H) : rIx K v (.int 0) H Q := by
  obtain ⟨p, a, b, rfl, h, ra, rb⟩ := r
  exact g_ixT h s (by decide) rfl (q a ra)
theorem g_ixP1 {B C : Type} [Rp B] [Rp C] {z : B × C} (r : Rep G v z) (s : Same G H) (q : ∀ w, Rep G w z.2 → Q w H) : rIx K v (.int 1) H Q := by
  obtain ⟨p, a, b, rfl, h, ra, rb⟩ := r
  exact g_ixT h s (by decide) rfl (q b rb)
theorem Sep.raw {o : HO} (s : Sep G H L) (hp : H p = none) : ∃ G', Same G G' ∧ Sep G' (upd H p o) L ∧ G' p = some o :=
  let ⟨u, t⟩ := s.imm (o := o) hp
  ⟨_, u, t, upd_same⟩
/-! ### methods of lists -/
theorem g_bm {T : String} {r : V → List V → Hp → VK → Prop} (h : te σ H fun x H1 => tyV K T x H1 ∧ tr σ H1 fun xs H2 => r x xs H2 Q) : tBM K T r te tr σ H Q := h
theorem g_bm0 {T : String} {r : V → List V → Hp → VK → Prop} (h : te σ H fun x H1 => tyV K T x H1 ∧ r x [] H1 Q) : tBM0 K T r te σ H Q := h
theorem g_tyL {R : Prop} (r : Rep G v xs) (s : Same G H) (q : R) : tyV K "list" v H ∧ R := by
  obtain ⟨p, vs, rfl, h, rs⟩ := r
  exact ⟨.inl ⟨rfl, vs, .inl (.inl (s _ _ h))⟩, q⟩
theorem g_tyO {R : Prop} (s : Sep G H (OwnL p xs :: L)) (q : R) : tyV K "list" (.ref p) H ∧ R := g_tyL s.ownRep (Same.refl _) q
theorem g_append (s : Sep G H (OwnL p xs :: L)) (r : Rep G v a) (hl : xs.length < 1000000) (k : ∀ H', Sep G H' (OwnL p (xs ++ [a]) :: L) → Q .non H') : rAppend (.ref p) [v] H Q := by
  obtain ⟨vs, rs, s⟩ := s.ownO
  exact ⟨p, vs, v, rfl, rfl, s.cellAt, by rw [rs.len]; exact small_lt hl, k _ (s.cellSet.ownI (rs.app (.one r)))⟩
theorem g_popAt {k : Int} (s : Sep G H (OwnL p xs :: L)) (h0 : 0 ≤ k) (hk : k < 1000000) (h1 : xs[k.toNat]? = some a) (q : ∀ w H', Rep G w a → Sep G H' (OwnL p (xs.eraseIdx k.toNat) :: L) → Q w H') : rPopAt (.ref p) [.int k] H Q := by
  obtain ⟨vs, rs, s⟩ := s.ownO
  obtain ⟨w, hw, rw'⟩ := rs.get h1
  have hlt := (List.getElem?_eq_some_iff.mp hw).1
  refine ⟨p, vs, k, k.toNat, w, rfl, rfl, s.cellAt, by omega, by omega, ?_, hw, q w _ rw' (s.cellSet.ownI (rs.erase _))⟩
  have e : k = ((k.toNat : Nat) : Int) := (Int.toNat_of_nonneg h0).symm
  have := (ixN_seq (n := vs.length) (i := k) (j := k.toNat) (by unfold ixN; rw [if_pos h0, if_pos (by omega)])).1
  exact this
theorem g_popEnd {ys : List A} (s : Sep G H (OwnL p (ys ++ [a]) :: L)) (q : ∀ w H', Rep G w a → Sep G H' (OwnL p ys :: L) → Q w H') : rPop (.ref p) [] H Q := by
  obtain ⟨vs, rs, s⟩ := s.ownO
  have hl := rs.len
  obtain ⟨w, hw, rw'⟩ := rs.get (i := ys.length) (b := a) (by simp)
  have e : vs.length - 1 = ys.length := by
    rw [hl]
    simp
  refine ⟨p, vs, w, rfl, rfl, s.cellAt, by rw [e]; exact hw, q w _ rw' (s.cellSet.ownI ?_)⟩
  have := rs.dropLast
  rw [List.dropLast_concat] at this
  exact this
theorem g_insert {k : Int} (s : Sep G H (OwnL p xs :: L)) (r : Rep G v a) (h0 : 0 ≤ k) (hk : k < 1000000) (hl : xs.length < 1000000) (q : ∀ H', Sep G H' (OwnL p (xs.take k.toNat ++ [a] ++ xs.drop k.toNat) :: L) → Q .non H') :
    rInsert (.ref p) [.int k, v] H Q := by
  obtain ⟨vs, rs, s⟩ := s.ownO
  exact ⟨p, vs, k, v, rfl, rfl, s.cellAt, by rw [rs.len]; exact small_lt hl, h0, by omega, q _ (s.cellSet.ownI (((rs.take _).app (.one r)).app (rs.drop _)))⟩
theorem g_reverse (s : Sep G H (OwnL p xs :: L)) (q : ∀ H', Sep G H' (OwnL p xs.reverse :: L) → Q .non H') : rReverse (.ref p) [] H Q := by
  obtain ⟨vs, rs, s⟩ := s.ownO
  exact ⟨p, vs, rfl, rfl, s.cellAt, q _ (s.cellSet.ownI rs.rev)⟩
theorem g_clear (s : Sep G H (OwnL p xs :: L)) (q : ∀ H', Sep G H' (OwnL p ([] : List A) :: L) → Q .non H') : rClear (.ref p) [] H Q := by
  obtain ⟨vs, rs, s⟩ := s.ownO
  exact ⟨p, vs, rfl, rfl, s.cellAt, q _ (s.cellSet.ownI (vs := []) (xs := ([] : List A)) trivial)⟩
theorem g_extend (s : Sep G H (OwnL p xs :: L)) (r : Rep G v ys) (hl : xs.length + ys.length ≤ 1000000) (q : ∀ H', Sep G H' (OwnL p (xs ++ ys) :: L) → Q .non H') : rExtend (.ref p) [v] H Q := by
  obtain ⟨b, ws, rfl, h, rs'⟩ := r
  obtain ⟨vs, rs, s⟩ := s.ownO
  exact ⟨p, b, vs, ws, rfl, rfl, s.cellAt, s.gh _ _ h, by rw [rs.len, rs'.len]; exact small_le hl, q _ (s.cellSet.ownI (rs.app rs'))⟩
/-- xs[k] = e -/
theorem g_setL {k : Int} {P : Hp → Prop} (s : Sep G H (OwnL p xs :: L)) (r : Rep G v a) (h0 : 0 ≤ k) (h1 : k < xs.length) (q : ∀ H', Sep G H' (OwnL p (xs.set k.toNat a) :: L) → P H') : rSetL (.ref p) (.int k) v H P := by
  obtain ⟨vs, rs, s⟩ := s.ownO
  have hl := rs.len
  exact ⟨p, vs, k, k.toNat, rfl, rfl, s.cellAt, by unfold ixN; rw [if_pos h0, if_pos (by omega)], q _ (s.cellSet.ownI (rs.set _ r))⟩
/-! ### new lists out of lists -/
theorem g_list (s : Sep G H L) (r : Rep G v xs) (q : ∀ p H', Sep G H' (OwnL p xs :: L) → Q (.ref p) H') : rLst K [v] H Q := by
  obtain ⟨b, vs, rfl, h, rs⟩ := r
  exact ⟨vs, .inl (.inl (.inl (s.gh _ _ h))), fun l hl => q l _ (s.ownNew hl rs)⟩
theorem g_cat (s : Sep G H L) (r : Rep G v xs) (r' : Rep G w ys) (hl : xs.length + ys.length ≤ 1000000) (q : ∀ p H', Sep G H' (OwnL p (xs ++ ys) :: L) → Q (.ref p) H') : rAdd v w H Q := by
  obtain ⟨b, vs, rfl, h, rs⟩ := r
  obtain ⟨c, ws, rfl, h', rs'⟩ := r'
  exact ⟨vs, ws, s.gh _ _ h, s.gh _ _ h', by rw [rs.len, rs'.len]; exact small_le hl, fun l hl => q l _ (s.ownNew hl (rs.app rs'))⟩
end
end EB

namespace EB
open PySem L2

/-! ### list comprehensions -/
/-- what a comprehension asks of an iterator -/
def LcLoop (J : It) (g : TG) (tt : TT) (te : TE) (σ : St) (vs : List Nat) (Q : VK) (H1 : Hp) : Prop := ∀ D, H1 D = none → ∃ W : Nat → Nat → Hp → Prop, (∃ m, W 0 m (upd H1 D (.lst []))) ∧ ∀ i m H, W i m H →
  (J.stop i H ∧ Q (.ref D) H) ∨ (J.go i H ∧ ∃ Nx : Hp → Prop, (∀ H', Nx H' → ∃ m', m' < m ∧ W (i + 1) m' H') ∧ ∀ x H', J.yld i H x H' → g x (wipe σ vs) H' fun σ2 H2 => wipe σ2 vs = wipe σ vs ∧ tt σ2 H2 fun b H3 =>
    if b = true then te σ2 H3 fun y H4 => ∃ acc, H4 D = some (.lst acc) ∧ acc.length < sizeLine ∧ Nx (upd H4 D (.lst (acc ++ [y]))) else Nx H3)
section
variable {σ : St} {G H : Hp} {Q : VK} {ta tb te tl : TE} {tt : TT} {v w x y : V} {tr : TA} {K : PySem.W.Frag} {L : List Res} {g g1 g2 : TG} {vs : List Nat}
theorem g_lc {wi : TI} (h : wi σ H fun J H1 => LcLoop J g tt te σ vs Q H1) : tLc wi g tt te vs σ H Q := h
theorem g_yes {P : Bool → Hp → Prop} (h : P true H) : tYes σ H P := h
theorem g_wipe {P : Prop} {s s' : St} (e : s = s') (h : P) : s = s' ∧ P := ⟨e, h⟩
/-- what a turn of a comprehension is to leave: the list so far (one item longer, or as it was) and what else there is -/
def Nxt {B : Type} [Rp B] (G : Hp) (D : Addr) (I : List B → List Res → Prop) : Hp → Prop := fun H' => ∃ acc G' Lc, I acc Lc ∧ Same G G' ∧ Sep G' H' (OwnL D acc :: Lc)
def Put {B : Type} [Rp B] (G : Hp) (D : Addr) (I : List B → List Res → Prop) : VK := fun y H4 => ∃ acc, H4 D = some (.lst acc) ∧ acc.length < sizeLine ∧ Nxt G D I (upd H4 D (.lst (acc ++ [y])))
variable {B : Type} [Rp B]
theorem put_of {I : List B → List Res → Prop} {G4 H4 : Hp} {D : Addr} {acc : List B} {Lc : List Res} {z : B} (u : Same G G4) (t : Sep G4 H4 (OwnL D acc :: Lc)) (hl : acc.length < 1000000) (r : Rep G4 y z) (h : I (acc ++ [z]) Lc) : Put G D I y H4 := by
  obtain ⟨ws, rs, t⟩ := t.ownO
  exact ⟨ws, t.cellAt, by rw [rs.len]; exact small_lt hl, acc ++ [z], G4, Lc, h, u, t.cellSet.ownI (rs.app (.one r))⟩
theorem skip_of {I : List B → List Res → Prop} {G4 H4 : Hp} {D : Addr} {acc : List B} {Lc : List Res} (u : Same G G4) (t : Sep G4 H4 (OwnL D acc :: Lc)) (h : I acc Lc) : Nxt G D I H4 := ⟨acc, G4, Lc, h, u, t⟩
/-- the core: over any walk that stands while the part G stands -/
theorem lcW {J : It} {n : Nat} {GP : Hp → Prop} {Y : Nat → Hp → V → Hp → Prop} (wk : Walk J n GP Y) (s : Sep G H L) (hGP : ∀ G' H', Same G G' → Same G' H' → GP H')
    (I : Nat → List B → List Res → Prop) (h0 : I 0 [] L)
    (hs : ∀ i v D acc G' H' H2 Lc, i < n → I i acc Lc → Same G G' → Sep G' H' (OwnL D acc :: Lc) → Y i H' v H2 →
      g v (wipe σ vs) H2 fun σ2 H3 => wipe σ2 vs = wipe σ vs ∧ tt σ2 H3 fun b H4 => if b = true then te σ2 H4 (Put G D (I (i + 1))) else Nxt G D (I (i + 1)) H4)
    (hd : ∀ D acc G' H' Lc, I n acc Lc → Same G G' → Sep G' H' (OwnL D acc :: Lc) → Q (.ref D) H') : LcLoop J g tt te σ vs Q H := by
  intro D hD
  refine lc_it wk (fun i H' => Nxt G D (I i) H') ⟨[], G, L, h0, Same.refl _, s.ownNew (vs := []) (xs := ([] : List B)) hD trivial⟩ (fun i H' _ ⟨_, G', _, _, u, t⟩ => hGP G' H' u t.gh) ?_ ?_
  · rintro i v H' H2 hi ⟨acc, G', Lc, pI, u, t⟩ hy
    exact hs i v D acc G' H' H2 Lc hi pI u t hy
  · rintro H' ⟨acc, G', Lc, pI, u, t⟩
    exact hd D acc G' H' Lc pI u t
/-- over a list -/
theorem lcL {A : Type} [Rp A] {xs : List A} (r : Rep G v xs) (s : Sep G H L) (I : Nat → List B → List Res → Prop) (h0 : I 0 [] L)
    (hs : ∀ i v x D acc G' H' Lc, xs[i]? = some x → Rep G' v x → I i acc Lc → Same G G' → Sep G' H' (OwnL D acc :: Lc) →
      g v (wipe σ vs) H' fun σ2 H3 => wipe σ2 vs = wipe σ vs ∧ tt σ2 H3 fun b H4 => if b = true then te σ2 H4 (Put G D (I (i + 1))) else Nxt G D (I (i + 1)) H4)
    (hd : ∀ D acc G' H' Lc, I xs.length acc Lc → Same G G' → Sep G' H' (OwnL D acc :: Lc) → Q (.ref D) H') :
    ∃ a, v = .ref a ∧ (∃ xs, SqL K H a xs) ∧ LcLoop (Itl K a) g tt te σ vs Q H := by
  obtain ⟨p, ws, rfl, h, rs⟩ := id r
  have sq : ∀ {H'}, Same G H' → SqL K H' p ws := fun s => .inl (.inl (s _ _ h))
  refine ⟨p, rfl, ⟨ws, sq s.gh⟩, lcW (walk_list (xs := ws)) s (fun G' H' u t => sq (u.trans t)) I h0 (fun i v D acc G' H' H2 Lc hi pI u t hy => ?_) (fun D acc G' H' Lc pI => hd D acc G' H' Lc (by rw [← rs.len]; exact pI))⟩
  obtain ⟨rfl, e⟩ := hy
  obtain ⟨x, hx, rx⟩ := rs.get' e
  exact hs i v x D acc G' H2 Lc hx (rx.up u) pI u t
/-- over a range -/
theorem lcR1 {n : Int} (b : n < 2 ^ 62) (b' : -(2 ^ 62) ≤ n) (s : Sep G H L) (I : Nat → List B → List Res → Prop) (h0 : I 0 [] L)
    (hs : ∀ i D acc G' H' Lc, i < n.toNat → I i acc Lc → Same G G' → Sep G' H' (OwnL D acc :: Lc) →
      g (.int i) (wipe σ vs) H' fun σ2 H3 => wipe σ2 vs = wipe σ vs ∧ tt σ2 H3 fun b H4 => if b = true then te σ2 H4 (Put G D (I (i + 1))) else Nxt G D (I (i + 1)) H4)
    (hd : ∀ D acc G' H' Lc, I n.toNat acc Lc → Same G G' → Sep G' H' (OwnL D acc :: Lc) → Q (.ref D) H') :
    ∃ j : Int, [V.int n] = [.int j] ∧ -(2 ^ 62) ≤ j ∧ j < 2 ^ 62 ∧ LcLoop (Itr 0 j.toNat) g tt te σ vs Q H := by
  refine ⟨n, rfl, b', b, lcW walk_range s (fun _ _ _ _ => trivial) I h0 (fun i v D acc G' H' H2 Lc hi pI u t hy => ?_) hd⟩
  obtain ⟨rfl, rfl⟩ := hy
  show g (.int (0 + (i : Int))) _ _ _
  rw [Int.zero_add]
  exact hs i D acc G' H2 Lc hi pI u t
/-- over enumerate of a list -/
theorem lcE {A : Type} [Rp A] {xs : List A} {n : Nat} (r : Rep G v xs) (s : Sep G H L) (hn : n = 2) (I : Nat → List B → List Res → Prop) (h0 : I 0 [] L)
    (hs : ∀ i v x D acc G' H' Lc, xs[i]? = some x → Rep G' v x → I i acc Lc → Same G G' → Sep G' H' (OwnL D acc :: Lc) →
      g1 (.int i) (wipe σ vs) H' fun σ1 H1 => g2 v σ1 H1 fun σ2 H3 => wipe σ2 vs = wipe σ vs ∧ tt σ2 H3 fun b H4 => if b = true then te σ2 H4 (Put G D (I (i + 1))) else Nxt G D (I (i + 1)) H4)
    (hd : ∀ D acc G' H' Lc, I xs.length acc Lc → Same G G' → Sep G' H' (OwnL D acc :: Lc) → Q (.ref D) H') :
    ∃ a xs, [v] = [V.ref a] ∧ SqL K H a xs ∧ LcLoop (Ite K a) (gTup K n (gCons g1 (gCons g2 gNil))) tt te σ vs Q H := by
  obtain ⟨p, ws, rfl, h, rs⟩ := id r
  have sq : ∀ {H'}, Same G H' → SqL K H' p ws := fun s => .inl (.inl (s _ _ h))
  refine ⟨p, ws, rfl, sq s.gh, lcW (walk_enum (xs := ws)) s (fun G' H' u t => sq (u.trans t)) I h0 (fun i v D acc G' H' H2 Lc hi pI u t hy => ?_) (fun D acc G' H' Lc pI => hd D acc G' H' Lc (by rw [← rs.len]; exact pI))⟩
  obtain ⟨T, a, b, rfl, hT, rfl, ea, eb⟩ := hy
  cases ea
  obtain ⟨z, hz, rz⟩ := rs.get' eb
  exact g_tgN hT hn (hs i b z D acc G' _ Lc hz (rz.up u) pI u (t.trash hT))
/-- over zip of two lists -/
theorem lcZ {A C : Type} [Rp A] [Rp C] {xs : List A} {ys : List C} {n : Nat} (r : Rep G v xs) (r' : Rep G w ys) (s : Sep G H L) (hn : n = 2) (I : Nat → List B → List Res → Prop) (h0 : I 0 [] L)
    (hs : ∀ i a b x y D acc G' H' Lc, xs[i]? = some x → ys[i]? = some y → Rep G' a x → Rep G' b y → I i acc Lc → Same G G' → Sep G' H' (OwnL D acc :: Lc) →
      g1 a (wipe σ vs) H' fun σ1 H1 => g2 b σ1 H1 fun σ2 H3 => wipe σ2 vs = wipe σ vs ∧ tt σ2 H3 fun b H4 => if b = true then te σ2 H4 (Put G D (I (i + 1))) else Nxt G D (I (i + 1)) H4)
    (hd : ∀ D acc G' H' Lc, I (min xs.length ys.length) acc Lc → Same G G' → Sep G' H' (OwnL D acc :: Lc) → Q (.ref D) H') :
    ∃ a b xs ys, [v, w] = [V.ref a, V.ref b] ∧ SqL K H a xs ∧ SqL K H b ys ∧ LcLoop (Itz K a b) (gTup K n (gCons g1 (gCons g2 gNil))) tt te σ vs Q H := by
  obtain ⟨p, us, rfl, h, rs⟩ := id r
  obtain ⟨q, ws, rfl, h', rs'⟩ := id r'
  have sq : ∀ {H'}, Same G H' → SqL K H' p us := fun s => .inl (.inl (s _ _ h))
  have sq' : ∀ {H'}, Same G H' → SqL K H' q ws := fun s => .inl (.inl (s _ _ h'))
  have e : min xs.length ys.length = min us.length ws.length := by rw [rs.len, rs'.len]
  refine ⟨p, q, us, ws, rfl, sq s.gh, sq' s.gh, lcW (walk_zip (xs := us) (ys := ws) e) s (fun G' H' u t => ⟨sq (u.trans t), sq' (u.trans t)⟩) I h0 (fun i v D acc G' H' H2 Lc hi pI u t hy => ?_) hd⟩
  obtain ⟨T, a, b, rfl, hT, rfl, ea, eb⟩ := hy
  obtain ⟨z, hz, rz⟩ := rs.get' ea
  obtain ⟨z', hz', rz'⟩ := rs'.get' eb
  exact g_tgN hT hn (hs i a b z z' D acc G' _ Lc hz hz' (rz.up u) (rz'.up u) pI u (t.trash hT))
end
end EB

namespace EB
open PySem L2

/-! ### == of data -/
class Dt (A : Type) extends Rp A where
  d : A → PyData
  dp : ∀ {K : PySem.W.Frag} {G H : Hp} {v : V} {x : A}, Same G H → Rep G v x → Dp K H v (d x)
  eqv : ∀ x y : A, PyData.eqv (d x) (d y) = true ↔ x = y
  dep : Nat
  depth : ∀ x : A, (d x).depth ≤ dep
  lay : ∀ x : A, (d x).canLay0 = true
class NN (A : Type) [Dt A] : Prop where
  nn : ∀ x : A, Dt.d x ≠ .none
instance : Dt Int := { d := .int, dp := fun _ h => by have h : _ = V.int _ := h; subst h; exact .int _, eqv := fun x y => by simp [PyData.eqv], dep := 0, depth := fun _ => by simp [PyData.depth], lay := fun _ => by simp [PyData.canLay0] }
instance : Dt Bool := { d := .bool, dp := fun _ h => by have h : _ = V.bl _ := h; subst h; exact .bl _, eqv := fun x y => by simp [PyData.eqv], dep := 0, depth := fun _ => by simp [PyData.depth], lay := fun _ => by simp [PyData.canLay0] }
instance : Dt Unit := { d := fun _ => .none, dp := fun _ h => by have h : _ = V.non := h; subst h; exact .non, eqv := fun x y => by simp [PyData.eqv], dep := 0, depth := fun _ => by simp [PyData.depth], lay := fun _ => by simp [PyData.canLay0] }
instance : NN Int := ⟨fun x h => by have h : PyData.int x = .none := h; cases h⟩
instance : NN Bool := ⟨fun x h => by have h : PyData.bool x = .none := h; cases h⟩
theorem eqvN (d : PyData) (h : d ≠ .none) : PyData.eqv .none d = false ∧ PyData.eqv d .none = false := by
  cases d <;> first
    | exact absurd rfl h
    | simp [PyData.eqv]
def optD {A : Type} [Dt A] : Option A → PyData
  | none => .none
  | some a => Dt.d a
instance {A : Type} [Dt A] [NN A] : Dt (Option A) where
  d := optD
  dp := fun {K G H v x} s h => match x, h with
    | none, h => by have h : v = V.non := h; subst h; exact .non
    | some a, h => Dt.dp (x := a) s h
  eqv := fun x y => by
    cases x with
    | none => cases y with
      | none => simp [optD, PyData.eqv]
      | some b => simp [optD, (eqvN _ (NN.nn b)).1]
    | some a => cases y with
      | none => simp [optD, (eqvN _ (NN.nn a)).2]
      | some b => simp [optD, Dt.eqv a b]
  dep := Dt.dep A
  depth := fun x => by
    cases x with
    | none => simp [optD, PyData.depth]
    | some a => exact Dt.depth a
  lay := fun x => by
    cases x with
    | none => simp [optD, PyData.canLay0]
    | some a => exact Dt.lay a
instance {A B : Type} [Dt A] [Dt B] : Dt (A × B) where
  d := fun x => .tuple [Dt.d x.1, Dt.d x.2]
  dp := fun {K G H v x} s h => by
    obtain ⟨p, a, b, rfl, h, ra, rb⟩ := h
    exact .tup (.inl (.inl (s _ _ h))) (.cons (Dt.dp s ra) (.cons (Dt.dp s rb) .nil))
  eqv := fun x y => by
    obtain ⟨a, b⟩ := x
    obtain ⟨c, d⟩ := y
    simp only [PyData.eqv, PyData.eqvAll, Bool.and_true, Bool.and_eq_true, Dt.eqv, Prod.mk.injEq]
  dep := max (Dt.dep A) (Dt.dep B) + 1
  depth := fun x => by
    have h1 := Dt.depth x.1
    have h2 := Dt.depth x.2
    simp only [PyData.depth, PyData.depthAll]
    omega
  lay := fun x => by simp [PyData.canLay0, PyData.canLayAll0, Dt.lay]
instance {A B : Type} [Dt A] [Dt B] : NN (A × B) := ⟨fun x h => by have h : PyData.tuple _ = .none := h; cases h⟩
theorem dpAll {A : Type} [Dt A] {K : PySem.W.Frag} {G H : Hp} (s : Same G H) : ∀ {vs : List V} {xs : List A}, Reps G vs xs → DpAll K H vs (xs.map Dt.d)
  | [], [], _ => .nil
  | _ :: _, _ :: _, ⟨r, h⟩ => .cons (Dt.dp s r) (dpAll s h)
theorem eqvAll_map {A : Type} [Dt A] : ∀ xs ys : List A, PyData.eqvAll (xs.map Dt.d) (ys.map Dt.d) = true ↔ xs = ys
  | [], [] => by simp [PyData.eqvAll]
  | [], _ :: _ => by simp [PyData.eqvAll]
  | _ :: _, [] => by simp [PyData.eqvAll]
  | x :: xs, y :: ys => by
    simp only [List.map_cons, PyData.eqvAll, Bool.and_eq_true, Dt.eqv, eqvAll_map xs ys, List.cons.injEq]
theorem depthAll_map {A : Type} [Dt A] : ∀ xs : List A, PyData.depthAll (xs.map Dt.d) ≤ Dt.dep A
  | [] => by simp [PyData.depthAll]
  | x :: xs => by
    simp only [List.map_cons, PyData.depthAll]
    have h1 := Dt.depth x
    have h2 := depthAll_map xs
    omega
theorem layAll_map {A : Type} [Dt A] : ∀ xs : List A, PyData.canLayAll0 (xs.map Dt.d) = true
  | [] => by simp [PyData.canLayAll0]
  | x :: xs => by simp [PyData.canLayAll0, Dt.lay, layAll_map xs]
instance {A : Type} [Dt A] : Dt (List A) where
  d := fun x => .list (x.map Dt.d)
  dp := fun {K G H v x} s h => by
    obtain ⟨p, vs, rfl, h, rs⟩ := h
    exact .lst (.inl (.inl (s _ _ h))) (dpAll s rs)
  eqv := fun x y => by simp only [PyData.eqv, eqvAll_map]
  dep := Dt.dep A + 1
  depth := fun x => by
    have h1 := depthAll_map x
    simp only [PyData.depth]
    omega
  lay := fun x => by simp [PyData.canLay0, layAll_map]
instance {A : Type} [Dt A] : NN (List A) := ⟨fun x h => by have h : PyData.list _ = .none := h; cases h⟩
theorem shaped_of {A : Type} [Dt A] (x : A) (h : Dt.dep A ≤ 64 := by decide) : SeqAt.shaped (Dt.d x) = true := by
  unfold SeqAt.shaped
  have := Dt.depth x
  simp [Dt.lay, Nat.le_trans this h]
section
variable {H G G' : Hp} {Q : VK} {v w : V} {K : PySem.W.Frag} {A : Type} [Dt A] [DecidableEq A] {x y : A}
theorem dec_eqv (x y : A) : PyData.eqv (Dt.d x) (Dt.d y) = decide (x = y) := by
  rw [Bool.eq_iff_iff, Dt.eqv, decide_eq_true_iff]
theorem g_eqT (r : Rep G v x) (r' : Rep G' w y) (s : Same G H) (s' : Same G' H) (q : Q (.bl (decide (x = y))) H) (h : Dt.dep A ≤ 64 := by decide) : rEqA K v w H Q :=
  .inr ⟨_, _, Dt.dp s r, Dt.dp s' r', shaped_of x h, shaped_of y h, by rw [dec_eqv]; exact q⟩
theorem g_neT (r : Rep G v x) (r' : Rep G' w y) (s : Same G H) (s' : Same G' H) (q : Q (.bl (decide (x ≠ y))) H) (h : Dt.dep A ≤ 64 := by decide) : rNeA K v w H Q :=
  .inr ⟨_, _, Dt.dp s r, Dt.dp s' r', shaped_of x h, shaped_of y h, by
    rw [dec_eqv]
    have e : (!decide (x = y)) = decide (x ≠ y) := by simp
    rw [e]
    exact q⟩
end
/-! ### in -/
section
variable {H G : Hp} {Q : VK} {v : V} {K : PySem.W.Frag}
theorem inV_ints (n : Int) : ∀ ns : List Int, inV (.int n) (ns.map V.int) = decide (n ∈ ns)
  | [] => by simp [inV]
  | m :: ns => by
    have ih := inV_ints n ns
    unfold inV at ih ⊢
    rw [List.map_cons, List.any_cons, ih]
    have e : eqV (.int m) (.int n) = decide (m = n) := by simp only [eqV]; rw [Bool.eq_iff_iff]; simp
    rw [e, ← Bool.decide_or]
    apply decide_eq_decide.mpr
    rw [List.mem_cons]
    constructor
    · rintro (h | h)
      · exact .inl h.symm
      · exact .inr h
    · rintro (h | h)
      · exact .inl h.symm
      · exact .inr h
theorem flat_ints (ns : List Int) : (ns.map V.int).all flatV = true := by simp [flatV]
theorem g_inI {n : Int} {ns : List Int} (r : Rep G v ns) (s : Same G H) (q : Q (.bl (decide (n ∈ ns))) H) : rInA K (.int n) v H Q := by
  obtain ⟨p, vs, rfl, h, rs⟩ := r
  obtain rfl := Reps.ints rs
  exact .inl ⟨p, _, rfl, .inl (.inl (.inl (s _ _ h))), rfl, flat_ints ns, by rw [if_neg Bool.false_ne_true, inV_ints]; exact q⟩
theorem g_niI {n : Int} {ns : List Int} (r : Rep G v ns) (s : Same G H) (q : Q (.bl (decide (n ∉ ns))) H) : rNiA K (.int n) v H Q := by
  obtain ⟨p, vs, rfl, h, rs⟩ := r
  obtain rfl := Reps.ints rs
  refine .inl ⟨p, _, rfl, .inl (.inl (.inl (s _ _ h))), rfl, flat_ints ns, ?_⟩
  rw [if_pos rfl, inV_ints]
  have e : (!decide (n ∈ ns)) = decide (n ∉ ns) := by simp
  rw [e]
  exact q
end
end EB
namespace EB
open PySem L2
section
variable {σ : St} {H : Hp} {Q : VK} {D : Ends} {td ty tv : TE} {p : Addr} {kvs : List (Key × V)} {k : Key} {v : V}
/-! ### dicts -/
theorem g_dget (h : td σ H fun x H1 => ty σ H1 fun y H2 => ∃ a v, x = .ref a ∧ DGet H2 a y (some v) ∧ Q v H2) : tDGet td ty σ H Q := h
theorem g_din (h : ty σ H fun y H1 => td σ H1 fun x H2 => ∃ a o, x = .ref a ∧ DGet H2 a y o ∧ Q (.bl o.isSome) H2) : tDIn ty td σ H Q := h
theorem g_dni (h : ty σ H fun y H1 => td σ H1 fun x H2 => ∃ a o, x = .ref a ∧ DGet H2 a y o ∧ Q (.bl (!o.isSome)) H2) : tDNotIn ty td σ H Q := h
theorem g_dput (h : tv σ H fun v H1 => td σ H1 fun x H2 => ty σ H2 fun y H3 => ∃ a H4, x = .ref a ∧ DPut H3 a y v H4 ∧ D.nx σ H4) : sDPut td ty tv D σ H := h
theorem g_daug {rd : V → V → Hp → VK → Prop} (h : td σ H fun x H1 => ty σ H1 fun y H2 => ∃ a v, x = .ref a ∧ DGet H2 a y (some v) ∧ tv σ H2 fun y2 H3 => rd v y2 H3 fun z H4 => ∃ H5, DPut H4 a y z H5 ∧ D.nx σ H5) : sDAug td ty tv rd D σ H := h
theorem g_ddel (h : td σ H fun x H1 => ty σ H1 fun y H2 => ∃ a kvs k, x = .ref a ∧ H2 a = some (.dK kvs) ∧ y = kV k ∧ (valV kvs k).isSome = true ∧ D.nx σ (upd H2 a (.dK (dropK kvs k)))) : sDDel td ty D σ H := h
theorem d_get {P : Addr → V → Prop} (h : H p = some (.dK kvs)) (e : valV kvs k = some v) (q : P p v) : ∃ a v, V.ref p = .ref a ∧ DGet H a (kV k) (some v) ∧ P a v := ⟨p, v, rfl, e ▸ DGet.k h, q⟩
theorem d_put {P : Hp → Prop} (h : H p = some (.dK kvs)) (hl : kvs.length < 1000000) (q : P (upd H p (.dK (putK kvs k v)))) : ∃ a H4, V.ref p = .ref a ∧ DPut H a (kV k) v H4 ∧ P H4 := ⟨p, _, rfl, DPut.k h (Nat.lt_of_lt_of_le hl (by decide)), q⟩
theorem d_put' {P : Hp → Prop} (h : H p = some (.dK kvs)) (hl : kvs.length < 1000000) (q : P (upd H p (.dK (putK kvs k v)))) : ∃ H5, DPut H p (kV k) v H5 ∧ P H5 := ⟨_, DPut.k h (Nat.lt_of_lt_of_le hl (by decide)), q⟩
theorem g_rAddL {a b : Int} (h : Q (.int (a + b)) H) : L2.rAdd (.int a) (.int b) H Q := ⟨a, b, rfl, rfl, h⟩
theorem g_rGt {a b : Int} (h : Q (.bl (decide (b < a))) H) : L2.rGt (.int a) (.int b) H Q := ⟨a, b, rfl, rfl, h⟩
end
end EB
namespace EB
open PySem L2
/-- the ways of a statement meet behind it -/
theorem g_cut {t u : TS} {D : Ends} {σ : St} {H : Hp} (M : St → Hp → Prop) (h1 : ∀ N : St → Hp → Prop, (∀ σ H, M σ H → N σ H) → t { D with nx := N } σ H) (h2 : ∀ σ H, M σ H → u D σ H) : tSeq t u D σ H := h1 (u D) h2
end EB
namespace EB
theorem pow_lt' {x : Int} {n a : Nat} (h : x.natAbs < 2 ^ a) (h0 : 0 < n) : (x ^ n).natAbs < 2 ^ (a * n) := by
  rw [Int.natAbs_pow, Nat.pow_mul]
  exact Nat.pow_lt_pow_left h (by omega)
end EB
namespace EB
open PySem L2
theorem g_sum {G H : Hp} {Q : VK} {v : V} {ns : List Int} {K : PySem.W.Frag} (r : Rep G v ns) (s : Same G H) (q : Q (.int ns.sum) H) : EB.rSum K [v] H Q := by
  obtain ⟨p, vs, rfl, h, rs⟩ := r
  obtain rfl := Reps.ints rs
  exact ⟨ns, .inl (.inl (s _ _ h)), q⟩
end EB

namespace EB
open PySem L2
/-! ### calls by keyword alone: p tells where each parameter's value stands among the keywords' -/
def kwp {A : Type} (p : List Nat) (us ws : List A) : List A := match us with
  | [] => if ws.length = p.length then p.filterMap fun i => ws[i]? else []
  | _ :: _ => []
theorem vals_get : ∀ {vs : List V} {us : List Value} (i : Nat), Vals vs us → (vs[i]? = none ∧ us[i]? = none) ∨ ∃ v u, vs[i]? = some v ∧ us[i]? = some u ∧ RelV v u
  | _, _, i, .nil => .inl ⟨by simp, by simp⟩
  | _, _, 0, .cons r _ => .inr ⟨_, _, rfl, rfl, r⟩
  | _, _, i + 1, .cons _ t => vals_get i t
theorem vals_filter {vs : List V} {us : List Value} (r : Vals vs us) : ∀ p : List Nat, Vals (p.filterMap fun i => vs[i]?) (p.filterMap fun i => us[i]?)
  | [] => .nil
  | i :: p => by
    rcases vals_get i r with ⟨e1, e2⟩ | ⟨v, u, e1, e2, e3⟩
    · simp only [List.filterMap_cons, e1, e2]
      exact vals_filter r p
    · simp only [List.filterMap_cons, e1, e2]
      exact .cons e3 (vals_filter r p)
theorem kwp_rel {p : List Nat} {vs : List V} {us : List Value} {zs : List V} {ws : List Value} (r : Vals vs us) (rz : Vals zs ws) : Vals (kwp p vs zs) (kwp p us ws) := by
  cases r with
  | cons _ _ => exact .nil
  | nil =>
    show Vals (if zs.length = p.length then _ else _) (if ws.length = p.length then _ else _)
    rw [rz.length]
    split
    · exact vals_filter rz p
    · exact .nil
theorem kbinds_of {K : PySem.W.Frag} {x qual : Str} {st : Stmt} {f : Addr} {fd : FuncData} {ps ks : List Str} {p : List Nat} (F : Fun K x qual st f fd) (h0 : ps ≠ [])
    (h : ∀ (kV doc pm : Value) (an : Option Addr) (cdv ct : Value) (ws : List Value), ws.length = p.length → bindArgs (PySem.W.fnOf x qual (defArgs st) (defBody st) (defScope st) .none kV doc pm an cdv ct) ⟨[], ks.zip ws⟩ = pure (ps.zip (kwp p [] ws))) :
    KBinds K fd ps ks (kwp p) (kwp p) := by
  obtain ⟨oc, od, kV, doc, pm, an, cdv, ct, osl, rfl, lk, hcd⟩ := F.ex
  refine ⟨fun s us ws _ hl => ?_, kwp_rel⟩
  cases us with
  | cons u us =>
    have hl : ([] : List Value).length = ps.length := hl
    cases ps with
    | nil => exact absurd rfl h0
    | cons a b => cases hl
  | nil =>
    by_cases e : ws.length = p.length
    · exact .of_eq (h kV doc pm an cdv ct ws e)
    · have hl : (if ws.length = p.length then p.filterMap fun i => ws[i]? else []).length = ps.length := hl
      rw [if_neg e] at hl
      cases ps with
      | nil => exact absurd rfl h0
      | cons a b => cases hl
theorem bn_mk {K : PySem.W.Frag} {h : Heap} {mg : Str → Option Value} (X : K.In h) (G : h.Ns mainGlobals mg)
    (z : ∀ x ∈ (["len", "range", "sorted", "list", "dict", "set", "sum", "max", "min", "abs", "int", "str", "repr", "zip", "enumerate", "reversed", "any", "all", "isinstance", "tuple", "bool", "ValueError"] : List Str), PySem.W.nsIn K mainGlobals x = some none) : Bn mg := by
  have q : ∀ x ∈ (["len", "range", "sorted", "list", "dict", "set", "sum", "max", "min", "abs", "int", "str", "repr", "zip", "enumerate", "reversed", "any", "all", "isinstance", "tuple", "bool", "ValueError"] : List Str), mg x = none := fun x hx => PySem.W.mg_none_of X G (z x hx)
  exact ⟨q _ (by simp), q _ (by simp), q _ (by simp), q _ (by simp), q _ (by simp), q _ (by simp), q _ (by simp), q _ (by simp), q _ (by simp), q _ (by simp), q _ (by simp), q _ (by simp), q _ (by simp), q _ (by simp), q _ (by simp), q _ (by simp), q _ (by simp), q _ (by simp), q _ (by simp), q _ (by simp), q _ (by simp), q _ (by simp)⟩
end EB

namespace EB
open PySem L2
/-! ### parts of lists -/
def cut {A : Type} (xs : List A) (lo hi : Option Int) : List A := (xs.drop (HT.sIx xs.length 0 lo)).take (HT.sIx xs.length xs.length hi - HT.sIx xs.length 0 lo)
section
variable {A : Type} {xs : List A} {k l : Int}
theorem six_pos {n d : Nat} (h : 0 ≤ k) : HT.sIx n d (some k) = min k.toNat n := by
  show (if k < 0 then _ else _) = _
  rw [if_neg (by omega)]
theorem cut_to (h : 0 ≤ k) : cut xs none (some k) = xs.take k.toNat := by
  unfold cut
  rw [six_pos h, HT.sIx_none, List.drop_zero, Nat.sub_zero]
  by_cases c : k.toNat ≤ xs.length
  · rw [Nat.min_eq_left c]
  · rw [Nat.min_eq_right (by omega), List.take_length, List.take_of_length_le (by omega)]
theorem cut_from (h : 0 ≤ k) : cut xs (some k) none = xs.drop k.toNat := by
  unfold cut
  rw [six_pos h, HT.sIx_none]
  by_cases c : k.toNat ≤ xs.length
  · rw [Nat.min_eq_left c, ← List.length_drop, List.take_length]
  · rw [Nat.min_eq_right (by omega), Nat.sub_self, List.take_zero, List.drop_of_length_le (by omega)]
theorem cut_of (h : 0 ≤ k) (h2 : 0 ≤ l) : cut xs (some k) (some l) = (xs.take l.toNat).drop k.toNat := by
  unfold cut
  rw [six_pos h, six_pos h2, List.drop_take]
  by_cases c : k.toNat ≤ xs.length
  · rw [Nat.min_eq_left c]
    by_cases c2 : l.toNat ≤ xs.length
    · rw [Nat.min_eq_left c2]
    · rw [Nat.min_eq_right (by omega), ← List.length_drop, List.take_length, List.take_of_length_le]
      rw [List.length_drop]
      omega
  · rw [Nat.min_eq_right (a := k.toNat) (by omega), List.drop_length, List.drop_of_length_le (by omega), List.take_nil, List.take_nil]
theorem cut_all : cut xs none none = xs := by
  unfold cut
  rw [HT.sIx_none, HT.sIx_none, List.drop_zero, Nat.sub_zero, List.take_length]
end
section
variable {σ : St} {G H : Hp} {Q : VK} {D : Ends} {ta tb te tl : TE} {to th : TO} {i j : Nat} {v w x y : V} {tr : TA} {K : PySem.W.Frag} {L : List Res} {p : Addr}
variable {A : Type} [Rp A] {xs ys : List A} {a : A}
theorem g_sl {r : V → Option Int → Option Int → Hp → VK → Prop} (h : te σ H fun x H1 => to σ H1 fun l H2 => th σ H2 fun u H3 => r x l u H3 Q) : tSl r te to th σ H Q := h
theorem g_noPart {Q : Option Int → Hp → Prop} (h : Q none H) : tNoPart σ H Q := h
theorem g_part {Q : Option Int → Hp → Prop} (h : te σ H fun x H1 => ∃ i, x = .int i ∧ Q (some i) H1) : tPart te σ H Q := h
theorem g_someI {P : Int → Prop} {n : Int} (h : P n) : ∃ i, V.int n = .int i ∧ P i := ⟨n, rfl, h⟩
theorem reps_cut {vs : List V} {lo hi : Option Int} (r : Reps G vs xs) : Reps G (cutV vs lo hi) (cut xs lo hi) := by
  unfold cutV cut
  rw [r.len]
  exact (r.drop _).take _
theorem g_slL {lo hi : Option Int} (s : Sep G H L) (r : Rep G v xs) (q : ∀ p H', Sep G H' (OwnL p (cut xs lo hi) :: L) → Q (.ref p) H') : rSlA K v lo hi H Q := by
  obtain ⟨b, vs, rfl, h, rs⟩ := r
  exact .inl ⟨b, vs, rfl, .inl (.inl (s.gh _ _ h)), fun l hl => q l _ (s.ownNew hl (reps_cut rs))⟩
def rRev (K : PySem.W.Frag) (x : V) (H1 : Hp) (Q : VK) : Prop := ∃ a xs, x = .ref a ∧ SqL K H1 a xs ∧ ∀ p, H1 p = none → Q (.ref p) (upd H1 p (.lst xs.reverse))
theorem g_revL (h : te σ H fun x H1 => rRev K x H1 Q) : tRevL K te σ H Q := h
theorem g_rvL (s : Sep G H L) (r : Rep G v xs) (q : ∀ p H', Sep G H' (OwnL p xs.reverse :: L) → Q (.ref p) H') : rRev K v H Q := by
  obtain ⟨b, vs, rfl, h, rs⟩ := r
  exact ⟨b, vs, rfl, .inl (.inl (s.gh _ _ h)), fun l hl => q l _ (s.ownNew hl rs.rev)⟩
theorem reps0 : Reps G [] ([] : List A) := trivial
theorem reps1 (r : Rep G v a) : Reps G [v] [a] := ⟨r, trivial⟩
theorem reps2 {b : A} (r : Rep G v a) (r' : Rep G w b) : Reps G [v, w] [a, b] := ⟨r, r', trivial⟩
theorem reps3 {b c : A} (r : Rep G v a) (r' : Rep G w b) (r'' : Rep G x c) : Reps G [v, w, x] [a, b, c] := ⟨r, r', r'', trivial⟩
/-- `n in (a, b)`, a tuple that was just laid -/
theorem g_inT {n : Int} {ns : List Int} {vs : List V} (h : G p = some (.tup vs)) (e : vs = ns.map V.int) (s : Same G H) (q : Q (.bl (decide (n ∈ ns))) H) : rInA K (.int n) (.ref p) H Q := by
  subst e
  refine .inl ⟨p, _, rfl, .inr (.inl (.inl (s _ _ h))), rfl, flat_ints ns, ?_⟩
  rw [inV_ints]
  exact q
theorem g_niT {n : Int} {ns : List Int} {vs : List V} (h : G p = some (.tup vs)) (e : vs = ns.map V.int) (s : Same G H) (q : Q (.bl (decide (n ∉ ns))) H) : rNiA K (.int n) (.ref p) H Q := by
  subst e
  refine .inl ⟨p, _, rfl, .inr (.inl (.inl (s _ _ h))), rfl, flat_ints ns, ?_⟩
  rw [inV_ints]
  have e : (!decide (n ∈ ns)) = decide (n ∉ ns) := by simp
  rw [e]
  exact q
end
end EB

namespace EB
open PySem L2 PyProof.Rows
/-! ### sorted: ints and pairs of ints, either way round -/
/-- the order of pairs, as a bool: x not behind y -/
def leP (x y : Int × Int) : Bool := decide (x.1 < y.1 ∨ (x.1 = y.1 ∧ x.2 ≤ y.2))
def geP (x y : Int × Int) : Bool := leP y x
def leI (x y : Int) : Bool := decide (x ≤ y)
def geI (x y : Int) : Bool := decide (y ≤ x)
def upP (xs : List (Int × Int)) : List (Int × Int) := xs.mergeSort leP
def dnP (xs : List (Int × Int)) : List (Int × Int) := xs.mergeSort geP
def upI (xs : List Int) : List Int := xs.mergeSort leI
def dnI (xs : List Int) : List Int := xs.mergeSort geI
theorem leP_trans (a b c : Int × Int) (h : leP a b = true) (h2 : leP b c = true) : leP a c = true := by
  simp only [leP, decide_eq_true_eq] at *
  omega
theorem leP_total (a b : Int × Int) : (leP a b || leP b a) = true := by
  simp only [leP, Bool.or_eq_true, decide_eq_true_eq]
  omega
theorem leP_anti {a b : Int × Int} (h : leP a b = true) (h2 : leP b a = true) : a = b := by
  simp only [leP, decide_eq_true_eq] at *
  ext <;> omega
theorem upP_perm (xs : List (Int × Int)) : (upP xs).Perm xs := List.mergeSort_perm _ _
theorem dnP_perm (xs : List (Int × Int)) : (dnP xs).Perm xs := List.mergeSort_perm _ _
theorem upI_perm (xs : List Int) : (upI xs).Perm xs := List.mergeSort_perm _ _
theorem dnI_perm (xs : List Int) : (dnI xs).Perm xs := List.mergeSort_perm _ _
theorem upP_pw (xs : List (Int × Int)) : (upP xs).Pairwise fun a b => leP a b = true := List.pairwise_mergeSort leP_trans leP_total _
theorem dnP_pw (xs : List (Int × Int)) : (dnP xs).Pairwise fun a b => leP b a = true := List.pairwise_mergeSort (le := geP) (fun a b c h h2 => leP_trans c b a h2 h) (fun a b => leP_total b a) _
theorem upI_pw (xs : List Int) : (upI xs).Pairwise (· ≤ ·) := (List.pairwise_mergeSort (le := leI) (fun a b c h h2 => by simp only [leI, decide_eq_true_eq] at *; omega) (fun a b => by simp only [leI, Bool.or_eq_true, decide_eq_true_eq]; omega) xs).imp fun h => by simpa [leI] using h
theorem dnI_pw (xs : List Int) : (dnI xs).Pairwise (· ≥ ·) := (List.pairwise_mergeSort (le := geI) (fun a b c h h2 => by simp only [geI, decide_eq_true_eq] at *; omega) (fun a b => by simp only [geI, Bool.or_eq_true, decide_eq_true_eq]; omega) xs).imp fun h => by simpa [geI] using h
theorem upP_uniq {xs ys : List (Int × Int)} (p : ys.Perm xs) (h : ys.Pairwise fun a b => leP a b = true) : ys = upP xs :=
  List.Perm.eq_of_pairwise (fun _ _ _ _ => leP_anti) h (upP_pw xs) (p.trans (upP_perm xs).symm)
theorem dnP_uniq {xs ys : List (Int × Int)} (p : ys.Perm xs) (h : ys.Pairwise fun a b => leP b a = true) : ys = dnP xs :=
  List.Perm.eq_of_pairwise (le := fun a b => leP b a = true) (fun _ _ _ _ x y => leP_anti y x) h (dnP_pw xs) (p.trans (dnP_perm xs).symm)
theorem upI_uniq {xs ys : List Int} (p : ys.Perm xs) (h : ys.Pairwise (· ≤ ·)) : ys = upI xs :=
  List.Perm.eq_of_pairwise (fun _ _ _ _ => Int.le_antisymm) h (upI_pw xs) (p.trans (upI_perm xs).symm)
theorem dnI_uniq {xs ys : List Int} (p : ys.Perm xs) (h : ys.Pairwise (· ≥ ·)) : ys = dnI xs :=
  List.Perm.eq_of_pairwise (le := (· ≥ ·)) (fun _ _ _ _ x y => Int.le_antisymm y x) h (dnI_pw xs) (p.trans (dnI_perm xs).symm)
theorem upP_rev (xs : List (Int × Int)) : (upP xs).reverse = dnP xs := dnP_uniq ((List.reverse_perm _).trans (upP_perm xs)) (List.pairwise_reverse.mpr (upP_pw xs))
theorem upI_rev (xs : List Int) : (upI xs).reverse = dnI xs := dnI_uniq ((List.reverse_perm _).trans (upI_perm xs)) (List.pairwise_reverse.mpr (upI_pw xs))
theorem dnP_of_perm {xs ys : List (Int × Int)} (p : ys.Perm xs) : dnP ys = dnP xs := dnP_uniq ((dnP_perm ys).trans p) (dnP_pw ys)
theorem dnI_of_perm {xs ys : List Int} (p : ys.Perm xs) : dnI ys = dnI xs := dnI_uniq ((dnI_perm ys).trans p) (dnI_pw ys)

/-- a pair of ints that stands at v -/
def kOf (H : Hp) (v : V) : Int × Int := match v with
  | .ref t => match H t with
    | some (.tup [.int a, .int b]) => (a, b)
    | _ => (0, 0)
  | _ => (0, 0)
theorem kOf_at {H : Hp} {v : V} {x : Int × Int} (r : Rep H v x) : kOf H v = x ∧ ∃ t, v = .ref t ∧ H t = some (.tup [.int x.1, .int x.2]) := by
  obtain ⟨p, a, b, rfl, h, ra, rb⟩ := r
  obtain rfl := Rep.int ra
  obtain rfl := Rep.int rb
  exact ⟨by show (match H p with | some (.tup [.int a, .int b]) => (a, b) | _ => (0, 0)) = _; rw [h], p, rfl, h⟩
theorem kOf_all {H : Hp} : ∀ {vs : List V} {xs : List (Int × Int)}, Reps H vs xs → vs.map (kOf H) = xs ∧ ∀ v ∈ vs, ∃ t, v = .ref t ∧ H t = some (.tup [.int (kOf H v).1, .int (kOf H v).2])
  | [], [], _ => ⟨rfl, fun _ h => by cases h⟩
  | v :: vs, x :: xs, ⟨r, rs⟩ => by
    obtain ⟨e, t, ev, ht⟩ := kOf_at r
    obtain ⟨e2, h2⟩ := kOf_all rs
    refine ⟨by rw [List.map_cons, e, e2], fun u hu => ?_⟩
    rcases List.mem_cons.mp hu with rfl | hu
    · exact ⟨t, ev, by rw [e]; exact ht⟩
    · exact h2 u hu
theorem kOf_reps {H : Hp} : ∀ {ys : List V}, (∀ v ∈ ys, ∃ t, v = .ref t ∧ H t = some (.tup [.int (kOf H v).1, .int (kOf H v).2])) → Reps H ys (ys.map (kOf H))
  | [], _ => trivial
  | y :: ys, h => by
    obtain ⟨t, e, ht⟩ := h y (List.mem_cons_self ..)
    exact ⟨⟨t, _, _, e, ht, rfl, rfl⟩, kOf_reps fun v hv => h v (List.mem_cons_of_mem _ hv)⟩
theorem srtd_leP {k : V → Int × Int} {ys : List V} (h : SrtO.Srtd (ltP k) ys) : (ys.map k).Pairwise fun a b => leP a b = true := by
  rw [List.pairwise_map]
  refine List.Pairwise.imp (fun {a b} h => ?_) h
  have h := SrtO.lexB_no.mp h
  simp only [leP, decide_eq_true_eq]
  omega
/-- sorted(xs), sorted(xs, reverse=b): xs a list of ints, or of pairs of ints -/
def rSrt (K : PySem.W.Frag) : List V → Hp → VK → Prop := fun vs H Q => rSortedI K vs H Q ∨ rSortedPO K vs H Q
theorem cSorted {X : Cx} : CallR X (.builtin "sorted") (rSrt X.K) := by
  intro pins s σ H vs us Q I r h
  rcases h with h | h
  · exact cr_sortedI pins s σ H vs us Q I r h
  · exact cr_sortedPO pins s σ H vs us Q I r h
def rSortedPOR (K : PySem.W.Frag) : List V → List V → Hp → VK → Prop := fun vs zs H Q => ∃ (a : Addr) (xs : List V) (k : V → Int × Int), vs = [V.ref a] ∧ zs = [.bl true] ∧ SqL K H a xs ∧ (∀ x ∈ xs, ∃ t, x = V.ref t ∧ H t = some (.tup [.int (k x).1, .int (k x).2])) ∧
  ∀ ys p, SrtO.Srtd (ltP k) ys → ys.Perm xs → H p = none → Q (.ref p) (upd H p (.lst ys.reverse))
theorem cr_sortedPOR {X : Cx} : CallRK X (.builtin "sorted") [Str.ofString "reverse"] (rSortedPOR X.K) := by
  intro pins s σ H vs zs us ws Q I r rz h
  obtain ⟨a, xs, k, rfl, rfl, hs, hx, q⟩ := h
  obtain rfl := Vals.ref1 r
  obtain ⟨w1, rfl, e1⟩ := vals1 rz
  obtain rfl : w1 = Value.bool true := e1
  obtain ⟨its, rv, hl, hz⟩ := I.list hs
  obtain ⟨e1, e2⟩ := refs_back rv fun x m => by
    obtain ⟨t, e, _⟩ := hx x m
    exact ⟨t, e⟩
  have hp : ∀ v ∈ its, Srt.IsPair s.heap v (k (backV v)).1 (k (backV v)).2 := fun v hv => by
    obtain ⟨t, rfl⟩ := e2 v hv
    have hm : V.ref t ∈ xs := by rw [e1]; exact List.mem_map.mpr ⟨_, hv, rfl⟩
    obtain ⟨t', e, ht⟩ := hx _ hm
    cases e
    obtain ⟨_, its2, r2, o, ho, hc, n, hd⟩ := I.hok _ _ ht
    obtain ⟨u1, u2, rfl, ri, rj⟩ := vals2 r2
    obtain ⟨t1, rfl⟩ := ri
    obtain ⟨t2, rfl⟩ := rj
    exact ⟨t, o, t1, t2, n, rfl, ho, hc, hd⟩
  refine SrtR.sorted_ordK (b := true) (fun _ => rfl) (PyProof.Rows.args_sorted_rev _ _) (fun _ => PyProof.Rows.args_list_sort_rev _ _) (SrtO.swo_lex fun u => k (backV u)) hl.isList (by rw [← rv.length]; exact hz) (fun h2 h₁ a' ha kk => ?_) fun out h1 h2 => ?_
  · refine SrtO.pairs_sortableO (s := { s with heap := h₁ }) (by omega) (fun v hm => (hp v hm).keeps fun b o e _ => (kk b o e).2) fun o e => ?_
    have e' : some o = some (seqObj "list" its.toArray 0) := e.symm.trans ha
    cases e'
    intro c
    exact absurd (Value.type.inj c) (by decide)
  · have h2p : out.Perm its := h2.perm.trans (List.reverse_perm _)
    have h3 : ∀ u ∈ out, ∃ a, u = Value.ref a := fun u hu => e2 u (h2p.mem_iff.mp hu)
    have hb : (out.map backV).Perm xs := by
      rw [e1]
      exact h2p.map backV
    have er : (out.map backV).reverse = out.reverse.map backV := by rw [List.map_reverse]
    have h4 : ∀ u ∈ out.reverse, ∃ a, u = Value.ref a := fun u hu => h3 u (List.mem_reverse.mp hu)
    have ea : out.reverse.toArray = out.toArray.reverse := by
      apply Array.ext'
      rw [Array.toList_reverse]
    obtain ⟨ep, he'⟩ := PyProof.Rows.sortedAll_at s.heap its (if true = true then out.toArray.reverse else out.toArray)
    have hlen : (out.map backV).reverse.length ≤ sizeLine := by
      rw [List.length_reverse, hb.length_eq]
      exact hz
    refine ⟨.ref _, upd H (s.heap.objs.size + 1) (.lst (out.map backV).reverse), I.laid (t' := s.toks) (fun _ _ => PyProof.Rows.sortedAll_old) (Nat.le_succ _) ⟨hlen, out.reverse, ep, by rw [er]; exact vals_back h4, by rw [ea]; exact he'⟩, rfl, q _ _ (SrtO.srtd_map h1) hb (I.hok.fresh (Nat.le_succ _))⟩
def rSrtRev (K : PySem.W.Frag) : List V → List V → Hp → VK → Prop := fun vs zs H Q => rSortedKw K true [.bl true] vs zs H Q ∨ rSortedPOR K vs zs H Q
theorem cSortedRev {X : Cx} : CallRK X (.builtin "sorted") [Str.ofString "reverse"] (rSrtRev X.K) := by
  intro pins s σ H vs zs us ws Q I r rz h
  rcases h with h | h
  · exact cr_sortedRev pins s σ H vs zs us ws Q I r rz h
  · exact cr_sortedPOR pins s σ H vs zs us ws Q I r rz h
section
variable {σ : L2.St} {G H : Hp} {Q : VK} {v w x y : V} {K : PySem.W.Frag} {L : List Res} {p : Addr}
theorem g_ckw {r : List V → List V → Hp → VK → Prop} {t tk : TA} (h : t σ H fun vs H1 => tk σ H1 fun zs H2 => r vs zs H2 Q) : tCKw r t tk σ H Q := h
theorem g_srtI {ns : List Int} (s : Sep G H L) (r : Rep G v ns) (q : ∀ p H', Sep G H' (OwnL p (upI ns) :: L) → Q (.ref p) H') : rSrt K [v] H Q := by
  obtain ⟨b, vs, rfl, h, rs⟩ := r
  obtain rfl := Reps.ints rs
  refine .inl ⟨b, ns, rfl, .inl (.inl (s.gh _ _ h)), fun ns' l h1 h2 hl => ?_⟩
  rw [upI_uniq h1 h2]
  exact q l _ (s.ownNew hl (reps_ints _))
theorem g_srtIR {ns : List Int} (s : Sep G H L) (r : Rep G v ns) (q : ∀ p H', Sep G H' (OwnL p (dnI ns) :: L) → Q (.ref p) H') : rSrtRev K [v] [.bl true] H Q := by
  obtain ⟨b, vs, rfl, h, rs⟩ := r
  obtain rfl := Reps.ints rs
  refine .inl ⟨b, ns, rfl, rfl, .inl (.inl (s.gh _ _ h)), fun ns' l h1 h2 hl => ?_⟩
  rw [dnI_uniq h1 h2]
  exact q l _ (s.ownNew hl (reps_ints _))
theorem g_srtP {ns : List (Int × Int)} (s : Sep G H L) (r : Rep G v ns) (q : ∀ p H', Sep G H' (OwnL p (upP ns) :: L) → Q (.ref p) H') : rSrt K [v] H Q := by
  obtain ⟨b, vs, rfl, h, rs⟩ := r
  obtain ⟨e, hx⟩ := kOf_all rs
  refine .inr ⟨b, vs, kOf G, rfl, .inl (.inl (s.gh _ _ h)), fun x m => ?_, fun ys l h1 h2 hl => ?_⟩
  · obtain ⟨t, e, ht⟩ := hx x m
    exact ⟨t, e, s.gh _ _ ht⟩
  · have h3 := upP_uniq (xs := ns) (ys := ys.map (kOf G)) (by rw [← e]; exact h2.perm.map _) (srtd_leP h1)
    rw [← h3] at q
    exact q l _ (s.ownNew hl (kOf_reps fun v hv => hx v (h2.perm.mem_iff.mp hv)))
theorem g_srtPR {ns : List (Int × Int)} (s : Sep G H L) (r : Rep G v ns) (q : ∀ p H', Sep G H' (OwnL p (dnP ns) :: L) → Q (.ref p) H') : rSrtRev K [v] [.bl true] H Q := by
  obtain ⟨b, vs, rfl, h, rs⟩ := r
  obtain ⟨e, hx⟩ := kOf_all rs
  refine .inr ⟨b, vs, kOf G, rfl, rfl, .inl (.inl (s.gh _ _ h)), fun x m => ?_, fun ys l h1 h2 hl => ?_⟩
  · obtain ⟨t, e, ht⟩ := hx x m
    exact ⟨t, e, s.gh _ _ ht⟩
  · have h3 := upP_uniq (xs := ns) (ys := ys.map (kOf G)) (by rw [← e]; exact h2.map _) (srtd_leP h1)
    rw [← upP_rev, ← h3, ← List.map_reverse] at q
    exact q l _ (s.ownNew hl (kOf_reps fun v hv => hx v (h2.mem_iff.mp (List.mem_reverse.mp hv))))
end
end EB

namespace EB
open PySem L2
/-! ### raw values as items -/
structure Raw where
  v : V
instance : Rp Raw := ⟨fun _ v w => v = w.v, fun _ h => h⟩
theorem reps_raw {G : Hp} : ∀ vs : List V, Reps G vs (vs.map Raw.mk)
  | [] => trivial
  | v :: vs => ⟨rfl, reps_raw vs⟩
theorem Reps.raws {G : Hp} : ∀ {vs : List V} {ws : List Raw}, Reps G vs ws → vs = ws.map (·.v)
  | [], [], _ => rfl
  | v :: vs, w :: ws, ⟨r, rs⟩ => by
    have r : v = w.v := r
    rw [List.map_cons, ← Reps.raws rs, r]
/-! ### a look at all that there is, with new things left behind -/
theorem Sep.later {G H H' : Hp} {L : List Res} {D : Addr} {o : HO} (s : Sep G H L) (k : Same H H') (hd : H D = none) (e : H' D = some o) : ∃ G', Same G G' ∧ Sep G' H' L ∧ G' D = some o := by
  have hg : G D = none := s.gh.free hd
  obtain ⟨h, x, y, z⟩ := s.ex
  refine ⟨upd G D o, same_upd hg, ⟨fun a u ea => ?_, h, x.up (same_upd hg), y.trans k, fun a ha => ?_⟩, upd_same⟩
  · by_cases q : a = D
    · subst q
      rw [upd_same] at ea
      cases ea
      exact e
    · rw [upd_ne q] at ea
      exact k _ _ (s.gh _ _ ea)
  · have q : a ≠ D := fun q => ha (by rw [q]; exact y.free hd)
    rw [upd_ne q]
    exact z a ha
/-- .. and owned -/
theorem Sep.laterO {G H H' : Hp} {L : List Res} {D : Addr} {o : HO} (s : Sep G H L) (k : Same H H') (hd : H D = none) (e : H' D = some o) : Sep G H' (cell D o :: L) := by
  have hg : G D = none := s.gh.free hd
  obtain ⟨h, x, y, z⟩ := s.ex
  have hh : h D = none := y.free hd
  refine ⟨s.gh.trans k, upd h D o, ⟨upd emp D o, h, fun a => ?_, rfl, x⟩, fun a u ea => ?_, fun a ha => ?_⟩
  · by_cases q : a = D
    · subst q
      exact .inr ⟨hh, by rw [upd_same, upd_same]⟩
    · exact .inl ⟨by rw [upd_ne q]; rfl, by rw [upd_ne q]⟩
  · by_cases q : a = D
    · subst q
      rw [upd_same] at ea
      cases ea
      exact e
    · rw [upd_ne q] at ea
      exact k _ _ (y _ _ ea)
  · by_cases q : a = D
    · subst q
      exact hg
    · rw [upd_ne q] at ha
      exact z a ha
/-- what a comprehension over a snapshot leaves: its list, raw -/
theorem Sep.snap {B : Type} [Rp B] {G H G' H' : Hp} {L : List Res} {D : Addr} {acc : List B} (s : Sep G H L) (u : Same H G') (t : Sep G' H' [OwnL D acc]) : ∃ vs G2, Reps G' vs acc ∧ Same G G2 ∧ Sep G2 H' L ∧ G2 D = some (.lst vs) := by
  obtain ⟨vs, rs, t⟩ := t.ownO
  have hd : H D = none := u.free t.cellG
  obtain ⟨G2, u2, s2, e⟩ := s.later (u.trans t.gh) hd t.cellAt
  exact ⟨vs, G2, rs, u2, s2, e⟩
theorem Sep.snapI {G H G' H' : Hp} {L : List Res} {D : Addr} {acc : List Int} (s : Sep G H L) (u : Same H G') (t : Sep G' H' [OwnL D acc]) : ∃ G2, Same G G2 ∧ Sep G2 H' L ∧ Rep G2 (.ref D) acc := by
  obtain ⟨vs, G2, rs, u2, s2, e⟩ := s.snap u t
  obtain rfl := Reps.ints rs
  exact ⟨G2, u2, s2, D, _, rfl, e, reps_ints acc⟩
/-! ### rooms: a list of its own of lists of their own -/
section
variable {A : Type} [Rp A]
def owns (as : List Addr) (xss : List (List A)) : List Res := (as.zip xss).map fun z => OwnL z.1 z.2
def Rooms (p : Addr) (xss : List (List A)) : Res := .ex fun as : List Addr => .if (as.length = xss.length) (.all (cell p (.lst (as.map V.ref)) :: owns as xss))
/-- all but the i-th, which stands at a -/
def RoomsBut (p : Addr) (i : Nat) (a : Addr) (xss : List (List A)) : Res := .ex fun as : List Addr => .if (as.length = xss.length ∧ as[i]? = some a) (.all (cell p (.lst (as.map V.ref)) :: (owns as xss).eraseIdx i))
variable {G H : Hp} {L : List Res} {p : Addr} {xss : List (List A)} {xs ys : List A} {i : Nat}
theorem Rooms.open (s : Sep G H (Rooms p xss :: L)) : ∃ as : List Addr, as.length = xss.length ∧ Sep G H (cell p (.lst (as.map V.ref)) :: (owns as xss ++ L)) := by
  obtain ⟨as, s⟩ := s.exO
  obtain ⟨h, s⟩ := s.ifO
  exact ⟨as, h, s.allO⟩
theorem Rooms.close {as : List Addr} (h : as.length = xss.length) (s : Sep G H (cell p (.lst (as.map V.ref)) :: (owns as xss ++ L))) : Sep G H (Rooms p xss :: L) := .exI as (.ifI h (.allI s))
theorem perm_at {B : Type} : ∀ {l : List B} {i : Nat} {x : B}, l[i]? = some x → l.Perm (x :: l.eraseIdx i)
  | [], _, _, h => by simp at h
  | y :: l, 0, x, h => by
    have e : y = x := Option.some.inj h
    subst e
    exact .refl _
  | y :: l, i + 1, x, h => by
    have h : l[i]? = some x := h
    exact ((perm_at h).cons y).trans (.swap _ _ _)
theorem owns_at {as : List Addr} {a : Addr} (h1 : as[i]? = some a) (h2 : xss[i]? = some xs) : (owns as xss)[i]? = some (OwnL a xs) := by
  simp only [owns, List.getElem?_map, Option.map_eq_some_iff, List.getElem?_zip_eq_some, Prod.exists]
  exact ⟨a, xs, ⟨h1, h2⟩, rfl⟩
theorem owns_set : ∀ {i : Nat} {as : List Addr} {xss : List (List A)}, (owns as (xss.set i xs)).eraseIdx i = (owns as xss).eraseIdx i
  | _, [], _ => by simp [owns]
  | _, _ :: _, [] => by simp [owns]
  | 0, _ :: _, _ :: _ => rfl
  | i + 1, a :: as, x :: xss => by
    show OwnL a x :: (owns as (xss.set i xs)).eraseIdx i = OwnL a x :: (owns as xss).eraseIdx i
    rw [owns_set]
theorem Rooms.at (s : Sep G H (Rooms p xss :: L)) (h : xss[i]? = some xs) : ∃ (a : Addr) (as : List Addr), as[i]? = some a ∧ H p = some (.lst (as.map V.ref)) ∧ Sep G H (OwnL a xs :: RoomsBut p i a xss :: L) := by
  obtain ⟨as, hl, s⟩ := Rooms.open s
  have hi : i < as.length := by
    have := (List.getElem?_eq_some_iff.mp h).1
    omega
  have ha : as[i]? = some as[i] := by simp [hi]
  have e := owns_at ha h
  refine ⟨as[i], as, ha, s.cellAt, ?_⟩
  have s2 : Sep G H (OwnL as[i] xs :: ((cell p (.lst (as.map V.ref)) :: (owns as xss).eraseIdx i) ++ L)) := s.perm ((((perm_at e).append_right L).cons _).trans (.swap _ _ _))
  have s3 := s2.perm (L' := ((cell p (.lst (as.map V.ref)) :: (owns as xss).eraseIdx i) ++ (OwnL as[i] xs :: L))) (List.perm_middle.symm)
  exact (Sep.exI (f := fun as : List Addr => .if (as.length = xss.length ∧ as[i]? = some _) (.all (cell p (.lst (as.map V.ref)) :: (owns as xss).eraseIdx i))) as (.ifI ⟨hl, ha⟩ (.allI s3))).sw
theorem Rooms.put {a : Addr} (hi : i < xss.length) (s : Sep G H (OwnL a ys :: RoomsBut p i a xss :: L)) : Sep G H (Rooms p (xss.set i ys) :: L) := by
  obtain ⟨as, s⟩ := s.sw.exO
  obtain ⟨⟨hl, ha⟩, s⟩ := s.ifO
  have s := s.allO
  have s2 := s.perm (L' := OwnL a ys :: ((cell p (.lst (as.map V.ref)) :: (owns as xss).eraseIdx i) ++ L)) List.perm_middle
  have h2 : (xss.set i ys)[i]? = some ys := by simp [hi]
  have e := owns_at ha h2
  refine Rooms.close (as := as) (by rw [List.length_set]; exact hl) ?_
  refine s2.perm ?_
  refine (List.Perm.swap _ _ _).trans (.cons _ ?_)
  rw [← owns_set (xs := ys)]
  exact ((perm_at e).append_right L).symm
theorem Rooms.new (s : Sep G H L) (hp : H p = none) : Sep G (upd H p (.lst [])) (Rooms p ([] : List (List A)) :: L) := Rooms.close (as := []) rfl (s.cellNew hp)
/-- one more at the end -/
theorem Rooms.more {a : Addr} (s : Sep G H (OwnL a ys :: Rooms p xss :: L)) : ∃ as : List Addr, as.length = xss.length ∧ H p = some (.lst (as.map V.ref)) ∧ Sep G (upd H p (.lst (as.map V.ref ++ [.ref a]))) (Rooms p (xss ++ [ys]) :: L) := by
  obtain ⟨as, hl, s⟩ := Rooms.open s.sw
  have hp := s.cellAt
  refine ⟨as, hl, hp, ?_⟩
  have s := s.cellSet (o' := .lst (as.map V.ref ++ [.ref a]))
  refine Rooms.close (as := as ++ [a]) (by simp [hl]) ?_
  have e : owns (as ++ [a]) (xss ++ [ys]) = owns as xss ++ [OwnL a ys] := by
    unfold owns
    rw [List.zip_append hl, List.map_append]
    rfl
  rw [e, List.map_append, List.append_assoc]
  exact s
/-- read at a heap that holds it -/
theorem star_owns : ∀ {as : List Addr} {xss : List (List A)} {h H : Hp}, as.length = xss.length → Star (owns as xss) G h → Same h H → Same G H → All2 (Rep H) (as.map V.ref) xss
  | [], [], _, _, _, _, _, _ => trivial
  | a :: as, x :: xss, h, H, hl, ⟨h1, h2, j, ⟨vs, e, r⟩, q⟩, k, g => by
    have k1 : Same h1 h := fun b o e => by
      rcases j b with ⟨e1, _⟩ | ⟨_, e2⟩
      · rw [e1] at e
        cases e
      · rw [e2]
        exact e
    have k2 : Same h2 h := fun b o e => by
      rcases j b with ⟨_, e2⟩ | ⟨e1, _⟩
      · rw [e2]
        exact e
      · rw [e1] at e
        cases e
    subst e
    exact ⟨⟨a, vs, rfl, k _ _ (k1 _ _ upd_same), r.up g⟩, star_owns (by simpa using hl) q (k2.trans k) g⟩
  | [], _ :: _, _, _, hl, _, _, _ => by cases hl
  | _ :: _, [], _, _, hl, _, _, _ => by cases hl
theorem Rooms.holds {h : Hp} (x : (Rooms p xss).P G h) (k : Same h H) (g : Same G H) : Rep H (.ref p) xss := by
  obtain ⟨as, hl, h1, h2, j, e, q⟩ := x
  have k1 : Same h1 h := fun b o e => by
    rcases j b with ⟨e1, _⟩ | ⟨_, e2⟩
    · rw [e1] at e
      cases e
    · rw [e2]
      exact e
  have k2 : Same h2 h := fun b o e => by
    rcases j b with ⟨_, e2⟩ | ⟨e1, _⟩
    · rw [e2]
      exact e
    · rw [e1] at e
      cases e
  have e : h1 = upd emp p (.lst (as.map V.ref)) := e
  subst e
  exact ⟨p, as.map V.ref, rfl, k _ _ (k1 _ _ upd_same), star_owns hl q (k2.trans k) g⟩
theorem Rooms.rep (s : Sep G H (Rooms p xss :: L)) : Rep H (.ref p) xss := by
  obtain ⟨h, x, k, _⟩ := s.get
  exact Rooms.holds x k s.gh
theorem Rooms.frz (s : Sep G H (Rooms p xss :: L)) : ∃ G', Same G G' ∧ Sep G' H L ∧ Rep G' (.ref p) xss := by
  obtain ⟨G', a, b, h, x, d⟩ := s.frz
  exact ⟨G', a, b, Rooms.holds x d a⟩
/-- the addresses -/
theorem Rooms.refs (s : Sep G H (Rooms p xss :: L)) : ∃ as : List Addr, as.length = xss.length ∧ H p = some (.lst (as.map V.ref)) ∧ ∀ (i : Nat) (xs : List A), xss[i]? = some xs → ∃ a : Addr, as[i]? = some a ∧ Rep H (.ref a) xs := by
  obtain ⟨q, vs, e, h, rs⟩ := Rooms.rep s
  cases e
  obtain ⟨as, hl, s⟩ := Rooms.open s
  have e2 := h.symm.trans s.cellAt
  cases e2
  refine ⟨as, hl, h, fun i xs hx => ?_⟩
  obtain ⟨w, hw, r⟩ := rs.get hx
  rw [List.getElem?_map] at hw
  cases e : as[i]? with
  | none =>
    rw [e] at hw
    cases hw
  | some a =>
    rw [e] at hw
    cases hw
    exact ⟨a, rfl, r⟩
end
section
variable {σ : St} {G H : Hp} {Q : VK} {D : Ends} {v w x y : V} {K : PySem.W.Frag} {L : List Res} {p : Addr}
variable {A : Type} [Rp A] {xss : List (List A)} {xs ys : List A} {a : A}
/-- found[i], to be written -/
theorem g_ixRooms {k : Int} (s : Sep G H (Rooms p xss :: L)) (h0 : 0 ≤ k) (h1 : xss[k.toNat]? = some xs) (q : ∀ b, Sep G H (OwnL b xs :: RoomsBut p k.toNat b xss :: L) → Q (.ref b) H) : rIx K (.ref p) (.int k) H Q := by
  obtain ⟨b, as, ha, hp, t⟩ := Rooms.at s h1
  exact .inl ⟨p, _, k, .ref b, rfl, rfl, .inl (.inl hp), at_pos h0 (by rw [List.getElem?_map, ha]; rfl), q b t⟩
/-- found.append(new list) -/
theorem g_appRooms {b : Addr} (s : Sep G H (OwnL b ys :: Rooms p xss :: L)) (hl : xss.length < 1000000) (k : ∀ H', Sep G H' (Rooms p (xss ++ [ys]) :: L) → Q .non H') : rAppend (.ref p) [.ref b] H Q := by
  obtain ⟨as, e, hp, t⟩ := Rooms.more s
  exact ⟨p, _, .ref b, rfl, rfl, hp, by rw [List.length_map, e]; exact small_lt hl, k _ t⟩
theorem g_lenRooms (s : Sep G H (Rooms p xss :: L)) (q : Q (.int (xss.length : Int)) H) : rLen K [.ref p] H Q := g_lenL (Rooms.rep s) (Same.refl _) q
theorem g_tyRooms {R : Prop} (s : Sep G H (Rooms p xss :: L)) (q : R) : tyV K "list" (.ref p) H ∧ R := g_tyL (Rooms.rep s) (Same.refl _) q
end
end EB

namespace EB
open PySem L2
/-! ### while -/
theorem g_turn {W : Nat → St → Hp → Prop} {m : Nat} {tb : TS} {D : Ends} {σ : St} {H : Hp} (h : tb { D with nx := fun σ' H' => ∃ m', m' < m ∧ W m' σ' H', ct := fun σ' H' => ∃ m', m' < m ∧ W m' σ' H', bk := D.nx } σ H) :
    ∃ N : St → Hp → Prop, (∀ σ' H', N σ' H' → ∃ m', m' < m ∧ W m' σ' H') ∧ tb { D with nx := N, ct := N, bk := D.nx } σ H := ⟨_, fun _ _ h => h, h⟩
/-! ### dicts with ints for keys -/
def kvI (xs : List (Int × V)) : List (Key × V) := xs.map fun z => (.inl z.1, z.2)
theorem kvI_get (k : Int) : ∀ xs : List (Int × V), valV (kvI xs) (.inl k) = xs.lookup k
  | [] => rfl
  | (a, v) :: xs => by
    show valV ((.inl a, v) :: kvI xs) (.inl k) = _
    by_cases e : a = k
    · subst e
      rw [valV_pos rfl, List.lookup_cons_self]
    · have e2 : (k == a) = false := by simpa using fun z => e z.symm
      rw [valV_neg (by simpa using e), kvI_get k xs]
      simp [List.lookup, e2]
theorem lookup_none {k : Int} : ∀ {xs : List (Int × V)}, xs.lookup k = none ↔ k ∉ xs.map (·.1)
  | [] => by simp
  | (a, v) :: xs => by
    by_cases e : k = a
    · subst e
      simp [List.lookup]
    · have e2 : (k == a) = false := by simpa using e
      simp only [List.lookup, e2, List.map_cons, List.mem_cons, not_or]
      rw [lookup_none]
      exact ⟨fun h => ⟨e, h⟩, fun h => h.2⟩
theorem kvI_put {k : Int} {v : V} {xs : List (Int × V)} (h : k ∉ xs.map (·.1)) : putK (kvI xs) (.inl k) v = kvI (xs ++ [(k, v)]) := by
  rw [putK_new v (by rw [kvI_get]; exact lookup_none.mpr h)]
  simp [kvI]
theorem kvI_drop {k : Int} {xs : List (Int × V)} : dropK (kvI xs) (.inl k) = kvI (xs.filter fun z => decide (z.1 ≠ k)) := by
  unfold dropK kvI
  rw [List.filter_map]
  congr 1
  apply List.filter_congr
  intro z _
  simp
section
variable {σ : St} {G H : Hp} {Q : VK} {D : Ends} {v w x y : V} {K : PySem.W.Frag} {L : List Res} {p : Addr}
theorem dI_get {P : Addr → Option V → Prop} {xs : List (Int × V)} {n : Int} (h : H p = some (.dK (kvI xs))) (q : P p (xs.lookup n)) : ∃ a o, V.ref p = .ref a ∧ DGet H a (.int n) o ∧ P a o := ⟨p, _, rfl, kvI_get n xs ▸ DGet.k (k := .inl n) h, q⟩
/-- a new key -/
theorem dI_put {P : Addr → Hp → Prop} {xs : List (Int × V)} {n : Int} (h : H p = some (.dK (kvI xs))) (hl : xs.length < 1000000) (hn : n ∉ xs.map (·.1)) (q : P p (upd H p (.dK (kvI (xs ++ [(n, v)]))))) : ∃ a H4, V.ref p = .ref a ∧ DPut H a (.int n) v H4 ∧ P a H4 :=
  ⟨p, _, rfl, DPut.k (k := .inl n) h (by unfold kvI; rw [List.length_map]; exact Nat.lt_of_lt_of_le hl (by decide)), by rw [kvI_put hn]; exact q⟩
/-- `{}` -/
theorem g_dnew (s : Sep G H L) (q : ∀ p H', Sep G H' (cell p (.dK []) :: L) → Q (.ref p) H') : tDNewK σ H Q := fun p hp => q p _ (s.cellNew hp)
end
end EB

namespace EB
open PySem L2
/-! ### isinstance -/
class TyN (A : Type) extends Rp A where
  nm : String
  ty : ∀ {K : PySem.W.Frag} {G H : Hp} {v : V} {x : A}, Rep G v x → Same G H → TyX K H v (.type nm)
instance : TyN Int where
  nm := "int"
  ty := fun {K G H v x} r s => by
    obtain rfl := r.int
    exact .base (.int _)
instance : TyN Bool where
  nm := "bool"
  ty := fun {K G H v x} r s => by
    obtain rfl := r.bl
    exact .base (.bl _)
instance : TyN Str where
  nm := "str"
  ty := fun {K G H v x} r s => by
    obtain rfl := r.str
    exact .base (.str _)
instance {A : Type} [Rp A] : TyN (List A) where
  nm := "list"
  ty := fun {K G H v x} r s => by
    obtain ⟨p, vs, rfl, h, rs⟩ := r
    exact .base (.lst (s _ _ h))
instance {A B : Type} [Rp A] [Rp B] : TyN (A × B) where
  nm := "tuple"
  ty := fun {K G H v x} r s => by
    obtain ⟨p, a, b, rfl, h, ra, rb⟩ := r
    exact .base (.tup (s _ _ h))
def rIsA (K : PySem.W.Frag) : List V → Hp → VK → Prop := fun xs H Q => rIsi K xs H Q ∨ rIsiT K xs H Q
theorem cIsi {X : Cx} : CallR X (.builtin "isinstance") (rIsA X.K) := by
  intro pins s σ H xs us Q I r h
  rcases h with h | h
  · exact call_isi pins s σ H xs us Q I r h
  · exact call_isiT pins s σ H xs us Q I r h
theorem kb1 : kitB "int" "bool" = some false := by decide +kernel
theorem kb2 : kitB "int" "int" = some true := by decide +kernel
theorem kb3 : kitB "int" "str" = some false := by decide +kernel
theorem kb4 : kitB "int" "list" = some false := by decide +kernel
theorem kb5 : kitB "int" "tuple" = some false := by decide +kernel
theorem kb6 : kitB "bool" "bool" = some true := by decide +kernel
theorem kb7 : kitB "bool" "int" = some true := by decide +kernel
theorem kb8 : kitB "str" "bool" = some false := by decide +kernel
theorem kb9 : kitB "str" "int" = some false := by decide +kernel
theorem kb10 : kitB "str" "str" = some true := by decide +kernel
theorem kb11 : kitB "list" "bool" = some false := by decide +kernel
theorem kb12 : kitB "list" "int" = some false := by decide +kernel
theorem kb13 : kitB "list" "str" = some false := by decide +kernel
theorem kb14 : kitB "list" "list" = some true := by decide +kernel
theorem kb15 : kitB "list" "tuple" = some false := by decide +kernel
theorem kb16 : kitB "tuple" "bool" = some false := by decide +kernel
theorem kb17 : kitB "tuple" "int" = some false := by decide +kernel
theorem kb18 : kitB "tuple" "str" = some false := by decide +kernel
theorem kb19 : kitB "tuple" "list" = some false := by decide +kernel
theorem kb20 : kitB "tuple" "tuple" = some true := by decide +kernel
theorem kb21 : kitB "NoneType" "bool" = some false := by decide +kernel
theorem kb22 : kitB "NoneType" "int" = some false := by decide +kernel
theorem kb23 : kitB "NoneType" "str" = some false := by decide +kernel
theorem kb24 : kitB "NoneType" "list" = some false := by decide +kernel
theorem kb25 : kitB "NoneType" "tuple" = some false := by decide +kernel
theorem kb26 : kitB "str" "list" = some false := by decide +kernel
theorem kb27 : kitB "str" "tuple" = some false := by decide +kernel
theorem kb28 : kitB "bool" "str" = some false := by decide +kernel
theorem kb29 : kitB "bool" "list" = some false := by decide +kernel
theorem kb30 : kitB "bool" "tuple" = some false := by decide +kernel
section
variable {σ : St} {G H : Hp} {Q : VK} {D : Ends} {v w x y : V} {K : PySem.W.Frag} {L : List Res} {p : Addr} {n : String} {b : Bool}
theorem g_isTy {A : Type} [TyN A] {z : A} (r : Rep G v z) (s : Same G H) (e : kitB (TyN.nm A) n = some b) (q : Q (.bl b) H) : rIsA K [v, .ty n] H Q := .inl ⟨v, .ty n, _, _, b, rfl, .ty n, TyN.ty r s, kit_ty e, q⟩
theorem g_isNo (e : kitB "NoneType" n = some b) (q : Q (.bl b) H) : rIsA K [.non, .ty n] H Q := .inl ⟨_, .ty n, _, _, b, rfl, .ty n, .base .non, kit_ty e, q⟩
/-- isinstance(x, (T1, T2)) -/
theorem g_isTy2 {A : Type} [TyN A] {z : A} {n1 n2 : String} {b1 b2 : Bool} (hp : H p = some (.tup [.ty n1, .ty n2])) (r : Rep G v z) (s : Same G H) (e1 : kitB (TyN.nm A) n1 = some b1) (e2 : kitB (TyN.nm A) n2 = some b2) (q : Q (.bl (b1 || b2)) H) : rIsA K [v, .ref p] H Q := by
  refine .inr ⟨v, p, _, _, [.type n1, .type n2], b1 || b2, rfl, hp, .cons (.ty n1) (.cons (.ty n2) .nil), TyN.ty r s, ?_, q⟩
  refine kitAny_cons (kit_ty e1) (fun h => ?_) (fun h => by rw [h]; rfl)
  subst h
  refine kitAny_cons (kit_ty e2) (fun h => ?_) (fun h => by rw [h]; rfl)
  subst h
  exact kitAny_nil
theorem g_isNo2 {n1 n2 : String} {b1 b2 : Bool} (hp : H p = some (.tup [.ty n1, .ty n2])) (e1 : kitB "NoneType" n1 = some b1) (e2 : kitB "NoneType" n2 = some b2) (q : Q (.bl (b1 || b2)) H) : rIsA K [.non, .ref p] H Q := by
  refine .inr ⟨.non, p, _, _, [.type n1, .type n2], b1 || b2, rfl, hp, .cons (.ty n1) (.cons (.ty n2) .nil), .base .non, ?_, q⟩
  refine kitAny_cons (kit_ty e1) (fun h => ?_) (fun h => by rw [h]; rfl)
  subst h
  refine kitAny_cons (kit_ty e2) (fun h => ?_) (fun h => by rw [h]; rfl)
  subst h
  exact kitAny_nil
/-! ### lists of fixed places -/
theorem g_ixC {vs : List V} {k : Int} (h : H p = some (.lst vs)) (hk : atI vs k = some w) (q : Q w H) : rIx K (.ref p) (.int k) H Q := .inl ⟨p, vs, k, w, rfl, rfl, .inl (.inl h), hk, q⟩
theorem g_setC {vs : List V} {k : Int} {j : Nat} {P : Hp → Prop} (s : Sep G H (cell p (.lst vs) :: L)) (hk : ixN vs.length k = some j) (q : ∀ H', Sep G H' (cell p (.lst (vs.set j v)) :: L) → P H') : rSetL (.ref p) (.int k) v H P := ⟨p, vs, k, j, rfl, rfl, s.cellAt, hk, q _ s.cellSet⟩
theorem g_eqB {a b : Bool} (h : Q (.bl (decide (a = b))) H) : rEqA K (.bl a) (.bl b) H Q := g_eqT (x := a) (y := b) (G := H) (G' := H) rfl rfl (Same.refl _) (Same.refl _) h
theorem g_neB {a b : Bool} (h : Q (.bl (decide (a ≠ b))) H) : rNeA K (.bl a) (.bl b) H Q := g_neT (x := a) (y := b) (G := H) (G' := H) rfl rfl (Same.refl _) (Same.refl _) h
end
theorem rep_nil_new {A : Type} [Rp A] {H : Hp} {q : Addr} : Rep (upd H q (.lst [])) (.ref q) ([] : List A) := ⟨q, [], rfl, upd_same, trivial⟩
section
variable {σ : St} {H : Hp} {Q : VK} {ta tb : TE}
theorem g_andV (h : ta σ H fun x H1 => ∃ c, x = .bl c ∧ if c = true then tb σ H1 Q else Q (.bl false) H1) : tAndV ta tb σ H Q := h
theorem g_orV (h : ta σ H fun x H1 => ∃ c, x = .bl c ∧ if c = true then Q (.bl true) H1 else tb σ H1 Q) : tOrV ta tb σ H Q := h
theorem g_notV (h : ta σ H fun x H1 => ∃ c, x = .bl c ∧ Q (.bl (!c)) H1) : tNotV ta σ H Q := h
theorem g_iteNT {A B : Prop} (h : B) : if (!true) = true then A else B := by
  rw [if_neg (by decide)]
  exact h
theorem g_iteNF {A B : Prop} (h : A) : if (!false) = true then A else B := by
  rw [if_pos (by decide)]
  exact h
end
instance {a b : Int} : Decidable (CM a b) := by
  unfold CM
  infer_instance
/-! ### promises put together -/
def SpOr (a b : Sp) : Sp := fun vs H Q E => a vs H Q E ∨ b vs H Q E
end EB

namespace EB
open PySem L2
section
variable {σ : St} {G H : Hp} {Q : VK} {D : Ends} {v w x y : V} {K : PySem.W.Frag} {L M : List Res} {C : Res} {p : Addr} {g : TG} {tbd : TS}
theorem Sep.dropL : ∀ {M : List Res}, Sep G H (M ++ L) → Sep G H L
  | [], s => s
  | _ :: _, s => Sep.dropL s.drop
/-- over a list that stands at p as it is, turn by turn -/
theorem loopC {vs : List V} (s : SqL K H p vs) (Pv : Nat → St → Hp → Prop) (h0 : Pv 0 σ H) (hl : ∀ i σ H, i ≤ vs.length → Pv i σ H → SqL K H p vs)
    (hs : ∀ i v σ H, vs[i]? = some v → Pv i σ H → g v σ H fun σ2 H2 => tbd { D with nx := Pv (i + 1), ct := Pv (i + 1), bk := D.nx } σ2 H2) (hd : ∀ σ H, Pv vs.length σ H → D.nx σ H) :
    ∃ a, V.ref p = .ref a ∧ (∃ xs, SqL K H a xs) ∧ Loop (Itl K a) g tbd D σ H := ⟨p, rfl, ⟨_, s⟩, for_list (K := K) (a := p) (xs := vs) Pv h0 hl hs hd⟩
theorem g_appC {vs : List V} (s : Sep G H (cell p (.lst vs) :: L)) (hl : vs.length < 1000000) (k : ∀ H', Sep G H' (cell p (.lst (vs ++ [v])) :: L) → Q .non H') : rAppend (.ref p) [v] H Q :=
  ⟨p, vs, v, rfl, rfl, s.cellAt, small_lt hl, k _ s.cellSet⟩
theorem g_tyC {R : Prop} {vs : List V} (h : H p = some (.lst vs)) (q : R) : tyV K "list" (.ref p) H ∧ R := ⟨.inl ⟨rfl, vs, .inl (.inl h)⟩, q⟩
theorem g_lenC {vs : List V} (h : H p = some (.lst vs)) (q : Q (.int (vs.length : Int)) H) : rLen K [.ref p] H Q := .inl ⟨vs, .inl (.inl (.inl h)), q⟩
variable {A : Type} [Rp A] {xss : List (List A)} {xs ys : List A} {i : Nat} {as : List Addr} {a : Addr}
theorem owns_focus (s : Sep G H (C :: (owns as xss ++ L))) (h1 : as[i]? = some a) (h2 : xss[i]? = some xs) : Sep G H (OwnL a xs :: C :: ((owns as xss).eraseIdx i ++ L)) :=
  s.perm ((((perm_at (owns_at h1 h2)).append_right L).cons _).trans (.swap _ _ _))
theorem owns_back (h1 : as[i]? = some a) (hi : i < xss.length) (s : Sep G H (OwnL a ys :: C :: ((owns as xss).eraseIdx i ++ L))) : Sep G H (C :: (owns as (xss.set i ys) ++ L)) := by
  have h2 : (xss.set i ys)[i]? = some ys := by simp [hi]
  refine s.perm ((List.Perm.swap _ _ _).trans (.cons _ ?_))
  rw [← owns_set (xs := ys)]
  exact ((perm_at (owns_at h1 h2)).append_right L).symm
end
end EB

namespace EB
open PySem L2
/-! ### items that hang on no heap -/
class Flat (A : Type) [Rp A] : Prop where
  flat : ∀ {G G' : Hp} {v : V} {x : A}, Rep G v x → Rep G' v x
instance : Flat Int := ⟨fun h => h⟩
instance : Flat Bool := ⟨fun h => h⟩
instance : Flat Str := ⟨fun h => h⟩
instance : Flat Raw := ⟨fun h => h⟩
theorem All2.flat {A : Type} [Rp A] [Flat A] {G G' : Hp} {vs : List V} {xs : List A} (h : All2 (Rep G) vs xs) : All2 (Rep G') vs xs := h.mono fun _ _ r => Flat.flat r
section
variable {σ : St} {G H : Hp} {Q : VK} {D : Ends} {v w x y : V} {K : PySem.W.Frag} {L : List Res} {p : Addr}
variable {A : Type} [Rp A] [Flat A] {xs ys : List A} {a : A}
theorem g_slF {lo hi : Option Int} (s : Sep G H L) (r : Rep H v xs) (q : ∀ p H', Sep G H' (OwnL p (cut xs lo hi) :: L) → Q (.ref p) H') : rSlA K v lo hi H Q := by
  obtain ⟨b, vs, rfl, h, rs⟩ := r
  exact .inl ⟨b, vs, rfl, .inl (.inl h), fun l hl => q l _ (s.ownNew hl (reps_cut rs).flat)⟩
theorem g_listF (s : Sep G H L) (r : Rep H v xs) (q : ∀ p H', Sep G H' (OwnL p xs :: L) → Q (.ref p) H') : rLst K [v] H Q := by
  obtain ⟨b, vs, rfl, h, rs⟩ := r
  exact ⟨vs, .inl (.inl (.inl h)), fun l hl => q l _ (s.ownNew hl rs.flat)⟩
theorem g_catF (s : Sep G H L) (r : Rep H v xs) (r' : Rep H w ys) (hl : xs.length + ys.length ≤ 1000000) (q : ∀ p H', Sep G H' (OwnL p (xs ++ ys) :: L) → Q (.ref p) H') : rAdd v w H Q := by
  obtain ⟨b, vs, rfl, h, rs⟩ := r
  obtain ⟨c, ws, rfl, h', rs'⟩ := r'
  exact ⟨vs, ws, h, h', by rw [rs.len, rs'.len]; exact small_le hl, fun l hl => q l _ (s.ownNew hl (rs.flat.app rs'.flat))⟩
theorem g_srtF {ns : List Int} (s : Sep G H L) (r : Rep H v ns) (q : ∀ p H', Sep G H' (OwnL p (upI ns) :: L) → Q (.ref p) H') : rSrt K [v] H Q := by
  obtain ⟨b, vs, rfl, h, rs⟩ := r
  obtain rfl := Reps.ints rs
  refine .inl ⟨b, ns, rfl, .inl (.inl h), fun ns' l h1 h2 hl => ?_⟩
  rw [upI_uniq h1 h2]
  exact q l _ (s.ownNew hl (reps_ints _))
theorem g_srtFR {ns : List Int} (s : Sep G H L) (r : Rep H v ns) (q : ∀ p H', Sep G H' (OwnL p (dnI ns) :: L) → Q (.ref p) H') : rSrtRev K [v] [.bl true] H Q := by
  obtain ⟨b, vs, rfl, h, rs⟩ := r
  obtain rfl := Reps.ints rs
  refine .inl ⟨b, ns, rfl, rfl, .inl (.inl h), fun ns' l h1 h2 hl => ?_⟩
  rw [dnI_uniq h1 h2]
  exact q l _ (s.ownNew hl (reps_ints _))
theorem g_rvF (s : Sep G H L) (r : Rep H v xs) (q : ∀ p H', Sep G H' (OwnL p xs.reverse :: L) → Q (.ref p) H') : rRev K v H Q := by
  obtain ⟨b, vs, rfl, h, rs⟩ := r
  exact ⟨b, vs, rfl, .inl (.inl h), fun l hl => q l _ (s.ownNew hl rs.rev.flat)⟩
end
/-! ### list(range(..)), max, min, any, all -/
def rng (a b : Int) : List Int := (List.range (b - a).toNat).map fun i : Nat => a + (i : Int)
def rMax1 (K : PySem.W.Frag) : List V → Hp → VK → Prop := rMax K
def rMin1 (K : PySem.W.Frag) : List V → Hp → VK → Prop := rMin K
theorem cMax {X : Cx} (hc : X.calm = true) : CallR X (.builtin "max") (rMax1 X.K) := cr_max hc
theorem cMin {X : Cx} (hc : X.calm = true) : CallR X (.builtin "min") (rMin1 X.K) := cr_min hc
def rAny1 (K : PySem.W.Frag) : List V → Hp → VK → Prop := L2.rAny K
def rAll1 (K : PySem.W.Frag) : List V → Hp → VK → Prop := L2.rAll K
theorem cAny {X : Cx} (hc : X.calm = true) : CallR X (.builtin "any") (rAny1 X.K) := cr_any hc
theorem cAll {X : Cx} (hc : X.calm = true) : CallR X (.builtin "all") (rAll1 X.K) := cr_all hc
section
variable {σ : St} {G H : Hp} {Q : VK} {D : Ends} {v w x y : V} {K : PySem.W.Frag} {L : List Res} {p : Addr} {te tb : TE}
def rRg1 (x : V) (H1 : Hp) (Q : VK) : Prop := ∃ n, x = .int n ∧ RgOk 0 n ∧ ∀ q, H1 q = none → Q (.ref q) (upd H1 q (.lst (rgV 0 n)))
theorem g_lstRg1 (h : te σ H fun x H1 => rRg1 x H1 Q) : tLstRg (tRg1 te) σ H Q := h
theorem rgV_eq (a b : Int) : rgV a b = (rng a b).map V.int := by
  simp [rgV, rng, List.map_map]
theorem g_rg1 {n : Int} (s : Sep G H L) (h0 : 0 ≤ n) (h1 : n < 1000000) (q : ∀ p H', Sep G H' (OwnL p (rng 0 n) :: L) → Q (.ref p) H') : rRg1 (.int n) H Q := by
  refine ⟨n, rfl, .of_le (by decide) (by omega) (by decide) h0, fun l hl => ?_⟩
  rw [rgV_eq]
  exact q l _ (s.ownNew hl (reps_ints _))
theorem g_max1 {ns : List Int} (r : Rep G v ns) (s : Same G H) (h : 0 < ns.length) (q : ∀ m, m ∈ ns → (∀ y, y ∈ ns → y ≤ m) → Q (.int m) H) : rMax1 K [v] H Q := by
  obtain ⟨b, vs, rfl, h', rs⟩ := r
  obtain rfl := Reps.ints rs
  exact ⟨b, ns, rfl, .inl (.inl (s _ _ h')), h, q⟩
theorem g_min1 {ns : List Int} (r : Rep G v ns) (s : Same G H) (h : 0 < ns.length) (q : ∀ m, m ∈ ns → (∀ y, y ∈ ns → m ≤ y) → Q (.int m) H) : rMin1 K [v] H Q := by
  obtain ⟨b, vs, rfl, h', rs⟩ := r
  obtain rfl := Reps.ints rs
  exact ⟨b, ns, rfl, .inl (.inl (s _ _ h')), h, q⟩
theorem g_any {bs : List Bool} (r : Rep G v bs) (s : Same G H) (q : Q (.bl (bs.any id)) H) : rAny1 K [v] H Q := by
  obtain ⟨b, vs, rfl, h', rs⟩ := r
  obtain rfl := Reps.bls rs
  exact ⟨b, bs, rfl, .inl (.inl (s _ _ h')), q⟩
theorem g_all {bs : List Bool} (r : Rep G v bs) (s : Same G H) (q : Q (.bl (bs.all id)) H) : rAll1 K [v] H Q := by
  obtain ⟨b, vs, rfl, h', rs⟩ := r
  obtain rfl := Reps.bls rs
  exact ⟨b, bs, rfl, .inl (.inl (s _ _ h')), q⟩
end
end EB

namespace EB
open PySem L2
/-! ### dict comprehensions over lists, keys ints -/
def DcLoop (J : It) (g : TG) (tt : TT) (tk tv : TE) (σ : St) (vs : List Nat) (Q : VK) (H1 : Hp) : Prop := ∀ D, H1 D = none → ∃ W : Nat → Nat → Hp → Prop, (∃ m, W 0 m (upd H1 D (.dK []))) ∧ ∀ i m H, W i m H →
  (J.stop i H ∧ Q (.ref D) H) ∨ (J.go i H ∧ ∃ Nx : Hp → Prop, (∀ H', Nx H' → ∃ m', m' < m ∧ W (i + 1) m' H') ∧ ∀ x H', J.yld i H x H' → g x (wipe σ vs) H' fun σ2 H2 => wipe σ2 vs = wipe σ vs ∧ tt σ2 H2 fun b H3 =>
    if b = true then tk σ2 H3 fun y H4 => tv σ2 H4 fun z H5 => ∃ kvs k, y = kV k ∧ H5 D = some (.dK kvs) ∧ kvs.length < sizeLine ∧ Nx (upd H5 D (.dK (putK kvs k z))) else Nx H3)
def DNxt (G : Hp) (D : Addr) (I : List (Int × V) → List Res → Prop) : Hp → Prop := fun H' => ∃ acc G' Lc, I acc Lc ∧ Same G G' ∧ Sep G' H' (cell D (.dK (kvI acc)) :: Lc)
def DPt (G : Hp) (D : Addr) (I : List (Int × V) → List Res → Prop) (y z : V) : Hp → Prop := fun H5 => ∃ kvs k, y = kV k ∧ H5 D = some (.dK kvs) ∧ kvs.length < sizeLine ∧ DNxt G D I (upd H5 D (.dK (putK kvs k z)))
section
variable {σ : St} {G H : Hp} {Q : VK} {E : Ends} {ta tb te tl tk tv : TE} {tt : TT} {v w x y z : V} {K : PySem.W.Frag} {L : List Res} {g : TG} {vs : List Nat} {p q : Addr}
theorem g_dc {wi : TI} (h : wi σ H fun J H1 => DcLoop J g tt tk tv σ vs Q H1) : tDc wi g tt tk tv vs σ H Q := h
theorem dput_of {I : List (Int × V) → List Res → Prop} {G4 H4 : Hp} {D : Addr} {acc : List (Int × V)} {Lc : List Res} {n : Int} (u : Same G G4) (t : Sep G4 H4 (cell D (.dK (kvI acc)) :: Lc)) (hl : acc.length < 1000000) (hn : n ∉ acc.map (·.1)) (h : I (acc ++ [(n, z)]) Lc) : DPt G D I (.int n) z H4 :=
  ⟨kvI acc, .inl n, rfl, t.cellAt, by unfold kvI; rw [List.length_map]; exact small_lt hl, acc ++ [(n, z)], G4, Lc, h, u, by rw [kvI_put hn]; exact t.cellSet⟩
theorem dcL {A : Type} [Rp A] {xs : List A} (r : Rep G v xs) (s : Sep G H L) (I : Nat → List (Int × V) → List Res → Prop) (h0 : I 0 [] L)
    (hs : ∀ i v x D acc G' H' Lc, xs[i]? = some x → Rep G' v x → I i acc Lc → Same G G' → Sep G' H' (cell D (.dK (kvI acc)) :: Lc) →
      g v (wipe σ vs) H' fun σ2 H3 => wipe σ2 vs = wipe σ vs ∧ tt σ2 H3 fun b H4 => if b = true then tk σ2 H4 fun y H5 => tv σ2 H5 fun z H6 => DPt G D (I (i + 1)) y z H6 else DNxt G D (I (i + 1)) H4)
    (hd : ∀ D acc G' H' Lc, I xs.length acc Lc → Same G G' → Sep G' H' (cell D (.dK (kvI acc)) :: Lc) → Q (.ref D) H') :
    ∃ a, v = .ref a ∧ (∃ xs, SqL K H a xs) ∧ DcLoop (Itl K a) g tt tk tv σ vs Q H := by
  obtain ⟨p, ws, rfl, h, rs⟩ := id r
  have sq : ∀ {H'}, Same G H' → SqL K H' p ws := fun s => .inl (.inl (s _ _ h))
  refine ⟨p, rfl, ⟨ws, sq s.gh⟩, fun D hD => ?_⟩
  refine ⟨fun i m H => m = ws.length - i ∧ i ≤ ws.length ∧ DNxt G D (I i) H, ⟨ws.length, by simp, Nat.zero_le _, [], G, L, h0, Same.refl _, s.cellNew hD⟩, ?_⟩
  rintro i m H' ⟨rfl, hi, acc, G', Lc, pI, u, t⟩
  have wk := walk_list (K := K) (a := p) (xs := ws)
  have q := sq (u.trans t.gh)
  by_cases hlt : i < ws.length
  · refine .inr ⟨wk.goes i H' hlt q, DNxt G D (I (i + 1)), fun H2 p' => ⟨ws.length - (i + 1), by omega, rfl, hlt, p'⟩, fun x H2 y => ?_⟩
    obtain ⟨e, hy⟩ := wk.yields i H' x H2 hlt q y
    subst e
    obtain ⟨z, hz, rz⟩ := rs.get' hy
    exact hs i x z D acc G' H2 Lc hz (rz.up u) pI u t
  · have e : i = ws.length := by omega
    subst e
    exact .inl ⟨wk.stops H' q, hd D acc G' H' Lc (by rw [← rs.len]; exact pI) u t⟩
/-! a name set to a dict comprehension -/
theorem swD {kx vx : Expr} {gs : List Comprehension} {scope : Scope} {pos py : Pos} {y : Str} {l : Nat} {env : Env} (hk : env.scope.kind = .function) (hy : env.scope.names.lookup y = some .local) (hl : (py.line == pos.line) = true)
    (hn : (scope.names.any fun (n, k) => n == y && (k == .local || k == .cell)) = false) : swapsWith (.DictComp kx vx gs scope pos) (some (.Name y py)) l env = pure true := by
  have e1 : env.kindOf y = some .local := hy
  have e2 : env.blockKind = .function := by
    unfold Env.blockKind
    rw [hk]
    rfl
  unfold swapsWith
  simp only [e2, e1, hn, Expr.pos, hl]
  rfl
theorem ps_setDc {X : Cx} {i : Nat} {y : Str} {py : Pos} {kx vx tg iter : Expr} {ifs : List Expr} {scope : Scope} {own : List (Str × Nat)} {pos spos : Pos} {wi : TI} {g : TG} {tt : TT} {tk tv : TE} (hc : X.calm = true) (hN : X.N.Nodup) (hy : X.N[i]? = some y) (hyl : X.env.scope.names.lookup y = some .local)
    (hsw : swapsWith (.DictComp kx vx [⟨tg, iter, ifs, 0⟩] scope pos) (some (.Name y py)) spos.line X.env = pure true) (hi : PI X tg iter wi) (ok : BlkOk X.N X.env.scope scope own)
    (hg : ∀ (s : Shared) (H : Hp) (C : Addr) (cl : List (Str × Addr)) (fp : List Addr), PG (X.blk s H scope (compEnvC scope cl C X.env) fp) tg g) (ht : ∀ (s : Shared) (H : Hp) (C : Addr) (cl : List (Str × Addr)) (fp : List Addr), PTs (X.blk s H scope (compEnvC scope cl C X.env) fp) ifs tt)
    (hk : ∀ (s : Shared) (H : Hp) (C : Addr) (cl : List (Str × Addr)) (fp : List Addr), PE (X.blk s H scope (compEnvC scope cl C X.env) fp) kx tk)
    (hv : ∀ (s : Shared) (H : Hp) (C : Addr) (cl : List (Str × Addr)) (fp : List Addr), PE (X.blk s H scope (compEnvC scope cl C X.env) fp) vx tv) (hs : ∀ x, foldedSetIterable iter X.env x = pure x := by intro _; rfl) :
    PS X (.Assign [.Name y py] (.DictComp kx vx [⟨tg, iter, ifs, 0⟩] scope pos) spos) (tAsg (tDc wi g tt tk tv (own.map (·.2))) (gName i)) := by
  refine ⟨fun pins s σ H D I hh => ?_⟩
  rw [exec_Assign_Name_used _ _ _ _ hsw]
  refine wpAny_bind (wpAny_standAt (wpAny_bind ?_))
  show wpAny _ X.A (do let _ ← comprehension (.DictComp kx vx [⟨tg, iter, ifs, 0⟩] scope pos) scope X.env (firstIterPos [⟨tg, iter, ifs, 0⟩] pos) newDict false (eval iter X.env) (some (assign (.Name y py) X.env))) _ _ s
  have hh : tDc wi g tt tk tv (own.map (·.2)) σ H (fun x H1 => gName i x σ H1 D.nx) := hh
  refine wpAny_bind (thn (dc_core (Qf := fun _ s' => SP X pins D .next s') hc hN I hi ok hg ht hk hv hs hh fun d C s' m H' J qq nn ff => ?_) fun _ s' qz => wpAny_pure (wpAny_pure qz))
  show wpAny _ _ (assign (.Name y py) X.env (.ref d)) _ _ _
  refine wpAny_assign_Name (store_ok2 (v := V.ref d) J hN hy (.inl hyl) rfl (fun s2 J2 ⟨a, sb, ha⟩ => ?_) (.inr hyl))
  obtain ⟨f0, f1, f2, f3, f4, f5⟩ := ff
  have other : C ≠ a := ha.elim (fun z => by rw [z]; exact f1) fun z e => f4 y a z e.symm
  refine ⟨m, nn.sameBut sb other, fun h3 sb3 => ⟨_, H', J2.turned (t' := s2.toks) (fun b o hb e => ?_) f0 f1 f3 f4 f5, qq⟩⟩
  exact (sb3.2 b hb).trans e
/-! ### dict(pairs), del d[k], d != {} -/
def rDictP (K : PySem.W.Frag) : List V → Hp → VK → Prop := fun xs H Q => ∃ (a : Addr) (ps : List Addr) (kvs : List (Key × V)), xs = [.ref a] ∧ SqL K H a (ps.map V.ref) ∧ Paired (fun p kv => SqT K H p [kV kv.1, kv.2]) ps kvs ∧
    ∀ p, H p = none → Q (.ref p) (upd H p (.dK (mergeK [] kvs)))
theorem cDict {X : Cx} (hc : X.calm = true) : CallR X (.type "dict") (rDictP X.K) := call_dictP hc
theorem kvI_merge : ∀ (more acc : List (Int × V)), ((acc ++ more).map (·.1)).Nodup → mergeK (kvI acc) (kvI more) = kvI (acc ++ more)
  | [], acc, _ => by rw [List.append_nil]; rfl
  | (n, v) :: more, acc, h => by
    have hn : n ∉ acc.map (·.1) := by
      rw [List.map_append, List.nodup_append] at h
      intro hm
      exact h.2.2 n hm n (by simp) rfl
    show mergeK (putK (kvI acc) (.inl n) v) (kvI more) = _
    rw [kvI_put hn, kvI_merge more (acc ++ [(n, v)]) (by simpa using h)]
    simp
def intD (gs : List (Int × Int)) : List (Int × V) := gs.map fun g => (g.1, V.int g.2)
theorem pairs_of {H : Hp} : ∀ {vs : List V} {gs : List (Int × Int)}, Reps G vs gs → Same G H → ∃ ps : List Addr, vs = ps.map V.ref ∧ Paired (fun p (kv : Key × V) => SqT K H p [kV kv.1, kv.2]) ps (kvI (intD gs))
  | [], [], _, _ => ⟨[], rfl, .nil⟩
  | v :: vs, x :: gs, ⟨r, rs⟩, s => by
    obtain ⟨ps, e, h⟩ := pairs_of rs s
    obtain ⟨p, a, b, rfl, hp, ra, rb⟩ := r
    obtain rfl := Rep.int ra
    obtain rfl := Rep.int rb
    exact ⟨p :: ps, by rw [e]; rfl, .cons (.inl (.inl (s _ _ hp))) h⟩
theorem g_dictP {gs : List (Int × Int)} (s : Sep G H L) (r : Rep G v gs) (nd : (gs.map (·.1)).Nodup) (q : ∀ p H', Sep G H' (cell p (.dK (kvI (intD gs))) :: L) → Q (.ref p) H') : rDictP K [v] H Q := by
  obtain ⟨b, vs, rfl, h, rs⟩ := r
  obtain ⟨ps, rfl, hp⟩ := pairs_of (K := K) rs s.gh
  refine ⟨b, ps, _, rfl, .inl (.inl (s.gh _ _ h)), hp, fun l hl => ?_⟩
  have e : mergeK [] (kvI (intD gs)) = kvI (intD gs) := kvI_merge (intD gs) [] (by
    have : ((intD gs).map (·.1)) = gs.map (·.1) := by simp [intD, List.map_map, Function.comp_def]
    rw [List.nil_append, this]
    exact nd)
  rw [e]
  exact q l _ (s.cellNew hl)
theorem intD_get {gs : List (Int × Int)} {n : Int} : (intD gs).lookup n = (gs.lookup n).map V.int := by
  induction gs with
  | nil => rfl
  | cons g r ih =>
    obtain ⟨a, b⟩ := g
    by_cases e : n = a
    · subst e
      simp [intD, List.lookup]
    · have e2 : (n == a) = false := by simpa using e
      show List.lookup n ((a, V.int b) :: intD r) = _
      simp only [List.lookup, e2]
      exact ih
theorem dI_at {P : Addr → V → Prop} {xs : List (Int × V)} {n : Int} (h : H p = some (.dK (kvI xs))) (e : xs.lookup n = some v) (q : P p v) : ∃ a v, V.ref p = .ref a ∧ DGet H a (.int n) (some v) ∧ P a v := ⟨p, v, rfl, (by
  have := DGet.k (k := .inl n) h
  rw [kvI_get, e] at this
  exact this), q⟩
def rDel (x y : V) (H2 : Hp) (P : Hp → Prop) : Prop := ∃ a kvs k, x = .ref a ∧ H2 a = some (.dK kvs) ∧ y = kV k ∧ (valV kvs k).isSome = true ∧ P (upd H2 a (.dK (dropK kvs k)))
theorem g_del (h : ta σ H fun x H1 => tb σ H1 fun y H2 => rDel x y H2 fun H' => E.nx σ H') : sDDel ta tb E σ H := h
theorem dI_del {P : Hp → Prop} {xs : List (Int × V)} {n : Int} (s : Sep G H (cell p (.dK (kvI xs)) :: L)) (hm : n ∈ xs.map (·.1)) (k : ∀ H', Sep G H' (cell p (.dK (kvI (xs.filter fun z => decide (z.1 ≠ n)))) :: L) → P H') : rDel (.ref p) (.int n) H P := by
  refine ⟨p, kvI xs, .inl n, rfl, s.cellAt, rfl, ?_, ?_⟩
  · rw [kvI_get]
    cases e : xs.lookup n with
    | some _ => rfl
    | none => exact absurd hm (lookup_none.mp e)
  · rw [kvI_drop]
    exact k _ s.cellSet
theorem g_neD0 (h1 : H p = some (.dK [])) (h2 : H q = some (.dK [])) (k : Q (.bl false) H) : rNeDA (.ref p) (.ref q) H Q := ⟨p, q, [], [], rfl, rfl, h1, h2, rfl, (fun _ h => by cases h), k⟩
end
end EB

namespace EB
open PySem L2
/-! ### comprehensions with two fors -/
def Inner (J1 : It) (g1 : TG) (tt1 : TT) (te : TE) (σ2 : St) (vs1 : List Nat) (D : Addr) (N : Hp → Prop) (H4 : Hp) : Prop := ∃ W1 : Nat → Nat → Hp → Prop, (∃ m, W1 0 m H4) ∧ ∀ j k H, W1 j k H →
      (J1.stop j H ∧ N H) ∨ (J1.go j H ∧ ∃ Nx1 : Hp → Prop, (∀ H', Nx1 H' → ∃ k', k' < k ∧ W1 (j + 1) k' H') ∧ ∀ x H', J1.yld j H x H' → g1 x (wipe σ2 vs1) H' fun σ3 H5 => wipe σ3 vs1 = wipe σ2 vs1 ∧ tt1 σ3 H5 fun b H6 =>
        if b = true then te σ3 H6 fun y H7 => ∃ acc, H7 D = some (.lst acc) ∧ acc.length < sizeLine ∧ Nx1 (upd H7 D (.lst (acc ++ [y]))) else Nx1 H6)
def Lc2Loop (J : It) (g : TG) (tt : TT) (wi1 : TI) (g1 : TG) (tt1 : TT) (te : TE) (σ : St) (vs vs1 : List Nat) (Q : VK) (H1 : Hp) : Prop := ∀ D, H1 D = none → ∃ W : Nat → Nat → Hp → Prop, (∃ m, W 0 m (upd H1 D (.lst []))) ∧ ∀ i m H, W i m H →
  (J.stop i H ∧ Q (.ref D) H) ∨ (J.go i H ∧ ∃ Nx : Hp → Prop, (∀ H', Nx H' → ∃ m', m' < m ∧ W (i + 1) m' H') ∧ ∀ x H', J.yld i H x H' → g x (wipe σ vs) H' fun σ2 H2 => wipe σ2 vs = wipe σ vs ∧ tt σ2 H2 fun b H3 =>
    if b = true then wi1 σ2 H3 fun J1 H4 => Inner J1 g1 tt1 te σ2 vs1 D Nx H4 else Nx H3)
section
variable {σ σ2 : St} {G H : Hp} {Q : VK} {te : TE} {tt tt1 : TT} {v : V} {K : PySem.W.Frag} {L : List Res} {g g1 : TG} {wi1 : TI} {vs vs1 : List Nat} {D : Addr}
theorem g_lc2 {wi : TI} (h : wi σ H fun J H1 => Lc2Loop J g tt wi1 g1 tt1 te σ vs vs1 Q H1) : tLc2 wi g tt wi1 g1 tt1 te vs vs1 σ H Q := h
variable {B : Type} [Rp B]
theorem lc2L {A : Type} [Rp A] {xs : List A} (r : Rep G v xs) (s : Sep G H L) (I : Nat → List B → List Res → Prop) (h0 : I 0 [] L)
    (hs : ∀ i v x D acc G' H' Lc, xs[i]? = some x → Rep G' v x → I i acc Lc → Same G G' → Sep G' H' (OwnL D acc :: Lc) →
      g v (wipe σ vs) H' fun σ2 H3 => wipe σ2 vs = wipe σ vs ∧ tt σ2 H3 fun b H4 => if b = true then wi1 σ2 H4 (fun J1 H5 => Inner J1 g1 tt1 te σ2 vs1 D (Nxt G D (I (i + 1))) H5) else Nxt G D (I (i + 1)) H4)
    (hd : ∀ D acc G' H' Lc, I xs.length acc Lc → Same G G' → Sep G' H' (OwnL D acc :: Lc) → Q (.ref D) H') :
    ∃ a, v = .ref a ∧ (∃ xs, SqL K H a xs) ∧ Lc2Loop (Itl K a) g tt wi1 g1 tt1 te σ vs vs1 Q H := by
  obtain ⟨p, ws, rfl, h, rs⟩ := id r
  have sq : ∀ {H'}, Same G H' → SqL K H' p ws := fun s => .inl (.inl (s _ _ h))
  refine ⟨p, rfl, ⟨ws, sq s.gh⟩, fun D hD => ?_⟩
  refine ⟨fun i m H => m = ws.length - i ∧ i ≤ ws.length ∧ Nxt G D (I i) H, ⟨ws.length, by simp, Nat.zero_le _, [], G, L, h0, Same.refl _, s.ownNew (vs := []) (xs := ([] : List B)) hD trivial⟩, ?_⟩
  rintro i m H' ⟨rfl, hi, acc, G', Lc, pI, u, t⟩
  have wk := walk_list (K := K) (a := p) (xs := ws)
  have q := sq (u.trans t.gh)
  by_cases hlt : i < ws.length
  · refine .inr ⟨wk.goes i H' hlt q, Nxt G D (I (i + 1)), fun H2 p' => ⟨ws.length - (i + 1), by omega, rfl, hlt, p'⟩, fun x H2 y => ?_⟩
    obtain ⟨e, hy⟩ := wk.yields i H' x H2 hlt q y
    subst e
    obtain ⟨z, hz, rz⟩ := rs.get' hy
    exact hs i x z D acc G' H2 Lc hz (rz.up u) pI u t
  · have e : i = ws.length := by omega
    subst e
    exact .inl ⟨wk.stops H' q, hd D acc G' H' Lc (by rw [← rs.len]; exact pI) u t⟩
/-- the inner one, over a list -/
theorem inL {C : Type} [Rp C] {ys : List C} {N : Hp → Prop} (r : Rep G v ys) (I : Nat → List B → List Res → Prop) (s : Same G H) (h0 : Nxt G D (I 0) H)
    (hs : ∀ j v y acc G' H' Lc, ys[j]? = some y → Rep G' v y → I j acc Lc → Same G G' → Sep G' H' (OwnL D acc :: Lc) →
      g1 v (wipe σ2 vs1) H' fun σ3 H5 => wipe σ3 vs1 = wipe σ2 vs1 ∧ tt1 σ3 H5 fun b H6 => if b = true then te σ3 H6 (Put G D (I (j + 1))) else Nxt G D (I (j + 1)) H6)
    (hd : ∀ H', Nxt G D (I ys.length) H' → N H') : ∃ a, v = .ref a ∧ (∃ xs, SqL K H a xs) ∧ Inner (Itl K a) g1 tt1 te σ2 vs1 D N H := by
  obtain ⟨p, ws, rfl, h, rs⟩ := id r
  have sq : ∀ {H'}, Same G H' → SqL K H' p ws := fun s => .inl (.inl (s _ _ h))
  refine ⟨p, rfl, ⟨ws, sq s⟩, fun j m H => m = ws.length - j ∧ j ≤ ws.length ∧ Nxt G D (I j) H, ⟨ws.length, by simp, Nat.zero_le _, h0⟩, ?_⟩
  rintro j m H' ⟨rfl, hj, acc, G', Lc, pI, u, t⟩
  have wk := walk_list (K := K) (a := p) (xs := ws)
  have q := sq (u.trans t.gh)
  by_cases hlt : j < ws.length
  · refine .inr ⟨wk.goes j H' hlt q, Nxt G D (I (j + 1)), fun H2 p' => ⟨ws.length - (j + 1), by omega, rfl, hlt, p'⟩, fun x H2 y => ?_⟩
    obtain ⟨e, hy⟩ := wk.yields j H' x H2 hlt q y
    subst e
    obtain ⟨z, hz, rz⟩ := rs.get' hy
    exact hs j x z acc G' H2 Lc hz (rz.up u) pI u t
  · have e : j = ws.length := by omega
    subst e
    exact .inl ⟨wk.stops H' q, hd H' ⟨acc, G', Lc, by rw [← rs.len]; exact pI, u, t⟩⟩
theorem Nxt.up {G G' : Hp} {I : List B → List Res → Prop} {H : Hp} (u : Same G G') (h : Nxt G' D I H) : Nxt G D I H := by
  obtain ⟨acc, G2, Lc, x, y, z⟩ := h
  exact ⟨acc, G2, Lc, x, u.trans y, z⟩
end
end EB

namespace EB
open PySem L2
/-! ### objects of an own class -/
/-- x.f -/
def rFld (K : PySem.W.Frag) (f : Str) (x : V) (H1 : Hp) (Q : VK) : Prop := ∃ a C dx fs v, x = .ref a ∧ H1 a = some (.ins C dx fs) ∧ Cls K C ∧ NoAttr K C f ∧ fs.lookup f = some v ∧ Q v H1
/-- x.f = y -/
def rSF (K : PySem.W.Frag) (f : Str) (y x : V) (H2 : Hp) (P : Hp → Prop) : Prop := ∃ a C dx fs, x = .ref a ∧ H2 a = some (.ins C dx fs) ∧ Cls K C ∧ NoAttr K C f ∧ fs.length < 1000 ∧ P (upd H2 a (.ins C dx (putF f y fs)))
/-- x.m(..), ahead of the arguments -/
def rMth (C : Addr) (m : Str) (x : V) (H1 : Hp) (R : Prop) : Prop := ∃ a dx fs, x = .ref a ∧ H1 a = some (.ins C dx fs) ∧ fs.lookup m = none ∧ R
section
variable {σ : St} {G H : Hp} {Q : VK} {D : Ends} {ta tv : TE} {v w x y : V} {K : PySem.W.Frag} {L : List Res} {p C dx : Addr} {f m : Str} {fs : List (Str × V)} {sp : Sp} {dvs : List V} {E : XK} {t : TA}
theorem g_fld (h : ta σ H fun x H1 => rFld K f x H1 Q) : tFld K ta f σ H Q := h
theorem g_sfld (h : tv σ H fun y H1 => ta σ H1 fun x H2 => rSF K f y x H2 fun H3 => D.nx σ H3) : sFld K ta tv f D σ H := h
theorem g_meth (h : ta σ H fun x H1 => rMth C m x H1 (t σ H1 fun vs H2 => sp (x :: (vs ++ dvs)) H2 Q E)) : tMeth C m sp dvs E ta t σ H Q := h
theorem g_make (h : t σ H fun vs H1 => ∀ x dx, H1 x = none → H1 dx = none → dx ≠ x → sp (.ref x :: (vs ++ dvs)) (upd (upd H1 dx (.own x)) x (.ins C dx [])) (fun v H2 => v = .non ∧ Q (.ref x) H2) E) : tMake C sp dvs E t σ H Q := h
theorem o_fld (c : Cls K C) (n : NoAttr K C f) (s : Sep G H (cell p (.ins C dx fs) :: L)) (e : fs.lookup f = some v) (q : Q v H) : rFld K f (.ref p) H Q := ⟨p, C, dx, fs, v, rfl, s.cellAt, c, n, e, q⟩
theorem o_set {P : Hp → Prop} (c : Cls K C) (n : NoAttr K C f) (s : Sep G H (cell p (.ins C dx fs) :: L)) (hl : fs.length < 1000) (q : ∀ H', Sep G H' (cell p (.ins C dx (putF f y fs)) :: L) → P H') : rSF K f y (.ref p) H P := ⟨p, C, dx, fs, rfl, s.cellAt, c, n, hl, q _ s.cellSet⟩
theorem o_mth {R : Prop} (s : Sep G H (cell p (.ins C dx fs) :: L)) (e : fs.lookup m = none) (q : R) : rMth C m (.ref p) H R := ⟨p, dx, fs, rfl, s.cellAt, e, q⟩
end
abbrev Met := @C8.Met
abbrev Mak := @C8.Mak
section
variable {P : Program} {w : World} {K : PySem.W.Frag} {mg : Str → Option Value} {base : Heap}
theorem met_of {k : Nat} {C f : Addr} {m : Str} {sp : Sp} {fd : FuncData} {ps : List Str} (c : Cls K C) (me : Meth K C m f) (F : FnOk P w K mg base CX0 k f fd ps sp) (b : Binds K fd ps []) : Met P w K mg base k C m sp [] := ⟨f, fd, ps, [], c, me, F, b, .nil⟩
theorem mak_of {k : Nat} {C f : Addr} {x : Str} {sp : Sp} {fd : FuncData} {ps : List Str} (me : Mk K C f) (hm : mg x = some (.ref C)) (F : FnOk P w K mg base CX0 k f fd ps sp) (b : Binds K fd ps []) : Mak P w K mg base k x C sp [] := ⟨f, fd, ps, [], me, F, hm, b, .nil⟩
theorem pe_mk0 {X : Cx} {k j : Nat} {C : Addr} {x : Str} {sp : Sp} {p pos : Pos} (c : Mak X.prog X.w X.K X.mg X.base k x C sp []) (hr : Room j X.A) (hk : k + 1 ≤ j) (hg : Gl X x) (hdb : (x == ("__debug__" : Str)) = false := by decide)
    : PE X (.Call (.Name x p) [] [] pos) (tMake C sp [] E0 tNil) := by
  obtain ⟨f, fd, ps, ds, M, F, hm, b, d⟩ := c.ex
  exact pe_make0 M F (hr.mono hk) hg hm b d pass0 hdb
end
end EB

namespace EB
open PySem L2
/-! ### what was made over a snapshot, put beside what there was -/
theorem Star.move {G G' : Hp} : ∀ {M : List Res} {h : Hp}, (∀ R ∈ M, ∀ h, R.P G' h → R.P G h) → Star M G' h → Star M G h
  | [], _, _, x => x
  | R :: M, h, f, ⟨h1, h2, j, p, q⟩ => ⟨h1, h2, j, f R (List.mem_cons_self ..) h1 p, Star.move (fun R hR => f R (List.mem_cons_of_mem _ hR)) q⟩
theorem Sep.merge {G H G' H' : Hp} {L M : List Res} (s : Sep G H L) (u : Same H G') (t : Sep G' H' M) (f : ∀ R ∈ M, ∀ h, R.P G' h → R.P G h) : Sep G H' (M ++ L) := by
  obtain ⟨h1, x1, y1, z1⟩ := s.ex
  obtain ⟨h2, x2, y2, z2⟩ := t.ex
  have hd : ∀ a, h2 a ≠ none → h1 a = none := fun a ha => by
    cases e : h1 a with
    | none => rfl
    | some o =>
      have := u _ _ (y1 _ _ e)
      rw [z2 a ha] at this
      cases this
  refine ⟨s.gh.trans (u.trans t.gh), fun a => if h2 a = none then h1 a else h2 a, star_app.mpr ⟨h2, h1, fun a => ?_, x2.move f, x1⟩, fun a o e => ?_, fun a ha => ?_⟩
  · by_cases c : h2 a = none
    · exact .inl ⟨c, by simp [c]⟩
    · exact .inr ⟨hd a c, by simp [c]⟩
  · by_cases c : h2 a = none
    · simp only [c, if_true] at e
      exact t.gh _ _ (u _ _ (y1 _ _ e))
    · simp only [c, if_false] at e
      exact y2 _ _ e
  · by_cases c : h2 a = none
    · simp only [c, if_true] at ha
      exact z1 a ha
    · cases e : G a with
      | none => rfl
      | some o =>
        have := u _ _ (s.gh _ _ e)
        rw [z2 a c] at this
        cases this
theorem ownF_move {A : Type} [Rp A] [Flat A] {G G' : Hp} {p : Addr} {xs : List A} : ∀ h, (OwnL p xs).P G' h → (OwnL p xs).P G h := fun _ ⟨vs, e, r⟩ => ⟨vs, e, All2.flat r⟩
theorem cell_move {G G' : Hp} {p : Addr} {o : HO} : ∀ h, (cell p o).P G' h → (cell p o).P G h := fun _ x => x
theorem owns_move {A : Type} [Rp A] [Flat A] {G G' : Hp} : ∀ {as : List Addr} {xss : List (List A)}, ∀ R ∈ owns as xss, ∀ h, R.P G' h → R.P G h
  | [], _, R, hR, _, _ => by simp [owns] at hR
  | _ :: _, [], R, hR, _, _ => by simp [owns] at hR
  | a :: as, x :: xss, R, hR, h, hp => by
    have hR : R ∈ OwnL a x :: owns as xss := hR
    rcases List.mem_cons.mp hR with rfl | hR
    · exact ownF_move h hp
    · exact owns_move R hR h hp
section
variable {G H : Hp} {Q : VK} {K : PySem.W.Frag} {L : List Res} {p : Addr} {v : V}
variable {A : Type} [Rp A] {ys : List A} {a b : A}
/-- xs[-1] = e -/
theorem g_setLast {P : Hp → Prop} (s : Sep G H (OwnL p (ys ++ [a]) :: L)) (r : Rep G v b) (q : ∀ H', Sep G H' (OwnL p (ys ++ [b]) :: L) → P H') : rSetL (.ref p) (.int (-1)) v H P := by
  obtain ⟨vs, rs, s⟩ := s.ownO
  have hl := rs.len
  rw [List.length_append, List.length_singleton] at hl
  refine ⟨p, vs, -1, ys.length, rfl, rfl, s.cellAt, ?_, q _ (s.cellSet.ownI ?_)⟩
  · unfold ixN
    rw [if_neg (by decide), if_pos (by omega)]
    congr 1
    omega
  · have := rs.set ys.length r
    rwa [List.set_append_right _ _ (Nat.le_refl _), Nat.sub_self] at this
end
section
variable {σ : St} {G H : Hp} {Q : VK} {te : TE} {tt : TT} {v : V} {K : PySem.W.Frag} {L : List Res} {g : TG} {vs : List Nat} {p : Addr}
/-- what a turn of a comprehension over a list at p leaves, that list put by -/
def Bsd {B : Type} (p : Addr) (ws : List V) (I : List B → List Res → Prop) : List B → List Res → Prop := fun acc L' => ∃ Lc, L' = cell p (.lst ws) :: Lc ∧ I acc Lc
variable {B : Type} [Rp B]
/-- a comprehension over a list of its own -/
theorem lcC {A : Type} [Rp A] {xs : List A} {ws : List V} (rs : Reps G ws xs) (s : Sep G H (cell p (.lst ws) :: L)) (I : Nat → List B → List Res → Prop) (h0 : I 0 [] L)
    (hs : ∀ i v x D acc G' H' Lc, xs[i]? = some x → Rep G' v x → I i acc Lc → Same G G' → Sep G' H' (OwnL D acc :: cell p (.lst ws) :: Lc) →
      g v (wipe σ vs) H' fun σ2 H3 => wipe σ2 vs = wipe σ vs ∧ tt σ2 H3 fun b H4 => if b = true then te σ2 H4 (Put G D (Bsd p ws (I (i + 1)))) else Nxt G D (Bsd p ws (I (i + 1))) H4)
    (hd : ∀ D acc G' H' Lc, I xs.length acc Lc → Same G G' → Sep G' H' (OwnL D acc :: cell p (.lst ws) :: Lc) → Q (.ref D) H') :
    ∃ a, V.ref p = .ref a ∧ (∃ xs, SqL K H a xs) ∧ LcLoop (Itl K a) g tt te σ vs Q H := by
  refine ⟨p, rfl, ⟨ws, .inl (.inl s.cellAt)⟩, fun D hD => ?_⟩
  refine lc_it (walk_list (K := K) (a := p) (xs := ws)) (fun i H' => Nxt G D (Bsd p ws (I i)) H') ⟨[], G, _, ⟨L, rfl, h0⟩, Same.refl _, s.ownNew (vs := []) (xs := ([] : List B)) hD trivial⟩ (fun i H' _ ⟨acc, G', L', ⟨Lc, e, _⟩, u, t⟩ => .inl (.inl ((e ▸ t).sw.cellAt))) ?_ ?_
  · rintro i v H' H2 hi ⟨acc, G', L', ⟨Lc, rfl, pI⟩, u, t⟩ hy
    obtain ⟨e, hv⟩ := hy
    subst e
    obtain ⟨z, hz, rz⟩ := rs.get' hv
    exact hs i v z D acc G' _ Lc hz (rz.up u) pI u t
  · rintro H' ⟨acc, G', L', ⟨Lc, rfl, pI⟩, u, t⟩
    exact hd D acc G' H' Lc (by rw [← rs.len]; exact pI) u t
end
section
variable {σ : St} {H : Hp} {K : PySem.W.Frag} {v w x : V} {g1 g2 g3 : TG} {P : St → Hp → Prop} {p : Addr} {n : Nat}
theorem gNil_eq : (fun σ' H' => gNil [] σ' H' P) = P := by
  funext σ' H'
  exact propext ⟨fun z => z.2, fun z => ⟨rfl, z⟩⟩
theorem gCons_eq {t : TGs} {r : List V} : (fun σ' H' => gCons g1 t (v :: r) σ' H' P) = fun σ' H' => g1 v σ' H' fun σ2 H2 => t r σ2 H2 P := by
  funext σ' H'
  refine propext ⟨?_, fun z => ⟨v, r, rfl, z⟩⟩
  rintro ⟨a, b, e, z⟩
  cases e
  exact z
theorem g_tg3N (hp : H p = none) (hn : n = 3) (q : g1 v σ (upd H p (.tup [v, w, x])) fun σ1 H1 => g2 w σ1 H1 fun σ2 H2 => g3 x σ2 H2 P) : gTup K n (gCons g1 (gCons g2 (gCons g3 gNil))) (.ref p) σ (upd H p (.tup [v, w, x])) P := by
  subst hn
  refine ⟨p, [v, w, x], rfl, .inl (.inl upd_same), rfl, v, [w, x], rfl, ?_⟩
  rw [gCons_eq]
  have e : (fun σ1 H1 => g2 w σ1 H1 fun σ2 H2 => gCons g3 gNil [x] σ2 H2 P) = fun σ1 H1 => g2 w σ1 H1 fun σ2 H2 => g3 x σ2 H2 P := by
    rw [gCons_eq]
    funext σ1 H1
    congr 1
    funext σ2 H2
    rw [gNil_eq]
  rw [e]
  exact q
end
section
variable {G H : Hp} {Q : VK} {L : List Res} {v w : V} {K : PySem.W.Frag} {p : Addr}
variable {A : Type} [Rp A] {xs : List A} {a : A}
theorem reps_rep {vs : List V} (r : Reps G vs xs) : ∀ n : Nat, Reps G (List.replicate n vs).flatten (List.replicate n xs).flatten
  | 0 => trivial
  | n + 1 => by
    rw [List.replicate_succ, List.replicate_succ, List.flatten_cons, List.flatten_cons]
    exact r.app (reps_rep r n)
/-- xs * k -/
theorem g_mulL {k : Int} (s : Sep G H L) (r : Rep G v xs) (h0 : 0 ≤ k) (h1 : k ≤ 1000) (hl : xs.length ≤ 900) (q : ∀ p H', Sep G H' (OwnL p (List.replicate k.toNat xs).flatten :: L) → Q (.ref p) H') : EB.rMul v (.int k) H Q := by
  obtain ⟨b, vs, rfl, h, rs⟩ := r
  refine ⟨vs, s.gh _ _ h, by omega, by omega, ?_, fun l hl => q l _ (s.ownNew hl (reps_rep rs _))⟩
  rw [rs.len]
  exact small_le (Nat.le_trans (Nat.mul_le_mul hl (show k.toNat ≤ 1000 by omega)) (by decide))
/-- an item of a list of its own -/
theorem g_ixO {k : Int} (s : Sep G H (OwnL p xs :: L)) (h0 : 0 ≤ k) (h1 : xs[k.toNat]? = some a) (q : ∀ w, Rep G w a → Q w H) : rIx K (.ref p) (.int k) H Q := by
  obtain ⟨vs, rs, s⟩ := s.ownO
  obtain ⟨w, hw, r⟩ := rs.get h1
  exact .inl ⟨p, vs, k, w, rfl, rfl, .inl (.inl s.cellAt), at_pos h0 hw, q w r⟩
end
end EB

namespace EB
open PySem L2
open RZ (ItzT iZipA)
/-! ### zip of two lists or of two pairs -/
theorem walk_zipT {K : PySem.W.Frag} {a b : Addr} {xs ys : List V} {n : Nat} (hn : n = min xs.length ys.length) : Walk (ItzT K a b) n (fun H => SqT K H a xs ∧ SqT K H b ys) (YPair (fun i => xs[i]?) (fun i => ys[i]?)) := by
  subst hn
  refine ⟨fun i _ hi q => ?_, fun _ q => ⟨xs, ys, q.1, q.2, by omega⟩, fun i H v H' _ q y => ?_⟩
  · have l1 : i < xs.length := by omega
    have l2 : i < ys.length := by omega
    exact ⟨xs, ys, xs[i], ys[i], q.1, q.2, by simp [l1], by simp [l2]⟩
  · obtain ⟨T, x, z, e1, e2, e3, e4, e5⟩ := y
    exact ⟨T, x, z, e1, e2, e3, e4 xs q.1, e5 ys q.2⟩
section
variable {σ : St} {G H : Hp} {Q : VK} {te : TE} {tt : TT} {v w : V} {K : PySem.W.Frag} {L : List Res} {g1 g2 : TG} {tr : TA} {vs : List Nat}
theorem g_iZA {R : It → Hp → Prop} (h : tr σ H fun vs H1 => ∃ a b xs ys, vs = [.ref a, .ref b] ∧ ((SqL K H1 a xs ∧ SqL K H1 b ys ∧ R (Itz K a b) H1) ∨ (SqT K H1 a xs ∧ SqT K H1 b ys ∧ R (ItzT K a b) H1))) : iZipA K tr σ H R := h
variable {B : Type} [Rp B]
theorem lcZA {A C : Type} [Rp A] [Rp C] {xs : List A} {ys : List C} {n : Nat} (r : Rep G v xs) (r' : Rep G w ys) (s : Sep G H L) (hn : n = 2) (I : Nat → List B → List Res → Prop) (h0 : I 0 [] L)
    (hs : ∀ i a b x y D acc G' H' Lc, xs[i]? = some x → ys[i]? = some y → Rep G' a x → Rep G' b y → I i acc Lc → Same G G' → Sep G' H' (OwnL D acc :: Lc) →
      g1 a (wipe σ vs) H' fun σ1 H1 => g2 b σ1 H1 fun σ2 H3 => wipe σ2 vs = wipe σ vs ∧ tt σ2 H3 fun b H4 => if b = true then te σ2 H4 (Put G D (I (i + 1))) else Nxt G D (I (i + 1)) H4)
    (hd : ∀ D acc G' H' Lc, I (min xs.length ys.length) acc Lc → Same G G' → Sep G' H' (OwnL D acc :: Lc) → Q (.ref D) H') :
    ∃ a b xs ys, [v, w] = [V.ref a, V.ref b] ∧ ((SqL K H a xs ∧ SqL K H b ys ∧ LcLoop (Itz K a b) (gTup K n (gCons g1 (gCons g2 gNil))) tt te σ vs Q H) ∨ (SqT K H a xs ∧ SqT K H b ys ∧ LcLoop (ItzT K a b) (gTup K n (gCons g1 (gCons g2 gNil))) tt te σ vs Q H)) := by
  obtain ⟨a, b, us, ws, e, h1, h2, h3⟩ := lcZ (K := K) r r' s hn I h0 hs hd
  exact ⟨a, b, us, ws, e, .inl ⟨h1, h2, h3⟩⟩
/-- of two pairs of like parts -/
theorem lcZT {A : Type} [Rp A] {x y : A × A} {n : Nat} (r : Rep G v x) (r' : Rep G w y) (s : Sep G H L) (hn : n = 2) (I : Nat → List B → List Res → Prop) (h0 : I 0 [] L)
    (hs : ∀ i a b p q D acc G' H' Lc, [x.1, x.2][i]? = some p → [y.1, y.2][i]? = some q → Rep G' a p → Rep G' b q → I i acc Lc → Same G G' → Sep G' H' (OwnL D acc :: Lc) →
      g1 a (wipe σ vs) H' fun σ1 H1 => g2 b σ1 H1 fun σ2 H3 => wipe σ2 vs = wipe σ vs ∧ tt σ2 H3 fun b H4 => if b = true then te σ2 H4 (Put G D (I (i + 1))) else Nxt G D (I (i + 1)) H4)
    (hd : ∀ D acc G' H' Lc, I 2 acc Lc → Same G G' → Sep G' H' (OwnL D acc :: Lc) → Q (.ref D) H') :
    ∃ a b xs ys, [v, w] = [V.ref a, V.ref b] ∧ ((SqL K H a xs ∧ SqL K H b ys ∧ LcLoop (Itz K a b) (gTup K n (gCons g1 (gCons g2 gNil))) tt te σ vs Q H) ∨ (SqT K H a xs ∧ SqT K H b ys ∧ LcLoop (ItzT K a b) (gTup K n (gCons g1 (gCons g2 gNil))) tt te σ vs Q H)) := by
  obtain ⟨p, a1, a2, rfl, h, ra, rb⟩ := id r
  obtain ⟨q, b1, b2, rfl, h', ra', rb'⟩ := id r'
  have sq : ∀ {H'}, Same G H' → SqT K H' p [a1, a2] := fun s => .inl (.inl (s _ _ h))
  have sq' : ∀ {H'}, Same G H' → SqT K H' q [b1, b2] := fun s => .inl (.inl (s _ _ h'))
  have rs : Reps G [a1, a2] [x.1, x.2] := reps2 ra rb
  have rs' : Reps G [b1, b2] [y.1, y.2] := reps2 ra' rb'
  refine ⟨p, q, [a1, a2], [b1, b2], rfl, .inr ⟨sq s.gh, sq' s.gh, lcW (walk_zipT (n := 2) (xs := [a1, a2]) (ys := [b1, b2]) rfl) s (fun G' H' u t => ⟨sq (u.trans t), sq' (u.trans t)⟩) I h0 (fun i v D acc G' H' H2 Lc hi pI u t hy => ?_) hd⟩⟩
  obtain ⟨T, a, b, rfl, hT, rfl, ea, eb⟩ := hy
  obtain ⟨z, hz, rz⟩ := rs.get' ea
  obtain ⟨z', hz', rz'⟩ := rs'.get' eb
  exact g_tgN hT hn (hs i a b z z' D acc G' _ Lc hz hz' (rz.up u) (rz'.up u) pI u (t.trash hT))
theorem g_lenP {A C : Type} [Rp A] [Rp C] {z : A × C} (r : Rep G v z) (s : Same G H) (q : Q (.int 2) H) : rLen K [v] H Q := by
  obtain ⟨p, a, b, rfl, h, _⟩ := r
  exact .inl ⟨[a, b], .inr (.inl (.inl (s _ _ h))), q⟩
end
end EB

namespace EB
open PySem L2
/-! ### a method called by keywords alone -/
/-- the receiver, then the keywords in the order of the parameters -/
def kwm {A : Type} (p : List Nat) (us ws : List A) : List A := match us with
  | [u] => if ws.length = p.length then u :: p.filterMap (fun i => ws[i]?) else []
  | _ => []
theorem kwm_rel {p : List Nat} {vs : List V} {us : List Value} {zs : List V} {ws : List Value} (r : Vals vs us) (rz : Vals zs ws) : Vals (kwm p vs zs) (kwm p us ws) := by
  cases r with
  | nil => exact .nil
  | cons a b =>
    cases b with
    | cons _ _ => exact .nil
    | nil =>
      have hp := kwp_rel (p := p) (vs := []) (us := []) .nil rz
      show Vals (if zs.length = p.length then _ else _) (if ws.length = p.length then _ else _)
      rw [rz.length]
      split
      · rename_i e
        have hp : Vals (if zs.length = p.length then p.filterMap (fun i => zs[i]?) else []) (if ws.length = p.length then p.filterMap (fun i => ws[i]?) else []) := hp
        rw [if_pos (rz.length.trans e), if_pos e] at hp
        exact .cons a hp
      · exact .nil
theorem kmbinds_of {K : PySem.W.Frag} {x qual : Str} {st : Stmt} {f : Addr} {fd : FuncData} {ps ks : List Str} {p : List Nat} (F : Fun K x qual st f fd) (h0 : ps ≠ [])
    (h : ∀ (kV doc pm : Value) (an : Option Addr) (cdv ct : Value) (u : Value) (ws : List Value), ws.length = p.length → bindArgs (PySem.W.fnOf x qual (defArgs st) (defBody st) (defScope st) .none kV doc pm an cdv ct) ⟨[u], ks.zip ws⟩ = pure (ps.zip (kwm p [u] ws))) :
    KBinds K fd ps ks (kwm p) (kwm p) := by
  obtain ⟨oc, od, kV, doc, pm, an, cdv, ct, osl, rfl, lk, hcd⟩ := F.ex
  refine ⟨fun s us ws _ hl => ?_, kwm_rel⟩
  have bad : ([] : List Value).length = ps.length → False := fun hl => by
    cases ps with
    | nil => exact h0 rfl
    | cons a b => cases hl
  match us, hl with
  | [], hl => exact (bad hl).elim
  | _ :: _ :: _, hl => exact (bad hl).elim
  | [u], hl =>
    by_cases e : ws.length = p.length
    · exact .of_eq (h kV doc pm an cdv ct u ws e)
    · have hl : (if ws.length = p.length then u :: p.filterMap (fun i => ws[i]?) else []).length = ps.length := hl
      rw [if_neg e] at hl
      exact (bad hl).elim
structure MetKw (P : Program) (w : World) (K : PySem.W.Frag) (mg : Str → Option Value) (base : Heap) (k : Nat) (C : Addr) (m : Str) (ks : List Str) (gV : List V → List V → List V) (sp : Sp) : Prop where
  ex : ∃ (f : Addr) (fd : FuncData) (ps : List Str) (g : List Value → List Value → List Value), Cls K C ∧ Meth K C m f ∧ FnOk P w K mg base CX0 k f fd ps sp ∧ KBinds K fd ps ks g gV
def tMethK (C : Addr) (m : Str) (sp : Sp) (gV : List V → List V → List V) (E : XK) (ta : TE) (tk : TA) : TE := fun σ H Q => ta σ H fun x H1 => rMth C m x H1 (tk σ H1 fun zs H2 => sp (gV [x] zs) H2 Q E)
section
variable {P : Program} {w : World} {K : PySem.W.Frag} {mg : Str → Option Value} {base : Heap}
theorem metkw_of {k : Nat} {C f : Addr} {m : Str} {sp : Sp} {fd : FuncData} {ps ks : List Str} {g : List Value → List Value → List Value} {gV : List V → List V → List V} (c : Cls K C) (me : Meth K C m f) (F : FnOk P w K mg base CX0 k f fd ps sp) (b : KBinds K fd ps ks g gV) : MetKw P w K mg base k C m ks gV sp := ⟨f, fd, ps, g, c, me, F, b⟩
theorem pe_mkw0 {X : Cx} {k j : Nat} {C : Addr} {m : Str} {sp : Sp} {pos apos : Pos} {o : Expr} {kws : List Keyword} {ta : TE} {tk : TA} {ks : List Str} {gV : List V → List V → List V} {pl : Sem Bool} (c : MetKw X.prog X.w X.K X.mg X.base k C m ks gV sp) (hr : Room j X.A) (hk : k ≤ j) (he : PE X o ta) (hkw : PK X kws tk)
    (hall : (backToKw pos (keywordEach kws X.env)).all (·.1.isSome) = true := by rfl) (hks : (backToKw pos (keywordEach kws X.env)).filterMap (·.1) = ks := by rfl)
    (hpl : ((backTo pos (starEach [] X.env)).any (·.1) || (backToKw pos (keywordEach kws X.env)).any (·.1.isNone)) = false := by rfl)
    (ht : eval (.Call (.Attribute o m apos) [] kws pos) X.env = (do
      let ov ← eval o X.env
      standAt apos.atName
      let (f, first) ← holding [ov] (getMethod ov m pl)
      callWith pos f first (backTo pos (starEach [] X.env)) (backToKw pos (keywordEach kws X.env))) := by rfl) :
    PE X (.Call (.Attribute o m apos) [] kws pos) (tMethK C m sp gV E0 ta tk) := by
  obtain ⟨f, fd, ps, g, hc, hm, F, hb⟩ := c.ex
  refine ⟨fun pins s σ H Q I h => ?_⟩
  refine PySem.W.methodCall_KW (pl := pl) (thn (he.run pins s σ H _ I h) fun u s1 ⟨x, H1, I1, rx, a, dx, fs, ex, ea, l, q⟩ => ?_) ht
  subst ex
  obtain rfl : u = Value.ref a := rx
  refine getmeth_ok I1 ea hc hm l ?_
  refine PySem.W.callWith_KW0 (first := [.ref a]) (h₀ := X.base) I.ok.mod.kin hm.kp hall ?_ hpl
  refine thn (hkw.run pos pins s1 σ H1 _ I1 q) fun ws s2 ⟨zs, H2, I2, rz, q2⟩ => ⟨I2.kIn, ?_⟩
  rw [hks]
  exact run_fnk (us := [.ref a]) (vs := [.ref a]) F (hr.mono hk) hb pass0 I2 (.cons rfl .nil) rz q2
end
section
variable {σ : St} {H : Hp} {Q : VK} {ta : TE} {C : Addr} {m : Str} {sp : Sp} {gV : List V → List V → List V} {E : XK} {tk : TA}
theorem g_methK (h : ta σ H fun x H1 => rMth C m x H1 (tk σ H1 fun zs H2 => sp (gV [x] zs) H2 Q E)) : tMethK C m sp gV E ta tk σ H Q := h
end
/-! ### list(d.items()) -/
theorem Sep.grow {G H H' : Hp} {L : List Res} (s : Sep G H L) (k : Same H H') : ∃ G2, Same G G2 ∧ Sep G2 H' L ∧ ∀ a, H a = none → G2 a = H' a := by
  obtain ⟨h, x, y, z⟩ := s.ex
  have gg : Same G (fun a => if h a = none then H' a else none) := fun a o e => by
    by_cases c : h a = none
    · show (if h a = none then H' a else none) = _
      rw [if_pos c]
      exact k _ _ (s.gh _ _ e)
    · rw [z a c] at e
      cases e
  refine ⟨_, gg, ⟨fun a o e => ?_, h, x.up gg, y.trans k, fun a ha => if_neg ha⟩, fun a ha => if_pos (y.free ha)⟩
  have e : (if h a = none then H' a else none) = some o := e
  split at e
  · exact e
  · cases e
section
variable {σ : St} {G H : Hp} {Q : VK} {te : TE} {d : Addr} {L : List Res}
theorem g_lstItm (h : te σ H fun x H1 => LiI.rItemsL x H1 Q) : LiI.tListItems te σ H Q := h
theorem reps_of_items {G : Hp} : ∀ {ts : List Addr} {gs : List (Int × Int)}, Paired (fun (t : Addr) (q : Key × V) => G t = some (.tup [kV q.1, q.2])) ts (kvI (intD gs)) → Reps G (ts.map V.ref) gs
  | [], [], _ => trivial
  | t :: ts, g :: gs, h => by
    cases h with
    | cons a b => exact ⟨⟨t, .int g.1, .int g.2, rfl, a, rfl, rfl⟩, reps_of_items b⟩
  | [], _ :: _, h => by cases h
  | _ :: _, [], h => by cases h
theorem paired_mono {α β : Type} {F F' : α → β → Prop} : ∀ {xs : List α} {ys : List β}, Paired F xs ys → (∀ x ∈ xs, ∀ y, F x y → F' x y) → Paired F' xs ys
  | _, _, .nil, _ => .nil
  | _, _, .cons h t, k => .cons (k _ (List.mem_cons_self ..) _ h) (paired_mono t fun x hx => k x (List.mem_cons_of_mem _ hx))
theorem i_items {gs : List (Int × Int)} (s : Sep G H (cell d (.dK (kvI (intD gs))) :: L)) (q : ∀ p G' H', Same G G' → Sep G' H' (cell d (.dK (kvI (intD gs))) :: L) → Rep G' (.ref p) gs → Q (.ref p) H') : LiI.rItemsL (.ref d) H Q := by
  refine ⟨d, _, rfl, s.cellAt, fun H' p ts k1 k2 k3 _ k5 k6 => ?_⟩
  obtain ⟨G2, u, t, e⟩ := s.grow (H' := H') k1
  refine q p G2 H' u t ⟨p, _, rfl, ?_, reps_of_items (paired_mono k6 fun x hx y h => ?_)⟩
  · rw [e p k2]
    exact k5
  · rw [e x (k3 x hx)]
    exact h
end
end EB

namespace EB
open PySem L2
/-! ### the order of what stands -/
theorem pullS {A : Type} {x y : A} {L M : List A} (h : L.Perm (x :: M)) : (y :: L).Perm (x :: y :: M) := (h.cons y).trans (.swap _ _ _)
theorem pullTo {A : Type} {x : A} {L M L' : List A} (h : L.Perm (x :: M)) (k : M.Perm L') : L.Perm (x :: L') := h.trans (k.cons x)
/-! ### parts of a list of its own -/
section
variable {G H : Hp} {Q : VK} {K : PySem.W.Frag} {L : List Res} {p : Addr} {v : V} {σ : St} {td ty : TE}
variable {A : Type} [Rp A] {xs : List A}
theorem g_slO {lo hi : Option Int} (s : Sep G H (OwnL p xs :: L)) (q : ∀ p' H', Sep G H' (OwnL p' (cut xs lo hi) :: OwnL p xs :: L) → Q (.ref p') H') : rSlA K (.ref p) lo hi H Q := by
  obtain ⟨vs, rs, s2⟩ := s.ownO
  exact .inl ⟨p, vs, rfl, .inl (.inl s2.cellAt), fun l hl => q l _ (s.ownNew hl (reps_cut rs))⟩
theorem g_listO (s : Sep G H (OwnL p xs :: L)) (q : ∀ p' H', Sep G H' (OwnL p' xs :: OwnL p xs :: L) → Q (.ref p') H') : rLst K [.ref p] H Q := by
  obtain ⟨vs, rs, s2⟩ := s.ownO
  exact ⟨vs, .inl (.inl (.inl s2.cellAt)), fun l hl => q l _ (s.ownNew hl rs)⟩
theorem g_lenO (s : Sep G H (OwnL p xs :: L)) (q : Q (.int (xs.length : Int)) H) : rLen K [.ref p] H Q := g_lenL s.ownRep (Same.refl _) q
/-! ### d.pop(k) -/
def rIsD (x : V) (H : Hp) (R : Prop) : Prop := ∃ a, x = .ref a ∧ IsD H a ∧ R
def rDPop (x y : V) (H : Hp) (Q : VK) : Prop := ∃ a kvs k v, x = .ref a ∧ H a = some (.dK kvs) ∧ y = kV k ∧ valV kvs k = some v ∧ Q v (upd H a (.dK (dropK kvs k)))
theorem g_dpop (h : td σ H fun x H1 => rIsD x H1 (ty σ H1 fun y H2 => rDPop x y H2 Q)) : tDPop1 td ty σ H Q := by
  have e : (fun x H1 => rIsD x H1 (ty σ H1 fun y H2 => rDPop x y H2 Q)) = fun x H1 => ∃ a, x = .ref a ∧ IsD H1 a ∧ ty σ H1 fun y H2 => ∃ kvs k v, H2 a = some (.dK kvs) ∧ y = kV k ∧ valV kvs k = some v ∧ Q v (upd H2 a (.dK (dropK kvs k))) := by
    funext x H1
    apply propext
    constructor
    · rintro ⟨a, rfl, d, z⟩
      refine ⟨a, rfl, d, ?_⟩
      have e2 : (fun y H2 => rDPop (.ref a) y H2 Q) = fun y H2 => ∃ kvs k v, H2 a = some (.dK kvs) ∧ y = kV k ∧ valV kvs k = some v ∧ Q v (upd H2 a (.dK (dropK kvs k))) := by
        funext y H2
        apply propext
        constructor
        · rintro ⟨b, kvs, k, v, e, r⟩
          cases e
          exact ⟨kvs, k, v, r⟩
        · rintro ⟨kvs, k, v, r⟩
          exact ⟨a, kvs, k, v, rfl, r⟩
      rw [e2] at z
      exact z
    · rintro ⟨a, rfl, d, z⟩
      refine ⟨a, rfl, d, ?_⟩
      have e2 : (fun y H2 => rDPop (.ref a) y H2 Q) = fun y H2 => ∃ kvs k v, H2 a = some (.dK kvs) ∧ y = kV k ∧ valV kvs k = some v ∧ Q v (upd H2 a (.dK (dropK kvs k))) := by
        funext y H2
        apply propext
        constructor
        · rintro ⟨b, kvs, k, v, e, r⟩
          cases e
          exact ⟨kvs, k, v, r⟩
        · rintro ⟨kvs, k, v, r⟩
          exact ⟨a, kvs, k, v, rfl, r⟩
      rw [e2]
      exact z
  rw [e] at h
  exact h
theorem i_isD {kvs : List (Key × V)} {R : Prop} (h : H p = some (.dK kvs)) (q : R) : rIsD (.ref p) H R := ⟨p, rfl, .inl ⟨kvs, .inl h⟩, q⟩
theorem dI_pop {xs : List (Int × V)} {n : Int} (s : Sep G H (cell p (.dK (kvI xs)) :: L)) (e : xs.lookup n = some v) (k : ∀ H', Sep G H' (cell p (.dK (kvI (xs.filter fun z => decide (z.1 ≠ n)))) :: L) → Q v H') : rDPop (.ref p) (.int n) H Q := by
  refine ⟨p, kvI xs, .inl n, v, rfl, s.cellAt, rfl, by rw [kvI_get]; exact e, ?_⟩
  rw [kvI_drop]
  exact k _ s.cellSet
theorem intD_filter (gs : List (Int × Int)) (n : Int) : (intD gs).filter (fun z => decide (z.1 ≠ n)) = intD (gs.filter fun z => decide (z.1 ≠ n)) := by
  unfold intD
  rw [List.filter_map]
  rfl
theorem g_lenD {kvs : List (Key × V)} (h : H p = some (.dK kvs)) (q : Q (.int (kvs.length : Int)) H) : rLen K [.ref p] H Q := .inr ⟨kvs, h, q⟩
theorem kvI_len (xs : List (Int × V)) : (kvI xs).length = xs.length := by unfold kvI; rw [List.length_map]
theorem intD_len (gs : List (Int × Int)) : (intD gs).length = gs.length := by unfold intD; rw [List.length_map]
theorem intD_fst (gs : List (Int × Int)) : (intD gs).map (·.1) = gs.map (·.1) := by simp [intD, List.map_map, Function.comp_def]
end
end EB

namespace EB
open PySem L2 PyProof.Rows
/-! ### max of a list of pairs -/
/-- what op gives of two walked values, while K stands -/
def CmpAt (prog : Program) (w : World) (A : Around) (op : CmpOp) (K : Heap → Prop) (P : Nat → Value → Prop) (bt : Nat → Nat → Bool) : Prop :=
  ∀ i j vi vj (s : Shared) (Q : Value → Shared → Prop) (E : Value → Shared → Prop), P i vi → P j vj → K s.heap → Q (.bool (bt i j)) s → wpAny (model prog w) A (richCompare op vi vj) Q E s
section
variable {prog : Program} {w : World} {A : Around} {R : Result → Shared → Prop} {I : Addr} {fp wr : List Addr} {n : Nat} {P : Nat → Value → Prop} {St : Nat → Heap → Prop}
theorem max_turns (W : Walks prog w A.in1 I fp wr n P St) {K : Heap → Prop} (bt : Nat → Nat → Bool) (hcmp : CmpAt prog w A.in1 .Gt K P bt) (S : Addr) (hSf : S ∉ fp) (kk : ∀ h h' : Heap, K h → (∀ b o, b ∉ wr → b ≠ S → h.get? b = some o → h'.get? b = some o) → K h') :
    ∀ (k j : Nat) (s : Shared) (vb : Value) (c : Nat), n - (j + 1) = k → j + 1 ≤ n → St (j + 1) s.heap → K s.heap → P (argBest bt j) vb →
    s.heap.get? S = some { cls := .type "list", dict := none, data := .seq #[vb, vb] c, slots := #[] } →
    (∀ v h' tk, P (argBest bt (n - 1)) v → (∀ b o, b ∉ wr → b ≠ S → s.heap.get? b = some o → h'.get? b = some o) → R (.ok (.ret v)) { s with heap := h', toks := tk }) →
    codeAny (model prog w) A (.builtin "max.loop" ⟨[.ref I, .none, .ref S], []⟩) R s := by
  have hSw : S ∉ wr := fun h => hSf (W.sub _ h)
  have hname : (toString "max" ++ toString ".loop" : String) = "max.loop" := by decide
  intro k
  induction k with
  | zero =>
    intro j s vb c hk hj hst hK hPb hS hR
    have hin : j + 1 = n := by omega
    refine codeAny_builtin F.entry_max_loop ?_
    rw [Around.under_plainId F.plain_max_loop _]
    show wpAny _ A.in1 (seqItems? (.ref S) >>= _) _ _ s
    refine wpAny_bind (wpAny_seqItems hS rfl ?_)
    show wpAny _ A.in1 (tryCatch (pyNext (.ref I)) _ >>= _) _ _ s
    refine wpAny_bind (wpAny_tryCatch (W.done s _ _ (hin ▸ hst) fun h' tk hk' => ?_))
    have hS' := hk' S _ hSw hS
    show wpAny _ A.in1 (updateSeq S (fun _ => #[]) >>= _) _ _ _
    refine wpAny_bind ?_
    refine wpAny_updateSeq hS' rfl (wpAny_bind (wpAny_letGo (wpAny_pure ?_)))
    refine hR vb _ tk (by rw [← hin]; exact hPb) fun b o hbw hbS e => (Heap.get?_update_other _ _ (Ne.symm hbS)).trans (hk' b o hbw e)
  | succ k ih =>
    intro j s vb c hk hj hst hK hPb hS hR
    have hlt : j + 1 < n := by omega
    refine codeAny_builtin F.entry_max_loop ?_
    rw [Around.under_plainId F.plain_max_loop _]
    show wpAny _ A.in1 (seqItems? (.ref S) >>= _) _ _ s
    refine wpAny_bind (wpAny_seqItems hS rfl ?_)
    show wpAny _ A.in1 (tryCatch (pyNext (.ref I)) _ >>= _) _ _ s
    refine wpAny_bind (wpAny_tryCatch (W.item (j + 1) s _ _ hlt hst fun v h' tk hP hst' hk' => ?_))
    have hS' := hk' S _ hSw hS
    have hK' : K h' := kk _ _ hK fun b o hbw _ e => hk' b o hbw e
    show wpAny _ A.in1 (tryCatch (holding [v, v] (richCompare .Gt v vb >>= _)) _ >>= _) _ _ _
    refine wpAny_bind (wpAny_tryCatch (wpAny_holding (wpAny_bind (hcmp (j + 1) (argBest bt j) v vb _ _ _ hP hPb hK' ?_))))
    refine wpAny_bind (wpAny_holding (wpAny_truthy_bool ?_))
    refine wpAny_bind (wpAny_letGo (wpAny_pure ?_))
    cases hb : bt (j + 1) (argBest bt j) with
    | true =>
      simp only [if_true]
      refine wpAny_bind ?_
      refine wpAny_updateSeq hS' rfl (wpAny_bind (wpAny_letGo ?_))
      rw [hname]
      refine wpAny_pure ⟨plainId_quiet F.plain_max_loop _, ih (j + 1) _ v _ (by omega) hlt (W.frame _ _ _ hst' fun b hbf o e => ?_) (kk _ _ hK' fun b o _ hbS e => (Heap.get?_update_other _ _ (Ne.symm hbS)).trans e) (by simp only [argBest, hb, if_true]; exact hP) (Heap.get?_update_self _ hS' rfl)
        fun v' h'' tk'' hP' hk'' => ?_⟩
      · exact (Heap.get?_update_other _ _ (fun h : S = b => hSf (by rw [h]; exact hbf))).trans e
      · exact hR v' h'' tk'' hP' fun b o hbw hbS e => hk'' b o hbw hbS ((Heap.get?_update_other _ _ (Ne.symm hbS)).trans (hk' b o hbw e))
    | false =>
      simp only [Bool.false_eq_true, if_false]
      refine wpAny_bind (wpAny_letGo ?_)
      rw [hname]
      refine wpAny_pure ⟨plainId_quiet F.plain_max_loop _, ih (j + 1) _ vb c (by omega) hlt hst' hK' (by simp only [argBest, hb, Bool.false_eq_true, if_false]; exact hPb) hS' fun v' h'' tk'' hP' hk'' => ?_⟩
      exact hR v' h'' tk'' hP' fun b o hbw hbS e => hk'' b o hbw hbS (hk' b o hbw e)
theorem max_first (W : Walks prog w A.in1 I fp wr n P St) {K : Heap → Prop} (bt : Nat → Nat → Bool) (hcmp : CmpAt prog w A.in1 .Gt K P bt) (S : Addr) (hSf : S ∉ fp) (kk : ∀ h h' : Heap, K h → (∀ b o, b ∉ wr → b ≠ S → h.get? b = some o → h'.get? b = some o) → K h') (hn : 0 < n) {s : Shared} {c : Nat} (hst : St 0 s.heap) (hK : K s.heap)
    (hS : s.heap.get? S = some { cls := .type "list", dict := none, data := .seq #[] c, slots := #[] })
    (hR : ∀ v h' tk, P (argBest bt (n - 1)) v → (∀ b o, b ∉ wr → b ≠ S → s.heap.get? b = some o → h'.get? b = some o) → R (.ok (.ret v)) { s with heap := h', toks := tk }) :
    codeAny (model prog w) A (.builtin "max.loop" ⟨[.ref I, .none, .ref S], []⟩) R s := by
  have hSw : S ∉ wr := fun h => hSf (W.sub _ h)
  have hname : (toString "max" ++ toString ".loop" : String) = "max.loop" := by decide
  refine codeAny_builtin F.entry_max_loop ?_
  rw [Around.under_plainId F.plain_max_loop _]
  show wpAny _ A.in1 (seqItems? (.ref S) >>= _) _ _ s
  refine wpAny_bind (wpAny_seqItems hS rfl ?_)
  show wpAny _ A.in1 (tryCatch (pyNext (.ref I)) _ >>= _) _ _ s
  refine wpAny_bind (wpAny_tryCatch (W.item 0 s _ _ hn hst fun v h' tk hP hst' hk' => ?_))
  have hS' := hk' S _ hSw hS
  have hK' : K h' := kk _ _ hK fun b o hbw _ e => hk' b o hbw e
  show wpAny _ A.in1 (updateSeq S (fun _ => #[v, v]) >>= _) _ _ _
  refine wpAny_bind ?_
  refine wpAny_updateSeq hS' rfl ?_
  rw [hname]
  refine wpAny_pure ⟨plainId_quiet F.plain_max_loop _, max_turns W bt hcmp S hSf kk _ 0 _ v _ rfl hn (W.frame _ _ _ hst' fun b hbf o e => ?_) (kk _ _ hK' fun b o _ hbS e => (Heap.get?_update_other _ _ (Ne.symm hbS)).trans e) hP (Heap.get?_update_self _ hS' rfl) fun v' h'' tk'' hP' hk'' => ?_⟩
  · exact (Heap.get?_update_other _ _ (fun h : S = b => hSf (by rw [h]; exact hbf))).trans e
  · exact hR v' h'' tk'' hP' fun b o hbw hbS e => hk'' b o hbw hbS ((Heap.get?_update_other _ _ (Ne.symm hbS)).trans (hk' b o hbw e))
end
section
variable {prog : Program} {w : World} {A : Around} {E : Value → Shared → Prop} {s : Shared} {l : Addr} {vs : Array Value}
theorem call_max_at {Q : Value → Shared → Prop} (hh : A.handled = none) (hl : s.heap.IsList l vs) (hne : 0 < vs.size) (bt : Nat → Nat → Bool)
    (hcmp : CmpAt prog w A.in1 .Gt (fun h => ∀ b o, s.heap.get? b = some o → h.get? b = some o) (fun i v => vs[i]? = some v) bt)
    (hQ : ∀ v h' tk, vs[argBest bt (vs.size - 1)]? = some v → (∀ b o, s.heap.get? b = some o → h'.get? b = some o) → Q v { s with heap := h', toks := tk }) :
    wpAny (model prog w) A (call (.builtin "max") [.ref l]) Q E s := by
  have hname : (toString "max" ++ toString ".loop" : String) = "max.loop" := by decide
  refine call_function_tree F.kind_max F.plain_max F.entry_max (F.args_max1 _) ?_
  show wpAny _ A.in1 (Builtin.Builtins.bindParams "max" ["key", "default"] 0 ⟨[], []⟩ >>= _) _ _ s
  refine wpAny_bind (wpAny_of_eq (show Builtin.Builtins.bindParams "max" ["key", "default"] 0 ⟨[], []⟩ = pure [none, none] from rfl) ?_)
  refine wpAny_bind (wpAny_pure ?_)
  have hlt : l < s.heap.objs.size := by obtain ⟨_, e, _⟩ := hl; exact Heap.lt_size e
  refine wpAny_bind (wpAny_pyIter_list hl ?_)
  refine wpAny_bind (wpAny_newObj_type ?_)
  have hs1 : (s.heap.push { cls := .type "list_iterator", data := .fields #[.ref l, .int 0 0] }).objs.size = s.heap.objs.size + 1 := Heap.size_push ..
  have hSf : (s.heap.push { cls := .type "list_iterator", data := .fields #[.ref l, .int 0 0] }).objs.size ∉ [s.heap.objs.size, l] := fun hm => by
    rw [hs1] at hm
    rcases List.mem_cons.mp hm with e | hm
    · omega
    · rcases List.mem_cons.mp hm with e | hm
      · rw [← e] at hlt
        exact absurd hlt (Nat.not_lt.mpr (Nat.le_succ _))
      · cases hm
  rw [hname]
  have W := Walks.list (prog := prog) (w := w) (A := A.in1) hh s.heap.objs.size l (Nat.ne_of_lt hlt) vs
  have hst : (s.heap.push { cls := .type "list_iterator", data := .fields #[.ref l, .int 0 0] }).IsListIter s.heap.objs.size l 0 ∧ (s.heap.push { cls := .type "list_iterator", data := .fields #[.ref l, .int 0 0] }).IsList l vs := ⟨⟨_, Heap.get?_push_size _ rfl, rfl, rfl⟩, hl.push _⟩
  refine wpAny_pure ⟨plainId_quiet F.plain_max_loop _, max_first W (K := fun h => ∀ b o, s.heap.get? b = some o → h.get? b = some o) bt hcmp _ hSf (fun h h' hK hk b o e => hk b o (fun hm => ?_) (fun e2 => ?_) (hK b o e)) hne (W.frame _ _ _ hst fun b _ o e => Heap.get?_push_of_some _ e) (fun b o e => Heap.get?_push_of_some _ (Heap.get?_push_of_some _ e)) (Heap.get?_push_size _ rfl) fun v h' tk hP hk => ?_⟩
  · rw [List.mem_singleton.mp hm] at e
    exact Nat.lt_irrefl _ (Heap.lt_size e)
  · have := Heap.lt_size e
    rw [e2, hs1] at this
    exact absurd this (Nat.not_lt.mpr (Nat.le_succ _))
  · refine hQ v h' tk hP fun b o e => hk b o (fun hm => ?_) (fun e2 => ?_) (Heap.get?_push_of_some _ (Heap.get?_push_of_some _ e))
    · rw [List.mem_singleton.mp hm] at e
      exact Nat.lt_irrefl _ (Heap.lt_size e)
    · have := Heap.lt_size e
      rw [e2, hs1] at this
      exact absurd this (Nat.not_lt.mpr (Nat.le_succ _))
end
theorem best_of (k : Nat → Int × Int) : ∀ n : Nat, argBest (fun i j => !leP (k i) (k j)) n ≤ n ∧ ∀ j, j ≤ n → leP (k j) (k (argBest (fun i j => !leP (k i) (k j)) n)) = true
  | 0 => ⟨Nat.le_refl _, fun j hj => by
    obtain rfl : j = 0 := by omega
    have := leP_total (k 0) (k 0)
    simpa [argBest] using this⟩
  | n + 1 => by
    obtain ⟨h1, h2⟩ := best_of k n
    show (if (!leP (k (n + 1)) (k (argBest (fun i j => !leP (k i) (k j)) n))) = true then n + 1 else argBest (fun i j => !leP (k i) (k j)) n) ≤ n + 1 ∧ ∀ j, j ≤ n + 1 → leP (k j) (k (if (!leP (k (n + 1)) (k (argBest (fun i j => !leP (k i) (k j)) n))) = true then n + 1 else argBest (fun i j => !leP (k i) (k j)) n)) = true
    generalize argBest (fun i j => !leP (k i) (k j)) n = b at h1 h2 ⊢
    have tot := leP_total (k (n + 1)) (k b)
    have rfl1 : ∀ x, leP x x = true := fun x => by have := leP_total x x; simpa using this
    cases c : leP (k (n + 1)) (k b) with
    | true =>
      simp only [Bool.not_true, Bool.false_eq_true, if_false]
      refine ⟨by omega, fun j hj => ?_⟩
      rcases Nat.lt_or_ge n j with h | h
      · obtain rfl : j = n + 1 := by omega
        exact c
      · exact h2 j h
    | false =>
      rw [c, Bool.false_or] at tot
      simp only [Bool.not_false, if_true]
      refine ⟨Nat.le_refl _, fun j hj => ?_⟩
      rcases Nat.lt_or_ge n j with h | h
      · obtain rfl : j = n + 1 := by omega
        exact rfl1 _
      · exact leP_trans _ _ _ (h2 j h) tot
def rMaxP (K : PySem.W.Frag) : List V → Hp → VK → Prop := fun vs H Q => ∃ (a : Addr) (xs : List V) (k : V → Int × Int), vs = [V.ref a] ∧ SqL K H a xs ∧ (∀ x ∈ xs, ∃ t, x = V.ref t ∧ H t = some (.tup [.int (k x).1, .int (k x).2])) ∧ 0 < xs.length ∧
  ∀ x ∈ xs, (∀ y ∈ xs, leP (k y) (k x) = true) → Q x H
theorem cr_maxP {X : Cx} (hc : X.calm = true) (hu : X.A.units + 64 < cLine) : CallR X (.builtin "max") (rMaxP X.K) := by
  intro pins s σ H vs us Q I r h
  obtain ⟨a, xs, k, rfl, hs, hx, hne, q⟩ := h
  obtain rfl := Vals.ref1 r
  obtain ⟨its, rv, hl, hz⟩ := I.list hs
  obtain ⟨e1, e2⟩ := refs_back rv fun x m => by
    obtain ⟨t, e, _⟩ := hx x m
    exact ⟨t, e⟩
  have hp : ∀ v ∈ its, Srt.IsPair s.heap v (k (backV v)).1 (k (backV v)).2 := fun v hv => by
    obtain ⟨t, rfl⟩ := e2 v hv
    have hm : V.ref t ∈ xs := by rw [e1]; exact List.mem_map.mpr ⟨_, hv, rfl⟩
    obtain ⟨t', e, ht⟩ := hx _ hm
    cases e
    obtain ⟨_, its2, r2, o, ho, hc, n, hd⟩ := I.hok _ _ ht
    obtain ⟨u1, u2, rfl, ri, rj⟩ := vals2 r2
    obtain ⟨t1, rfl⟩ := ri
    obtain ⟨t2, rfl⟩ := rj
    exact ⟨t, o, t1, t2, n, rfl, ho, hc, hd⟩
  have hsz : 0 < its.toArray.size := by
    rw [List.size_toArray, ← rv.length]
    exact hne
  refine call_max_at (I.ok.hd hc) hl.isList hsz (fun i j => !leP (k (backV (its.getD i .none))) (k (backV (its.getD j .none)))) (fun i j vi vj s2 Q2 E2 hi hj hK q2 => ?_) fun v h' tk hv hk => ?_
  · have mi : vi ∈ its := by simpa using List.mem_of_getElem? (by simpa using hi)
    have mj : vj ∈ its := by simpa using List.mem_of_getElem? (by simpa using hj)
    have gi : its.getD i .none = vi := by
      rw [List.getD_eq_getElem?_getD, show its[i]? = some vi by simpa using hi]
      rfl
    have gj : its.getD j .none = vj := by
      rw [List.getD_eq_getElem?_getD, show its[j]? = some vj by simpa using hj]
      rfl
    have q2 : Q2 (.bool (!leP (k (backV (its.getD i .none))) (k (backV (its.getD j .none))))) s2 := q2
    rw [gi, gj] at q2
    obtain ⟨ta, oa, t1, t2, n1, rfl, ha, hca, hda⟩ := hp vi mi
    obtain ⟨tb, ob, t3, t4, n2, rfl, hb, hcb, hdb⟩ := hp vj mj
    have ia : s2.heap.IsTuple ta #[.int (k (backV (.ref ta))).1 t1, .int (k (backV (.ref ta))).2 t2] := ⟨oa, hK _ _ ha, hca, n1, hda⟩
    have ib : s2.heap.IsTuple tb #[.int (k (backV (.ref tb))).1 t3, .int (k (backV (.ref tb))).2 t4] := ⟨ob, hK _ _ hb, hcb, n2, hdb⟩
    generalize hka : k (backV (.ref ta)) = ka at *
    generalize hkb : k (backV (.ref tb)) = kb at *
    have R := Ob.RcOp.tuples_gt (A := X.A.in1) (s := s2) (e := fun j => [ka.1 == kb.1, ka.2 == kb.2].getD j true) (r := fun j => [decide (ka.1 > kb.1), decide (ka.2 > kb.2)].getD j true) ia ib (by
      have : X.A.in1.units = X.A.units + 1 := rfl
      omega) (fun j h1 h2 => by
        have h1 : j < 2 := h1
        obtain rfl | rfl : j = 0 ∨ j = 1 := by omega
        · exact SeqAt.EqAt.int_int _ _ _ _
        · exact SeqAt.EqAt.int_int _ _ _ _) (fun j h1 h2 _ => by
        have h1 : j < 2 := h1
        obtain rfl | rfl : j = 0 ∨ j = 1 := by omega
        · exact Ob.RcOp.gt_int _ _ _ _
        · exact Ob.RcOp.gt_int _ _ _ _)
    refine R X.prog X.w E2 Q2 ?_
    have e : (!leP ka kb) = Ob.lexAt (fun j => [ka.1 == kb.1, ka.2 == kb.2].getD j true) (fun j => [decide (ka.1 > kb.1), decide (ka.2 > kb.2)].getD j true) (decide (2 > 2)) 0 2 := by
      rw [Ob.lexAt_succ, Ob.lexAt_succ, Ob.lexAt_zero]
      show _ = if (ka.1 == kb.1) = true then (if (ka.2 == kb.2) = true then decide (2 > 2) else decide (ka.2 > kb.2)) else decide (ka.1 > kb.1)
      unfold leP
      by_cases c1 : ka.1 = kb.1
      · by_cases c2 : ka.2 = kb.2
        · simp [c1, c2]
        · simp only [c1, c2, beq_self_eq_true, if_true]
          have : ((ka.2 == kb.2) = true) = False := by simp [c2]
          simp only [this, if_false]
          rw [Bool.eq_iff_iff]
          simp
      · have : ((ka.1 == kb.1) = true) = False := by simp [c1]
        simp only [this, if_false]
        rw [Bool.eq_iff_iff]
        simp
        omega
    rw [e] at q2
    exact q2
  · obtain ⟨b1, b2⟩ := best_of (fun i => k (backV (its.getD i .none))) (its.toArray.size - 1)
    generalize argBest (fun i j => !leP (k (backV (its.getD i .none))) (k (backV (its.getD j .none)))) (its.toArray.size - 1) = bi at *
    have hv : its[bi]? = some v := by simpa using hv
    have mv := List.mem_of_getElem? hv
    have gv : its.getD bi .none = v := by
      rw [List.getD_eq_getElem?_getD, hv]
      rfl
    obtain ⟨t, rfl⟩ := e2 v mv
    refine ⟨.ref t, H, I.kept hk, rfl, q (.ref t) (by rw [e1]; exact List.mem_map.mpr ⟨_, mv, rfl⟩) fun y hy => ?_⟩
    rw [e1] at hy
    obtain ⟨u, hu2, rfl⟩ := List.mem_map.mp hy
    obtain ⟨j, hj⟩ := List.mem_iff_getElem?.mp hu2
    have gj : its.getD j .none = u := by
      rw [List.getD_eq_getElem?_getD, hj]
      rfl
    have hjl := (List.getElem?_eq_some_iff.mp hj).1
    have := b2 j (by rw [List.size_toArray]; omega)
    rw [gj, gv] at this
    exact this
def rMaxA (K : PySem.W.Frag) : List V → Hp → VK → Prop := fun vs H Q => EB.rMax1 K vs H Q ∨ rMaxP K vs H Q
theorem cMaxA {X : Cx} (hc : X.calm = true) (hu : X.A.units + 64 < cLine) : CallR X (.builtin "max") (rMaxA X.K) := by
  intro pins s σ H vs us Q I r h
  rcases h with h | h
  · exact cMax hc pins s σ H vs us Q I r h
  · exact cr_maxP hc hu pins s σ H vs us Q I r h
section
variable {G H : Hp} {Q : VK} {v : V} {K : PySem.W.Frag} {xs : List (Int × Int)}
theorem g_maxP (r : Rep G v xs) (s : Same G H) (h : 0 < xs.length) (q : ∀ w x, Rep G w x → x ∈ xs → (∀ y ∈ xs, leP y x = true) → Q w H) : rMaxP K [v] H Q := by
  obtain ⟨b, vs, rfl, h', rs⟩ := r
  obtain ⟨k1, k2⟩ := kOf_all (Reps.up rs s)
  refine ⟨b, vs, kOf H, rfl, .inl (.inl (s _ _ h')), k2, by rw [rs.len]; exact h, fun x hx hm => ?_⟩
  obtain ⟨i, hi⟩ := List.mem_iff_getElem?.mp hx
  obtain ⟨z, hz, rz⟩ := rs.get' hi
  have ez := (kOf_at (rz.up s)).1
  refine q x z rz (List.mem_of_getElem? hz) fun y hy => ?_
  obtain ⟨j, hj⟩ := List.mem_iff_getElem?.mp hy
  obtain ⟨u, hu, ru⟩ := rs.get hj
  have := hm u (List.mem_of_getElem? hu)
  rw [ez, (kOf_at (ru.up s)).1] at this
  exact this
end
end EB

namespace EB
open PySem L2
/-! ### xs.index(True) -/
def rIndexA (K : PySem.W.Frag) : V → List V → Hp → VK → Prop := rIndex K
theorem mt_indexA {X : Cx} : MtR X "list.index" (rIndexA X.K) := mt_index
section
variable {G H : Hp} {Q : VK} {v : V} {K : PySem.W.Frag} {bs : List Bool} {n : Nat}
theorem g_indexT (r : Rep G v bs) (s : Same G H) (hn : bs[n]? = some true) (hm : ∀ m, m < n → bs[m]? = some false) (q : Q (.int n) H) : rIndexA K v [.bl true] H Q := by
  obtain ⟨b, vs, rfl, h', rs⟩ := r
  obtain rfl := Reps.bls rs
  refine ⟨b, bs.map V.bl, .bl true, n, .bl true, rfl, rfl, .inl (.inl (s _ _ h')), rfl, by simp [flatV], by rw [List.getElem?_map, hn]; rfl, rfl, fun m z hlt hz => ?_, q⟩
  rw [List.getElem?_map, hm m hlt] at hz
  cases hz
  rfl
end
/-! ### a method of the class's own that the machine calls -/
section
variable {X : Cx} {A : Around} {pins : List (Addr × Obj)} {σ : St} {H : Hp} {s : Shared} {us : List Value} {vs : List V} {k : Nat} {f : Addr} {fd : FuncData} {ps : List Str} {sp : Sp} {Q : VK}
theorem call_sub (F : FnOk X.prog X.w X.K X.mg X.base CX0 k f fd ps sp) (sb : Sub X k A) (hb : Binds X.K fd ps []) (I : Inv X pins σ H s) (r : Vals vs us) (h : sp vs H Q E0) : wpAny (model X.prog X.w) A (call (.ref f) us) (EP X pins σ Q) X.xe s := by
  have e0 : Env0 X.prog X.w X.K X.mg X.base A X.stack s H := by
    have e := I.env0
    exact ⟨by rw [sb.fr]; exact e.frames, e.mod, e.bs, e.bsz, e.funs, e.frf, e.hok, e.bare⟩
  have hl := F.len _ _ _ _ h
  have hl2 : us.length = ps.length := by rw [← r.length]; exact hl
  refine wpAny_call (codeAny_mono (F.run A X.stack s H ⟨us, []⟩ us vs Q E0 sb.room e0 (by
    have := hb s us I.kIn (by simpa using hl2)
    simpa using this) r h) fun r s' hq => ?_)
  cases r with
  | error e => exact (show False from hq).elim
  | ok fl =>
    cases fl with
    | ret w => exact I.after hq
    | next => exact False.elim hq
    | brk => exact False.elim hq
    | cont => exact False.elim hq
/-- len(o) -/
def rLenO (C : Addr) (sp : Sp) : List V → Hp → VK → Prop := fun xs H Q => ∃ a dx fs, xs = [.ref a] ∧ H a = some (.ins C dx fs) ∧ sp [.ref a] H (fun v H' => ∃ n : Int, v = .int n ∧ (0 ≤ n ∧ n < 2 ^ 63) ∧ Q (.int n) H') E0
theorem cLenO {k j : Nat} {C : Addr} (D : C8.Met X.prog X.w X.K X.mg X.base k C "__len__" sp []) (hr : Room j X.A) (hk : k + 1 ≤ j) : CallR X (.builtin "len") (rLenO C sp) := by
  intro pins s σ H xs us Q I r h
  obtain ⟨a, dx, fs, rfl, ha, hsp⟩ := h
  obtain rfl := Vals.ref1 r
  obtain ⟨f, fd, ps, ds, hc, hm, F, b, d⟩ := D.ex
  obtain rfl : ds = [] := by cases d; rfl
  obtain ⟨mA, J, _⟩ := ins_get I.hok ha
  obtain ⟨od, J, _⟩ := J.look
  obtain ⟨m, hF⟩ := I.fr
  refine PySem.W.len_K hF I.ok.mod.kin J hm.at_ hm.fn (wpAny_mono (call_sub F (Sub.in1 ⟨hr.mono hk, rfl⟩) b I (vs := [.ref a]) (.cons rfl .nil) hsp) (fun u s' z => ?_) fun _ _ x => x)
  obtain ⟨v, H', I', rv, n, rfl, hb, q⟩ := z
  obtain ⟨t, rfl⟩ := rv
  exact ⟨hb, .int n, H', I'.tok _, ⟨_, rfl⟩, q⟩
def rLenA (K : PySem.W.Frag) (C : Addr) (sp : Sp) : List V → Hp → VK → Prop := fun xs H Q => EB.rLen K xs H Q ∨ rLenO C sp xs H Q
/-- o == p of one class -/
def rEqO (C : Addr) (sp : Sp) : R2 := fun x y H Q => ∃ a b dx dy fs gs, x = .ref a ∧ y = .ref b ∧ H a = some (.ins C dx fs) ∧ H b = some (.ins C dy gs) ∧ sp [.ref a, .ref b] H (fun v H' => ∃ t : Bool, v = .bl t ∧ Q (.bl t) H') E0
theorem opEqO {k j : Nat} {C : Addr} (D : C8.Met X.prog X.w X.K X.mg X.base k C "__eq__" sp []) (hr : Room j X.A) (hk : k ≤ j) : OpR X (compareOp .Eq) (rEqO C sp) := by
  intro pins s σ H x y v u Q I rx ry h
  obtain ⟨a, b, dx, dy, fs, gs, rfl, rfl, ha, hb, hsp⟩ := h
  cases rx
  cases ry
  obtain ⟨f, fd, ps, ds, hc, hm, F, bn, d⟩ := D.ex
  obtain rfl : ds = [] := by cases d; rfl
  obtain ⟨mA, J, _⟩ := ins_get I.hok ha
  obtain ⟨mB, J', _⟩ := ins_get I.hok hb
  obtain ⟨od, J, _⟩ := J.look
  obtain ⟨od', J', _⟩ := J'.look
  obtain ⟨m, hF⟩ := I.fr
  show wpAny (model X.prog X.w) X.A (richCompare .Eq (.ref a) (.ref b)) (EP X pins σ Q) X.xe s
  refine PySem.W.cmp_K (op := .Eq) (tb := .ref C) hr.units0 hF I.ok.mod.kin J J'.type (by simp [PySem.W.notFirst]) hm.at_ hm.fn (wpAny_mono (call_sub F ⟨hr.mono hk, rfl⟩ bn I (vs := [.ref a, .ref b]) (.cons rfl (.cons rfl .nil)) hsp) (fun u s' z => ?_) fun _ _ x => x)
  obtain ⟨v, H', I', rv, t, rfl, q⟩ := z
  cases rv
  exact ⟨.bl t, H', I', rfl, q⟩
end
end EB

namespace EB
open PySem L2
/-! ### rooms whose rows are written no more -/
section
variable {A : Type} [Rp A] {G H : Hp} {L : List Res} {p : Addr}
theorem owns_frz : ∀ {as : List Addr} {xss : List (List A)} {G : Hp} {L : List Res}, as.length = xss.length → Sep G H (owns as xss ++ L) → ∃ G', Same G G' ∧ Sep G' H L ∧ All2 (Rep G') (as.map V.ref) xss
  | [], [], G, L, _, s => ⟨G, Same.refl _, s, trivial⟩
  | a :: as, x :: xss, G, L, h, s => by
    have s : Sep G H (OwnL a x :: (owns as xss ++ L)) := s
    obtain ⟨G1, u1, s, r1⟩ := s.ownFrz
    obtain ⟨G2, u2, s, r2⟩ := owns_frz (by simpa using h) s
    exact ⟨G2, u1.trans u2, s, r1.up u2, r2⟩
  | [], _ :: _, _, _, h, _ => by cases h
  | _ :: _, [], _, _, h, _ => by cases h
theorem Rooms.toOwn {xss : List (List A)} (s : Sep G H (Rooms p xss :: L)) : ∃ G', Same G G' ∧ Sep G' H (OwnL p xss :: L) := by
  obtain ⟨as, hl, s⟩ := Rooms.open s
  obtain ⟨G', u, s, r⟩ := owns_frz hl (s.perm (L' := owns as xss ++ (cell p (.lst (as.map V.ref)) :: L)) List.perm_middle.symm)
  exact ⟨G', u, s.ownI r⟩
end
end EB

namespace EB
open PySem L2 PyProof.Rows Srt SrtO
open L2.DX (itemsO itemsO_ok takeT)
/-! ### d.items() as a value, sorted -/
def rItemsK : V → List V → Hp → VK → Prop := fun x xs H Q => ∃ (a : Addr) (kvs : List (Key × V)), x = .ref a ∧ xs = [] ∧ H a = some (.dK kvs) ∧ ∀ p, H p = none → Q (.ref p) (upd H p (itemsO p a))
section
variable {X : Cx}
theorem mt_itemsK : MtR X "dict.items" rItemsK := by
  intro pins s σ H x xs v us Q I rx rxs h
  obtain ⟨a, kvs, rfl, rfl, ha, q⟩ := h
  cases rx
  cases rxs
  obtain ⟨hz, hs0, vs, kv, hdo⟩ := I.hok a _ ha
  have hf : H s.heap.objs.size = none := I.hok.fresh (Nat.le_refl _)
  exact call_meetsIn F.slot_dict_items hdo.typeIs F.entry_dict_items (F.args_dict_items_1 _) (meets_dict_items (mixKind X.prog X.w) a hs0) ⟨⟨vs, hdo⟩, .ref s.heap.objs.size, upd H s.heap.objs.size (itemsO s.heap.objs.size a), I.laid (t' := s.toks) (fun b u e => Heap.get?_push_of_some _ e) (Nat.le_refl _) (itemsO_ok (Heap.get?_push_size _ rfl)), rfl, q _ hf⟩
def kAt : List Addr → List (Int × Int) → V → Int × Int
  | a :: as, g :: gs, v => if v = .ref a then g else kAt as gs v
  | _, _, _ => (0, 0)
theorem kAt_map : ∀ (as : List Addr) (gs : List (Int × Int)), as.Nodup → as.length = gs.length → (as.map V.ref).map (kAt as gs) = gs
  | [], [], _, _ => rfl
  | a :: as, g :: gs, nd, h => by
    rw [List.nodup_cons] at nd
    rw [List.map_cons, List.map_cons]
    have e1 : kAt (a :: as) (g :: gs) (.ref a) = g := by unfold kAt; rw [if_pos rfl]
    rw [e1]
    congr 1
    have ih := kAt_map as gs nd.2 (by simpa using h)
    conv => rhs; rw [← ih]
    refine List.map_congr_left fun v hv => ?_
    obtain ⟨b, hb, rfl⟩ := List.mem_map.mp hv
    have : ¬ V.ref b = V.ref a := fun e => by
      cases e
      exact nd.1 hb
    conv => lhs; unfold kAt
    rw [if_neg this]
  | [], _ :: _, _, h => by cases h
  | _ :: _, [], _, h => by cases h
theorem get_map {A B : Type} {f : A → B} {as : List A} {bs : List B} (e : as.map f = bs) {j : Nat} {a : A} (h : as[j]? = some a) : bs[j]? = some (f a) := by
  rw [← e, List.getElem?_map, h]
  rfl
theorem pairedOf {F : Addr → Int × Int → Prop} : ∀ {ts : List Addr} {gs : List (Int × Int)} {k : V → Int × Int}, (ts.map V.ref).map k = gs → (∀ t ∈ ts, F t (k (.ref t))) → Paired F ts gs
  | [], [], _, _, _ => .nil
  | t :: ts, g :: gs, k, e, h => by
    rw [List.map_cons, List.map_cons] at e
    obtain ⟨e1, e2⟩ := List.cons.inj e
    refine .cons (e1 ▸ h t (List.mem_cons_self ..)) (pairedOf e2 fun t ht => h t (List.mem_cons_of_mem _ ht))
  | [], _ :: _, _, e, _ => by cases e
  | _ :: _, [], _, e, _ => by cases e
def rSortedItR : List V → List V → Hp → VK → Prop := fun vs zs H Q => ∃ (p d : Addr) (gs : List (Int × Int)), vs = [.ref p] ∧ zs = [.bl true] ∧ H p = some (itemsO p d) ∧ H d = some (.dK (kvI (intD gs))) ∧
  ∀ (H' : Hp) (l : Addr) (ts : List Addr), (∀ b o, H b = some o → H' b = some o) → H l = none → (∀ t ∈ ts, H t = none) → H' l = some (.lst (ts.map V.ref)) → Paired (fun (t : Addr) (g : Int × Int) => H' t = some (.tup [.int g.1, .int g.2])) ts (dnP gs) → Q (.ref l) H'
theorem cr_sortedItR (hc : X.calm = true) : CallRK X (.builtin "sorted") [Str.ofString "reverse"] rSortedItR := by
  intro pins s σ H vs zs us ws Q I r rz h
  obtain ⟨p, d, gs, rfl, rfl, hp, hd, q⟩ := h
  obtain rfl := Vals.ref1 r
  obtain ⟨w1, rfl, e1⟩ := vals1 rz
  obtain rfl : w1 = Value.bool true := e1
  have view : s.heap.IsItemsView p d := (show ObjOk X.prog X.w H s.heap p (itemsO p d) from I.hok p _ hp).1
  obtain ⟨hz, hs0, xs, kv, hdo⟩ := I.hok d _ hd
  obtain ⟨es, ep, hraw, hes, hesk⟩ := PySem.Heap.DictOf.raw hdo
  have lk : (kvI (intD gs)).length = xs.length := Paired.length kv
  have lg : (kvI (intD gs)).length = gs.length := by unfold kvI intD; rw [List.length_map, List.length_map]
  have hh : X.A.handled = none := I.ok.hd hc
  refine call_function_entry_kw kind_sorted plain_sorted entry_sorted (PyProof.Rows.args_sorted_rev _ _) ?_
  unfold Builtin.«sorted»
  refine wpAny_bind (m := checkCount "sorted" 1 1 _) (wpAny_pure ?_)
  refine wpAny_bind (DT.collectI (A := X.A.in1) (es := es) (ep := ep) hh view hraw (by omega) fun h' tk as hk hlt0 hl hG => ?_)
  have nd : as.Nodup := List.Pairwise.imp (fun {a b} (h : a < b) => Nat.ne_of_lt h) hG.rise
  have hla : as.length = gs.length := by omega
  have hkm := kAt_map as gs nd hla
  have hzl : (as.map Value.ref).length ≤ sizeLine := by rw [List.length_map]; omega
  -- the pairs
  have pr : ∀ b ∈ as, ∃ t1 t2, h'.get? b = some { cls := .type "tuple", data := .seq #[Value.int (kAt as gs (.ref b)).1 t1, Value.int (kAt as gs (.ref b)).2 t2] } := by
    intro b hb
    obtain ⟨j, hj⟩ := List.mem_iff_getElem?.mp hb
    obtain ⟨en, f1, f3⟩ := hG.pairs j b hj
    have hg : gs[j]? = some (kAt as gs (.ref b)) := get_map hkm (by rw [List.getElem?_map, hj]; rfl)
    generalize kAt as gs (.ref b) = g at hg ⊢
    have hkvj : (kvI (intD gs))[j]? = some (.inl g.1, .int g.2) := by
      unfold kvI intD
      rw [List.getElem?_map, List.getElem?_map, hg]
      rfl
    obtain ⟨qv, g1, g2, g3⟩ := LiI.paired_get kv hkvj
    obtain ⟨k, x⟩ := qv
    have g2 : (Sum.inl g.1 : Key) = k := g2
    have hjl : j < es.size := (Array.getElem?_eq_some_iff.mp f1).1
    obtain ⟨f2, f4⟩ := hesk j hjl k x g1
    have f5 : es[j] = en := (Array.getElem?_eq_some_iff.mp f1).2
    rw [f5] at f2 f4
    have rk : RelV (kV (.inl g.1)) en.key := by
      rw [g2]
      exact relV_key (show keyIs k en.key = true from f2)
    obtain ⟨t1, e1⟩ := rk
    obtain ⟨t2, e2⟩ := g3
    have e2 : x = Value.int g.2 t2 := e2
    have e1 : en.key = Value.int g.1 t1 := e1
    rw [e1, f4, e2] at f3
    exact ⟨t1, t2, f3⟩
  have low : ∀ b ∈ as, s.heap.objs.size ≤ b := fun b hb => Nat.le_of_lt (hG.above b hb)
  refine wpAny_bind (wpAny_newList ?_ hzl)
  have hob : (h'.push (seqObj "list" (as.map Value.ref).toArray 0)).get? h'.objs.size = some (seqObj "list" (as.map Value.ref).toArray 0) := Heap.get?_push_size _ rfl
  have ne0 : ∀ b o, h'.get? b = some o → b ≠ h'.objs.size := fun b o e => Nat.ne_of_lt (Heap.lt_size e)
  have ka : ∀ b o, h'.get? b = some o → (h'.push (seqObj "list" (as.map Value.ref).toArray 0)).get? b = some o := fun b o e => Heap.get?_push_of_some _ e
  have hlt : s.heap.objs.size ≤ h'.objs.size := Nat.le_of_lt hlt0
  generalize hh2 : h'.push (seqObj "list" (as.map Value.ref).toArray 0) = h2 at hob ka
  show wpAny _ _ _ _ _ { s with heap := h2, toks := tk }
  refine wpAny_bind (wpAny_holding (wpAny_call_entry_kw slot_list_sort ⟨_, hob, rfl⟩ entry_list_sort ?_ (PyProof.Rows.args_list_sort_rev _ _)))
  refine SrtR.list_sort_ordR (b := true) (SrtO.swo_lex fun u => kAt as gs (backV u)) hob hzl (fun h22 => ?_) fun out h1 h3 => ⟨_, rfl, ?_⟩
  · refine SrtO.pairs_sortableO (s := { s with heap := h2, toks := tk }) (by rw [List.length_map] at h22 ⊢; omega) (fun v hm => ?_) fun o e => ?_
    · obtain ⟨b, hb, rfl⟩ := List.mem_map.mp hm
      obtain ⟨t1, t2, e⟩ := pr b hb
      have hp : Srt.IsPair h2 (.ref b) (kAt as gs (.ref b)).1 (kAt as gs (.ref b)).2 := ⟨b, _, t1, t2, _, rfl, ka _ _ e, rfl, rfl⟩
      exact hp
    · have e' : some o = some (seqObj "list" (as.map Value.ref).toArray 0) := e.symm.trans hob
      cases e'
      intro c
      exact absurd (Value.type.inj c) (by decide)
  · have h2p : out.Perm (as.map Value.ref) := h3.perm.trans (List.reverse_perm _)
    have h4 : ∀ u ∈ out.reverse, ∃ a, u = Value.ref a := fun u hu => by
      obtain ⟨a, _, e⟩ := List.mem_map.mp (h2p.mem_iff.mp (List.mem_reverse.mp hu))
      exact ⟨a, e.symm⟩
    obtain ⟨ts, hts⟩ : ∃ ts : List Addr, out.reverse = ts.map Value.ref := by
      have : ∀ l : List Value, (∀ u ∈ l, ∃ a, u = Value.ref a) → ∃ ts : List Addr, l = ts.map Value.ref := by
        intro l
        induction l with
        | nil => exact fun _ => ⟨[], rfl⟩
        | cons u l ih =>
          intro h
          obtain ⟨a, rfl⟩ := h u (List.mem_cons_self ..)
          obtain ⟨ts, rfl⟩ := ih fun u hu => h u (List.mem_cons_of_mem _ hu)
          exact ⟨a :: ts, rfl⟩
      exact this _ h4
    have tsp : ts.Perm as := by
      have e : (ts.map Value.ref).Perm (as.map Value.ref) := by rw [← hts]; exact (List.reverse_perm _).trans h2p
      have e2 := e.map (fun v => match v with | .ref a => a | _ => 0)
      simpa [List.map_map, Function.comp_def] using e2
    have hsort : (ts.map V.ref).map (kAt as gs) = dnP gs := by
      refine dnP_uniq ?_ ?_
      · have e := (tsp.map V.ref).map (kAt as gs)
        rw [hkm] at e
        exact e
      · have s1 := srtd_leP (SrtO.srtd_map h1)
        have e : (out.map backV).reverse = ts.map V.ref := by
          rw [← List.map_reverse, hts, List.map_map]
          rfl
        rw [← e, List.map_reverse, List.pairwise_reverse]
        exact s1
    have ea : (if true = true then out.toArray.reverse else out.toArray) = (ts.map Value.ref).toArray := by
      rw [if_pos rfl, ← hts]
      apply Array.ext'
      rw [Array.toList_reverse]
    rw [ea]
    have kF : ∀ b o, b ≠ h'.objs.size → h2.get? b = some o → (sortedHeap h2 h'.objs.size (as.map Value.ref) (ts.map Value.ref).toArray).get? b = some o := fun b o hb e => (PyProof.Rows.sortedHeap_old hb (Heap.lt_size e)).trans e
    have kS : ∀ b o, s.heap.get? b = some o → (sortedHeap h2 h'.objs.size (as.map Value.ref) (ts.map Value.ref).toArray).get? b = some o := fun b o e => kF b o (ne0 _ _ (hk b o e)) (ka _ _ (hk b o e))
    obtain ⟨eF, heF⟩ := PyProof.Rows.sortedHeap_at (vs := as.map Value.ref) (out := (ts.map Value.ref).toArray) hob
    have I1 : Inv X pins σ H { s with heap := sortedHeap h2 h'.objs.size (as.map Value.ref) (ts.map Value.ref).toArray, toks := tk } := I.kept (t' := tk) kS
    have hn0 : H h'.objs.size = none := I.hok.fresh hlt
    have htl : (ts.map V.ref).length ≤ sizeLine := by
      rw [List.length_map, tsp.length_eq]
      omega
    have I2 : Inv X pins σ (upd H h'.objs.size (.lst (ts.map V.ref))) { s with heap := sortedHeap h2 h'.objs.size (as.map Value.ref) (ts.map Value.ref).toArray, toks := tk } :=
      I1.take (h' := sortedHeap h2 h'.objs.size (as.map Value.ref) (ts.map Value.ref).toArray) (t' := tk) (fun b ob _ e => e) (I.fpOk hlt hn0) ⟨htl, ts.map Value.ref, eF, LiI.vals_refs ts, heF⟩
    obtain ⟨H2, I3, g, qt⟩ := takeT (P := fun b vs => vs = [.int (kAt as gs (.ref b)).1, .int (kAt as gs (.ref b)).2]) I as _ I2 nd fun b hb => by
      obtain ⟨t1, t2, hg⟩ := pr b hb
      refine ⟨low b hb, ?_, _, rfl, fun H3 => ⟨(by rw [sizeLine_eq]; show 2 ≤ 16777216; omega), [_, _], .cons ⟨t1, rfl⟩ (.cons ⟨t2, rfl⟩ .nil), ⟨_, kF _ _ (ne0 _ _ hg) (ka _ _ hg), rfl, 0, rfl⟩⟩⟩
      rw [upd_ne (ne0 _ _ hg)]
      exact I.hok.fresh (low b hb)
    have gr : ∀ b o, H b = some o → H2 b = some o := fun b o e => g b o (by rw [upd_ne (ne_of_none e hn0)]; exact e)
    refine wpAny_pure ⟨_, rfl, .ref h'.objs.size, H2, I3, rfl, q H2 h'.objs.size ts gr hn0 (fun t ht => I.hok.fresh (low t (tsp.mem_iff.mp ht))) (g _ _ upd_same) (pairedOf hsort fun t ht => ?_)⟩
    obtain ⟨vs, rfl, e⟩ := qt t (tsp.mem_iff.mp ht)
    exact e
def rSrtRevA (K : PySem.W.Frag) : List V → List V → Hp → VK → Prop := fun vs zs H Q => EB.rSrtRev K vs zs H Q ∨ rSortedItR vs zs H Q
theorem cSortedRevA (hc : X.calm = true) : CallRK X (.builtin "sorted") [Str.ofString "reverse"] (rSrtRevA X.K) := by
  intro pins s σ H vs zs us ws Q I r rz h
  rcases h with h | h
  · exact cSortedRev pins s σ H vs zs us ws Q I r rz h
  · exact cr_sortedItR hc pins s σ H vs zs us ws Q I r rz h
/-- sorted(d), keys ints, below 64 -/
def rSortedDI : List V → Hp → VK → Prop := fun xs H Q => ∃ (a : Addr) (gs : List (Int × Int)), xs = [.ref a] ∧ H a = some (.dK (kvI (intD gs))) ∧ gs.length < 64 ∧ ∀ p, H p = none → Q (.ref p) (upd H p (.lst ((upI (gs.map (·.1))).map V.int)))
theorem cr_sortedDI (hc : X.calm = true) : CallR X (.builtin "sorted") rSortedDI := by
  intro pins s σ H xs us Q I r h
  obtain ⟨a, gs, rfl, ha, hl, q⟩ := h
  refine call_sortedDI hc pins s σ H _ us Q I r ⟨a, _, gs.map (·.1), rfl, .inl ha, ?_, by rw [List.length_map]; exact hl, fun ys p h1 h2 hp => ?_⟩
  · unfold kvI intD
    rw [List.map_map, List.map_map, List.map_map]
    rfl
  · rw [upI_uniq h1 h2]
    exact q p hp
def rSrtA (K : PySem.W.Frag) : List V → Hp → VK → Prop := fun xs H Q => EB.rSrt K xs H Q ∨ rSortedDI xs H Q
theorem cSortedA (hc : X.calm = true) : CallR X (.builtin "sorted") (rSrtA X.K) := by
  intro pins s σ H xs us Q I r h
  rcases h with h | h
  · exact cSorted pins s σ H xs us Q I r h
  · exact cr_sortedDI hc pins s σ H xs us Q I r h
end
section
variable {G H : Hp} {Q : VK} {L : List Res} {d p : Addr} {gs : List (Int × Int)} {K : PySem.W.Frag}
/-- d.items() -/
theorem i_view {kvs : List (Key × V)} (s : Sep G H (cell d (.dK kvs) :: L)) (q : ∀ p H', Sep G H' (cell d (.dK kvs) :: L) → H' p = some (itemsO p d) → Q (.ref p) H') : rItemsK (.ref d) [] H Q :=
  ⟨d, kvs, rfl, rfl, s.cellAt, fun p hp => q p _ (s.keep (same_upd hp)) upd_same⟩
theorem i_tyD {kvs : List (Key × V)} {R : Prop} (h : H d = some (.dK kvs)) (q : R) : tyV K "dict" (.ref d) H ∧ R := ⟨.inr (.inr (.inl ⟨rfl, .inl ⟨kvs, h⟩⟩)), q⟩
/-- sorted(d.items(), reverse=True) -/
theorem g_srtItR (s : Sep G H (cell d (.dK (kvI (intD gs))) :: L)) (hp : H p = some (itemsO p d)) (q : ∀ l G' H', Same G G' → Sep G' H' (cell d (.dK (kvI (intD gs))) :: L) → Rep G' (.ref l) (dnP gs) → Q (.ref l) H') : rSortedItR [.ref p] [.bl true] H Q := by
  refine ⟨p, d, gs, rfl, rfl, hp, s.cellAt, fun H' l ts k1 k2 k3 k4 k5 => ?_⟩
  obtain ⟨G2, u, t, e⟩ := s.grow (H' := H') k1
  refine q l G2 H' u t ⟨l, ts.map V.ref, rfl, ?_, ?_⟩
  · rw [e l k2]
    exact k4
  · have : ∀ {ts : List Addr} {gs : List (Int × Int)}, (∀ t ∈ ts, H t = none) → Paired (fun (t : Addr) (g : Int × Int) => H' t = some (.tup [.int g.1, .int g.2])) ts gs → Reps G2 (ts.map V.ref) gs := by
      intro ts
      induction ts with
      | nil =>
        intro gs _ h
        cases h
        exact trivial
      | cons t ts ih =>
        intro gs hn h
        cases h with
        | cons a b => exact ⟨⟨t, _, _, rfl, by rw [e t (hn t (List.mem_cons_self ..))]; exact a, rfl, rfl⟩, ih (fun t ht => hn t (List.mem_cons_of_mem _ ht)) b⟩
    exact this k3 k5
theorem g_srtDI (s : Sep G H (cell d (.dK (kvI (intD gs))) :: L)) (hl : gs.length < 64) (q : ∀ p H', Sep G H' (OwnL p (upI (gs.map (·.1))) :: cell d (.dK (kvI (intD gs))) :: L) → Q (.ref p) H') : rSortedDI [.ref d] H Q :=
  ⟨d, gs, rfl, s.cellAt, hl, fun p hp => q p _ (s.ownNew hp (reps_ints _))⟩
end
end EB

namespace EB
open PySem L2 PySem.Spec PyProof.Rows
section
variable {prog : Program} {w : World} {A : Around} {E : Value → Shared → Prop} {s : Shared} {K : PySem.W.Frag} {x C L f : Addr} {h₀ : Heap} {m : Str → Option Value} {ox : Obj} {od : Option Obj} {b tb : Value}
theorem ifBound_ne {args : List Value} {Q : Option Value → Shared → Prop} (X : K.In s.heap) (I : PySem.W.InstAt s.heap x ox C od) (hs : PySem.W.findIn K (.ref C) "__ne__" = some (some (.builtin "object.__ne__"))) {M : Model}
    (h : wpAny M A (call (.builtin "object.__ne__") (.ref x :: args)) (fun v => Q (some v)) E s) : wpAny M A (callSpecialIfBound? (.ref x) "__ne__" args) Q E s := by
  simp only [callSpecialIfBound?, bindSpecialIfBound?]
  refine wpAny_holding (wpAny_bind (wpAny_bind (wpAny_bind (I.type.here ((PySem.W.looks_findIn X hs).here ?_)))))
  refine wpAny_bind (wpAny_askSetting (wpAny_ite ?_))
  have fin : wpAny M A (call (.builtin "object.__ne__") ([.ref x] ++ args) >>= fun v => pure (some v)) Q E s := wpAny_bind (wpAny_mono h (fun v s' h' => wpAny_pure h') fun _ _ h' => h')
  split
  · exact wpAny_bind (wpAny_of_eq (F.cmp_object.ne.bind _) (wpAny_pure (by exact fin)))
  · exact wpAny_tryCatch (wpAny_bind (wpAny_of_eq (F.cmp_object.ne.bind _) (wpAny_pure (by exact fin))))
theorem objNe_K (hu : A.units < cLine) (X : K.In s.heap) (I : PySem.W.InstAt s.heap x ox C od) (hs : PySem.W.findIn K (.ref C) "__eq__" = some (some (.ref f))) (hf : PySem.W.isFn K (.ref f) = true) {Q : Fin → Shared → Prop}
    (hcall : wpAny (model prog w) A (call (.ref f) [.ref x, b]) (fun v s' => ∃ t, v = .bool t ∧ Q (.done (.ret (.bool (!t)))) s') E s) :
    wpAny (model prog w) A (Builtin.«object.__ne__» ⟨[.ref x, b], []⟩) Q E s := by
  unfold Builtin.«object.__ne__»
  repeat (first
    | with_reducible refine wpAny_cRoomFor hu ?_
    | (refine wpAny_bind (m := callSpecialIfBound? (.ref x) (Str.ofString "__eq__") [b])
        (PySem.W.ifBound_K X I hs hf (wpAny_mono hcall (fun r s' hr => by
          obtain ⟨t, rfl, hq⟩ := hr
          repeat (first | exact hq | exact wpAny_pure hq | exact wpAny_truthy_bool hq | (refine wpAny_bind (m := truthy (.bool _)) (wpAny_truthy_bool ?_)) | wp_step)) fun _ _ e => e)))
    | wp_step)
theorem ne_K {Q : Value → Shared → Prop} (hu : A.units + 1 < cLine) (Fx : Fr h₀ L s.heap m) (X₀ : K.In h₀) (I : PySem.W.InstAt s.heap x ox C od) (hb : PySem.W.Looks (model prog w) s.heap (typeOf b) tb) (hn : PySem.W.notFirst K C tb = true)
    (hne : PySem.W.findIn K (.ref C) "__ne__" = some (some (.builtin "object.__ne__"))) (hm : PySem.W.mroIn K C (.type "object") = some true) (hs : PySem.W.findIn K (.ref C) "__eq__" = some (some (.ref f))) (hf : PySem.W.isFn K (.ref f) = true)
    (h : wpAny (model prog w) A.in1 (call (.ref f) [.ref x, b]) (fun v s' => ∃ t, v = .bool t ∧ Q (.bool (!t)) s') E s) : wpAny (model prog w) A (richCompare .NotEq (.ref x) b) Q E s := by
  have X := X₀.keeps Fx.keep
  have one : wpAny (model prog w) A (tryCompare (.ref x) "__ne__" b) (fun r s' => ∃ v, r = some v ∧ Q v s') E s := by
    unfold tryCompare
    refine wpAny_bind (ifBound_ne X I hne (wpAny_call (codeAny_call_builtin F.cmp_object.ne.plain F.cmpEntry_ne (PySem.W.check_slot F.cmpKind_ne F.cmpSplit_ne (I.type.andThen (PySem.W.looks_mroIn X hm)) (F.cmpArgs_ne _ _)
      (objNe_K (A := A.in1) hu X I hs hf (wpAny_mono h (fun v s' hv => ?_) fun _ _ e => e))))))
    obtain ⟨t, rfl, hq⟩ := hv
    first | exact ⟨t, rfl, wpAny_pure ⟨_, rfl, hq⟩⟩ | exact ⟨t, rfl, wpAny_pure (wpAny_pure ⟨_, rfl, hq⟩)⟩
  unfold richCompare
  simp only [oneThing_ref]
  refine wpAny_holding (wpAny_bind (wpAny_cRoomFor (Nat.lt_of_succ_lt hu) ?_))
  refine wpAny_bind (I.type.here (wpAny_bind (hb.here ?_)))
  split
  · rename_i q
    have e : PySem.W.subIn K tb (.ref C) = some false := by
      rcases Bool.or_eq_true_iff.mp hn with e | e
      · rw [beq_iff_eq.mp e] at q; simp at q
      · exact beq_iff_eq.mp e
    refine wpAny_bind ((PySem.W.looks_subIn X e).here ?_)
    simp only [Bool.false_eq_true, if_false]
    refine wpAny_bind (wpAny_mono one (fun r s' z => ?_) fun _ _ e => e)
    obtain ⟨v, rfl, hq⟩ := z
    exact wpAny_pure hq
  · refine wpAny_bind (wpAny_pure ?_)
    simp only [Bool.false_eq_true, if_false]
    refine wpAny_bind (wpAny_mono one (fun r s' z => ?_) fun _ _ e => e)
    obtain ⟨v, rfl, hq⟩ := z
    exact wpAny_pure hq
end
/-- what != asks of a class -/
structure NeC (K : PySem.W.Frag) (C : Addr) : Prop where
  ne : PySem.W.findIn K (.ref C) "__ne__" = some (some (.builtin "object.__ne__"))
  ob : PySem.W.mroIn K C (.type "object") = some true
section
variable {X : Cx}
theorem opNeO {k j : Nat} {C : Addr} {sp : Sp} (D : C8.Met X.prog X.w X.K X.mg X.base k C "__eq__" sp []) (N : NeC X.K C) (hr : Room j X.A) (hk : k + 1 ≤ j) :
    OpR X (compareOp .NotEq) (fun x y H Q => rEqO C sp x y H fun v H' => ∃ t : Bool, v = .bl t ∧ Q (.bl (!t)) H') := by
  intro pins s σ H x y v u Q I rx ry h
  obtain ⟨a, b, dx, dy, fs, gs, rfl, rfl, ha, hb, hsp⟩ := h
  cases rx
  cases ry
  obtain ⟨f, fd, ps, ds, hc, hm, F, bn, d⟩ := D.ex
  obtain rfl : ds = [] := by cases d; rfl
  obtain ⟨mA, J, _⟩ := ins_get I.hok ha
  obtain ⟨mB, J', _⟩ := ins_get I.hok hb
  obtain ⟨od, J, _⟩ := J.look
  obtain ⟨od', J', _⟩ := J'.look
  obtain ⟨m, hF⟩ := I.fr
  show wpAny (model X.prog X.w) X.A (richCompare .NotEq (.ref a) (.ref b)) (EP X pins σ Q) X.xe s
  have hu : X.A.units + 1 < cLine := by have := hr.units; omega
  refine ne_K (tb := .ref C) hu hF I.ok.mod.kin J J'.type (by simp [PySem.W.notFirst]) N.ne N.ob hm.at_ hm.fn (wpAny_mono (call_sub F (Sub.in1 ⟨hr.mono hk, rfl⟩) bn I (vs := [.ref a, .ref b]) (.cons rfl (.cons rfl .nil)) hsp) (fun u s' z => ?_) fun _ _ x => x)
  obtain ⟨v, H', I', rv, t, rfl, t2, e2, q⟩ := z
  cases rv
  cases e2
  exact ⟨t, rfl, .bl (!t), H', I', rfl, q⟩
end
section
variable {H : Hp} {Q : VK} {a b : Addr} {gs hs : List (Int × Int)} {K : PySem.W.Frag}
theorem look_in : ∀ {hs : List (Int × Int)}, (hs.map (·.1)).Nodup → ∀ {g : Int × Int}, g ∈ hs → hs.lookup g.1 = some g.2
  | [], _, _, h => by cases h
  | (x, y) :: hs, nd, g, h => by
    rw [List.map_cons, List.nodup_cons] at nd
    rcases List.mem_cons.mp h with rfl | h
    · simp [List.lookup]
    · have e : (g.1 == x) = false := by
        simp only [beq_eq_false_iff_ne, ne_eq]
        intro e
        exact nd.1 (List.mem_map.mpr ⟨g, h, e⟩)
      simp only [List.lookup, e]
      exact look_in nd.2 h
theorem g_eqDP (h1 : H a = some (.dK (kvI (intD gs)))) (h2 : H b = some (.dK (kvI (intD hs)))) (pm : gs.Perm hs) (nd : (hs.map (·.1)).Nodup) (q : Q (.bl true) H) : rEqDA (.ref a) (.ref b) H Q := by
  refine ⟨a, b, _, _, rfl, rfl, h1, h2, by rw [kvI_len, kvI_len, intD_len, intD_len]; exact pm.length_eq, fun p hp => ?_, q⟩
  obtain ⟨z, hz, rfl⟩ := List.mem_map.mp hp
  obtain ⟨g, hg, rfl⟩ := List.mem_map.mp hz
  refine ⟨?_, rfl⟩
  show valV (kvI (intD hs)) (.inl g.1) = some (.int g.2)
  rw [kvI_get, intD_get, look_in nd (pm.mem_iff.mp hg)]
  rfl
/-- isinstance(x, C) of its own class -/
def rIsC (C : Addr) : List V → Hp → VK → Prop := fun xs H Q => ∃ a dx fs, xs = [.ref a, .ref C] ∧ H a = some (.ins C dx fs) ∧ Q (.bl true) H
theorem cIsC {X : Cx} {C : Addr} (c : C8.InsC X.K C) : CallR X (.builtin "isinstance") (rIsC C) := C8.call_isC c
end
/-! ### lists laid by a rule, owned -/
theorem Sep.growBut {G H H' : Hp} {L : List Res} {l : Addr} {o : HO} (s : Sep G H L) (k : Same H H') (hl : H l = none) (e : H' l = some o) : ∃ G2, Same G G2 ∧ Sep G2 H' (cell l o :: L) ∧ ∀ a, a ≠ l → H a = none → G2 a = H' a := by
  obtain ⟨h, x, y, z⟩ := s.ex
  have hh : h l = none := y.free hl
  have gl : G l = none := s.gh.free hl
  have gg : Same G (fun a => if h a = none ∧ a ≠ l then H' a else none) := fun a o e => by
    by_cases c : h a = none
    · have c2 : a ≠ l := fun e2 => by rw [e2, gl] at e; cases e
      show (if h a = none ∧ a ≠ l then H' a else none) = _
      rw [if_pos ⟨c, c2⟩]
      exact k _ _ (s.gh _ _ e)
    · rw [z a c] at e
      cases e
  refine ⟨_, gg, ⟨fun a o e => ?_, upd h l o, ⟨upd emp l o, h, fun a => ?_, rfl, x.up gg⟩, fun a u ea => ?_, fun a ha => ?_⟩, fun a h1 h2 => if_pos ⟨y.free h2, h1⟩⟩
  · have e : (if h a = none ∧ a ≠ l then H' a else none) = some o := e
    split at e
    · exact e
    · cases e
  · by_cases q : a = l
    · subst q
      exact .inr ⟨hh, by rw [upd_same, upd_same]⟩
    · exact .inl ⟨by rw [upd_ne q]; rfl, by rw [upd_ne q]⟩
  · by_cases q : a = l
    · subst q
      rw [upd_same] at ea
      cases ea
      exact e
    · rw [upd_ne q] at ea
      exact k _ _ (y _ _ ea)
  · by_cases q : a = l
    · subst q
      exact if_neg fun c => c.2 rfl
    · rw [upd_ne q] at ha
      exact if_neg fun c => ha c.1
section
variable {G H : Hp} {Q : VK} {L : List Res} {d p : Addr} {gs : List (Int × Int)}
theorem g_srtItO (s : Sep G H (cell d (.dK (kvI (intD gs))) :: L)) (hp : H p = some (L2.DX.itemsO p d)) (q : ∀ l G' H', Same G G' → Sep G' H' (OwnL l (dnP gs) :: cell d (.dK (kvI (intD gs))) :: L) → Q (.ref l) H') : rSortedItR [.ref p] [.bl true] H Q := by
  refine ⟨p, d, gs, rfl, rfl, hp, s.cellAt, fun H' l ts k1 k2 k3 k4 k5 => ?_⟩
  obtain ⟨G2, u, t, e⟩ := s.growBut (H' := H') k1 k2 k4
  refine q l G2 H' u (t.ownI ?_)
  have : ∀ {ts : List Addr} {gs : List (Int × Int)}, (∀ t ∈ ts, H t = none) → Paired (fun (t : Addr) (g : Int × Int) => H' t = some (.tup [.int g.1, .int g.2])) ts gs → Reps G2 (ts.map V.ref) gs := by
    intro ts
    induction ts with
    | nil =>
      intro gs _ h
      cases h
      exact trivial
    | cons t ts ih =>
      intro gs hn h
      cases h with
      | cons a b =>
        have hne : t ≠ l := fun e2 => by
          rw [e2, k4] at a
          cases a
        exact ⟨⟨t, _, _, rfl, by rw [e t hne (hn t (List.mem_cons_self ..))]; exact a, rfl, rfl⟩, ih (fun t ht => hn t (List.mem_cons_of_mem _ ht)) b⟩
  exact this k3 k5
end
end EB

namespace EB
open PySem L2 PySem.Spec PyProof.Rows
/-! ### == of dicts, ints to ints, both answers -/
def sameD (gs hs : List (Int × Int)) : Bool := gs.all fun g => decide (hs.lookup g.1 = some g.2)
theorem hitsI {A : Around} {s : Shared} {hs : List (Int × Int)} {vb : List (Key × Value)} (rb : KV (kvI (intD hs)) vb) : ∀ {gs : List (Int × Int)} {va : List (Key × Value)}, KV (kvI (intD gs)) va → PySem.W.KeqHits A s vb va (sameD gs hs)
  | [], va, ra => by
    cases ra
    exact .nil
  | g :: gs, va, ra => by
    have ra : KV ((.inl g.1, V.int g.2) :: kvI (intD gs)) va := ra
    cases ra with
    | @cons p q ps qs h t =>
      obtain ⟨k, v⟩ := q
      obtain ⟨h1, h2⟩ := h
      have h1 : (Sum.inl g.1 : Key) = k := h1
      subst h1
      obtain ⟨t1, e1⟩ : ∃ t1, v = Value.int g.2 t1 := h2
      subst e1
      have rr := rb.val (.inl g.1)
      rw [kvI_get, intD_get] at rr
      have ih := hitsI (A := A) (s := s) rb t
      cases e : hs.lookup g.1 with
      | none =>
        have ev : valueAt vb (Sum.inl g.1) = none := by
          rw [e] at rr
          cases hv : valueAt vb (Sum.inl g.1) with
          | none => rfl
          | some y => rw [hv] at rr; exact (show False from rr).elim
        have e2 : sameD (g :: gs) hs = false := by simp [sameD, e]
        rw [e2]
        exact .miss ev
      | some n =>
        rw [e] at rr
        obtain ⟨y, hy, ry⟩ := rr.some_of
        obtain ⟨t2, e3⟩ : ∃ t2, y = Value.int n t2 := ry
        subst e3
        have e2 : sameD (g :: gs) hs = ((g.2 == n) && sameD gs hs) := by
          unfold sameD
          rw [List.all_cons, e]
          congr 1
          rw [Bool.eq_iff_iff]
          simp only [decide_eq_true_eq, Option.some.injEq, beq_iff_eq]
          exact eq_comm
        rw [e2]
        exact .hit hy (SeqAt.EqAt.int_int _ _ _ _) ih
def rEqDG : R2 := fun x y H Q => ∃ a b gs hs, x = .ref a ∧ y = .ref b ∧ H a = some (.dK (kvI (intD gs))) ∧ H b = some (.dK (kvI (intD hs))) ∧ Q (.bl (decide (gs.length = hs.length) && sameD gs hs)) H
theorem op_eq_dictG {X : Cx} (hu : X.A.units < cLine) : OpR X (compareOp .Eq) rEqDG := by
  intro pins s σ H x y v u Q I rx ry h
  obtain ⟨a, b, gs, hs, rfl, rfl, ea, eb, q⟩ := h
  obtain rfl : v = Value.ref a := rx
  obtain rfl : u = Value.ref b := ry
  obtain ⟨_, ya, va, ra, da⟩ := (show ObjOk X.prog X.w H s.heap a (.dK _) from I.hok a _ ea)
  obtain ⟨_, yb, vb, rb, db⟩ := (show ObjOk X.prog X.w H s.heap b (.dK _) from I.hok b _ eb)
  have la : gs.length = va.length := by rw [← intD_len gs, ← kvI_len, ra.length]
  have lb : hs.length = vb.length := by rw [← intD_len hs, ← kvI_len, rb.length]
  refine PySem.W.keq_eq (knd := mixKind X.prog X.w) (r := sameD gs hs) ya yb da db hu (fun _ => hitsI rb ra) (fin_bl I q ?_)
  rw [la, lb]
  congr 1
theorem sameD_perm {gs hs : List (Int × Int)} (nd : (hs.map (·.1)).Nodup) (pm : gs.Perm hs) : (decide (gs.length = hs.length) && sameD gs hs) = true := by
  rw [decide_eq_true pm.length_eq, Bool.true_and]
  unfold sameD
  rw [List.all_eq_true]
  intro g hg
  rw [decide_eq_true_eq]
  exact look_in nd (pm.mem_iff.mp hg)
theorem lookup_mem : ∀ {hs : List (Int × Int)} {a b : Int}, hs.lookup a = some b → (a, b) ∈ hs
  | [], _, _, h => by cases h
  | (x, y) :: hs, a, b, h => by
    by_cases e : a = x
    · subst e
      simp only [List.lookup, beq_self_eq_true, Option.some.injEq] at h
      rw [h]
      exact List.mem_cons_self ..
    · have e2 : (a == x) = false := by simpa using e
      simp only [List.lookup, e2] at h
      exact List.mem_cons_of_mem _ (lookup_mem h)
theorem perm_of_sub : ∀ {gs hs : List (Int × Int)}, gs.Nodup → (∀ g ∈ gs, g ∈ hs) → gs.length = hs.length → gs.Perm hs
  | [], hs, _, _, h => by
    rw [List.length_nil] at h
    rw [List.eq_nil_of_length_eq_zero h.symm]
  | g :: gs, hs, nd, sub, h => by
    rw [List.nodup_cons] at nd
    obtain ⟨a, b, rfl⟩ := List.append_of_mem (sub g (List.mem_cons_self ..))
    refine List.Perm.trans ?_ List.perm_middle.symm
    refine (perm_of_sub nd.2 (fun x hx => ?_) ?_).cons g
    · have := sub x (List.mem_cons_of_mem _ hx)
      rcases List.mem_append.mp this with h | h
      · exact List.mem_append.mpr (.inl h)
      · rcases List.mem_cons.mp h with rfl | h
        · exact absurd hx nd.1
        · exact List.mem_append.mpr (.inr h)
    · rw [List.length_cons, List.length_append, List.length_cons] at h
      rw [List.length_append]
      omega
theorem sameD_iff {gs hs : List (Int × Int)} (ng : (gs.map (·.1)).Nodup) (nh : (hs.map (·.1)).Nodup) : (decide (gs.length = hs.length) && sameD gs hs) = decide (gs.Perm hs) := by
  rw [Bool.eq_iff_iff, decide_eq_true_eq]
  constructor
  · intro h
    rw [Bool.and_eq_true, decide_eq_true_eq] at h
    have sub : ∀ g ∈ gs, g ∈ hs := fun g hg => by
      have := List.all_eq_true.mp h.2 g hg
      rw [decide_eq_true_eq] at this
      exact lookup_mem this
    have n1 : gs.Nodup := (List.pairwise_map.mp ng).imp fun h e => h (by rw [e])
    exact perm_of_sub n1 sub h.1
  · exact fun h => sameD_perm nh h
section
variable {H : Hp} {Q : VK} {a b : Addr} {gs hs : List (Int × Int)}
theorem g_eqDG (h1 : H a = some (.dK (kvI (intD gs)))) (h2 : H b = some (.dK (kvI (intD hs)))) (ng : (gs.map (·.1)).Nodup) (nh : (hs.map (·.1)).Nodup) (q : Q (.bl (decide (gs.Perm hs))) H) : rEqDG (.ref a) (.ref b) H Q :=
  ⟨a, b, gs, hs, rfl, rfl, h1, h2, by rw [sameD_iff ng nh]; exact q⟩
theorem g_eqD0 (h1 : H a = some (.dK (kvI (intD gs)))) (h2 : H b = some (.dK [])) (q : Q (.bl (decide (gs = []))) H) : rEqDG (.ref a) (.ref b) H Q := by
  refine ⟨a, b, gs, [], rfl, rfl, h1, h2, ?_⟩
  have e : (decide (gs.length = ([] : List (Int × Int)).length) && sameD gs []) = decide (gs = []) := by
    cases gs with
    | nil => rfl
    | cons g gs => simp
  rw [e]
  exact q
end
end EB

namespace EB
open PySem L2 PySem.Spec PyProof.Rows
/-! ### an own object beside things of other types -/
theorem sub_b {K : PySem.W.Frag} {T : String} {C : Addr} (h : (PySem.fastBuiltinMro T).isSome = true) : PySem.W.subIn K (.type T) (.ref C) = some false := by
  obtain ⟨l, hl⟩ := Option.isSome_iff_exists.mp h
  show (PySem.fastBuiltinMro T).map (·.contains (.ref C)) = _
  rw [hl]
  unfold PySem.fastBuiltinMro at hl
  obtain ⟨x, _, rfl⟩ := Option.map_eq_some_iff.mp hl
  show some _ = some _
  congr 1
  rw [Bool.eq_false_iff]
  intro e
  rw [List.contains_iff_mem] at e
  obtain ⟨y, _, z⟩ := List.mem_map.mp e
  cases z
theorem notFirst_b {K : PySem.W.Frag} {T : String} {C : Addr} (h : (PySem.fastBuiltinMro T).isSome = true) : PySem.W.notFirst K C (.type T) = true := by
  unfold PySem.W.notFirst
  rw [sub_b h]
  simp
/-- the class is a class -/
def OthC (K : PySem.W.Frag) (C : Addr) : Prop := PySem.W.typeIn K (.ref C) = some (.type "type")
theorem kit_b {K : PySem.W.Frag} {T : String} {C : Addr} (c : Cls K C) (o : OthC K C) (h : (PySem.fastBuiltinMro T).isSome = true) : PySem.W.kitOne K (.type T) (.ref C) = some false := by
  unfold PySem.W.kitOne
  rw [if_neg (by simp)]
  unfold PySem.W.kitCls
  show (if ((PySem.W.clsIn K C).isSome && PySem.W.typeIn K (.ref C) == some (.type "type")) = true then PySem.W.subIn K (.type T) (.ref C) else none) = some false
  have h1 : (PySem.W.clsIn K C).isSome = true := by
    have := c.po
    unfold PySem.W.plainOver at this
    cases e : PySem.W.clsIn K C with
    | none =>
      rw [e] at this
      cases this
    | some x => rfl
  rw [if_pos (by rw [h1, show PySem.W.typeIn K (.ref C) = some (.type "type") from o]; simp), sub_b h]
def rIsCX (K : PySem.W.Frag) (C : Addr) : List V → Hp → VK → Prop := fun xs H Q => rIsC C xs H Q ∨ rIsi K xs H Q
theorem cIsCX {X : Cx} {C : Addr} (c : C8.InsC X.K C) : CallR X (.builtin "isinstance") (rIsCX X.K C) := by
  intro pins s σ H xs us Q I r h
  rcases h with h | h
  · exact cIsC c pins s σ H xs us Q I r h
  · exact call_isi pins s σ H xs us Q I r h
/-- o == x, o != x -/
def rEqX (K : PySem.W.Frag) (C : Addr) (sp : Sp) : R2 := fun x y H Q => ∃ a dx fs t, x = .ref a ∧ H a = some (.ins C dx fs) ∧ TyX K H y t ∧ PySem.W.notFirst K C t = true ∧ sp [.ref a, y] H (fun v H' => ∃ t : Bool, v = .bl t ∧ Q (.bl t) H') E0
def rNeX (K : PySem.W.Frag) (C : Addr) (sp : Sp) : R2 := fun x y H Q => ∃ a dx fs t, x = .ref a ∧ H a = some (.ins C dx fs) ∧ TyX K H y t ∧ PySem.W.notFirst K C t = true ∧ sp [.ref a, y] H (fun v H' => ∃ t : Bool, v = .bl t ∧ Q (.bl (!t)) H') E0
section
variable {X : Cx}
theorem opEqX {k j : Nat} {C : Addr} {sp : Sp} (D : C8.Met X.prog X.w X.K X.mg X.base k C "__eq__" sp []) (hr : Room j X.A) (hk : k ≤ j) : OpR X (compareOp .Eq) (rEqX X.K C sp) := by
  intro pins s σ H x y v u Q I rx ry h
  obtain ⟨a, dx, fs, t, rfl, ha, ht, hn, hsp⟩ := h
  cases rx
  obtain ⟨f, fd, ps, ds, hc, hm, F, bn, d⟩ := D.ex
  obtain rfl : ds = [] := by cases d; rfl
  obtain ⟨mA, J, _⟩ := ins_get I.hok ha
  obtain ⟨od, J, _⟩ := J.look
  obtain ⟨Pz, Z, p, _⟩ := kit_of I ry ht
  obtain ⟨m, hF⟩ := I.fr
  show wpAny (model X.prog X.w) X.A (richCompare .Eq (.ref a) u) (EP X pins σ Q) X.xe s
  refine PySem.W.cmp_K (op := .Eq) (tb := t) hr.units0 hF I.ok.mod.kin J (Z.ty _ _ I.kIn p) hn hm.at_ hm.fn (wpAny_mono (call_sub F ⟨hr.mono hk, rfl⟩ bn I (vs := [.ref a, y]) (.cons rfl (.cons ry .nil)) hsp) (fun u s' z => ?_) fun _ _ x => x)
  obtain ⟨v, H', I', rv, t, rfl, q⟩ := z
  cases rv
  exact ⟨.bl t, H', I', rfl, q⟩
theorem opNeX {k j : Nat} {C : Addr} {sp : Sp} (D : C8.Met X.prog X.w X.K X.mg X.base k C "__eq__" sp []) (N : NeC X.K C) (hr : Room j X.A) (hk : k + 1 ≤ j) : OpR X (compareOp .NotEq) (rNeX X.K C sp) := by
  intro pins s σ H x y v u Q I rx ry h
  obtain ⟨a, dx, fs, t, rfl, ha, ht, hn, hsp⟩ := h
  cases rx
  obtain ⟨f, fd, ps, ds, hc, hm, F, bn, d⟩ := D.ex
  obtain rfl : ds = [] := by cases d; rfl
  obtain ⟨mA, J, _⟩ := ins_get I.hok ha
  obtain ⟨od, J, _⟩ := J.look
  obtain ⟨Pz, Z, p, _⟩ := kit_of I ry ht
  obtain ⟨m, hF⟩ := I.fr
  show wpAny (model X.prog X.w) X.A (richCompare .NotEq (.ref a) u) (EP X pins σ Q) X.xe s
  have hu : X.A.units + 1 < cLine := by have := hr.units; omega
  refine ne_K (tb := t) hu hF I.ok.mod.kin J (Z.ty _ _ I.kIn p) hn N.ne N.ob hm.at_ hm.fn (wpAny_mono (call_sub F (Sub.in1 ⟨hr.mono hk, rfl⟩) bn I (vs := [.ref a, y]) (.cons rfl (.cons ry .nil)) hsp) (fun u s' z => ?_) fun _ _ x => x)
  obtain ⟨v, H', I', rv, t, rfl, q⟩ := z
  cases rv
  exact ⟨t, rfl, .bl (!t), H', I', rfl, q⟩
end
/-! ### three at once -/
structure Tri (A B C : Type) where
  a : A
  b : B
  c : C
deriving DecidableEq
instance {A B C : Type} [Rp A] [Rp B] [Rp C] : Rp (Tri A B C) := ⟨fun G v x => ∃ p a b c, v = .ref p ∧ G p = some (.tup [a, b, c]) ∧ Rep G a x.a ∧ Rep G b x.b ∧ Rep G c x.c,
  fun s ⟨p, a, b, c, e, h, x, y, z⟩ => ⟨p, a, b, c, e, s _ _ h, x.up s, y.up s, z.up s⟩⟩
instance {A B C : Type} [Dt A] [Dt B] [Dt C] : Dt (Tri A B C) where
  d := fun x => .tuple [Dt.d x.a, Dt.d x.b, Dt.d x.c]
  dp := fun {K G H v x} s h => by
    obtain ⟨p, a, b, c, rfl, h, ra, rb, rc⟩ := h
    exact .tup (.inl (.inl (s _ _ h))) (.cons (Dt.dp s ra) (.cons (Dt.dp s rb) (.cons (Dt.dp s rc) .nil)))
  eqv := fun x y => by
    obtain ⟨a, b, c⟩ := x
    obtain ⟨d, e, f⟩ := y
    simp only [PyData.eqv, PyData.eqvAll, Bool.and_true, Bool.and_eq_true, Dt.eqv, Tri.mk.injEq]
  dep := max (Dt.dep A) (max (Dt.dep B) (Dt.dep C)) + 1
  depth := fun x => by
    have h1 := Dt.depth x.a
    have h2 := Dt.depth x.b
    have h3 := Dt.depth x.c
    simp only [PyData.depth, PyData.depthAll]
    omega
  lay := fun x => by simp [PyData.canLay0, PyData.canLayAll0, Dt.lay]
section
variable {G H : Hp} {L : List Res} {p : Addr} {Q : VK} {v w : V} {K : PySem.W.Frag}
theorem Sep.triNew {A B C : Type} [Rp A] [Rp B] [Rp C] {a b c : V} {x : A} {y : B} {z : C} (s : Sep G H L) (hp : H p = none) (ra : Rep G a x) (rb : Rep G b y) (rc : Rep G c z) :
    ∃ G', Same G G' ∧ Sep G' (upd H p (.tup [a, b, c])) L ∧ Rep G' (.ref p) (⟨x, y, z⟩ : Tri A B C) :=
  let ⟨u, t⟩ := s.imm (o := .tup [a, b, c]) hp
  ⟨_, u, t, p, a, b, c, rfl, upd_same, ra.up u, rb.up u, rc.up u⟩
/-- a + b of lists as they stand -/
theorem g_catC {vs ws : List V} {a b : Addr} (s : Sep G H L) (h1 : H a = some (.lst vs)) (h2 : H b = some (.lst ws)) (hl : vs.length + ws.length ≤ 1000000) (q : ∀ p H', Same H H' → Sep G H' (cell p (.lst (vs ++ ws)) :: L) → Q (.ref p) H') : rAdd (.ref a) (.ref b) H Q :=
  ⟨vs, ws, h1, h2, small_le hl, fun l hl => q l _ (same_upd hl) (s.cellNew hl)⟩
/-- a list, whatever is in it -/
def SomeL (n : Nat) (a : Addr) : Res := .ex fun vs : List V => .if (vs.length ≤ n) (cell a (.lst vs))
theorem SomeL.open {n : Nat} {a : Addr} (s : Sep G H (SomeL n a :: L)) : ∃ vs, vs.length ≤ n ∧ Sep G H (cell a (.lst vs) :: L) := by
  obtain ⟨vs, s⟩ := s.exO
  obtain ⟨c, s⟩ := s.ifO
  exact ⟨vs, c, s⟩
theorem SomeL.close {n : Nat} {a : Addr} {vs : List V} (h : vs.length ≤ n) (s : Sep G H (cell a (.lst vs) :: L)) : Sep G H (SomeL n a :: L) := .exI vs (.ifI h s)
theorem SomeL.own {A : Type} [Rp A] {n : Nat} {a : Addr} {xs : List A} (h : xs.length ≤ n) (s : Sep G H (OwnL a xs :: L)) : Sep G H (SomeL n a :: L) := by
  obtain ⟨vs, rs, s⟩ := s.ownO
  exact SomeL.close (by rw [rs.len]; exact h) s
theorem SomeL.owns {A : Type} [Rp A] {n : Nat} : ∀ {as : List Addr} {xss : List (List A)} {L : List Res}, as.length = xss.length → (∀ r ∈ xss, r.length ≤ n) → Sep G H (EB.owns as xss ++ L) → Sep G H (as.map (SomeL n) ++ L)
  | [], [], L, _, _, s => s
  | a :: as, x :: xss, L, h, hb, s => by
    have s : Sep G H (OwnL a x :: (EB.owns as xss ++ L)) := s
    have s := SomeL.own (hb x (List.mem_cons_self ..)) s
    have s := s.perm (L' := EB.owns as xss ++ (SomeL n a :: L)) List.perm_middle.symm
    have s := SomeL.owns (by simpa using h) (fun r hr => hb r (List.mem_cons_of_mem _ hr)) s
    exact s.perm List.perm_middle
  | [], _ :: _, _, h, _, _ => by cases h
  | _ :: _, [], _, h, _, _ => by cases h
theorem g_revC {vs : List V} (s : Sep G H (cell p (.lst vs) :: L)) (q : ∀ H', Sep G H' (cell p (.lst vs.reverse) :: L) → Q .non H') : rReverse (.ref p) [] H Q := by
  refine g_reverse (xs := vs.map Raw.mk) (s.ownI (reps_raw vs)) fun H' s => q H' ?_
  obtain ⟨ws, rs, s⟩ := s.ownO
  have e := Reps.raws rs
  rw [← List.map_reverse, List.map_map] at e
  have e2 : ws = vs.reverse := by rw [e]; simp [Function.comp_def]
  rw [e2] at s
  exact s
theorem Sep.cellFrz {vs : List V} (s : Sep G H (cell p (.lst vs) :: L)) : ∃ G', Same G G' ∧ Sep G' H L ∧ Rep G' (.ref p) (vs.map Raw.mk) := (s.ownI (reps_raw vs)).ownFrz
end
end EB

namespace EB
open PySem L2 PySem.Spec PyProof.Rows
/-! ### d.update(e), both of the same kind -/
def rUpdK : V → List V → Hp → VK → Prop := fun x xs H Q => ∃ (a b : Addr) (kvs more : List (Key × V)), x = .ref a ∧ xs = [.ref b] ∧ a ≠ b ∧ H a = some (.dK kvs) ∧ H b = some (.dK more) ∧ kvs.length + more.length ≤ sizeLine ∧ Q .non (upd H a (.dK (mergeK kvs more)))
theorem mt_updK {X : Cx} : MtR X "dict.update" rUpdK := by
  intro pins s σ H x xs v us Q I rx rxs h
  obtain ⟨a, b, kvs, more, rfl, rfl, hab, ha, hb, hl, q⟩ := h
  cases rx
  obtain ⟨u, rfl, ru⟩ := vals1 rxs
  cases ru
  obtain ⟨za, na, va, ra, da⟩ := dk_of I.hok ha
  obtain ⟨zb, nb, vb, rb, db⟩ := dk_of I.hok hb
  refine call_meetsIn F.slot_dict_update da.typeIs F.entry_dict_update (F.args_dict_update_2 _ _) (meets_dict_update (mixKind X.prog X.w) a b hab nb) ⟨va, vb, da, db, by rw [← ra.length, ← rb.length]; exact hl, fun h' da' db' hs => ?_⟩
  have hz : (mergeK kvs more).length ≤ sizeLine := by
    have := length_mergeK more kvs
    omega
  have he : ∃ q, h'.get? a = some q := let ⟨q, _, _, hq, _⟩ := da'; ⟨q, hq⟩
  exact ⟨.non, _, d_write I (by rw [ha]; exact True.intro) hs he (dk_new hz na (KV.merge rb ra) da'), rfl, q⟩
end EB

namespace EB
open PySem L2 PySem.Spec PyProof.Rows
/-! ### a zip that another iterator draws from -/
/-- a zip, whatever it knows of its own tuple -/
abbrev ZA (h : Heap) (z TI TO : Addr) (v : Value) (f : Bool) : Prop := h.get? z = some { cls := .type "zip", dict := none, data := .fields #[v, .bool f, .bool false, .ref TI, .ref TO], slots := #[] }
section
variable {prog : Program} {w : World} {A : Around} {E : Value → Shared → Prop} {s : Shared} {z TI TO i1 i2 l1 l2 : Addr} {k : Nat} {xs ys : Array Value} {x y a b v : Value} {f : Bool}
/-- the draws of a zip whose tuple is free, till the pair stands at TO -/
theorem zipFree_item {Q : Value → Shared → Prop} (D : ZipApart z TI TO i1 i2 l1 l2) (hfree : ∀ {Q : Bool → Shared → Prop}, Q true s → wpAny (model prog w) A (Builtin.SmallTypes.ownedTupleIsFree (.ref z)) Q E s)
    (hz : ZA s.heap z TI TO v f) (hTI : IsPair s.heap TI (.ref i1) (.ref i2)) (hTO : IsPair s.heap TO a b) (h1 : s.heap.IsListIter i1 l1 k) (h2 : s.heap.IsListIter i2 l2 k) (hl1 : s.heap.IsList l1 xs) (hl2 : s.heap.IsList l2 ys) (hx : xs[k]? = some x) (hy : ys[k]? = some y)
    (hQ : ∀ h', IsZip h' z TI TO (rawInt s.heap.objs.size) → IsPair h' TO x y → h'.IsListIter i1 l1 (k + 1) → h'.IsListIter i2 l2 (k + 1) → IsPair h' s.heap.objs.size x y → h'.objs.size = s.heap.objs.size + 1 →
      (∀ c o, c ≠ z → c ≠ TO → c ≠ i1 → c ≠ i2 → s.heap.get? c = some o → h'.get? c = some o) → Q (.ref s.heap.objs.size) { s with heap := h' }) :
    wpAny (model prog w) A (Builtin.«zip.__next__» ⟨[.ref z], []⟩) (fun fin s' => ∃ v, fin = .done (.ret v) ∧ Q v s') E s := by
  show wpAny _ _ (field (.ref z) 2 >>= _) _ _ _
  refine wpAny_bind (wpAny_field hz rfl (x := .bool false) rfl ?_)
  show wpAny _ _ (field (.ref z) 3 >>= _) _ _ _
  refine wpAny_bind (wpAny_field hz rfl (x := .ref TI) rfl (wpAny_bind (wpAny_seqItems hTI rfl ?_)))
  show wpAny _ _ (Builtin.SmallTypes.ownedTupleIsFree (.ref z) >>= _) _ _ _
  refine wpAny_bind (hfree ?_)
  simp only [if_true]
  refine wpAny_bind (wpAny_rule (wpAny_bind (wpAny_field hz rfl (x := .ref TO) rfl (wpAny_bind (wpAny_setField_rec hz (by simp) fun g1 z1 s1 => ?_)))))
  replace z1 : ZA g1 z TI TO .ellipsis f := z1
  refine wpAny_bind ?_
  simp only [List.zipIdx_cons, List.zipIdx_nil, List.forIn_cons, List.forIn_nil]
  refine wpAny_bind (wpAny_bind (wpAny_onRaise ?_))
  show wpAny _ _ (Builtin.SmallTypes.nextOf (.ref i1) >>= _) _ _ _
  refine wpAny_bind (wpAny_nextOf_list_item (h1.extBut s1.extBut D.i1z) (hl1.extBut s1.extBut D.l1z) hx fun g2 i2' s2 => wpAny_pure ?_)
  have t2 : IsPair g2 TO a b := s2.extBut _ _ D.TOi1 (s1.extBut _ _ D.TOz hTO)
  refine wpAny_bind (wpAny_seqItems t2 rfl (wpAny_bind (wpAny_updateSeq_pair t2 fun g3 t3 s3 => ?_)))
  replace t3 : IsPair g3 TO x b := t3
  refine wpAny_bind (wpAny_letGo (wpAny_pure ?_))
  refine wpAny_bind (wpAny_bind (wpAny_onRaise ?_))
  show wpAny _ _ (Builtin.SmallTypes.nextOf (.ref i2) >>= _) _ _ _
  refine wpAny_bind (wpAny_nextOf_list_item (((h2.extBut s1.extBut D.i2z).extBut s2.extBut D.i12.symm).extBut s3.extBut D.TOi2.symm)
    (((hl2.extBut s1.extBut D.l2z).extBut s2.extBut D.l2i1).extBut s3.extBut D.l2TO) hy fun g4 i4 s4 => wpAny_pure ?_)
  have t4 : IsPair g4 TO x b := s4.extBut _ _ D.TOi2 t3
  refine wpAny_bind (wpAny_seqItems t4 rfl (wpAny_bind (wpAny_updateSeq_pair t4 fun g5 t5 s5 => ?_)))
  replace t5 : IsPair g5 TO x y := t5
  refine wpAny_bind (wpAny_letGo (wpAny_pure (wpAny_pure ?_)))
  refine wpAny_bind (wpAny_seqItems t5 rfl (wpAny_bind (wpAny_newTuple ?_)))
  have sz : g5.objs.size = s.heap.objs.size := by rw [s5.1, s4.1, s3.1, s2.1, s1.1]
  have z5 : ZA g5 z TI TO .ellipsis f := s5.extBut _ _ D.TOz.symm (s4.extBut _ _ D.i2z.symm (s3.extBut _ _ D.TOz.symm (s2.extBut _ _ D.i1z.symm z1)))
  have k5 : ∀ c o, c ≠ z → c ≠ TO → c ≠ i1 → c ≠ i2 → s.heap.get? c = some o → g5.get? c = some o := fun c o c1 c2 c3 c4 e =>
    s5.extBut _ _ c2 (s4.extBut _ _ c4 (s3.extBut _ _ c2 (s2.extBut _ _ c3 (s1.extBut _ _ c1 e))))
  have a5 : g5.IsListIter i1 l1 (k + 1) := ((i2'.extBut s3.extBut D.TOi1.symm).extBut s4.extBut D.i12).extBut s5.extBut D.TOi1.symm
  have b5 : g5.IsListIter i2 l2 (k + 1) := i4.extBut s5.extBut D.TOi2.symm
  have zl : z < g5.objs.size := Heap.lt_size z5
  show wpAny _ _ (Builtin.SmallTypes.ownedTupleHandOut (.ref z) (.ref g5.objs.size) >>= _) _ _ _
  refine wpAny_bind ?_
  unfold Builtin.SmallTypes.ownedTupleHandOut
  have z6 : ZA (g5.push { cls := .type "tuple", data := .seq #[x, y] }) z TI TO .ellipsis f := Heap.get?_push_of_some _ z5
  refine wpAny_bind (wpAny_setField_rec z6 (by simp) fun g7 z7 s7 => ?_)
  replace z7 : ZA g7 z TI TO (rawInt g5.objs.size) f := z7
  refine wpAny_setField_rec z7 (by simp) fun g8 z8 s8 => ?_
  replace z8 : IsZip g8 z TI TO (rawInt g5.objs.size) := z8
  have up : ∀ c o, c ≠ z → g5.get? c = some o → g8.get? c = some o := fun c o c1 e => s8.extBut _ _ c1 (s7.extBut _ _ c1 (Heap.get?_push_of_some _ e))
  have T8 : IsPair g8 g5.objs.size x y := s8.extBut _ _ (Nat.ne_of_gt zl) (s7.extBut _ _ (Nat.ne_of_gt zl) (Heap.get?_push_size _ rfl))
  have sz8 : g8.objs.size = g5.objs.size + 1 := by rw [s8.1, s7.1, Heap.size_push]
  rw [sz] at z8 T8 sz8
  refine wpAny_pure ⟨_, rfl, ?_⟩
  show Q (.ref g5.objs.size) _
  rw [sz]
  exact hQ g8 z8 (up _ _ D.TOz t5) (a5.at fun o e => up _ o D.i1z e) (b5.at fun o e => up _ o D.i2z e) T8 sz8 fun c o c1 c2 c3 c4 e => up c o c1 (k5 c o c1 c2 c3 c4 e)
theorem zipFree_end {Q : Fin → Shared → Prop} (hh : A.handled = none) (D : ZipApart z TI TO i1 i2 l1 l2) (hfree : ∀ {Q : Bool → Shared → Prop}, Q true s → wpAny (model prog w) A (Builtin.SmallTypes.ownedTupleIsFree (.ref z)) Q E s)
    (hz : ZA s.heap z TI TO v f) (hTI : IsPair s.heap TI (.ref i1) (.ref i2)) (hTO : IsPair s.heap TO a b) (h1 : s.heap.IsListIter i1 l1 k) (h2 : s.heap.IsListIter i2 l2 k) (hl1 : s.heap.IsList l1 xs) (hl2 : s.heap.IsList l2 ys) (hend : xs[k]? = none ∨ ys[k]? = none)
    (hE : ∀ h' e, (∀ c o, c ≠ z → c ≠ TO → c ≠ i1 → c ≠ i2 → s.heap.get? c = some o → h'.get? c = some o) → (∃ o, h'.get? e = some o ∧ o.cls = .type "StopIteration") → E (.ref e) { s with heap := h' }) :
    wpAny (model prog w) A (Builtin.«zip.__next__» ⟨[.ref z], []⟩) Q E s := by
  show wpAny _ _ (field (.ref z) 2 >>= _) _ _ _
  refine wpAny_bind (wpAny_field hz rfl (x := .bool false) rfl ?_)
  show wpAny _ _ (field (.ref z) 3 >>= _) _ _ _
  refine wpAny_bind (wpAny_field hz rfl (x := .ref TI) rfl (wpAny_bind (wpAny_seqItems hTI rfl ?_)))
  show wpAny _ _ (Builtin.SmallTypes.ownedTupleIsFree (.ref z) >>= _) _ _ _
  refine wpAny_bind (hfree ?_)
  simp only [if_true]
  refine wpAny_bind (wpAny_rule (wpAny_bind (wpAny_field hz rfl (x := .ref TO) rfl (wpAny_bind (wpAny_setField_rec hz (by simp) fun g1 z1 s1 => ?_)))))
  replace z1 : ZA g1 z TI TO .ellipsis f := z1
  refine wpAny_bind ?_
  simp only [List.zipIdx_cons, List.zipIdx_nil, List.forIn_cons, List.forIn_nil]
  refine wpAny_bind (wpAny_bind (wpAny_onRaise ?_))
  show wpAny _ _ (Builtin.SmallTypes.nextOf (.ref i1) >>= _) _ _ _
  cases hx : xs[k]? with
  | none =>
    refine wpAny_bind (wpAny_nextOf_list_end hh (h1.extBut s1.extBut D.i1z) (hl1.extBut s1.extBut D.l1z) hx fun g2 e s2 he => ?_)
    obtain ⟨oe, hoe, hce⟩ := he
    have z2 : ZA g2 z TI TO .ellipsis f := s2 _ _ D.i1z.symm z1
    have ez : e ≠ z := fun q => by subst q; rw [z2] at hoe; cases hoe; simp at hce
    exact wpAny_setField_rec z2 (by simp) fun g3 _ s3 => hE g3 e (fun c o c1 _ c3 _ q => s3.extBut _ _ c1 (s2 _ _ c3 (s1.extBut _ _ c1 q))) ⟨oe, s3.extBut _ _ ez hoe, hce⟩
  | some x =>
    have hy : ys[k]? = none := hend.resolve_left fun q => by rw [hx] at q; cases q
    refine wpAny_bind (wpAny_nextOf_list_item (h1.extBut s1.extBut D.i1z) (hl1.extBut s1.extBut D.l1z) hx fun g2 _ s2 => wpAny_pure ?_)
    have t2 : IsPair g2 TO a b := s2.extBut _ _ D.TOi1 (s1.extBut _ _ D.TOz hTO)
    refine wpAny_bind (wpAny_seqItems t2 rfl (wpAny_bind (wpAny_updateSeq_pair t2 fun g3 _ s3 => ?_)))
    refine wpAny_bind (wpAny_letGo (wpAny_pure ?_))
    refine wpAny_bind (wpAny_bind (wpAny_onRaise ?_))
    show wpAny _ _ (Builtin.SmallTypes.nextOf (.ref i2) >>= _) _ _ _
    refine wpAny_bind (wpAny_nextOf_list_end hh (((h2.extBut s1.extBut D.i2z).extBut s2.extBut D.i12.symm).extBut s3.extBut D.TOi2.symm)
      (((hl2.extBut s1.extBut D.l2z).extBut s2.extBut D.l2i1).extBut s3.extBut D.l2TO) hy fun g4 e s4 he => ?_)
    obtain ⟨oe, hoe, hce⟩ := he
    have z4 : ZA g4 z TI TO .ellipsis f := s4 _ _ D.i2z.symm (s3.extBut _ _ D.TOz.symm (s2.extBut _ _ D.i1z.symm z1))
    have ez : e ≠ z := fun q => by subst q; rw [z4] at hoe; cases hoe; simp at hce
    exact wpAny_setField_rec z4 (by simp) fun g5 _ s5 => hE g5 e (fun c o c1 c2 c3 c4 q => s5.extBut _ _ c1 (s4 _ _ c4 (s3.extBut _ _ c2 (s2.extBut _ _ c3 (s1.extBut _ _ c1 q))))) ⟨oe, s5.extBut _ _ ez hoe, hce⟩
end
end EB

namespace EB
open PySem L2 PySem.Spec PyProof.Rows
/-- a zip of two lists, k items drawn, whatever it knows of its own tuple -/
def ZS (h : Heap) (z TI TO i1 i2 l1 l2 : Addr) (k : Nat) : Prop := ∃ (v : Value) (f : Bool) (x0 y0 : Value), (v = .none ∨ ∃ T : Addr, v = rawInt T) ∧ ZA h z TI TO v f ∧ IsPair h TI (.ref i1) (.ref i2) ∧ IsPair h TO x0 y0 ∧ h.IsListIter i1 l1 k ∧ h.IsListIter i2 l2 k
section
variable {prog : Program} {w : World} {A : Around} {E : Value → Shared → Prop} {s : Shared} {z TI TO i1 i2 l1 l2 e : Addr} {k : Nat} {xs ys : Array Value} {x y old : Value} {c : Int}
theorem ZS.keep {h h' : Heap} (q : ZS h z TI TO i1 i2 l1 l2 k) (u : ∀ b, b = z ∨ b = TI ∨ b = TO ∨ b = i1 ∨ b = i2 → ∀ o, h.get? b = some o → h'.get? b = some o) : ZS h' z TI TO i1 i2 l1 l2 k := by
  obtain ⟨v, f, x0, y0, hv, a1, a2, a3, a4, a5⟩ := q
  exact ⟨v, f, x0, y0, hv, u z (.inl rfl) _ a1, u TI (.inr (.inl rfl)) _ a2, u TO (.inr (.inr (.inl rfl))) _ a3, a4.at fun o => u i1 (.inr (.inr (.inr (.inl rfl)))) o, a5.at fun o => u i2 (.inr (.inr (.inr (.inr rfl)))) o⟩
theorem ZS.isz (q : ZS s.heap z TI TO i1 i2 l1 l2 k) : s.TypeIs (.ref z) "zip" := by
  obtain ⟨v, f, x0, y0, hv, a1, _⟩ := q
  exact ⟨_, a1, rfl⟩
theorem alive_any {a : Addr} {Q : Option Obj → Shared → Prop} (h : Q (s.heap.get? a) s) : wpAny (model prog w) A (loadIfAlive a) Q E s := fun _ _ _ => h
theorem free_none {TI TO : Addr} {f : Bool} {Q : Bool → Shared → Prop} (hz : ZA s.heap z TI TO .none f) (h : Q true s) : wpAny (model prog w) A (Builtin.SmallTypes.ownedTupleIsFree (.ref z)) Q E s := by
  unfold Builtin.SmallTypes.ownedTupleIsFree
  exact wpAny_bind (wpAny_field hz rfl (x := .none) rfl (wpAny_pure h))
theorem free_dead {TI TO T : Addr} {f : Bool} {Q : Bool → Shared → Prop} (hz : ZA s.heap z TI TO (rawInt T) f) (hT : s.heap.get? T = none) (h : Q true s) : wpAny (model prog w) A (Builtin.SmallTypes.ownedTupleIsFree (.ref z)) Q E s := by
  unfold Builtin.SmallTypes.ownedTupleIsFree
  refine wpAny_bind (wpAny_field hz rfl (x := rawInt T) rfl ?_)
  show wpAny _ _ (loadIfAlive ((T : Int).toNat) >>= _) _ _ _
  rw [Int.toNat_natCast]
  refine wpAny_bind (alive_any ?_)
  rw [hT]
  exact wpAny_pure h
theorem zipA_item {Q : Value → Shared → Prop} (D : ZipApart z TI TO i1 i2 l1 l2) (q : ZS s.heap z TI TO i1 i2 l1 l2 k) (hl1 : s.heap.IsList l1 xs) (hl2 : s.heap.IsList l2 ys) (hx : xs[k]? = some x) (hy : ys[k]? = some y)
    (hQ : ∀ h', ZS h' z TI TO i1 i2 l1 l2 (k + 1) → IsPair h' s.heap.objs.size x y → h'.objs.size = s.heap.objs.size + 1 →
      (∀ c o, c ≠ z → c ≠ TO → c ≠ i1 → c ≠ i2 → s.heap.get? c = some o → h'.get? c = some o) → Q (.ref s.heap.objs.size) { s with heap := h' }) :
    wpAny (model prog w) A (Builtin.«zip.__next__» ⟨[.ref z], []⟩) (fun fin s' => ∃ v, fin = .done (.ret v) ∧ Q v s') E s := by
  obtain ⟨v, f, x0, y0, hv, a1, a2, a3, a4, a5⟩ := q
  have go : ∀ h', IsZip h' z TI TO (rawInt s.heap.objs.size) → IsPair h' TO x y → h'.IsListIter i1 l1 (k + 1) → h'.IsListIter i2 l2 (k + 1) → IsPair h' s.heap.objs.size x y → h'.objs.size = s.heap.objs.size + 1 →
      (∀ c o, c ≠ z → c ≠ TO → c ≠ i1 → c ≠ i2 → s.heap.get? c = some o → h'.get? c = some o) → Q (.ref s.heap.objs.size) { s with heap := h' } := fun h' b1 b2 b3 b4 b5 b6 b7 =>
    hQ h' ⟨_, _, _, _, .inr ⟨_, rfl⟩, b1, b7 TI _ D.TIz D.TITO D.TIi1 D.TIi2 a2, b2, b3, b4⟩ b5 b6 b7
  rcases hv with rfl | ⟨T, rfl⟩
  · exact zipFree_item D (fun h => free_none a1 h) a1 a2 a3 a4 a5 hl1 hl2 hx hy go
  · cases hT : s.heap.get? T with
    | none => exact zipFree_item D (fun h => free_dead a1 hT h) a1 a2 a3 a4 a5 hl1 hl2 hx hy go
    | some oT =>
      exact zip_next_item_held D a1 hT a2 a4 a5 hl1 hl2 hx hy fun h' b1 b3 b4 b5 b6 b7 =>
        hQ h' ⟨_, _, _, _, .inr ⟨T, rfl⟩, b1, b7 TI _ D.TIz D.TIi1 D.TIi2 a2, b7 TO _ D.TOz D.TOi1 D.TOi2 a3, b3, b4⟩ b5 b6 fun c o c1 _ c3 c4 => b7 c o c1 c3 c4
theorem zipA_end {Q : PySem.Fin → Shared → Prop} (hh : A.handled = none) (D : ZipApart z TI TO i1 i2 l1 l2) (q : ZS s.heap z TI TO i1 i2 l1 l2 k) (hl1 : s.heap.IsList l1 xs) (hl2 : s.heap.IsList l2 ys) (hend : xs[k]? = none ∨ ys[k]? = none)
    (hE : ∀ h' e, (∀ c o, c ≠ z → c ≠ TO → c ≠ i1 → c ≠ i2 → s.heap.get? c = some o → h'.get? c = some o) → (∃ o, h'.get? e = some o ∧ o.cls = .type "StopIteration") → E (.ref e) { s with heap := h' }) :
    wpAny (model prog w) A (Builtin.«zip.__next__» ⟨[.ref z], []⟩) Q E s := by
  obtain ⟨v, f, x0, y0, hv, a1, a2, a3, a4, a5⟩ := q
  rcases hv with rfl | ⟨T, rfl⟩
  · exact zipFree_end hh D (fun h => free_none a1 h) a1 a2 a3 a4 a5 hl1 hl2 hend hE
  · cases hT : s.heap.get? T with
    | none => exact zipFree_end hh D (fun h => free_dead a1 hT h) a1 a2 a3 a4 a5 hl1 hl2 hend hE
    | some oT => exact zip_next_end_held hh D a1 hT a2 a4 a5 hl1 hl2 hend fun h' e b1 b2 => hE h' e (fun c o c1 _ c3 c4 => b1 c o c1 c3 c4) b2
theorem nextOf_zipA {Q : Value → Shared → Prop} (D : ZipApart z TI TO i1 i2 l1 l2) (q : ZS s.heap z TI TO i1 i2 l1 l2 k) (hl1 : s.heap.IsList l1 xs) (hl2 : s.heap.IsList l2 ys) (hx : xs[k]? = some x) (hy : ys[k]? = some y)
    (hQ : ∀ h', ZS h' z TI TO i1 i2 l1 l2 (k + 1) → IsPair h' s.heap.objs.size x y → h'.objs.size = s.heap.objs.size + 1 →
      (∀ c o, c ≠ z → c ≠ TO → c ≠ i1 → c ≠ i2 → s.heap.get? c = some o → h'.get? c = some o) → Q (.ref s.heap.objs.size) { s with heap := h' }) : wpAny (model prog w) A (Builtin.SmallTypes.nextOf (.ref z)) Q E s := by
  unfold Builtin.SmallTypes.nextOf
  exact wpAny_bind (wpAny_callSpecial?_slot (name := Str.ofString "__next__") q.isz F.slot_zip_next
    (wpAny_call_entry F.slot_zip_next q.isz F.entry_zip_next (zipA_item D q hl1 hl2 hx hy fun h' a1 a2 a3 a4 => wpAny_pure (hQ h' a1 a2 a3 a4)) (F.args_zip_next_1 _)))
theorem nextOf_zipEnd {Q : Value → Shared → Prop} (hh : A.handled = none) (D : ZipApart z TI TO i1 i2 l1 l2) (q : ZS s.heap z TI TO i1 i2 l1 l2 k) (hl1 : s.heap.IsList l1 xs) (hl2 : s.heap.IsList l2 ys) (hend : xs[k]? = none ∨ ys[k]? = none)
    (hE : ∀ h' e, (∀ c o, c ≠ z → c ≠ TO → c ≠ i1 → c ≠ i2 → s.heap.get? c = some o → h'.get? c = some o) → (∃ o, h'.get? e = some o ∧ o.cls = .type "StopIteration") → E (.ref e) { s with heap := h' }) :
    wpAny (model prog w) A (Builtin.SmallTypes.nextOf (.ref z)) Q E s := by
  unfold Builtin.SmallTypes.nextOf
  exact wpAny_bind (wpAny_callSpecial?_slot (name := Str.ofString "__next__") q.isz F.slot_zip_next
    (wpAny_call_entry F.slot_zip_next q.isz F.entry_zip_next (zipA_end hh D q hl1 hl2 hend hE) (F.args_zip_next_1 _)))
/-- the enumerate stands apart from all of the zip's -/
structure EApart (e z TI TO i1 i2 : Addr) : Prop where
  ez : e ≠ z
  eTI : e ≠ TI
  eTO : e ≠ TO
  e1 : e ≠ i1
  e2 : e ≠ i2
theorem EApart.of {b : Addr} (Ea : EApart e z TI TO i1 i2) (hb : b = z ∨ b = TI ∨ b = TO ∨ b = i1 ∨ b = i2) : b ≠ e := by
  rcases hb with rfl | rfl | rfl | rfl | rfl
  · exact Ea.ez.symm
  · exact Ea.eTI.symm
  · exact Ea.eTO.symm
  · exact Ea.e1.symm
  · exact Ea.e2.symm
theorem enumZ_item {Q : Value → Shared → Prop} (D : ZipApart z TI TO i1 i2 l1 l2) (Ea : EApart e z TI TO i1 i2) (he : IsEnum s.heap e z c old) (q : ZS s.heap z TI TO i1 i2 l1 l2 k) (hl1 : s.heap.IsList l1 xs) (hl2 : s.heap.IsList l2 ys) (hx : xs[k]? = some x) (hy : ys[k]? = some y)
    (hQ : ∀ h' tk, IsEnumOut h' e z (c + 1) (.ref s.heap.objs.size) (s.heap.objs.size + 1) → ZS h' z TI TO i1 i2 l1 l2 (k + 1) → IsPair h' s.heap.objs.size x y → h'.get? (s.heap.objs.size + 1) = some { cls := .type "tuple", data := .seq #[.int c tk, .ref s.heap.objs.size] } →
      (∀ b o, b ≠ e → b ≠ z → b ≠ TO → b ≠ i1 → b ≠ i2 → s.heap.get? b = some o → h'.get? b = some o) → Q (.ref (s.heap.objs.size + 1)) { s with heap := h', toks := tk + 1 }) :
    wpAny (model prog w) A (Builtin.«enumerate.__next__» ⟨[.ref e], []⟩) (fun fin s' => ∃ v, fin = .done (.ret v) ∧ Q v s') E s := by
  obtain ⟨hp, g, d, tk, os⟩ := s
  show wpAny _ _ (field (.ref e) 2 >>= _) _ _ _
  refine wpAny_bind (wpAny_field he rfl (x := .ref z) rfl ?_)
  refine wpAny_bind (nextOf_zipA D q hl1 hl2 hx hy fun h1 q1 p1 z1 k1 => ?_)
  replace p1 : IsPair h1 hp.objs.size x y := p1
  replace z1 : h1.objs.size = hp.objs.size + 1 := z1
  replace k1 : ∀ c o, c ≠ z → c ≠ TO → c ≠ i1 → c ≠ i2 → hp.get? c = some o → h1.get? c = some o := k1
  have e1 : IsEnum h1 e z c old := k1 _ _ Ea.ez Ea.eTO Ea.e1 Ea.e2 he
  have el : e < hp.objs.size := Heap.lt_size he
  show wpAny _ _ (field (.ref e) 3 >>= _) _ _ ⟨h1, g, d, tk, os⟩
  refine wpAny_bind (wpAny_field e1 rfl (x := rawInt c) rfl ?_)
  show wpAny _ _ (field (.ref e) 4 >>= _) _ _ ⟨h1, g, d, tk, os⟩
  refine wpAny_bind (wpAny_field e1 rfl (x := .none) rfl ?_)
  show wpAny _ _ (mkInt c >>= _) _ _ ⟨h1, g, d, tk, os⟩
  refine wpAny_bind (wpAny_mkInt ?_)
  show wpAny _ _ (setField (.ref e) 3 (rawInt (c + 1)) >>= _) _ _ ⟨h1, g, d, tk + 1, os⟩
  refine wpAny_bind (wpAny_setField_rec e1 (by simp) fun h2 e2 s2 => ?_)
  replace e2 : IsEnum h2 e z (c + 1) old := e2
  show wpAny _ _ (setField (.ref e) 4 .none >>= _) _ _ ⟨h2, g, d, tk + 1, os⟩
  refine wpAny_bind (wpAny_setField_rec e2 (by simp) fun h3 e3 s3 => ?_)
  replace e3 : IsEnum h3 e z (c + 1) old := e3
  replace s2 : Heap.SameBut e h1 h2 := s2
  replace s3 : Heap.SameBut e h2 h3 := s3
  have z3 : h3.objs.size = hp.objs.size + 1 := by rw [s3.1, s2.1, z1]
  show wpAny _ _ (newTuple [.int c tk, .ref hp.objs.size] >>= _) _ _ ⟨h3, g, d, tk + 1, os⟩
  refine wpAny_bind (wpAny_newTuple ?_)
  have e4 : IsEnum (h3.push { cls := .type "tuple", data := .seq #[.int c tk, .ref hp.objs.size] }) e z (c + 1) old := Heap.get?_push_of_some _ e3
  generalize hh4 : h3.push { cls := .type "tuple", data := .seq #[.int c tk, .ref hp.objs.size] } = h4 at e4
  have t4 : h4.get? (hp.objs.size + 1) = some { cls := .type "tuple", data := .seq #[.int c tk, .ref hp.objs.size] } := by rw [← hh4, ← z3]; exact Heap.get?_push_size _ rfl
  have u4 : ∀ b o, b ≠ e → h1.get? b = some o → h4.get? b = some o := fun b o hb q => by
    rw [← hh4]; exact Heap.get?_push_of_some _ (s3.extBut b o hb (s2.extBut b o hb q))
  show wpAny _ _ (Builtin.SmallTypes.ownedTupleIsFree (.ref e) >>= _) _ _ ⟨h4, g, d, tk + 1, os⟩
  rw [z3]
  refine wpAny_bind ?_
  unfold Builtin.SmallTypes.ownedTupleIsFree
  refine wpAny_bind (wpAny_field e4 rfl (x := .none) rfl (wpAny_pure ?_))
  simp only [if_true]
  refine wpAny_bind (wpAny_rule (wpAny_bind (wpAny_field e4 rfl (x := old) rfl (wpAny_bind (wpAny_setField_rec e4 (by simp) fun h5 e5 s5 => ?_)))))
  replace e5 : IsEnum h5 e z (c + 1) (.ref hp.objs.size) := e5
  replace s5 : Heap.SameBut e h4 h5 := s5
  show wpAny _ _ (Builtin.SmallTypes.ownedTupleHandOut (.ref e) (.ref (hp.objs.size + 1)) >>= _) _ _ ⟨h5, g, d, tk + 1, os⟩
  refine wpAny_bind ?_
  unfold Builtin.SmallTypes.ownedTupleHandOut
  refine wpAny_bind (wpAny_setField_rec e5 (by simp) fun h6 e6 s6 => ?_)
  replace e6 : IsEnumOut h6 e z (c + 1) (.ref hp.objs.size) (hp.objs.size + 1) := e6
  replace s6 : Heap.SameBut e h5 h6 := s6
  refine wpAny_setField_rec e6 (by simp) fun h7 e7 s7 => ?_
  replace e7 : IsEnumOut h7 e z (c + 1) (.ref hp.objs.size) (hp.objs.size + 1) := e7
  replace s7 : Heap.SameBut e h6 h7 := s7
  have u7 : ∀ b o, b ≠ e → h4.get? b = some o → h7.get? b = some o := fun b o hb q => s7.extBut b o hb (s6.extBut b o hb (s5.extBut b o hb q))
  refine wpAny_bind (wpAny_letGo (wpAny_pure ⟨_, rfl, hQ h7 tk e7 ?_ ?_ ?_ ?_⟩))
  · exact q1.keep fun b hb o y => u7 b o (Ea.of hb) (u4 b o (Ea.of hb) y)
  · exact u7 _ _ (Nat.ne_of_gt el) (u4 _ _ (Nat.ne_of_gt el) p1)
  · exact u7 _ _ (Nat.ne_of_gt (Nat.lt_succ_of_lt el)) t4
  · exact fun b o b1 b2 b3 b4 b5 y => u7 b o b1 (u4 b o b1 (k1 b o b2 b3 b4 b5 y))
end
end EB

namespace EB
open PySem L2 PySem.Spec PyProof.Rows
section
variable {X : Cx} {pins : List (Addr × Obj)} {σ : L2.St} {H : Hp} {s : Shared} {h' : Heap}
/-- records of ours have turned, two new objects are laid -/
theorem turnedNew2 {t' : Nat} {ch : List Addr} {S T : Addr} {oS oT : HO} (I : Inv X pins σ H s) (k : ∀ b o, b ∉ ch → s.heap.get? b = some o → h'.get? b = some o) (hf : ∀ b ∈ ch, FpOk X pins H b) (hS : s.heap.objs.size ≤ S) (hT : s.heap.objs.size ≤ T) (hne : S ≠ T)
    (newS : ObjOk X.prog X.w (upd (upd H S oS) T oT) h' S oS) (newT : ObjOk X.prog X.w (upd (upd H S oS) T oT) h' T oT) : Inv X pins σ (upd (upd H S oS) T oT) { s with heap := h', toks := t' } := by
  have nS : H S = none := I.hok.fresh hS
  have nT : H T = none := I.hok.fresh hT
  have nit : ∀ b u, H b = some u → b ∉ ch := fun b u e z => by
    have q := (hf b z).1
    rw [q] at e
    cases e
  have old : ∀ b u, H b = some u → upd (upd H S oS) T oT b = some u := fun b u e => by
    rw [upd_ne (ne_of_none e nT), upd_ne (ne_of_none e nS)]
    exact e
  refine I.step (g' := s.gens) (d' := s.drawn) (ch := ch) (fun b hb => ⟨(hf b hb).2.2.2.1, (hf b hb).2.1, (hf b hb).2.2.2.2.1, (hf b hb).2.2.2.2.2⟩) (fun b o _ _ hc e _ => k b o hc e) (fun b o _ _ hc e _ => ⟨o.slots, k b o hc e⟩)
    (fun b o _ e n => ?_) (fun b o hc e => ⟨o, k b o hc e⟩) (fun b xs e => old b _ e) (fun b o u e => old b _ e) (fun b ps e => ⟨#[], ?_⟩) (fun m hm => ?_) (fun b u e => ?_) I.bare
  · have hl := Heap.lt_size e
    rw [upd_ne (Nat.ne_of_lt (Nat.lt_of_lt_of_le hl hT)), upd_ne (Nat.ne_of_lt (Nat.lt_of_lt_of_le hl hS))]
    exact n
  · rw [old b _ e]
    simp
  · obtain ⟨o, es, ep, ho, r⟩ := hm
    exact ⟨o, es, ep, k _ o (fun z => (hf _ z).2.1 rfl) ho, r⟩
  · by_cases hb : b = T
    · subst hb
      rw [upd_same] at e
      cases e
      exact newT
    · rw [upd_ne hb] at e
      by_cases hb2 : b = S
      · subst hb2
        rw [upd_same] at e
        cases e
        exact newS
      · rw [upd_ne hb2] at e
        refine (I.hok b u e).stay (fun c v hc q => k c v ?_ q) (fun c q => old c _ q) fun c xs q => old c _ q
        rcases hc with z | z
        · rw [z]
          exact nit b u e
        · exact nit c _ z
end
/-- the lists at a and b as they stand at each turn, the items in new pairs, those beside their number in new pairs -/
def Itez (K : PySem.W.Frag) (a b : Addr) : It :=
  ⟨fun i H => ∃ (xs ys : List V) (x y : V), SqL K H a xs ∧ SqL K H b ys ∧ xs[i]? = some x ∧ ys[i]? = some y,
    fun i H v H' => ∃ S T x y, v = .ref T ∧ H S = none ∧ H T = none ∧ S ≠ T ∧ H' = upd (upd H S (.tup [x, y])) T (.tup [.int (i : Nat), .ref S]) ∧ (∀ xs, SqL K H a xs → xs[i]? = some x) ∧ ∀ ys, SqL K H b ys → ys[i]? = some y,
    fun i H => ∃ xs ys : List V, SqL K H a xs ∧ SqL K H b ys ∧ (xs.length ≤ i ∨ ys.length ≤ i)⟩
section
variable {prog : Program} {w : World} {A : Around} {E : Value → Shared → Prop} {s : Shared} {z TI TO i1 i2 l1 l2 e : Addr} {k : Nat} {xs ys : Array Value} {x y old : Value} {c : Int}
theorem pyNext_enumZ {Q : Option Value → Shared → Prop} (D : ZipApart z TI TO i1 i2 l1 l2) (Ea : EApart e z TI TO i1 i2) (he : IsEnum s.heap e z c old) (q : ZS s.heap z TI TO i1 i2 l1 l2 k) (hl1 : s.heap.IsList l1 xs) (hl2 : s.heap.IsList l2 ys) (hx : xs[k]? = some x) (hy : ys[k]? = some y)
    (hQ : ∀ h' tk, IsEnumOut h' e z (c + 1) (.ref s.heap.objs.size) (s.heap.objs.size + 1) → ZS h' z TI TO i1 i2 l1 l2 (k + 1) → IsPair h' s.heap.objs.size x y → h'.get? (s.heap.objs.size + 1) = some { cls := .type "tuple", data := .seq #[.int c tk, .ref s.heap.objs.size] } →
      (∀ b o, b ≠ e → b ≠ z → b ≠ TO → b ≠ i1 → b ≠ i2 → s.heap.get? b = some o → h'.get? b = some o) → Q (some (.ref (s.heap.objs.size + 1))) { s with heap := h', toks := tk + 1 }) :
    wpAny (model prog w) A (pyNext (.ref e)) Q E s := by
  have hT : s.TypeIs (.ref e) "enumerate" := ⟨_, he, rfl⟩
  unfold pyNext
  exact wpAny_bind (wpAny_attempt (wpAny_callSpecial?_slot (name := Str.ofString "__next__") hT F.slot_enumerate_next
    (wpAny_call_entry F.slot_enumerate_next hT F.entry_enumerate_next
      (enumZ_item D Ea he q hl1 hl2 hx hy fun h' tk a1 a2 a3 a4 a5 => wpAny_pure (hQ h' tk a1 a2 a3 a4 a5)) (F.args_enumerate_next_1 _))))
theorem pyNext_enumZEnd {Q : Option Value → Shared → Prop} (hh : A.handled = none) (D : ZipApart z TI TO i1 i2 l1 l2) (he : IsEnum s.heap e z c old) (q : ZS s.heap z TI TO i1 i2 l1 l2 k) (hl1 : s.heap.IsList l1 xs) (hl2 : s.heap.IsList l2 ys) (hend : xs[k]? = none ∨ ys[k]? = none)
    (hQ : ∀ h', (∀ c o, c ≠ z → c ≠ TO → c ≠ i1 → c ≠ i2 → s.heap.get? c = some o → h'.get? c = some o) → Q none { s with heap := h' }) :
    wpAny (model prog w) A (pyNext (.ref e)) Q E s := by
  have hT : s.TypeIs (.ref e) "enumerate" := ⟨_, he, rfl⟩
  unfold pyNext
  refine wpAny_bind (wpAny_attempt (wpAny_callSpecial?_slot (name := Str.ofString "__next__") hT F.slot_enumerate_next
    (wpAny_call_entry F.slot_enumerate_next hT F.entry_enumerate_next ?_ (F.args_enumerate_next_1 _))))
  show wpAny _ _ (field (.ref e) 2 >>= _) _ _ _
  refine wpAny_bind (wpAny_field he rfl (x := .ref z) rfl ?_)
  refine wpAny_bind (nextOf_zipEnd hh D q hl1 hl2 hend fun h' x hk hx' => ?_)
  obtain ⟨o, ho, hc⟩ := hx'
  refine wpAny_bind (wpAny_isInstance (T := "StopIteration") (b := true) ⟨o, ho, hc⟩ isSubtype_stop ?_)
  exact wpAny_pure (hQ _ hk)
end
theorem turn_enumZ {P : Program} {w : World} {K : PySem.W.Frag} {elts : List Expr} {kk : Nat} {tpos : Pos} {a b e z TI TO i1 i2 : Addr} (D : ZipApart z TI TO i1 i2 a b) (Ea : EApart e z TI TO i1 i2) :
    Turn P w K (.Tuple elts kk tpos) (Itez K a b) [e, z, TI, TO, i1, i2] e (fun i h => (∃ old, IsEnum h e z ((i : Nat) : Int) old) ∧ ZS h z TI TO i1 i2 a b i) where
  mem := by simp
  obj := fun i h st d hd => by
    obtain ⟨⟨old, he⟩, v, f, x0, y0, hv, a1, a2, a3, ⟨o4, e4, _, d4⟩, ⟨o5, e5, _, d5⟩⟩ := st
    have e' : d = e ∨ d = z ∨ d = TI ∨ d = TO ∨ d = i1 ∨ d = i2 := by simpa using hd
    rcases e' with q | q | q | q | q | q
    · rw [q]; exact ⟨_, he, fun v q => nomatch q⟩
    · rw [q]; exact ⟨_, a1, fun v q => nomatch q⟩
    · rw [q]; exact ⟨_, a2, fun v q => nomatch q⟩
    · rw [q]; exact ⟨_, a3, fun v q => nomatch q⟩
    · rw [q]; exact ⟨o4, e4, fun v q => by rw [d4] at q; cases q⟩
    · rw [q]; exact ⟨o5, e5, fun v q => by rw [d5] at q; cases q⟩
  keep := fun i h h' st k => by
    obtain ⟨⟨old, he⟩, q⟩ := st
    exact ⟨⟨old, k e (by simp) _ he⟩, q.keep fun d hd o y => k d (by rcases hd with r | r | r | r | r <;> simp [r]) o y⟩
  item := by
    intro X hP hw hK hc i pins s σ H E I hf st hg
    subst hP hw hK
    obtain ⟨⟨old, he⟩, q⟩ := st
    obtain ⟨xs, ys, x, y, hqx, hqy, hx, hy⟩ := hg
    obtain ⟨its, rv, p, _⟩ := I.list hqx
    obtain ⟨its2, rv2, p2, _⟩ := I.list hqy
    obtain ⟨u, hu, ru⟩ := rv.get hx
    obtain ⟨u2, hu2, ru2⟩ := rv2.get hy
    have el : e < s.heap.objs.size := Heap.lt_size he
    refine pyNext_enumZ D Ea he q p.isList p2.isList (x := u) (y := u2) (by simpa using hu) (by simpa using hu2) fun h1 tk b1 b2 b3 b4 b5 => ?_
    refine ⟨_, rfl, wpAny_letOwnedTupleGo_enum (s := { s with heap := h1, toks := tk + 1 }) b1 fun h2 c1 sb => ?_⟩
    have up : ∀ d o, d ≠ e → h1.get? d = some o → h2.get? d = some o := fun d o hd y => (sb.2 d hd).trans y
    have p3 : IsPair h2 s.heap.objs.size u u2 := up _ _ (Nat.ne_of_gt el) b3
    have t3 := up _ _ (Nat.ne_of_gt (Nat.lt_succ_of_lt el)) b4
    have hne : s.heap.objs.size ≠ s.heap.objs.size + 1 := Nat.ne_of_lt (Nat.lt_succ_self _)
    have newS : ObjOk X.prog X.w (upd (upd H s.heap.objs.size (.tup [x, y])) (s.heap.objs.size + 1) (.tup [.int (i : Nat), .ref s.heap.objs.size])) h2 s.heap.objs.size (.tup [x, y]) :=
      ⟨by show 2 ≤ sizeLine; decide, [u, u2], .cons ru (.cons ru2 .nil), ⟨_, p3, rfl, _, rfl⟩⟩
    have newT : ObjOk X.prog X.w (upd (upd H s.heap.objs.size (.tup [x, y])) (s.heap.objs.size + 1) (.tup [.int (i : Nat), .ref s.heap.objs.size])) h2 (s.heap.objs.size + 1) (.tup [.int (i : Nat), .ref s.heap.objs.size]) :=
      ⟨by show 2 ≤ sizeLine; decide, [.int i tk, .ref s.heap.objs.size], .cons ⟨_, rfl⟩ (.cons rfl .nil), ⟨_, t3, rfl, _, rfl⟩⟩
    have I1 := turnedNew2 (t' := tk + 1) (ch := [e, z, TI, TO, i1, i2]) I (fun d o hd y => up d o (fun r => hd (by simp [r])) (b5 d o (fun r => hd (by simp [r])) (fun r => hd (by simp [r])) (fun r => hd (by simp [r])) (fun r => hd (by simp [r])) (fun r => hd (by simp [r])) y)) hf (Nat.le_refl _) (Nat.le_succ _) hne newS newT
    refine ⟨.ref (s.heap.objs.size + 1), _, I1, rfl, ⟨_, _, x, y, rfl, I.hok.fresh (Nat.le_refl _), I.hok.fresh (Nat.le_succ _), hne, rfl, fun l hl => by rw [I.list_inj hl hqx]; exact hx, fun l hl => by rw [I.list_inj hl hqy]; exact hy⟩, ⟨⟨.ref s.heap.objs.size, ?_⟩, b2.keep fun d hd o y => up d o (Ea.of hd) y⟩, fun d hd => ?_⟩
    · have e1 : ((i + 1 : Nat) : Int) = (i : Int) + 1 := by omega
      rw [e1]
      exact c1
    · have hl : d < s.heap.objs.size := by
        obtain ⟨v, f, x0, y0, hv, a1, a2, a3, ⟨o4, e4, _, d4⟩, ⟨o5, e5, _, d5⟩⟩ := q
        have e' : d = e ∨ d = z ∨ d = TI ∨ d = TO ∨ d = i1 ∨ d = i2 := by simpa using hd
        rcases e' with r | r | r | r | r | r
        · rw [r]; exact el
        · rw [r]; exact Heap.lt_size a1
        · rw [r]; exact Heap.lt_size a2
        · rw [r]; exact Heap.lt_size a3
        · rw [r]; exact Heap.lt_size e4
        · rw [r]; exact Heap.lt_size e5
      rw [upd_ne (Nat.ne_of_lt (Nat.lt_succ_of_lt hl)), upd_ne (Nat.ne_of_lt hl)]
      exact (hf d hd).1
  done := by
    intro X hP hw hK hc i pins s σ H E I hf st hg
    subst hP hw hK
    obtain ⟨⟨old, he⟩, q⟩ := st
    obtain ⟨xs, ys, hqx, hqy, hend⟩ := hg
    obtain ⟨its, rv, p, _⟩ := I.list hqx
    obtain ⟨its2, rv2, p2, _⟩ := I.list hqy
    have l1 := rv.length
    have l2 := rv2.length
    have hee : its.toArray[i]? = none ∨ its2.toArray[i]? = none := by
      rcases hend with r | r
      · exact .inl (by simp; omega)
      · exact .inr (by simp; omega)
    exact pyNext_enumZEnd (I.ok.hd hc) D he q p.isList p2.isList hee fun h' hk => ⟨rfl, I.turnedL (t' := s.toks) (ch := [e, z, TI, TO, i1, i2]) (fun d o hd y =>
      hk d o (fun r => hd (by simp [r])) (fun r => hd (by simp [r])) (fun r => hd (by simp [r])) (fun r => hd (by simp [r])) y) hf⟩
  self := fun A i s Q E st h => let ⟨⟨_, he⟩, _⟩ := st; wpAny_pyIter_enum he h
end EB

namespace EB
open PySem L2 PySem.Spec PyProof.Rows
theorem meets_enumerate_newZ (z TI TO : Addr) :
    Meets (Builtin.«enumerate.__new__» ⟨[.type "enumerate", .ref z], []⟩) (fun _ R s => IsZip s.heap z TI TO .none ∧
      R (.ok (.ret (.ref s.heap.objs.size))) { s with heap := s.heap.push { cls := .type "enumerate", data := .fields #[.none, .bool false, .ref z, rawInt 0, .none, .none] } }) :=
  .of_wp fun prog w A R s h => by
    obtain ⟨hp, g, d, tk, os⟩ := s
    obtain ⟨hz, h⟩ := h
    have hsub := sub_enumerate
    have hZ : IsZip (Shared.heap ⟨hp, g, d, tk, os⟩) z TI TO .none := hz
    wp_walk using wpAny_loadPart' hz
    refine wpAny_stack_any fun st => wpAny_pure ?_
    split
    · rename_i c _ _ _ _ _
      cases (c == Value.type "enumerate")
      · wp_walk using wpAny_loadPart' hz, wpAny_pyIter_zip hZ
        exact ⟨_, rfl, h⟩
      · wp_walk using wpAny_loadPart' hz, wpAny_pyIter_zip hZ
        exact ⟨_, rfl, h⟩
    · wp_walk using wpAny_loadPart' hz, wpAny_pyIter_zip hZ
      exact ⟨_, rfl, h⟩
theorem call_enumerate_zip {prog : Program} {w : World} {A : Around} {E : Value → Shared → Prop} {s : Shared} {z TI TO : Addr} {Q : Value → Shared → Prop} (hz : IsZip s.heap z TI TO .none)
    (h : ∀ h', IsEnum h' s.heap.objs.size z 0 .none → (∀ b o, s.heap.get? b = some o → h'.get? b = some o) → Q (.ref s.heap.objs.size) { s with heap := h' }) :
    wpAny (model prog w) A (call (.type "enumerate") [.ref z]) Q E s := by
  refine callType_new F.called_enumerate (by decide) (F.typeCall_enumerate_1 _) (F.newCall_enumerate_1 _) (fun obj => F.args_object_init_2 obj _) F.entry_enumerate_new
    (meets_enumerate_newZ z TI TO) ⟨hz, ?_⟩
  have he : IsEnum (s.heap.push { cls := .type "enumerate", data := .fields #[.none, .bool false, .ref z, rawInt 0, .none, .none] }) s.heap.objs.size z 0 .none := Heap.get?_push_size _ rfl
  exact ⟨⟨_, he, rfl⟩, h _ he fun b o q => Heap.get?_push_of_some _ q⟩
def iEnumZip (K : PySem.W.Frag) (ta : TA) : TI := fun σ H R => ta σ H fun vs H1 => ∃ a b xs ys, vs = [.ref a, .ref b] ∧ SqL K H1 a xs ∧ SqL K H1 b ys ∧ R (Itez K a b) H1
theorem pi_enumZip {X : Cx} {e e2 : Expr} {ta : TA} {p p2 pos pos2 tpos : Pos} {elts : List Expr} {kk : Nat} (hg : Gl X "enumerate") (hm : X.mg "enumerate" = none) (hg2 : Gl X "zip") (hm2 : X.mg "zip" = none) (ha : PA X [e, e2] ta)
    (hs : starEach [e, e2] X.env = (false, eval e X.env) :: starEach [e2] X.env := by rfl) (hpl : (backTo pos2 (starEach [e2] X.env)).any (·.1) = false := by rfl) :
    PI X (.Tuple elts kk tpos) (.Call (.Name "enumerate" p) [.Call (.Name "zip" p2) [e, e2] [] pos2] [] pos) (iEnumZip X.K ta) := by
  refine ⟨fun pins s σ H R I h => ?_⟩
  refine Call_ (ld_blt I hg hm boot_enumerate (PyProof.Rows.callWith_type1 ?_ rfl rfl))
  show wpAny _ _ (spliced [(false, eval (.Call (.Name "zip" p2) [e, e2] [] pos2) X.env)]) _ _ s
  refine Calls.spliced_cons ?_
  refine Call_ (ld_blt I hg2 hm2 PyProof.Rows.boot_zip (PyProof.Rows.callWith_type1 (thn (ha.run pos2 pins s σ H _ I h) fun us s1 ⟨vs, H1, I1, r1, q1⟩ => ?_) hs hpl))
  obtain ⟨a, b, xs, ys, ex, hqx, hqy, q⟩ := q1
  subst ex
  cases r1 with
  | cons r rr =>
    cases rr with
    | cons r' rr =>
      cases rr
      cases r
      cases r'
      obtain ⟨its, rv, p1, _⟩ := I1.list hqx
      obtain ⟨its2, rv2, p2', _⟩ := I1.list hqy
      have la : a < s1.heap.objs.size := p1.lt
      have lb : b < s1.heap.objs.size := p2'.lt
      refine call_zip_2 p1.isList p2'.isList fun h' hz hTI hTO h1 h2 hsz hk => Calls.spliced_nil ?_
      refine call_enumerate_zip hz fun h'' he hk2 => wpAny_pyIter_enum he ?_
      have I2 : Inv X pins σ H1 { s1 with heap := h'' } := I1.kept (t' := s1.toks) fun b o y => hk2 b o (hk b o y)
      have he : IsEnum h'' h'.objs.size (s1.heap.objs.size + 4) 0 .none := he
      refine ⟨h'.objs.size, [h'.objs.size, s1.heap.objs.size + 4, s1.heap.objs.size + 2, s1.heap.objs.size + 3, s1.heap.objs.size, s1.heap.objs.size + 1], _, _, H1, rfl, I2,
        turn_enumZ (PySem.W.ktu_apart s1.heap.objs.size a b la lb) ⟨?_, ?_, ?_, ?_, ?_⟩, ⟨⟨.none, he⟩, .none, false, .none, .none, .inl rfl, hk2 _ _ hz, hk2 _ _ hTI, hk2 _ _ hTO, h1.at fun o y => hk2 _ o y, h2.at fun o y => hk2 _ o y⟩, fun c hcm => ?_, q⟩
      · rw [hsz]; exact Nat.ne_of_gt (Nat.lt_succ_self _)
      · rw [hsz]; exact Nat.ne_of_gt (by show s1.heap.objs.size + 2 < s1.heap.objs.size + 5; omega)
      · rw [hsz]; exact Nat.ne_of_gt (by show s1.heap.objs.size + 3 < s1.heap.objs.size + 5; omega)
      · rw [hsz]; exact Nat.ne_of_gt (by show s1.heap.objs.size < s1.heap.objs.size + 5; omega)
      · rw [hsz]; exact Nat.ne_of_gt (by show s1.heap.objs.size + 1 < s1.heap.objs.size + 5; omega)
      · have e' : c = h'.objs.size ∨ c = s1.heap.objs.size + 4 ∨ c = s1.heap.objs.size + 2 ∨ c = s1.heap.objs.size + 3 ∨ c = s1.heap.objs.size ∨ c = s1.heap.objs.size + 1 := by simpa using hcm
        have hle : s1.heap.objs.size ≤ c := by
          rcases e' with z | z | z | z | z | z
          · rw [z, hsz]; exact Nat.le_add_right _ _
          · rw [z]; exact Nat.le_add_right _ _
          · rw [z]; exact Nat.le_add_right _ _
          · rw [z]; exact Nat.le_add_right _ _
          · rw [z]; exact Nat.le_refl _
          · rw [z]; exact Nat.le_add_right _ _
        exact I1.fpOk hle (I1.hok.fresh hle)
end EB

namespace EB
open PySem L2
section
variable {σ : L2.St} {G H : Hp} {Q : VK} {ta tb te tl : TE} {tt : TT} {v w x y : V} {tr : TA} {K : PySem.W.Frag} {L : List Res} {g g1 g2 g3 : TG} {vs : List Nat}
theorem g_iEZ {R : It → Hp → Prop} (h : tr σ H fun vs H1 => ∃ a b xs ys, vs = [.ref a, .ref b] ∧ SqL K H1 a xs ∧ SqL K H1 b ys ∧ R (Itez K a b) H1) : iEnumZip K tr σ H R := h
theorem walk_ez {a b : Addr} {xs ys : List V} {n : Nat} (hn : n = min xs.length ys.length) : Walk (Itez K a b) n (fun H => SqL K H a xs ∧ SqL K H b ys) (fun i H v H' => ∃ S T x y, v = .ref T ∧ H S = none ∧ H T = none ∧ S ≠ T ∧ H' = upd (upd H S (.tup [x, y])) T (.tup [.int (i : Nat), .ref S]) ∧ xs[i]? = some x ∧ ys[i]? = some y) where
  goes := fun i H hi ⟨h1, h2⟩ => by
    have l1 : i < xs.length := by omega
    have l2 : i < ys.length := by omega
    exact ⟨xs, ys, xs[i], ys[i], h1, h2, by simp [l1], by simp [l2]⟩
  yields := fun i H v H' hi ⟨h1, h2⟩ ⟨S, T, x, y, e1, e2, e3, e4, e5, e6, e7⟩ => ⟨S, T, x, y, e1, e2, e3, e4, e5, e6 xs h1, e7 ys h2⟩
  stops := fun H ⟨h1, h2⟩ => ⟨xs, ys, h1, h2, by omega⟩
variable {B : Type} [Rp B]
/-- over enumerate of zip of two lists -/
theorem lcEZ {A C : Type} [Rp A] [Rp C] {xs : List A} {ys : List C} {n m j : Nat} (r : Rep G v xs) (r' : Rep G w ys) (s : Sep G H L) (hn : n = 2) (hm : m = 2) (I : Nat → List B → List Res → Prop) (h0 : I 0 [] L)
    (hs : ∀ i a b x y D acc G' H' Lc, xs[i]? = some x → ys[i]? = some y → Rep G' a x → Rep G' b y → I i acc Lc → Same G G' → Sep G' H' (OwnL D acc :: Lc) →
      gName j (.int i) (wipe σ vs) H' fun σ0 H0 => g2 a σ0 H0 fun σ1 H1 => g3 b σ1 H1 fun σ2 H3 => wipe σ2 vs = wipe σ vs ∧ tt σ2 H3 fun b H4 => if b = true then te σ2 H4 (Put G D (I (i + 1))) else Nxt G D (I (i + 1)) H4)
    (hd : ∀ D acc G' H' Lc, I (min xs.length ys.length) acc Lc → Same G G' → Sep G' H' (OwnL D acc :: Lc) → Q (.ref D) H') :
    ∃ a b xs ys, [v, w] = [V.ref a, V.ref b] ∧ SqL K H a xs ∧ SqL K H b ys ∧ LcLoop (Itez K a b) (gTup K n (gCons (gName j) (gCons (gTup K m (gCons g2 (gCons g3 gNil))) gNil))) tt te σ vs Q H := by
  obtain ⟨p, us, rfl, h, rs⟩ := id r
  obtain ⟨q, ws, rfl, h', rs'⟩ := id r'
  have sq : ∀ {H'}, Same G H' → SqL K H' p us := fun s => .inl (.inl (s _ _ h))
  have sq' : ∀ {H'}, Same G H' → SqL K H' q ws := fun s => .inl (.inl (s _ _ h'))
  have e : min xs.length ys.length = min us.length ws.length := by rw [rs.len, rs'.len]
  refine ⟨p, q, us, ws, rfl, sq s.gh, sq' s.gh, lcW (walk_ez (xs := us) (ys := ws) e) s (fun G' H' u t => ⟨sq (u.trans t), sq' (u.trans t)⟩) I h0 (fun i v D acc G' H' H2 Lc hi pI u t hy => ?_) hd⟩
  obtain ⟨S, T, a, b, rfl, hS, hT, hne, rfl, ea, eb⟩ := hy
  obtain ⟨z, hz, rz⟩ := rs.get' ea
  obtain ⟨z', hz', rz'⟩ := rs'.get' eb
  have hT2 : upd H' S (.tup [a, b]) T = none := by rw [upd_ne hne.symm]; exact hT
  refine g_tgN hT2 hn ?_
  have t2 := (t.trash (o := .tup [a, b]) hS).trash (o := .tup [.int (i : Nat), .ref S]) hT2
  have go := hs i a b z z' D acc G' _ Lc hz hz' (rz.up u) (rz'.up u) pI u t2
  subst hm
  show gTup K 2 _ (.ref S) ((wipe σ vs).set j (some (.int i))) _ _
  exact g_tg2 (.inl (.inl (by rw [upd_ne hne, upd_same]))) go
end
end EB

namespace EB
open PySem L2 PySem.Spec PyProof.Rows
/-! ### D.__init__(self, ..) of an own exception class D that has ValueError's -/
section
variable {X : Cx} {e : Expr} {es : List Expr} {ta : TA} {x : Str} {D : Addr} {p1 p2 pos : Pos}
structure InitC (K : PySem.W.Frag) (D : Addr) : Prop where
  ga : PySem.W.specialIn K (.ref D) "__getattribute__" = some (some (.builtin "type.__getattribute__"))
  rd : PySem.W.readsIn K D (.type "type") = true
  vi : PySem.W.findCls K (.ref D) (.type "type") "__init__" = some (.val (.builtin "ValueError.__init__"))
theorem pe_owninit {pl : Sem Bool} (hg : Gl X x) (hm : X.mg x = some (.ref D)) (c : InitC X.K D) (ha : PA X (e :: es) ta) (hdb : (x == ("__debug__" : Str)) = false := by decide)
    (hc : eval (.Call (.Attribute (.Name x p1) "__init__" p2) (e :: es) [] pos) X.env = (do
      let ov ← eval (.Name x p1) X.env
      standAt p2.atName
      let (f, first) ← holding [ov] (getMethod ov "__init__" pl)
      callWith pos f first (backTo pos (starEach (e :: es) X.env)) (backToKw pos (keywordEach [] X.env))) := by rfl)
    (he : starEach (e :: es) X.env = (false, eval e X.env) :: starEach es X.env := by rfl) (hpl : (backTo pos (starEach es X.env)).any (·.1) = false := by rfl) :
    PE X (.Call (.Attribute (.Name x p1) "__init__" p2) (e :: es) [] pos) (tVeI X.K ta) := by
  refine ⟨fun pins s σ H Q I h => ?_⟩
  refine PySem.W.methodCall_KW (ld_glob I hg hm ?_ hdb) hc
  refine PySem.W.method_cls I.kIn c.ga (PySem.W.cls_value I.kIn c.rd c.vi (by decide +kernel) ?_)
  show wpAny _ _ (callWith pos (Value.builtin "ValueError.__init__") [] (backTo pos (starEach (e :: es) X.env)) []) _ _ _
  refine PyProof.Rows.callWith_method1 (thn (ha.run pos pins _ σ H _ (I.tok _) h) fun us s1 ⟨vs, H1, I1, r1, a, C, ws, ev, hl, T, ea, q⟩ => ?_) he hpl
  subst ev
  cases r1 with
  | @cons _ u0 _ ur ra rw' =>
    obtain rfl : u0 = Value.ref a := ra
    have hlen : ur.length ≤ sizeLine := by
      rw [← Paired.length rw', sizeLine_eq]
      omega
    exact oinit_ok T I1 ea hlen fun s' J => ⟨.non, H1, J, rfl, q⟩
end
end EB

namespace EB
open PySem L2
/-! ### an item of the script; a list's last item set -/
section
variable {G H : Hp} {Q : VK} {v : V} {K : PySem.W.Frag} {L : List Res} {p : Addr} {A : Type} [Rp A] {a b : A} {ys : List A}
theorem g_ixI {ns : List Int} {k n : Int} (h : SqL K H p (ns.map V.int)) (h0 : 0 ≤ k) (h1 : ns[k.toNat]? = some n) (q : Q (.int n) H) : rIx K (.ref p) (.int k) H Q :=
  .inl ⟨p, _, k, .int n, rfl, rfl, h, at_pos h0 (by rw [List.getElem?_map, h1]; rfl), q⟩
end
end EB

namespace EB
open PySem L2
/-! ### a < b < c -/
theorem g_chain {r r' : R2} {ta tb tc : TE} {σ : St} {H : Hp} {Q : VK} (h : ta σ H fun x H1 => tb σ H1 fun y H2 => r x y H2 fun z H3 => ∃ k, z = .bl k ∧ (if k = true then tc σ H3 fun w' H4 => r' y w' H4 Q else Q (.bl false) H3)) : tChain r r' ta tb tc σ H Q := h
end EB

namespace EB
open PySem L2
/-! ### x = [.. for k in d ..], d a dict that is not written any more: a list of ints -/
section
variable {σ : St} {G H : Hp} {D : L2.Ends} {tt : TT} {te : TE} {g : TG} {vs : List Nat} {L : List Res} {d : Addr} {i j : Nat} {kvs : List (Key × V)}
theorem g_lockLc (s : Sep G H L) (hd : G d = some (.dK kvs)) (hv : σ[j]? = some (some (.ref d))) (I : Nat → List Int → Prop) (h0 : I 0 [])
    (hs : ∀ t k v D' acc G1 G' H', kvs[t]? = some (k, v) → I t acc → (∃ od, G1 d = some (.frz od (.dK kvs))) → (∀ b o, b ≠ d → H b = some o → G1 b = some o) → Same G1 G' → Sep G' H' [OwnL D' acc] →
      g (kV k) (wipe σ vs) H' fun σ2 H3 => wipe σ2 vs = wipe σ vs ∧ tt σ2 H3 fun b H4 => if b = true then te σ2 H4 (Put G1 D' fun acc Lc => I (t + 1) acc ∧ Lc = []) else Nxt G1 D' (fun acc Lc => I (t + 1) acc ∧ Lc = []) H4)
    (hq : ∀ D' acc G2 H', I kvs.length acc → Same G G2 → Sep G2 H' L → Rep G2 (.ref D') acc → D.nx (σ.set i (some (.ref D'))) H') :
    tLock (tAsg (tLc (iKeys (tVar j)) g tt te vs) (gName i)) D σ H := by
  have hH := s.gh _ _ hd
  refine ⟨d, .dK kvs, hH, trivial, fun od => ?_⟩
  refine g_asg (g_lc ?_)
  refine ⟨_, hv, d, od, rfl, .inl ⟨kvs, upd_same, ?_⟩⟩
  show LcLoop _ _ _ _ _ _ _ _
  refine lcW (B := Int) (walk_keys (d := d) (o := od)) (Sep.all (upd H d (.frz od (.dK kvs)))) (fun G' H' u t => t _ _ (u _ _ upd_same)) (fun t acc Lc => I t acc ∧ Lc = []) ⟨h0, rfl⟩ ?_ ?_
  · rintro t v D' acc G' H' H2 Lc ht ⟨hI, rfl⟩ u st ⟨rfl, k, v', hk, rfl⟩
    exact hs t k v' D' acc _ G' _ hk hI ⟨od, upd_same⟩ (fun b o hb e => (upd_ne hb).trans e) u st
  · rintro D' acc G' H' Lc ⟨hI, rfl⟩ u st
    have e1 : H' d = some (.frz od (.dK kvs)) := st.gh _ _ (u _ _ upd_same)
    have hn : upd H d (.frz od (.dK kvs)) D' = none := by
      obtain ⟨vs, _, st⟩ := st.ownO
      exact u.free st.cellG
    have hne : D' ≠ d := fun z => by
      rw [z, upd_same] at hn
      cases hn
    rw [upd_ne hne] at hn
    refine ⟨e1, ?_⟩
    obtain ⟨q, vs, eq, e2, rs⟩ := st.ownRep
    cases eq
    obtain rfl := Reps.ints rs
    obtain ⟨G2, u2, st2, e3⟩ := s.later (H' := upd H' d (.dK kvs)) (D := D') (o := .lst (acc.map V.int)) (fun b o e => by
      by_cases hb : b = d
      · subst hb
        rw [upd_same, ← hH]
        exact e
      · rw [upd_ne hb]
        exact st.gh _ _ (u _ _ ((upd_ne hb).trans e))) hn ((upd_ne hne).trans e2)
    exact hq D' acc G2 _ hI u2 st2 ⟨D', _, rfl, e3, reps_ints acc⟩
/-- what a dict holds, locked or not -/
theorem d_getI {G H : Hp} {xs : List (Int × V)} {n : Int} {P : Addr → Option V → Prop} (h : H d = some (.dK (kvI xs)) ∨ ∃ od, H d = some (.frz od (.dK (kvI xs)))) (q : P d (xs.lookup n)) : ∃ a o, V.ref d = .ref a ∧ DGet H a (.int n) o ∧ P a o :=
  ⟨d, _, rfl, .inl ⟨kvI xs, .inl n, h, rfl, (kvI_get n xs).symm⟩, q⟩
theorem g_dget2 {td ty tx : TE} {Q : VK} (h : td σ H fun x H1 => ∃ a, x = .ref a ∧ IsD H1 a ∧ ty σ H1 fun y H2 => tx σ H2 fun z H3 => ∃ o, DGet H3 a y o ∧ Q (o.getD z) H3) : tDGet2 td ty tx σ H Q := h
end
end EB

namespace EB
open PySem L2 PySem.Spec PyProof.Rows
/-! ### defs that are run where no repr is under way -/
structure FnG (P : Program) (w : World) (K : PySem.W.Frag) (mg : Str → Option Value) (base : Heap) (k : Nat) (f : Addr) (fd : FuncData) (ps : List Str) (sp : Sp) : Prop where
  len : ∀ vs H Q E, sp vs H Q E → vs.length = ps.length
  run : ∀ (A : Around) (outer : List Env) (s : Shared) (H : Hp) (args : Args) (us : List Value) (vs : List V) (Q : VK) (E : XK), Room k A → A.guards = some [] → Env0 P w K mg base A outer s H → BindsTo s fd args (ps.zip us) → Vals vs us → sp vs H Q E →
    codeAny (model P w) A (.call (.ref f) args) (CR CX0 outer P w H s Q E) s
section
variable {P : Program} {w : World} {K : PySem.W.Frag} {mg : Str → Option Value} {base : Heap} {k : Nat} {f : Addr} {fd : FuncData} {ps N : List Str} {sp : Sp} {x qual : Str} {st : Stmt}
theorem FnG.of (F : FnOk P w K mg base CX0 k f fd ps sp) : FnG P w K mg base k f fd ps sp := ⟨F.len, fun A o s H a us vs Q E r _ => F.run A o s H a us vs Q E r⟩
theorem okG (F : Fun K x qual st f fd) (S : FnScope N ps (defScope st)) (len : ∀ vs H Q E, sp vs H Q E → vs.length = ps.length)
    (hbody : ∀ (cdv : Value) (A : Around) (outer : List Env) (s : Shared) (H : Hp) (vs : List V) (Q : VK) (E : XK), Room k (A.deeper (envOfC qual (defScope st) s.heap.objs.size f cdv)) → (A.deeper (envOfC qual (defScope st) s.heap.objs.size f cdv)).guards = some [] → sp vs H Q E →
      ∃ t, PSs (cxOf CX0 P w K mg base N qual (defScope st) f cdv A outer s H E).nox (defBody st) t ∧ t { nx := fun _ H' => Q .non H', rt := Q } (start N vs) H) : FnG P w K mg base (k + 1) f fd ps sp := by
  obtain ⟨oc, od, kV, doc, pm, an, cdv, ct, osl, rfl, lk, hcd⟩ := F.ex
  constructor
  · exact len
  intro A outer s H args us vs Q E room noG e0 bnd rel want
  have fr : K.In s.heap := e0.mod.kin.keeps fun b o e => (e0.bs b o e).1
  have kinds : ∀ y ∈ ps.zip us, (defScope st).names.lookup y.1 = some .local ∨ ((defScope st).names.lookup y.1 = some .cell ∧ ((cellsFrom (s.heap.objs.size + 1) (defScope st).names []).lookup y.1).isSome = true) := by
    rintro ⟨n, v⟩ hy
    cases S.par n (List.of_mem_zip hy).1 with
    | inl q => exact .inl q
    | inr q => exact .inr ⟨q, PySem.W.cellsFrom_some _ _ _ (.inl q)⟩
  apply codeAny_call_function room.depth (fr _ _ lk) rfl S.co S.gen rfl (PySem.W.codeRec_of fr hcd)
  refine bnd _ _ _ _ (wpAny_newFunctionEnv_cells S.kind kinds fun env he s1 x => ?_)
  subst he
  refine And.intro ((e0.mod.nolimit.keeps fun b o e => (e0.bs b o e).1).keeps x.toInCall.keep) (codeAny_func ?_)
  obtain ⟨t, ht, hq⟩ := hbody cdv A outer s H vs Q E (room.deeper _) noG want
  have I := inv_start (CX := CX0) (E := E) S room.hd e0 (len _ _ _ _ want) rel x
  apply wpAny_mono (ht.nox.run [] s1 (start N vs) H _ I hq) _ (fun _ _ z => z)
  have out : ∀ {s' : Shared} {σ' : L2.St} {H' : Hp} {v : V} {u : Value}, Inv (cxOf CX0 P w K mg base N qual (defScope st) f cdv A outer s H E) [] σ' H' s' → RelV v u → Q v H' → CE outer P w H s Q u s' := by
    intro s' σ' H' v u J rv q
    exact ⟨v, H', J.os, J.bare, J.base, J.hok, rv, q⟩
  rintro (_ | u | _ | _) s' hs
  · obtain ⟨σ', H', J, q⟩ := hs
    exact out (v := V.non) (u := Value.none) J rfl q
  all_goals first
    | exact (let ⟨_, _, _, J, rv, q⟩ := hs; out J rv q)
    | exact (let ⟨_, _, _, q⟩ := hs; False.elim q)
end
end EB

namespace EB
open PySem L2 PySem.Spec PyProof.Rows
/-! ### calls of such defs -/
structure CalG (P : Program) (w : World) (K : PySem.W.Frag) (mg : Str → Option Value) (base : Heap) (k : Nat) (x : Str) (sp : Sp) : Prop where
  ex : ∃ (f : Addr) (fd : FuncData) (ps : List Str), FnG P w K mg base k f fd ps sp ∧ mg x = some (.ref f) ∧ PySem.W.keepIn K (.ref f) = true ∧ Binds K fd ps []
theorem calG_of {P : Program} {w : World} {K : PySem.W.Frag} {mg : Str → Option Value} {base : Heap} {x qual : Str} {st : Stmt} {f : Addr} {fd : FuncData} {ps : List Str} {k : Nat} {sp : Sp} (F : Fun K x qual st f fd) (hm : mg x = some (.ref f)) (hb : Binds K fd ps []) (G : FnG P w K mg base k f fd ps sp) : CalG P w K mg base k x sp :=
  ⟨f, fd, ps, G, hm, F.kp, hb⟩
section
variable {X : Cx} {k j : Nat} {x : Str} {p pos : Pos} {e : Expr} {es : List Expr} {t : TA} {sp : Sp}
theorem pe_cG (c : CalG X.prog X.w X.K X.mg X.base k x sp) (noG : X.A.guards = some []) (hr : Room j X.A) (hk : k ≤ j) (hg : Gl X x) (ha : PA X (e :: es) t)
    (hdb : (x == ("__debug__" : Str)) = false := by decide) (he : starEach (e :: es) X.env = (false, eval e X.env) :: starEach es X.env := by rfl) (hpl : (backTo pos (starEach es X.env)).any (·.1) = false := by rfl) :
    PE X (.Call (.Name x p) (e :: es) [] pos) (tCall sp [] E0 t) := by
  obtain ⟨f, fd, ps, F, mine, kp, b⟩ := c.ex
  constructor
  intro pins s σ H Q I0 want
  apply wpAny_Call_Name_kw
  apply ld_glob I0 hg mine _ hdb
  apply PySem.W.callWith_K (h₀ := X.base) I0.ok.mod.kin kp _ he hpl
  refine thn (ha.run pos pins s σ H _ I0 want) ?_
  rintro us s1 ⟨vs, H1, I, rel, q⟩
  rw [List.append_nil] at q
  refine ⟨I.kIn, ?_⟩
  have same : us.length = ps.length := rel.length.symm.trans (F.len _ _ _ _ q)
  have bnd := b s1 us I.kIn (by rw [List.append_nil]; exact same)
  rw [List.append_nil] at bnd
  apply wpAny_call
  apply codeAny_mono (F.run X.A X.stack s1 H1 ⟨us, []⟩ us vs Q E0 (hr.mono hk) noG I.env0 bnd rel q)
  rintro (er | fl) s' hq
  · exact (pass0 (X := X) pins σ H1 s1 er s' I hq)
  · cases fl with
    | ret u => exact I.after hq
    | _ => exact hq.elim
end
end EB

namespace EB
open PySem L2 PySem.Spec PyProof.Rows
/-! ### repr of lists and tuples -/
def rReprD (K : PySem.W.Frag) : List V → Hp → VK → Prop := fun xs H Q => ∃ (a : Addr) (d : PyData), xs = [.ref a] ∧ Dp K H (.ref a) d ∧ d.showable = true ∧ d.hasDict = false ∧ d.depth ≤ 40 ∧ d.shown.length ≤ sizeLine ∧ Q (.str d.shown) H
theorem call_reprD {X : Cx} (noG : X.A.guards = some []) (hu : X.A.units + 64 < cLine) : CallR X (.builtin "repr") (rReprD X.K) := by
  intro pins s σ H xs us Q I r h
  obtain ⟨a, d, rfl, hd, hs, hn, hdep, hz, q⟩ := h
  rw [Vals.ref1 r]
  obtain ⟨as, rd⟩ := Dp.reads I d _ _ hd (rfl : RelV (.ref a) (.ref a))
  refine repr_of_reads' rd hs (PyData.noDict_hsm hn) noG (by omega) (fun _ _ e => e) (fun h' u tk k => ?_) hz
  exact ⟨.str d.shown, H, I.kept (t' := tk) k, ⟨u, rfl⟩, q⟩
def rReprA (K : PySem.W.Frag) : List V → Hp → VK → Prop := fun vs H Q => rStr vs H Q ∨ rReprD K vs H Q
theorem cReprA {X : Cx} (noG : X.A.guards = some []) (hu : X.A.units + 64 < cLine) : CallR X (.builtin "repr") (rReprA X.K) := cRepr.or (call_reprD noG hu)
/-- what can be shown -/
def Shw {A : Type} [Dt A] (x : A) : Prop := (Dt.d x).showable = true ∧ (Dt.d x).shown.length ≤ sizeLine
theorem g_repr {A : Type} [Dt A] {G H : Hp} {v : V} {x : A} {Q : VK} {K : PySem.W.Frag} (r : Rep G v x) (s : Same G H) (hv : ∃ a, v = .ref a) (hs : Shw x) (q : Q (.str (Dt.d x).shown) H) (hd : Dt.dep A ≤ 40 := by decide) : rReprA K [v] H Q := by
  obtain ⟨a, rfl⟩ := hv
  exact .inr ⟨a, _, rfl, Dt.dp s r, hs.1, PyData.hasDict_of_canLay _ (Dt.lay x), Nat.le_trans (Dt.depth x) hd, hs.2, q⟩
/-- ints that are small enough to be written -/
theorem int_shown {i : Int} (h : i.natAbs < 10 ^ 60) : (PyData.shown (.int i)).length ≤ 61 := by
  have e := int_text_length_le10 (a := i) (k := 60) (by decide) h
  have e2 : PyData.shown (.int i) = Str.ofString (toString i) := by
    unfold PyData.shown
    rfl
  rw [e2, PySem.ofString_length]
  exact e
theorem int_showable {i : Int} (h : i.natAbs < 10 ^ 60) : PyData.showable (.int i) = true := by
  unfold PyData.showable
  exact decide_eq_true (CS.w (show i.natAbs < 2 ^ 250 by omega))
def Fig (x : Int × Int) : Prop := x.1.natAbs < 10 ^ 60 ∧ x.2.natAbs < 10 ^ 60
theorem pair_shown {x : Int × Int} (h : Fig x) : (Dt.d x).showable = true ∧ (Dt.d x).shown.length ≤ 129 := by
  have e : Dt.d x = .tuple [.int x.1, .int x.2] := rfl
  rw [e]
  refine ⟨?_, ?_⟩
  · simp only [PyData.showable, PyData.showableAll]
    have h1 := int_showable h.1
    have h2 := int_showable h.2
    simp only [PyData.showable] at h1 h2
    simp only [h1, h2, Bool.and_true, Bool.true_and]
  · have h1 := int_shown h.1
    have h2 := int_shown h.2
    have := tupleText_len_le [PyData.shown (.int x.1), PyData.shown (.int x.2)]
    have e2 : PyData.shown (.tuple [.int x.1, .int x.2]) = tupleText [PyData.shown (.int x.1), PyData.shown (.int x.2)] := by
      simp only [PyData.shown, PyData.shownAll]
    rw [e2]
    simp only [List.map_cons, List.map_nil, List.sum_cons, List.sum_nil, List.length_cons, List.length_nil] at this
    omega
theorem shownAll_len {A : Type} [Dt A] {B : Nat} : ∀ xs : List A, (∀ x ∈ xs, (Dt.d x).showable = true ∧ (Dt.d x).shown.length ≤ B) →
    PyData.showableAll (xs.map Dt.d) = true ∧ (PyData.shownAll (xs.map Dt.d)).length = xs.length ∧ ((PyData.shownAll (xs.map Dt.d)).map (·.length)).sum ≤ B * xs.length
  | [], _ => ⟨by simp [PyData.showableAll], by simp [PyData.shownAll], by simp [PyData.shownAll]⟩
  | x :: xs, h => by
    obtain ⟨h1, h2, h3⟩ := shownAll_len xs fun y hy => h y (List.mem_cons_of_mem _ hy)
    obtain ⟨k1, k2⟩ := h x (List.mem_cons_self ..)
    refine ⟨?_, ?_, ?_⟩
    · simp only [List.map_cons, PyData.showableAll, k1, h1, Bool.and_true]
    · simp only [List.map_cons, PyData.shownAll, List.length_cons, h2]
    · simp only [List.map_cons, PyData.shownAll, List.sum_cons, List.length_cons]
      rw [Nat.mul_add]
      omega
theorem list_shown {A : Type} [Dt A] {B : Nat} {xs : List A} (h : ∀ x ∈ xs, (Dt.d x).showable = true ∧ (Dt.d x).shown.length ≤ B) : (Dt.d xs).showable = true ∧ (Dt.d xs).shown.length ≤ (B + 2) * xs.length + 3 := by
  obtain ⟨h1, h2, h3⟩ := shownAll_len xs h
  have e : Dt.d xs = .list (xs.map Dt.d) := rfl
  rw [e]
  refine ⟨?_, ?_⟩
  · simp only [PyData.showable]
    exact h1
  · have := listText_len_le (PyData.shownAll (xs.map Dt.d))
    have e2 : PyData.shown (.list (xs.map Dt.d)) = listText (PyData.shownAll (xs.map Dt.d)) := by simp only [PyData.shown]
    rw [e2, Nat.add_mul]
    omega
theorem pairs_shw {xs : List (Int × Int)} (h : ∀ x ∈ xs, Fig x) (hl : xs.length ≤ 1000) : Shw xs := by
  obtain ⟨h1, h2⟩ := list_shown (B := 129) fun x hx => pair_shown (h x hx)
  refine ⟨h1, Nat.le_trans h2 ?_⟩
  rw [sizeLine_eq]
  have : 131 * xs.length ≤ 131 * 1000 := Nat.mul_le_mul_left _ hl
  omega
end EB

namespace EB
open PySem L2 PySem.Spec PyProof.Rows
/-! ### the law's own call, where no repr is under way -/
section
variable {P : Program} {w : World} {K : PySem.W.Frag} {mg mb : Str → Option Value} {k : Nat} {fa a : Addr} {fd : FuncData} {x : Str} {sp : Sp} {s₁ : Shared} {vs : List Value} {ns : List Int}
theorem law_callG (inK : K.In s₁.heap) (glob : s₁.heap.Ns mainGlobals mg) (blt : s₁.heap.Ns builtinsNs mb) (boot : ∀ y : Str, y ≠ "__name__" → mb y = bootBuiltins y) (noLim : s₁.heap.NoLimit) (noGen : s₁.gens = #[])
    (here : s₁.heap.get? a = some { cls := .type "list", data := .seq vs.toArray }) (allI : IntsAre vs ns) (short : ns.length ≤ sizeLine) (room : Room k callerA)
    (F : ∀ base : Heap, K.In base → base.Ns mainGlobals mg → FnG P w K mg base k fa fd [x] sp) (bnd : ∀ (s : Shared) (u : Value), BindsTo s fd ⟨[u], []⟩ [(x, u)])
    (want : ∀ H : Hp, Only H → SqL K H a (ns.map V.int) → sp [.ref a] H (fun v _ => v = .bl true) fun _ _ _ => False) :
    codeAny (model P w) callerA (.call (.ref fa) ⟨[.ref a], []⟩) (fun r s' => r = .ok (.ret (.bool true)) ∧ OldK s₁.heap s'.heap ∧ s'.os = s₁.os ∧ AllBare s'.gens) s₁ := by
  have rel := vals_ints allI
  have go : ∀ H : Hp, Only H → SqL K H a (ns.map V.int) → HOk P w H s₁.heap → (∀ b, H b ≠ none → b = a) → (H a ≠ none → K.lookup a = none) →
      codeAny (model P w) callerA (.call (.ref fa) ⟨[.ref a], []⟩) (fun r s' => r = .ok (.ret (.bool true)) ∧ OldK s₁.heap s'.heap ∧ s'.os = s₁.os ∧ AllBare s'.gens) s₁ := by
    intro H only sq hok oneA noK
    have isA : ∀ {b : Addr} {u : HO}, H b = some u → b = a := fun {b u} q => oneA b (by rw [q]; simp)
    have nsB : ∀ {b : Addr} {m : Str → Option Value}, s₁.heap.Ns b m → (hidT s₁.heap H).Ns b m := by
      rintro b m ⟨o, es, ep, e, d, r⟩
      refine ⟨o, es, ep, hidT_get e ?_, d, r⟩
      cases q : H b with
      | none => rfl
      | some u =>
        have e' := isA q
        subst e'
        rw [here] at e
        cases e
        cases (show Data.seq vs.toArray _ = Data.dict es ep from d)
    have inB : K.In (hidT s₁.heap H) := by
      intro b o e
      refine hidT_get (inK b o e) ?_
      cases q : H b with
      | none => rfl
      | some u =>
        have e' := isA q
        subst e'
        rw [noK (by rw [q]; simp)] at e
        cases e
    have md : Mod K mg (hidT s₁.heap H) := by
      refine ⟨inB, nsB glob, ⟨mb, nsB blt, boot⟩, ?_⟩
      obtain ⟨mc, h1, h2⟩ := noLim
      exact ⟨mc, nsB h1, h2⟩
    have e0 : Env0 P w K mg (hidT s₁.heap H) callerA [] s₁ H := ⟨rfl, md, fun b o e => of_hidT e, Nat.le_of_eq (hidT_size _ _), trivial, (fun b hb => nomatch hb), hok, .of_eq noGen⟩
    have run := (F _ inB (nsB glob)).run callerA [] s₁ H ⟨[.ref a], []⟩ [.ref a] [.ref a] _ _ room rfl e0 (bnd s₁ (.ref a)) (.cons rfl .nil) (want H only sq)
    apply codeAny_mono run
    rintro (er | fl) s' h
    · exact h.elim
    · cases fl with
      | ret u =>
        obtain ⟨v, H', os, bare, un, hok', r', q⟩ := h
        obtain rfl : v = .bl true := q
        obtain rfl : u = Value.bool true := r'
        refine ⟨rfl, OldK.of_keep ?_, os, bare⟩
        intro b o e
        cases q : H b with
        | none => exact un.keep b o e q (fun z => nomatch z) (fun z => nomatch z)
        | some u =>
          rcases only b with z | ⟨ob, xs, z⟩
          · rw [q] at z
            cases z
          · have old := (hok b _ z).1
            have new := (hok' b _ (un.frzs b ob _ z)).1
            rw [e] at old
            cases old
            exact new
      | _ => exact h.elim
  have len := allI.length
  cases mine : K.lookup a with
  | some o =>
    have e := inK a o mine
    rw [here] at e
    cases e
    exact go (fun _ => none) (fun _ => .inl rfl) (.inr ⟨_, vs.toArray, _, mine, rfl, rfl, rfl, by rw [List.size_toArray, len]; exact short, by simpa using rel⟩) (fun b u z => nomatch z) (fun b z => absurd rfl z) fun z => absurd rfl z
  | none =>
    have hit : ∀ {b : Addr} {u : HO}, (if b = a then some (HO.frz { cls := .type "list", data := .seq vs.toArray } (.lst (ns.map V.int))) else none) = some u → b = a ∧ u = .frz { cls := .type "list", data := .seq vs.toArray } (.lst (ns.map V.int)) := by
      intro b u z
      split at z
      · next h =>
        cases z
        exact ⟨h, rfl⟩
      · cases z
    refine go (fun b => if b = a then some (.frz { cls := .type "list", data := .seq vs.toArray } (.lst (ns.map V.int))) else none) ?_ (.inl (.inr ⟨{ cls := .type "list", data := .seq vs.toArray }, if_pos rfl⟩)) ?_ ?_ fun _ => mine
    · intro b
      by_cases hb : b = a
      · exact .inr ⟨_, _, if_pos hb⟩
      · exact .inl (if_neg hb)
    · intro b u z
      obtain ⟨rfl, rfl⟩ := hit z
      exact ⟨here, by rw [List.length_map]; exact short, vs, _, rel, here⟩
    · intro b z
      cases q : (if b = a then some (HO.frz { cls := .type "list", data := .seq vs.toArray } (.lst (ns.map V.int))) else none) with
      | none => exact absurd q z
      | some u => exact (hit q).1
end
theorem walkG {l : PySem.W.OpenLaw} {n k : Nat} {q : Program} {loose : List Str} {XP : (Str → Option Value) → Heap → Prop} {YP : World → Heap → Prop} {d : DefRec} {K : Params → PySem.W.Frag} {sp : World → Sp} {x : Str}
    (hn : l.most = some n) (hn2 : n ≤ sizeLine) (hdf : d.params.defaults = []) (room : Room k callerA) (hY : ∀ (w : World) (h : Heap), YP w h → (K w.params).In h)
    (F : ∀ (w : World) (mg : Str → Option Value) (fa : Addr) (h : Heap), (K w.params).In h → h.Ns mainGlobals mg → mg d.name = some (.ref fa) → ∃ fd : FuncData, (∀ (s : Shared) (u : Value), BindsTo s fd ⟨[u], []⟩ [(x, u)]) ∧
      ∀ base : Heap, (K w.params).In base → base.Ns mainGlobals mg → FnG l.prog w (K w.params) mg base k fa fd [x] (sp w))
    (want : ∀ (w : World) (H : Hp) (a : Addr) (ns : List Int), ns.length ≤ n → Only H → SqL (K w.params) H a (ns.map V.int) → sp w [.ref a] H (fun v _ => v = .bl true) fun _ _ _ => False) :
    PySem.W.WalkO q loose XP YP l.row.toRowW d [] (fun f vs => PySem.call f vs) := by
  refine Att.attach_call hn hdf ?_
  intro w s₀ s₁ mg mb fa o pm cd doc a vs ns G Y ho hd hcd hmg hobj hints hlen hg
  obtain ⟨fd, hb, hF⟩ := F w mg fa _ (hY w _ Y) G.T.g hmg
  exact law_callG (hY w _ Y) G.T.g G.T.b G.T.builtins G.T.nolimit hg hobj hints (Nat.le_trans hlen hn2) room hF hb fun H hO hS => want w H a ns hlen hO hS
end EB

namespace EB
open PySem L2 PySem.Spec PyProof.Rows
/-! ### xs[k] += e -/
def rGetL (K : PySem.W.Frag) : V → V → Hp → VK → Prop := fun x y H Q => ∃ (p : Addr) (xs : List V) (i : Int) (v : V), x = .ref p ∧ y = .int i ∧ SqL K H p xs ∧ 0 ≤ i ∧ xs[i.toNat]? = some v ∧ Q v H
theorem get_list {X : Cx} : PGet X (rGetL X.K) := by
  intro pins s σ H o i ov iv Q I ro ri h
  obtain ⟨p, xs, k, v, rfl, rfl, hq, h0, he, q⟩ := h
  obtain rfl : ov = Value.ref p := ro
  obtain ⟨t, rfl⟩ := ri
  obtain ⟨its, r, pl, hz⟩ := I.list hq
  obtain ⟨w, ew, rel⟩ := r.get he
  have hl := r.length
  have hn := line63
  have hx := (List.getElem?_eq_some_iff.mp he).1
  exact wpAny_getItem_list pl.isList h0 (by omega) (by simpa using ew) ⟨v, H, I, rel, q⟩
section
variable {X : Cx} {o i e : Expr} {to ti te : TE} {tpos pos : Pos}
theorem psAugL (ho : PE X o to) (hi : PE X i ti) (he : PE X e te) (ha : ∀ ov iv new, augStore i ov iv new = (do holding [new, ov, iv] (setItem ov iv new); release [new, ov, iv] []; pure .next) := by intros; rfl) :
    PS X (.AugAssign (.Subscript o i tpos) .Add e pos) (tAugS to ti te (rGetL X.K) (ipI fun i j => i + j) rSetL) := ps_augS ho hi get_list he ip_add set_list ha
theorem g_augS {to ti te : TE} {tget : V → V → Hp → VK → Prop} {tip : TIp} {tset : TSet} {D : L2.Ends} {σ : L2.St} {H : Hp} (h : to σ H fun o H1 => ti σ H1 fun i H2 => tget o i H2 fun x H3 => te σ H3 fun y H4 => tip x y H4 fun z H5 => tset o i z H5 fun H6 => D.nx σ H6) : tAugS to ti te tget tip tset D σ H := h
theorem g_getO {G H : Hp} {L : List Res} {p : Addr} {xs : List Int} {k n : Int} {Q : VK} {K : PySem.W.Frag} (s : Sep G H (OwnL p xs :: L)) (h0 : 0 ≤ k) (h : xs[k.toNat]? = some n) (q : Q (.int n) H) : rGetL K (.ref p) (.int k) H Q := by
  obtain ⟨q1, vs, e, hv, rs⟩ := s.ownRep
  cases e
  obtain ⟨w, hw, rw'⟩ := rs.get h
  obtain rfl : w = V.int n := rw'
  exact ⟨p, vs, k, _, rfl, rfl, .inl (.inl hv), h0, hw, q⟩
end
end EB

namespace EB
open PySem L2 PySem.Spec PyProof.Rows
/-! ### an exception that is kept -/
/-- at a: an exception of that class, its dict at d -/
def xcp (cls : Value) (d : Option Addr) (a : Addr) : HO := .ext fun h => ∃ (oe : Obj) (fs : Array Value), h.get? a = some oe ∧ Zc cls d oe ∧ oe.data = .fields fs
theorem xcp_ok {P : Program} {w : World} {H : Hp} {h : Heap} {a : Addr} {cls : Value} {d : Option Addr} {oe : Obj} {fs : Array Value} (e : h.get? a = some oe) (z : Zc cls d oe) (f : oe.data = .fields fs) : ObjOk P w H h a (xcp cls d a) :=
  ⟨⟨oe, fs, e, z, f⟩, ⟨oe, e⟩, fun _ _ ⟨o, v, q, r⟩ k => ⟨o, v, k o q, r⟩⟩
section
variable {X : Cx} {pins : List (Addr × Obj)} {σ : L2.St} {H : Hp} {s : Shared}
/-- what stands in the heap and is new, is tracked from now on -/
theorem Inv.track {a : Addr} {o : HO} {oe : Obj} {fs : Array Value} (I : L2.Inv X pins σ H s) (e : s.heap.get? a = some oe) (hd : oe.data = .fields fs) (na : H a = none) (ok : ObjOk X.prog X.w (upd H a o) s.heap a o)
    (new : X.s_0.heap.get? a = none) (nL : a ≠ X.env.locals) (np : ∀ p ∈ X.pn ++ pins, p.1 ≠ a) : L2.Inv X pins σ (upd H a o) s := by
  have away : ∀ {b : Addr} {u : HO}, H b = some u → b ≠ a := fun {b u} q z => by
    rw [z, na] at q
    cases q
  have old : ∀ {b : Addr} {u : Obj}, X.s_0.heap.get? b = some u → b ≠ a := fun {b u} q z => by
    rw [z, new] at q
    cases q
  have cells : ∀ x c, X.env.cells.lookup x = some c → c ≠ a := fun x c hc z => by
    obtain ⟨v, ob, ho, hv⟩ := I.cell x c hc
    rw [z, e] at ho
    cases ho
    rw [hd] at hv
    cases hv
  refine ⟨I.ok, I.os, I.bare, ?_, I.loc, I.cell, ?_, ?_, ?_, ?_, I.len⟩
  · refine ⟨I.base.keep, I.base.slot, ?_, I.base.there, ?_, ?_, ?_⟩
    · intro b u q n hx
      rw [upd_ne (old q)]
      exact I.base.free b u q n hx
    · intro b xs q
      have q := I.base.tups b xs q
      rw [upd_ne (away q)]
      exact q
    · intro b u xs q
      have q := I.base.frzs b u xs q
      rw [upd_ne (away q)]
      exact q
    · intro b ps q
      obtain ⟨m, q⟩ := I.base.tbls b ps q
      exact ⟨m, by rw [upd_ne (away q)]; exact q⟩
  · rw [upd_ne nL.symm]
    exact I.free
  · intro x c hc
    rw [upd_ne (cells x c hc)]
    exact I.freeC x c hc
  · intro p hp
    obtain ⟨h1, h2, h3⟩ := I.pin p hp
    exact ⟨h1, by rw [upd_ne (np p hp)]; exact h2, h3⟩
  · intro b u q
    by_cases hb : b = a
    · rw [hb, upd_same] at q
      cases q
      rw [hb]
      exact ok
    · rw [upd_ne hb] at q
      refine (I.hok b u q).stay (fun c v _ z => z) (fun c z => ?_) fun c xs z => ?_
      · rw [upd_ne (away z)]
        exact z
      · rw [upd_ne (away z)]
        exact z
end
/-- what the clause 'except x as n' wishes of an exception of the body, which is kept: slot i is n's -/
def wKeep (K : PySem.W.Frag) (c : Value) (i : Nat) (ts : Addr → Value → Option Addr → TS) (Wout : WX) (D : L2.Ends) : WX := fun cls d σ H =>
  ∃ b, PySem.W.exmOne K cls c = some b ∧
    (b = true → ∀ a, H a = none → ts a cls d ⟨fun σ' H' => D.nx (σ'.set i none) (upd H' a (xcp cls d a)), fun v H' => D.rt v (upd H' a (xcp cls d a)), fun σ' H' => D.bk (σ'.set i none) (upd H' a (xcp cls d a)), fun σ' H' => D.ct (σ'.set i none) (upd H' a (xcp cls d a))⟩ (σ.set i (some (.ref a))) H) ∧
    (b = false → Wout cls d σ H)
section
variable {X : Cx} {x n : Str} {c : Value} {i : Nat} {body suite : List Stmt} {b₀ : Stmt} {np pos pos' : Pos} {tb : WX → TS} {ts : Addr → Value → Option Addr → TS} {Wout : WX}
theorem ps_try_keep (noEx : X.ex = []) (stk : X.stack = X.env :: X.outer) (own : X.env.frame = some X.env.locals) (uniq : X.N.Nodup) (slot : X.N[i]? = some n) (loc : X.env.kindOf n = some .local) (nm : Names X x c) (tk : Takes X Wout)
    (hb : ∀ (W : WX) (pn : List (Addr × Obj)) (xe : Value → Shared → Prop), Takes (X.tr pn xe) W → PassesOwn (model X.prog X.w) X.A X.env xe → PSs (X.tr pn xe) body (tb W))
    (hsu : ∀ (a : Addr) (oe : Obj) (cls : Value) (d : Option Addr) (pn : List (Addr × Obj)), Zc cls d oe → (∃ vs, oe.data = .fields vs) → PSs (X.suite a ((a, oe) :: pn)) (b₀ :: suite) (ts a cls d)) :
    PS X (.Try body [.ExceptHandler (some (.Name x np)) (some n) (b₀ :: suite) pos'] [] [] pos) (fun D σ H => tb (wKeep X.K c i ts Wout D) D σ H) := by
  constructor
  intro pins s σ H D I want
  have good := I.ok
  have frames : X.A.frames = some (X.env :: X.outer) := by rw [good.frames, stk]
  apply wpAny_Try_except
  refine wpAny_mono ((hb (wKeep X.K c i ts Wout D) (X.pn ++ pins) (fun e s₁ => wpAny (model X.prog X.w) X.A (noteFrame e X.env) (fun _ s₂ => wpAny (model X.prog X.w) X.A (setFlight e none) (fun _ s₃ =>
    wpAny (model X.prog X.w) X.A (handleBy e X.env [.ExceptHandler (some (.Name x np)) (some n) (b₀ :: suite) pos']) (SP X pins D) X.xe s₃) X.xe s₂) X.xe s₁) ?caught PassesOwn.looking).run [] s σ H D (I.toTry _) want) ?thru (fun e s1 he => he)
  case thru =>
    rintro f s1 out
    cases f with
    | next =>
      obtain ⟨σ', H', J, q⟩ := out
      exact wpAny_execs_nil ⟨σ', H', J.ofTry good, q⟩
    | ret u =>
      obtain ⟨v, σ', H', J, r, q⟩ := out
      exact ⟨v, σ', H', J.ofTry good, r, q⟩
    | brk =>
      obtain ⟨σ', H', J, q⟩ := out
      exact ⟨σ', H', J.ofTry good, q⟩
    | cont =>
      obtain ⟨σ', H', J, q⟩ := out
      exact ⟨σ', H', J.ofTry good, q⟩
  case caught =>
    rintro u s' ⟨a, B, sI, pins', σ', H', cls, d, rfl, J0, nb, up, sky, na, os, ag, b, hb1, yes, no⟩
    have J : L2.Inv X pins σ' H' sI := J0.ofTry good
    rw [show Cx.stack (X.tr (X.pn ++ pins) _) = X.env :: X.outer from stk] at sky
    show wpAny (model X.prog X.w) X.A (noteFrame (.ref a) X.env) _ _ _
    apply Sky.land Zc.steady frames own sky
    intro h3 fl3 up3
    have J3 : L2.Inv X pins σ' H' { s' with heap := h3 } := J.landed nb fl3.1 (up.trans up3) os ag
    obtain ⟨oe3, vs3, he3, hz3, hd3⟩ := fl3.there
    have nfr : a ∉ frs (X.env :: X.outer) := fun hm => by
      obtain ⟨_, o', e', hnf⟩ := fl3.2.2.1.mem hm
      rw [he3] at e'
      cases e'
      exact hnf _ hd3
    have nL : a ≠ X.env.locals := fun z => nfr (List.mem_filterMap.mpr ⟨X.env, List.mem_cons_self, by rw [own, z]⟩)
    have nF : a ∉ X.fs := fun hm => by
      obtain ⟨e, he, q⟩ := List.mem_filterMap.mp hm
      exact nfr (List.mem_filterMap.mpr ⟨e, List.mem_cons_of_mem _ he, q⟩)
    -- a is new
    have fresh : ∀ b o, sI.heap.get? b = some o → b ≠ a := fun b o e z => by
      subst z
      have := nb b o e (by rw [show Cx.stack (X.tr (X.pn ++ pins) _) = X.env :: X.outer from stk]; exact nfr)
      rw [fl3.2.1] at this
      cases this
    have new0 : X.s_0.heap.get? a = none := by
      cases e : X.s_0.heap.get? a with
      | none => rfl
      | some o =>
        obtain ⟨o', e'⟩ := J.base.there a o e (by rw [noEx]; exact fun z => nomatch z)
        exact absurd rfl (fresh a o' e')
    have newP : ∀ p ∈ X.pn ++ pins, p.1 ≠ a := fun p hp => fresh p.1 p.2 (J.pin p hp).1
    have S3 := J3.suite he3 hd3 na nL nF
    apply wpAny_handleBy_cons _ (by intro q; cases q)
    apply codeAny_handlers_test
    have LT : PySem.W.Looks (model X.prog X.w) h3 (typeOf (.ref a)) cls := fun A Q E s k q => wpAny_typeOf_ref (k _ _ he3) (by rw [hz3.1]; exact q)
    have LM := PySem.W.exm_one (M := model X.prog X.w) (J3.kIn) LT hb1
    have test : ∀ {Q : Value → Shared → Prop} {E : Value → Shared → Prop}, Q c { s' with heap := h3 } → wpAny (model X.prog X.w) (X.A.mark (some (.ref a))) (eval (.Name x np) X.env) Q E { s' with heap := h3 } := by
      intro Q E q
      obtain ⟨hg, hdbg, hm | ⟨hm, hv, hnn⟩⟩ := nm
      · exact ld_glob (X := X.suite a ((a, oe3) :: (X.pn ++ pins))) S3 hg hm q hdbg
      · exact ld_blt (X := X.suite a ((a, oe3) :: (X.pn ++ pins))) S3 hg hm hv q hnn hdbg
    refine test (LM.here ?_)
    cases b with
    | true =>
      apply codeAny_handlers_suite_as
      apply HandSPX.lands_againZ fl3
      intro h4 fl4 up4
      have J4 : L2.Inv X pins σ' H' { s' with heap := h4 } := J.landed nb fl4.1 ((up.trans up3).trans up4) os ag
      obtain ⟨oe4, vs4, he4, hz4, hd4⟩ := fl4.there
      have S4 := J4.suite he4 hd4 na nL nF
      apply store_ok (X := X.suite a ((a, oe4) :: (X.pn ++ pins))) (v := .ref a) S4 uniq slot (.inl loc) rfl _ (.inr loc)
      intro s5 S5
      have keep : ∀ {σ6 : L2.St} {H6 : Hp} {s6 : Shared} {Q : Shared → Prop}, L2.Inv (X.suite a ((a, oe4) :: (X.pn ++ pins))) [] σ6 H6 s6 → (∀ s7, L2.Inv X pins (σ6.set i none) (upd H6 a (xcp cls d a)) s7 → Q s7) →
          wpAny (model X.prog X.w) X.A (do bindName X.env n .none; unbindBehindTheSuite X.env n pos') (fun _ s7 => Q s7) X.xe s6 := by
        intro σ6 H6 s6 Q S6 hq
        obtain ⟨pe, pn, _⟩ := S6.pin (a, oe4) (List.mem_append_left _ List.mem_cons_self)
        exact gone_ok (Inv.track (S6.unsuite good) pe hd4 pn (xcp_ok pe hz4 hd4) new0 nL newP) uniq slot loc hq
      refine wpAny_mono ((hsu a oe4 cls d (X.pn ++ pins) hz4 ⟨_, hd4⟩).run [] s5 _ H' _ S5 (yes rfl a na)) ?_ (fun _ _ z => False.elim z)
      rintro f s6 out
      cases f with
      | ret u =>
        obtain ⟨v6, σ6, H6, S6, r6, q6⟩ := out
        exact keep S6 fun s7 J7 => ⟨_, _, _, J7, r6, q6⟩
      | next =>
        obtain ⟨σ6, H6, S6, q6⟩ := out
        exact keep S6 fun s7 J7 => ⟨_, _, J7, q6⟩
      | brk =>
        obtain ⟨σ6, H6, S6, q6⟩ := out
        exact keep S6 fun s7 J7 => ⟨_, _, J7, q6⟩
      | cont =>
        obtain ⟨σ6, H6, S6, q6⟩ := out
        exact keep S6 fun s7 J7 => ⟨_, _, J7, q6⟩
    | false =>
      show wpAny _ X.A (handleBy (.ref a) X.env []) _ _ _
      apply wpAny_handleBy_nil
      obtain ⟨k1, k2, k3, oe, vs, T, oT, ts', he, hz, hd, h1, hr⟩ := id fl3
      unfold PySem.passOn
      refine wpAny_bind (wpAny_field he hd h1 ?_)
      rw [if_neg (show ¬ ((Value.ref T == Value.none) = true) from by simp)]
      have fin : wpAny (model X.prog X.w) X.A (setFlight (.ref a) X.env.frame) (fun _ s4 => wpAny (model X.prog X.w) X.A (throw (.ref a) : Sem Flow) (SP X pins D) X.xe s4) X.xe { s' with heap := h3 } := by
        rw [own]
        apply HandSPX.setFlight_upZ fl3
        intro h4 hh4 up4
        exact wpAny_throw (tk _ _ ⟨a, B, sI, pins, σ', H', cls, d, rfl, J, nb, (up.trans up3).trans up4, .inr (.inr (by rw [stk]; exact hh4)), na, os, ag, no rfl⟩)
      first
        | exact wpAny_bind (wpAny_pure (wpAny_bind fin))
        | exact wpAny_bind fin
end
end EB

namespace EB
open PySem L2 PySem.Spec PyProof.Rows
/-! ### own exception classes with a field what; B the class of them all -/
structure XCls (K : PySem.W.Frag) (B C : Addr) : Prop where
  ox : OexC K C
  cl : PySem.W.isClsIn K C = true
  ga : PySem.W.findIn K (.ref C) "__getattribute__" = some (some (.builtin "BaseException.__getattribute__"))
  gg : PySem.W.findIn K (.ref C) "__getattr__" = some none
  ca : PySem.W.findIn K (.ref C) "__class__" = some (some (.builtin "object.__class__"))
  cg : PySem.W.specialIn K (.builtin "object.__class__") "__get__" = some (some (.builtin "getset_descriptor.__get__"))
  ct : PySem.W.takesIn K (.builtin "object.__class__") = some true
  mo : PySem.W.mroIn K C (.type "object") = some true
  hd : PySem.W.hasDictIn K C = true
  no : PySem.W.findIn K (.ref C) "what" = some none
  tc : PySem.W.typeIn K (.ref C) = some (.type "type")
  sb : PySem.W.subIn K (.ref C) (.ref B) = some true
  sv : PySem.W.subIn K (.ref C) (.type "ValueError") = some true
  ss : PySem.W.subIn K (.ref C) (.ref C) = some true
/-- the class of them all, as 'except' and isinstance see it -/
structure XTop (K : PySem.W.Frag) (B : Addr) : Prop where
  cl : PySem.W.isClsIn K B = true
  sub : PySem.W.subIn K (.ref B) (.type "BaseException") = some true
  tc : PySem.W.typeIn K (.ref B) = some (.type "type")
/-- C is no kind of D -/
structure XNe (K : PySem.W.Frag) (C D : Addr) : Prop where
  sub : PySem.W.subIn K (.ref C) (.ref D) = some false
  cl : PySem.W.isClsIn K D = true
  tc : PySem.W.typeIn K (.ref D) = some (.type "type")
  ss : PySem.W.subIn K (.ref D) (.ref D) = some true
section
variable {K : PySem.W.Frag} {B C D : Addr}
theorem clsIn_some (h : PySem.W.isClsIn K C = true) : (PySem.W.clsIn K C).isSome = true := h
theorem XCls.kit {b : Bool} (h1 : PySem.W.isClsIn K D = true) (h2 : PySem.W.typeIn K (.ref D) = some (.type "type")) (h3 : PySem.W.subIn K (.ref C) (.ref D) = some b) (ne : b = false → C ≠ D) : PySem.W.kitOne K (.ref C) (.ref D) = some b := by
  unfold PySem.W.kitOne
  by_cases q : (Value.ref C == Value.ref D) = true
  · rw [if_pos q]
    cases b with
    | true => rfl
    | false => exact absurd (Value.ref.inj (beq_iff_eq.mp q)) (ne rfl)
  · rw [if_neg q]
    unfold PySem.W.kitCls
    dsimp only
    have e : ((PySem.W.clsIn K D).isSome && PySem.W.typeIn K (.ref D) == some (.type "type")) = true := by
      rw [clsIn_some h1, h2]
      rfl
    rw [if_pos e]
    exact h3
theorem XCls.isSelf (c : XCls K B C) : PySem.W.kitOne K (.ref C) (.ref C) = some true := XCls.kit c.cl c.tc c.ss (fun z => by cases z)
theorem XCls.isTop (c : XCls K B C) (t : XTop K B) : PySem.W.kitOne K (.ref C) (.ref B) = some true := XCls.kit t.cl t.tc c.sb (fun z => by cases z)
theorem XNe.is (h : XNe K C D) : PySem.W.kitOne K (.ref C) (.ref D) = some false := XCls.kit h.cl h.tc h.sub fun _ e => by
  subst e
  have z := h.ss
  rw [h.sub] at z
  cases z
theorem kitAny2 {t c d : Value} {b b' : Bool} (h1 : PySem.W.kitOne K t c = some b) (h2 : PySem.W.kitOne K t d = some b') : PySem.W.kitAny K t [c, d] = some (b || b') := by
  unfold PySem.W.kitAny
  rw [h1]
  cases b with
  | true => rfl
  | false =>
    unfold PySem.W.kitAny
    rw [h2]
    cases b' <;> rfl
theorem XCls.isVal (c : XCls K B C) : PySem.W.kitOne K (.ref C) (.type "ValueError") = some true := by
  unfold PySem.W.kitOne
  rw [if_neg (fun z => by have q := beq_iff_eq.mp z; cases q)]
  unfold PySem.W.kitCls
  dsimp only
  rw [if_pos (show PySem.W.kitMeta "ValueError" = true by decide +kernel)]
  exact c.sv
theorem XCls.exm (c : XCls K B C) (t : XTop K B) : PySem.W.exmOne K (.ref C) (.ref B) = some true := by
  have e1 : (PySem.W.subIn K (.ref B) (.type "BaseException") == some true) = true := by rw [t.sub]; rfl
  have e2 : ((PySem.W.clsIn K B).isSome && PySem.W.typeIn K (.ref B) == some (.type "type")) = true := by
    rw [clsIn_some t.cl, t.tc]
    rfl
  show (if (PySem.W.subIn K (.ref B) (.type "BaseException") == some true) = true then (if ((PySem.W.clsIn K B).isSome && PySem.W.typeIn K (.ref B) == some (.type "type")) = true then PySem.W.subIn K (.ref C) (.ref B) else none) else none) = some true
  rw [if_pos e1, if_pos e2]
  exact c.sb
end
/-! ### a kept exception is asked -/
section
variable {X : Cx}
theorem xcp_at {P : Program} {w : World} {H : Hp} {h : Heap} {a : Addr} {cls : Value} {d : Option Addr} (ok : HOk P w H h) (e : H a = some (xcp cls d a)) : ∃ (oe : Obj) (fs : Array Value), h.get? a = some oe ∧ Zc cls d oe ∧ oe.data = .fields fs :=
  have x : ObjOk P w H h a (.ext fun h => ∃ (oe : Obj) (fs : Array Value), h.get? a = some oe ∧ Zc cls d oe ∧ oe.data = .fields fs) := ok a _ e
  x.1
/-- an exception of the class C with what = w at v -/
def IsX (H : Hp) (v : V) (C : Addr) (w : V) : Prop := ∃ a d : Addr, v = .ref a ∧ H a = some (xcp (.ref C) (some d) a) ∧ H d = some (.xd [("what", w)])
theorem IsX.up {H H' : Hp} {v w : V} {C : Addr} (x : IsX H v C w) (s : Same H H') : IsX H' v C w :=
  let ⟨a, d, e, h1, h2⟩ := x
  ⟨a, d, e, s _ _ h1, s _ _ h2⟩
theorem IsX.inst {pins : List (Addr × Obj)} {σ : L2.St} {H : Hp} {s : Shared} {v w : V} {C : Addr} (I : L2.Inv X pins σ H s) (x : IsX H v C w) : ∃ (a : Addr) (oe od : Obj) (l : Str → Option Value), v = .ref a ∧ PySem.W.InstAt s.heap a oe C (some od) ∧ (∀ f, PySem.W.lookIn f od = some (l f)) ∧ ∀ f, RelO (List.lookup f [(("what" : Str), w)]) (l f) := by
  obtain ⟨a, d, e, h1, h2⟩ := x
  obtain ⟨oe, fs, g, z, hd⟩ := xcp_at I.hok h1
  have hx : ObjOk X.prog X.w H s.heap d (.xd [("what", w)]) := I.hok d _ h2
  obtain ⟨mA, hns, hr⟩ := hx
  obtain ⟨od, ho, hl⟩ := lookIn_ns hns
  exact ⟨a, oe, od, mA, e, ⟨g, z.1, by unfold PySem.W.notCls; rw [hd] <;> rfl, by rw [z.2]; exact ho⟩, hl, hr⟩
/-- isinstance(e, c), isinstance(e, (c, ..)) -/
def rIsX (K : PySem.W.Frag) : List V → Hp → VK → Prop := fun xs H Q => ∃ (v c w : V) (B C : Addr) (b : Bool), xs = [v, c] ∧ IsX H v C w ∧ XCls K B C ∧
  ((∃ cv, ClsV c cv ∧ PySem.W.kitOne K (.ref C) cv = some b) ∨
    ∃ (t : Addr) (cs : List V) (cvs : List Value), c = .ref t ∧ H t = some (.tup cs) ∧ Paired ClsV cs cvs ∧ PySem.W.kitAny K (.ref C) cvs = some b) ∧ Q (.bl b) H
theorem cIsX : CallR X (.builtin "isinstance") (rIsX X.K) := by
  intro pins s σ H xs us Q I rel want
  obtain ⟨v, c, w, B, C, b, rfl, x, xc, alt, q⟩ := want
  obtain ⟨a, oe, od, l, rfl, J, _, _⟩ := x.inst I
  cases rel with
  | cons r1 rr =>
    cases rr with
    | cons r2 rn =>
      cases rn
      cases r1
      have Z := PySem.W.kitx_exc (x := a) (ox := oe) (od := some od) (clsIn_some xc.cl) xc.ga xc.gg xc.ox.exC xc.ca xc.cg xc.ct xc.mo
      have done : ∀ tk : Nat, EP X pins σ Q (.bool b) { s with toks := tk } := fun tk => ⟨.bl b, H, I.kept (t' := tk) fun _ _ z => z, rfl, q⟩
      rcases alt with ⟨cv, hcv, e⟩ | ⟨t, cs, cvs, rfl, ht, hcs, e⟩
      · rw [hcv.eq r2]
        exact PySem.W.kia_one Z I.kIn J e (fun z => nomatch z) done
      · cases r2
        obtain ⟨_, its, rv, o, h1, h2, n, h3⟩ := (show ObjOk X.prog X.w H s.heap t (.tup cs) from I.hok t _ ht)
        obtain rfl := ClsV.all hcs rv
        obtain ⟨oc, od', da, sl⟩ := o
        dsimp only at h2 h3
        subst h2 h3
        exact PySem.W.kia_tup Z I.kIn J h1 e (fun z => nomatch z) done
/-- e.what -/
def tWhat (K : PySem.W.Frag) (te : TE) : TE := fun σ H Q => te σ H fun v H1 => ∃ (B C : Addr) (w : V), IsX H1 v C w ∧ XCls K B C ∧ Q w H1
theorem pe_what {e : Expr} {te : TE} {pos : Pos} (he : PE X e te) (hb : attributeBase e "what" X.env (eval e X.env) = eval e X.env := by rfl) : PE X (.Attribute e "what" pos) (tWhat X.K te) := by
  refine ⟨fun pins s σ H Q I h => attr_of hb (thn (he.run pins s σ H _ I h) ?_)⟩
  rintro u s1 ⟨v, H1, I1, rv, B, C, w, x, xc, q⟩
  obtain ⟨a, oe, od, l, rfl, J, hl, hr⟩ := x.inst I1
  obtain rfl : u = Value.ref a := rv
  have lk : List.lookup ("what" : Str) [(("what" : Str), w)] = some w := by simp [List.lookup]
  obtain ⟨u, hu, ru⟩ := RelO.some_of (v := w) (o := l "what") (by rw [← lk]; exact hr "what")
  exact HandSPX.exc_get I1.kIn J xc.ga xc.gg xc.ox.exC (PySem.W.findObj_own xc.hd xc.no rfl (by rw [hl, hu])) (handed_of ru) ⟨w, H1, I1.tok _, ru, q⟩
end
end EB

namespace EB
open PySem L2 PySem.Spec PyProof.Rows
/-! ### raise C(v), C an own class with a field what -/
def spInit (K : PySem.W.Frag) : Sp := fun vs H Q _ => ∃ (a C : Addr) (v : V), vs = [.ref a, v] ∧ OexC K C ∧ PySem.W.findIn K (.ref C) "what" = some none ∧ H a = some (exo a C none) ∧
  ∀ dx, H dx = none → dx ≠ a → Q .non (upd (upd H dx (exd dx [(("what" : Str), v)])) a (exo a C (some dx)))
structure ExM (P : Program) (w : World) (K : PySem.W.Frag) (mg : Str → Option Value) (base : Heap) (x : Str) (B C : Addr) : Prop where
  xc : XCls K B C
  gC : mg x = some (.ref C)
  it : ∃ (fI : Addr) (fd : FuncData), PySem.W.findIn K (.ref C) "__init__" = some (some (.ref fI)) ∧ PySem.W.typeIn K (.ref fI) = some (.type "function") ∧ FnOk P w K mg base CX0 1 fI fd ["self", "what"] (spInit K) ∧ Binds K fd ["self", "what"] []
def mkE (K : PySem.W.Frag) (C : Addr) (Q : XK) : List V → Hp → Prop := fun vs H1 => vs.length ≤ 1000 ∧ ∀ a, H1 a = none → spInit K (.ref a :: (vs ++ [])) (upd H1 a (exo a C none))
  (fun v H2 => v = .non ∧ ∃ (d : Addr) (fs : List (Str × V)), H2 a = some (exo a C (some d)) ∧ H2 d = some (exd d fs) ∧ H1 d = none ∧ Q (.ref C) (some d) (upd (del H2 a) d (.xd fs))) (fun _ _ _ => False)
def tMkE (K : PySem.W.Frag) (C : Addr) (ta : TA) : L2.St → Hp → XK → Prop := fun σ H Q => ta σ H (mkE K C Q)
theorem mkE_of {K : PySem.W.Frag} {B C : Addr} {Q : XK} {H : Hp} {v : V} (xc : XCls K B C) (h : ∀ d, H d = none → Q (.ref C) (some d) (upd H d (.xd [(("what" : Str), v)]))) : mkE K C Q [v] H := by
  refine ⟨by show 1 ≤ 1000; omega, fun a ha => ⟨a, C, v, rfl, xc.ox, xc.no, upd_same, fun dx hdx hne => ?_⟩⟩
  rw [upd_ne hne] at hdx
  refine ⟨rfl, dx, [("what", v)], upd_same, by rw [upd_ne hne, upd_same], hdx, ?_⟩
  have e : upd (del (upd (upd (upd H a (exo a C none)) dx (exd dx [(("what" : Str), v)])) a (exo a C (some dx))) a) dx (.xd [(("what" : Str), v)]) = upd H dx (.xd [(("what" : Str), v)]) := by
    funext b
    by_cases h1 : b = dx
    · rw [h1, upd_same, upd_same]
    · rw [upd_ne h1, upd_ne h1]
      by_cases h2 : b = a
      · rw [h2, del_same, ha]
      · rw [del_ne h2, upd_ne h2, upd_ne h1, upd_ne h2]
  rw [e]
  exact h dx hdx
section
variable {X : Cx} {W : WX} {x : Str} {B C : Addr} {e : Expr} {ta : TA} {p pos pos2 : Pos}
def tRaise (W : WX) (t : L2.St → Hp → XK → Prop) : TS := fun _ σ H => t σ H fun cls d H' => W cls d σ H'
theorem ps_rs (M : ExM X.prog X.w X.K X.mg X.base x B C) (hc : X.calm = true) (tk : Takes X W) (hr : Room 2 X.A) (hg : Gl X x) (ha : PA X [e] ta)
    (hdb : (x == ("__debug__" : Str)) = false := by decide) (he : starEach [e] X.env = (false, eval e X.env) :: starEach [] X.env := by rfl) (hpl : (backTo pos (starEach [] X.env)).any (·.1) = false := by rfl) :
    PS X (.Raise (some (.Call (.Name x p) [e] [] pos)) none pos2) (tRaise W (tMkE X.K C ta)) := by
  obtain ⟨fI, fd, h1, h2, F, b⟩ := M.it
  exact ps_raise hc tk (pmk_oex M.xc.ox h1 h2 F hr b .nil pass0 hg M.gC ha hdb he hpl)
end
/-! ### defs that may raise, called -/
structure CalX (P : Program) (w : World) (K : PySem.W.Frag) (mg : Str → Option Value) (base : Heap) (k : Nat) (x : Str) (sp : Sp) : Prop where
  ex : ∃ (f : Addr) (fd : FuncData) (ps : List Str), FnOk P w K mg base (L2.CX P w) k f fd ps sp ∧ mg x = some (.ref f) ∧ PySem.W.keepIn K (.ref f) = true ∧ Binds K fd ps []
structure CalKwX (P : Program) (w : World) (K : PySem.W.Frag) (mg : Str → Option Value) (base : Heap) (k : Nat) (x : Str) (ks : List Str) (gV : List V → List V → List V) (sp : Sp) : Prop where
  ex : ∃ (f : Addr) (fd : FuncData) (ps : List Str) (g : List Value → List Value → List Value), FnOk P w K mg base (L2.CX P w) k f fd ps sp ∧ mg x = some (.ref f) ∧ PySem.W.keepIn K (.ref f) = true ∧ KBinds K fd ps ks g gV
section
variable {P : Program} {w : World} {K : PySem.W.Frag} {mg : Str → Option Value} {base : Heap} {x qual : Str} {st : Stmt} {f : Addr} {fd : FuncData} {ps ks : List Str} {k : Nat} {sp : Sp} {gV : List V → List V → List V}
theorem calX_of (F : Fun K x qual st f fd) (mine : mg x = some (.ref f)) (b : Binds K fd ps []) (G : FnOk P w K mg base (L2.CX P w) k f fd ps sp) : CalX P w K mg base k x sp := ⟨f, fd, ps, G, mine, F.kp, b⟩
theorem calkwX_of {g : List Value → List Value → List Value} (F : Fun K x qual st f fd) (mine : mg x = some (.ref f)) (b : KBinds K fd ps ks g gV) (G : FnOk P w K mg base (L2.CX P w) k f fd ps sp) : CalKwX P w K mg base k x ks gV sp := ⟨f, fd, ps, g, G, mine, F.kp, b⟩
end
section
variable {X : Cx} {W : WX} {k j : Nat} {x : Str} {p pos : Pos} {e : Expr} {es : List Expr} {kws : List Keyword} {t tk : TA} {ks : List Str} {gV : List V → List V → List V} {sp : Sp}
theorem pe_cX (c : CalX X.prog X.w X.K X.mg X.base k x sp) (tk : Takes X W) (hr : Room j X.A) (hk : k ≤ j) (hg : Gl X x) (ha : PA X (e :: es) t)
    (hdb : (x == ("__debug__" : Str)) = false := by decide) (he : starEach (e :: es) X.env = (false, eval e X.env) :: starEach es X.env := by rfl) (hpl : (backTo pos (starEach es X.env)).any (·.1) = false := by rfl) :
    PE X (.Call (.Name x p) (e :: es) [] pos) (tCallS sp (WE W) t) := by
  obtain ⟨f, fd, ps, F, mine, kp, b⟩ := c.ex
  exact pe_callS F (hr.mono hk) hg mine kp b (fun σ => passAt tk σ) ha hdb he hpl
def tCallKS (sp : Sp) (gV : List V → List V → List V) (E : L2.St → XK) (t tk : TA) : TE := fun σ H Q => t σ H fun vs H1 => tk σ H1 fun zs H2 => sp (gV vs zs) H2 Q (E σ)
theorem pe_kwX0 (c : CalKwX X.prog X.w X.K X.mg X.base k x ks gV sp) (tks : Takes X W) (hr : Room j X.A) (hk : k ≤ j) (hg : Gl X x) (hkw : PK X kws tk)
    (hall : (backToKw pos (keywordEach kws X.env)).all (·.1.isSome) = true := by rfl) (hks : (backToKw pos (keywordEach kws X.env)).filterMap (·.1) = ks := by rfl) (hdb : (x == ("__debug__" : Str)) = false := by decide)
    (hpl : ((backTo pos (starEach [] X.env)).any (·.1) || (backToKw pos (keywordEach kws X.env)).any (·.1.isNone)) = false := by rfl) :
    PE X (.Call (.Name x p) [] kws pos) (tCallKS sp gV (WE W) tNil tk) := by
  obtain ⟨f, fd, ps, g, F, mine, kp, b⟩ := c.ex
  refine ⟨fun pins s σ H Q I h => ?_⟩
  apply wpAny_Call_Name_kw
  refine ld_glob I hg mine ?_ hdb
  refine PySem.W.callWith_KW0 (h₀ := X.base) I.ok.mod.kin kp hall ?_ hpl
  refine thn (hkw.run pos pins s σ H _ I h) ?_
  rintro ws s2 ⟨zs, H2, I2, rz, q2⟩
  refine ⟨I2.kIn, ?_⟩
  rw [hks]
  have r2 := b.rel (.nil : Vals [] []) rz
  have same : (g [] ws).length = ps.length := r2.length.symm.trans (F.len _ _ _ _ q2)
  apply wpAny_call
  apply codeAny_mono (F.run X.A X.stack s2 H2 ⟨[], ks.zip ws⟩ (g [] ws) (gV [] zs) Q (WE W σ) (hr.mono hk) I2.env0 (b.to s2 [] ws I2.kIn same) r2 q2)
  rintro (er | fl) s' hq
  · exact passAt tks σ pins H2 s2 er s' I2 hq
  · cases fl with
    | ret u => exact I2.after hq
    | _ => exact hq.elim
end
/-! ### steps -/
section
variable {sp : Sp} {W : WX} {t tk : TA} {te : TE} {σ : L2.St} {H : Hp} {Q : VK} {D : L2.Ends} {K : PySem.W.Frag} {C : Addr} {ta : TA} {tm : L2.St → Hp → XK → Prop} {q : XK} {gV : List V → List V → List V}
theorem g_callS (h : t σ H fun vs H1 => sp vs H1 Q (WE W σ)) : tCallS sp (WE W) t σ H Q := h
theorem g_callKS (h : t σ H fun vs H1 => tk σ H1 fun zs H2 => sp (gV vs zs) H2 Q (WE W σ)) : tCallKS sp gV (WE W) t tk σ H Q := h
theorem g_raise (h : tm σ H fun cls d H' => W cls d σ H') : tRaise W tm D σ H := h
theorem g_mk (h : ta σ H (mkE K C q)) : tMkE K C ta σ H q := h
theorem g_what (h : te σ H fun v H1 => ∃ (B C : Addr) (w : V), IsX H1 v C w ∧ XCls K B C ∧ Q w H1) : tWhat K te σ H Q := h
/-- the exception is kept: what is asked where it is raised -/
theorem g_keep {B : Addr} {d : Addr} {i : Nat} {ts : Addr → Value → Option Addr → TS} {Wout : WX} (xc : XCls K B C) (xt : XTop K B)
    (h : ∀ a, H a = none → ts a (.ref C) (some d) ⟨fun σ' H' => D.nx (σ'.set i none) (upd H' a (xcp (.ref C) (some d) a)), fun v H' => D.rt v (upd H' a (xcp (.ref C) (some d) a)), fun σ' H' => D.bk (σ'.set i none) (upd H' a (xcp (.ref C) (some d) a)), fun σ' H' => D.ct (σ'.set i none) (upd H' a (xcp (.ref C) (some d) a))⟩ (σ.set i (some (.ref a))) H) :
    wKeep K (.ref B) i ts Wout D (.ref C) (some d) σ H := ⟨true, xc.exm xt, fun _ => h, fun z => by cases z⟩
end
end EB

namespace EB
open PySem L2 PySem.Spec PyProof.Rows
/-- a text that can be laid -/
structure Nm where
  s : Str
  ok : PyData.strOk s = true
theorem Nm.eq {x y : Nm} (h : x.s = y.s) : x = y := by
  obtain ⟨a, _⟩ := x
  obtain ⟨b, _⟩ := y
  cases h
  rfl
instance : DecidableEq Nm := fun x y => if h : x.s = y.s then .isTrue (Nm.eq h) else .isFalse fun e => h (by rw [e])
instance : Rp Nm := ⟨fun _ v x => v = .str x.s, fun _ h => h⟩
theorem rep_nm {G : Hp} {s : Str} (h : PyData.strOk s = true) : Rep G (.str s) (⟨s, h⟩ : Nm) := rfl
instance : Dt Nm := { d := fun x => .str x.s, dp := fun _ h => by have h : _ = V.str _ := h; subst h; exact .str _, eqv := fun x y => by simp only [PyData.eqv, beq_iff_eq]; exact ⟨Nm.eq, fun e => by rw [e]⟩, dep := 0, depth := fun _ => by simp [PyData.depth], lay := fun x => by simp only [PyData.canLay0]; exact x.ok }
instance : NN Nm := ⟨fun x h => by have h : PyData.str x.s = .none := h; cases h⟩
/-- an exception of the class C with what = w may leave -/
def RaiseTo (E : XK) (H : Hp) (C : Addr) (w : V) : Prop := ∀ d H', H d = none → Same H H' → H' d = some (.xd [(("what" : Str), w)]) → E (.ref C) (some d) H'
theorem RaiseTo.up {E : XK} {H H' : Hp} {C : Addr} {w : V} (h : RaiseTo E H C w) (s : Same H H') : RaiseTo E H' C w := fun d H2 n u e => h d H2 (s.free n) (s.trans u) e
theorem RaiseTo.at {E : XK} {H : Hp} {C : Addr} {w : V} (h : RaiseTo E H C w) {d : Addr} (n : H d = none) : E (.ref C) (some d) (upd H d (.xd [(("what" : Str), w)])) := h d _ n (same_upd n) upd_same
theorem Sep.take1 {G H H' : Hp} {L : List Res} {d : Addr} {o : HO} (s : Sep G H L) (k : Same H H') (hd : H d = none) (e : H' d = some o) : ∃ G', Same G G' ∧ Sep G' H' L ∧ G' d = some o := by
  obtain ⟨h, x, y, z⟩ := s.ex
  have hg : G d = none := s.gh.free hd
  refine ⟨upd G d o, same_upd hg, ⟨fun b u q => ?_, h, x.up (same_upd hg), y.trans k, fun a ha => ?_⟩, upd_same⟩
  · by_cases c : b = d
    · subst c
      rw [upd_same] at q
      cases q
      exact e
    · rw [upd_ne c] at q
      exact k _ _ (s.gh _ _ q)
  · have c : a ≠ d := fun c => ha (by rw [c]; exact y.free hd)
    rw [upd_ne c]
    exact z a ha
/-- a caught exception is kept: it stands in the part that is not written any more -/
theorem Sep.keepX {G H H' : Hp} {L : List Res} {C a d : Addr} {w : V} (s : Sep G H L) (k : Same H H') (hd : H d = none) (e : H' d = some (.xd [(("what" : Str), w)])) (ha : H' a = none) :
    ∃ G', Same G G' ∧ Sep G' (upd H' a (xcp (.ref C) (some d) a)) L ∧ IsX G' (.ref a) C w := by
  obtain ⟨G1, u1, s1, e1⟩ := s.take1 k hd e
  obtain ⟨u2, s2⟩ := s1.imm (o := xcp (.ref C) (some d) a) ha
  exact ⟨_, u1.trans u2, s2, a, d, rfl, upd_same, u2 _ _ e1⟩
end EB

namespace EB
open PySem L2 PySem.Spec PyProof.Rows
/-! ### xs.count(y), flat items -/
def rCountA (K : PySem.W.Frag) : V → List V → Hp → VK → Prop := fun x xs H Q => ∃ (a : Addr) (ys : List V) (y : V), x = .ref a ∧ xs = [y] ∧ SqL K H a ys ∧ flatV y = true ∧ ys.all flatV = true ∧ Q (.int (ys.countP (fun z => eqV z y) : Nat)) H
theorem countP_rel {y : V} : ∀ {ys : List V} {us : List Value}, Vals ys us → ys.all flatV = true → us.countP (eqU y) = ys.countP (fun z => eqV z y)
  | [], [], _, _ => rfl
  | z :: ys, u :: us, .cons r rr, f => by
    rw [List.all_cons, Bool.and_eq_true] at f
    rw [List.countP_cons, List.countP_cons, countP_rel rr f.2, eqU_of r f.1]
theorem mt_countA {X : Cx} : MtR X "list.count" (rCountA X.K) := by
  intro pins s σ H x xs v us Q I rx rxs h
  obtain ⟨a, ys, y, rfl, rfl, hs, fy, fys, q⟩ := h
  cases rx
  obtain ⟨u, rfl, ry⟩ := rxs.one
  obtain ⟨its, rv, ⟨⟨cls, dd, data, sl⟩, n, ho, hc, hdn, hd⟩, hlen⟩ := I.list hs
  simp only at hc hd
  subst hc hd
  refine call_meets PySem.F.slot_list_count ⟨_, ho, rfl⟩ PySem.F.entry_list_count (PySem.F.args_list_count_2 _ _)
    (SeqAt.list_countAt a its.toArray n dd sl u (eqU y)) ⟨ho, fun u' hu' => mem_eqAt ry fy rv fys u' (by simpa using hu'), ?_⟩
  refine ⟨.int (ys.countP (fun z => eqV z y) : Nat), H, I.tok _, ⟨s.toks, ?_⟩, q⟩
  show Value.int ((its.toArray.toList.countP (eqU y) : Nat) : Int) s.toks = Value.int ((ys.countP (fun z => eqV z y) : Nat) : Int) s.toks
  rw [List.toList_toArray, countP_rel rv fys]
section
variable {G H : Hp} {Q : VK} {v : V} {K : PySem.W.Frag} {bs : List Bool}
theorem countP_bl (b : Bool) : ∀ bs : List Bool, (bs.map V.bl).countP (fun z => eqV z (.bl b)) = bs.count b
  | [] => rfl
  | c :: bs => by
    rw [List.map_cons, List.countP_cons, List.count_cons, countP_bl b bs]
    cases b <;> cases c <;> rfl
theorem g_countB {b : Bool} (r : Rep G v bs) (s : Same G H) (q : Q (.int (bs.count b : Nat)) H) : rCountA K v [.bl b] H Q := by
  obtain ⟨p, vs, rfl, h', rs⟩ := r
  obtain rfl := Reps.bls rs
  refine ⟨p, bs.map V.bl, .bl b, rfl, rfl, .inl (.inl (s _ _ h')), rfl, by simp [flatV], ?_⟩
  rw [countP_bl]
  exact q
theorem countP_int (b : Int) : ∀ bs : List Int, (bs.map V.int).countP (fun z => eqV z (.int b)) = bs.count b
  | [] => rfl
  | c :: bs => by
    rw [List.map_cons, List.countP_cons, List.count_cons, countP_int b bs]
    rfl
theorem g_countI {b : Int} {bs : List Int} (r : Rep G v bs) (s : Same G H) (q : Q (.int (bs.count b : Nat)) H) : rCountA K v [.int b] H Q := by
  obtain ⟨p, vs, rfl, h', rs⟩ := r
  obtain rfl := Reps.ints rs
  refine ⟨p, bs.map V.int, .int b, rfl, rfl, .inl (.inl (s _ _ h')), rfl, by simp [flatV], ?_⟩
  rw [countP_int]
  exact q
/-! ### try whose exception is kept -/
end
def tTryK (K : PySem.W.Frag) (c : Value) (i : Nat) (tb : WX → TS) (ts : Addr → Value → Option Addr → TS) (Wout : WX) : TS := fun D σ H => tb (wKeep K c i ts Wout D) D σ H
theorem g_tryK {K : PySem.W.Frag} {c : Value} {i : Nat} {tb : WX → TS} {ts : Addr → Value → Option Addr → TS} {Wout : WX} {D : L2.Ends} {σ : L2.St} {H : Hp} (h : tb (wKeep K c i ts Wout D) D σ H) : tTryK K c i tb ts Wout D σ H := h
theorem ps_tryK {X : Cx} {x n : Str} {c : Value} {i : Nat} {body suite : List Stmt} {b₀ : Stmt} {np pos pos' : Pos} {tb : WX → TS} {ts : Addr → Value → Option Addr → TS} {Wout : WX} (noEx : X.ex = []) (stk : X.stack = X.env :: X.outer) (own : X.env.frame = some X.env.locals) (uniq : X.N.Nodup) (slot : X.N[i]? = some n) (loc : X.env.kindOf n = some .local) (nm : Names X x c) (tk : Takes X Wout)
    (hb : ∀ (W : WX) (pn : List (Addr × Obj)) (xe : Value → Shared → Prop), Takes (X.tr pn xe) W → PassesOwn (model X.prog X.w) X.A X.env xe → PSs (X.tr pn xe) body (tb W))
    (hsu : ∀ (a : Addr) (oe : Obj) (cls : Value) (d : Option Addr) (pn : List (Addr × Obj)), Zc cls d oe → (∃ vs, oe.data = .fields vs) → PSs (X.suite a ((a, oe) :: pn)) (b₀ :: suite) (ts a cls d)) :
    PS X (.Try body [.ExceptHandler (some (.Name x np)) (some n) (b₀ :: suite) pos'] [] [] pos) (tTryK X.K c i tb ts Wout) := ps_try_keep noEx stk own uniq slot loc nm tk hb hsu
section
variable {G H : Hp} {Q : VK} {v : V} {K : PySem.W.Frag} {bs : List Bool}
/-! ### isinstance of a kept exception -/
theorem g_isX {B C : Addr} {b : Bool} {w c : V} {cv : Value} (x : IsX H v C w) (xc : XCls K B C) (hc : ClsV c cv) (e : PySem.W.kitOne K (.ref C) cv = some b) (q : Q (.bl b) H) : rIsX K [v, c] H Q := ⟨v, c, w, B, C, b, rfl, x, xc, .inl ⟨cv, hc, e⟩, q⟩
theorem g_isX2 {B C t : Addr} {b b' bb : Bool} {w c d : V} {cv dv : Value} (x : IsX H v C w) (xc : XCls K B C) (ht : H t = some (.tup [c, d])) (hc : ClsV c cv) (hd : ClsV d dv) (e : PySem.W.kitOne K (.ref C) cv = some b) (e' : PySem.W.kitOne K (.ref C) dv = some b') (hb : (b || b') = bb) (q : Q (.bl bb) H) : rIsX K [v, .ref t] H Q :=
  ⟨v, .ref t, w, B, C, bb, rfl, x, xc, .inr ⟨t, [c, d], [cv, dv], rfl, ht, .cons hc (.cons hd .nil), (kitAny2 e e').trans (by rw [hb])⟩, q⟩
end
end EB

namespace EB
open PySem L2 PySem.Spec PyProof.Rows
/-! ### the exception that a suite holds is asked -/
section
variable {X : Cx} {a : Addr} {oe : Obj} {cls : Value} {d : Option Addr} {pn : List (Addr × Obj)}
/-- the exception that the suite holds: of the class C, with what = w -/
def SuX (H : Hp) (cls : Value) (d : Option Addr) (C : Addr) (w : V) : Prop := cls = .ref C ∧ ∃ dd : Addr, d = some dd ∧ H dd = some (.xd [(("what" : Str), w)])
theorem SuX.up {H H' : Hp} {C : Addr} {w : V} (x : SuX H cls d C w) (s : Same H H') : SuX H' cls d C w :=
  let ⟨e, dd, e2, h⟩ := x
  ⟨e, dd, e2, s _ _ h⟩
theorem SuX.inst {pins : List (Addr × Obj)} {σ : L2.St} {H : Hp} {s : Shared} {C : Addr} {w : V} (hz : Zc cls d oe) (hf : ∃ vs, oe.data = .fields vs) (I : L2.Inv (X.suite a ((a, oe) :: pn)) pins σ H s) (x : SuX H cls d C w) :
    ∃ (od : Obj) (l : Str → Option Value), PySem.W.InstAt s.heap a oe C (some od) ∧ (∀ f, PySem.W.lookIn f od = some (l f)) ∧ ∀ f, RelO (List.lookup f [(("what" : Str), w)]) (l f) := by
  obtain ⟨rfl, dd, rfl, h2⟩ := x
  obtain ⟨g, _⟩ := I.pin (a, oe) (List.mem_append_left _ List.mem_cons_self)
  obtain ⟨vs, hd⟩ := hf
  have hx : ObjOk X.prog X.w H s.heap dd (.xd [(("what" : Str), w)]) := I.hok dd _ h2
  obtain ⟨mA, hns, hr⟩ := hx
  obtain ⟨od, ho, hl⟩ := lookIn_ns hns
  exact ⟨od, mA, ⟨g, hz.1, by unfold PySem.W.notCls; rw [hd] <;> rfl, by rw [hz.2]; exact ho⟩, hl, hr⟩
def rIsP (K : PySem.W.Frag) (a : Addr) (cls : Value) (d : Option Addr) : List V → Hp → VK → Prop := fun xs H Q => ∃ (c w : V) (B C : Addr) (b : Bool), xs = [.ref a, c] ∧ SuX H cls d C w ∧ XCls K B C ∧
  ((∃ cv, ClsV c cv ∧ PySem.W.kitOne K (.ref C) cv = some b) ∨
    ∃ (t : Addr) (cs : List V) (cvs : List Value), c = .ref t ∧ H t = some (.tup cs) ∧ Paired ClsV cs cvs ∧ PySem.W.kitAny K (.ref C) cvs = some b) ∧ Q (.bl b) H
theorem cIsP (hz : Zc cls d oe) (hf : ∃ vs, oe.data = .fields vs) : CallR (X.suite a ((a, oe) :: pn)) (.builtin "isinstance") (rIsP X.K a cls d) := by
  intro pins s σ H xs us Q I rel want
  obtain ⟨c, w, B, C, b, rfl, x, xc, alt, q⟩ := want
  obtain ⟨od, l, J, _, _⟩ := x.inst hz hf I
  cases rel with
  | cons r1 rr =>
    cases rr with
    | cons r2 rn =>
      cases rn
      cases r1
      have Z := PySem.W.kitx_exc (K := X.K) (x := a) (ox := oe) (od := some od) (clsIn_some xc.cl) xc.ga xc.gg xc.ox.exC xc.ca xc.cg xc.ct xc.mo
      have done : ∀ tk : Nat, EP (X.suite a ((a, oe) :: pn)) pins σ Q (.bool b) { s with toks := tk } := fun tk => ⟨.bl b, H, I.kept (t' := tk) fun _ _ z => z, rfl, q⟩
      rcases alt with ⟨cv, hcv, e⟩ | ⟨t, cs, cvs, rfl, ht, hcs, e⟩
      · rw [hcv.eq r2]
        exact PySem.W.kia_one Z I.kIn J e (fun z => nomatch z) done
      · cases r2
        obtain ⟨_, its, rv, o, h1, h2, n, h3⟩ := (show ObjOk X.prog X.w H s.heap t (.tup cs) from I.hok t _ ht)
        obtain rfl := ClsV.all hcs rv
        obtain ⟨oc, od', da, sl⟩ := o
        dsimp only at h2 h3
        subst h2 h3
        exact PySem.W.kia_tup Z I.kIn J h1 e (fun z => nomatch z) done
def tWhatP (K : PySem.W.Frag) (a : Addr) (cls : Value) (d : Option Addr) (te : TE) : TE := fun σ H Q => te σ H fun v H1 => ∃ (B C : Addr) (w : V), v = .ref a ∧ SuX H1 cls d C w ∧ XCls K B C ∧ Q w H1
theorem pe_whatP {e : Expr} {te : TE} {pos : Pos} (hz : Zc cls d oe) (hf : ∃ vs, oe.data = .fields vs) (he : PE (X.suite a ((a, oe) :: pn)) e te) (hb : attributeBase e "what" X.env (eval e X.env) = eval e X.env := by rfl) :
    PE (X.suite a ((a, oe) :: pn)) (.Attribute e "what" pos) (tWhatP X.K a cls d te) := by
  refine ⟨fun pins s σ H Q I h => attr_of hb (thn (he.run pins s σ H _ I h) ?_)⟩
  rintro u s1 ⟨v, H1, I1, rv, B, C, w, rfl, x, xc, q⟩
  obtain ⟨od, l, J, hl, hr⟩ := x.inst hz hf I1
  obtain rfl : u = Value.ref a := rv
  have lk : List.lookup ("what" : Str) [(("what" : Str), w)] = some w := by simp [List.lookup]
  obtain ⟨u, hu, ru⟩ := RelO.some_of (v := w) (o := l "what") (by rw [← lk]; exact hr "what")
  exact HandSPX.exc_get I1.kIn J xc.ga xc.gg xc.ox.exC (PySem.W.findObj_own xc.hd xc.no rfl (by rw [hl, hu])) (handed_of ru) ⟨w, H1, I1.tok _, ru, q⟩
def tTryA (K : PySem.W.Frag) (c : Value) (i : Nat) (tb : WX → TS) (ts : Addr → Value → Option Addr → TS) (Wout : WX) : TS := fun D σ H => tb (wAs K c i ts Wout D) D σ H
theorem g_tryA {K : PySem.W.Frag} {c : Value} {i : Nat} {tb : WX → TS} {ts : Addr → Value → Option Addr → TS} {Wout : WX} {D : L2.Ends} {σ : L2.St} {H : Hp} (h : tb (wAs K c i ts Wout D) D σ H) : tTryA K c i tb ts Wout D σ H := h
theorem ps_tryA {x n : Str} {c : Value} {i : Nat} {body suite : List Stmt} {b₀ : Stmt} {np pos pos' : Pos} {tb : WX → TS} {ts : Addr → Value → Option Addr → TS} {Wout : WX} (stk : X.stack = X.env :: X.outer) (own : X.env.frame = some X.env.locals) (uniq : X.N.Nodup) (slot : X.N[i]? = some n) (loc : X.env.kindOf n = some .local) (nm : Names X x c) (tk : Takes X Wout)
    (hb : ∀ (W : WX) (pn : List (Addr × Obj)) (xe : Value → Shared → Prop), Takes (X.tr pn xe) W → PassesOwn (model X.prog X.w) X.A X.env xe → PSs (X.tr pn xe) body (tb W))
    (hsu : ∀ (a : Addr) (oe : Obj) (cls : Value) (d : Option Addr) (pn : List (Addr × Obj)), Zc cls d oe → (∃ vs, oe.data = .fields vs) → PSs (X.suite a ((a, oe) :: pn)) (b₀ :: suite) (ts a cls d)) :
    PS X (.Try body [.ExceptHandler (some (.Name x np)) (some n) (b₀ :: suite) pos'] [] [] pos) (tTryA X.K c i tb ts Wout) := ps_try_as stk own uniq slot loc nm tk hb hsu
end
section
variable {G H : Hp} {Q : VK} {K : PySem.W.Frag} {D : L2.Ends} {σ : L2.St} {te : TE} {a : Addr} {cls : Value} {d : Option Addr}
theorem g_as {B C d : Addr} {i : Nat} {ts : Addr → Value → Option Addr → TS} {Wout : WX} (xc : XCls K B C) (xt : XTop K B)
    (h : ∀ a, H a = none → ts a (.ref C) (some d) ⟨fun σ' H' => D.nx (σ'.set i none) H', D.rt, fun σ' H' => D.bk (σ'.set i none) H', fun σ' H' => D.ct (σ'.set i none) H'⟩ (σ.set i (some (.ref a))) H) :
    wAs K (.ref B) i ts Wout D (.ref C) (some d) σ H := ⟨true, xc.exm xt, fun _ => h, fun z => by cases z⟩
theorem g_whatP (h : te σ H fun v H1 => ∃ (B C : Addr) (w : V), v = .ref a ∧ SuX H1 cls d C w ∧ XCls K B C ∧ Q w H1) : tWhatP K a cls d te σ H Q := h
theorem g_isP {B C : Addr} {b : Bool} {w c : V} {cv : Value} (x : SuX H cls d C w) (xc : XCls K B C) (hc : ClsV c cv) (e : PySem.W.kitOne K (.ref C) cv = some b) (q : Q (.bl b) H) : rIsP K a cls d [.ref a, c] H Q := ⟨c, w, B, C, b, rfl, x, xc, .inl ⟨cv, hc, e⟩, q⟩
theorem kitAny3 {t c d e : Value} {b b' b'' : Bool} (h1 : PySem.W.kitOne K t c = some b) (h2 : PySem.W.kitOne K t d = some b') (h3 : PySem.W.kitOne K t e = some b'') : PySem.W.kitAny K t [c, d, e] = some (b || (b' || b'')) := by
  unfold PySem.W.kitAny
  rw [h1]
  cases b with
  | true => rfl
  | false =>
    show PySem.W.kitAny K t [d, e] = some (b' || b'')
    exact kitAny2 h2 h3
theorem g_isP2 {B C t : Addr} {b b' bb : Bool} {w c c' : V} {cv dv : Value} (x : SuX H cls d C w) (xc : XCls K B C) (ht : H t = some (.tup [c, c'])) (hc : ClsV c cv) (hd : ClsV c' dv) (e : PySem.W.kitOne K (.ref C) cv = some b) (e' : PySem.W.kitOne K (.ref C) dv = some b') (hb : (b || b') = bb) (q : Q (.bl bb) H) : rIsP K a cls d [.ref a, .ref t] H Q :=
  ⟨.ref t, w, B, C, bb, rfl, x, xc, .inr ⟨t, [c, c'], [cv, dv], rfl, ht, .cons hc (.cons hd .nil), (kitAny2 e e').trans (by rw [hb])⟩, q⟩
theorem g_isP3 {B C t : Addr} {b b' b'' bb : Bool} {w c c' c'' : V} {cv dv ev : Value} (x : SuX H cls d C w) (xc : XCls K B C) (ht : H t = some (.tup [c, c', c''])) (hc : ClsV c cv) (hd : ClsV c' dv) (he : ClsV c'' ev) (e : PySem.W.kitOne K (.ref C) cv = some b) (e' : PySem.W.kitOne K (.ref C) dv = some b') (e'' : PySem.W.kitOne K (.ref C) ev = some b'') (hb : (b || (b' || b'')) = bb) (q : Q (.bl bb) H) : rIsP K a cls d [.ref a, .ref t] H Q :=
  ⟨.ref t, w, B, C, bb, rfl, x, xc, .inr ⟨t, [c, c', c''], [cv, dv, ev], rfl, ht, .cons hc (.cons hd (.cons he .nil)), (kitAny3 e e' e'').trans (by rw [hb])⟩, q⟩
theorem g_isX3 {B C t : Addr} {b b' b'' bb : Bool} {v w c c' c'' : V} {cv dv ev : Value} (x : IsX H v C w) (xc : XCls K B C) (ht : H t = some (.tup [c, c', c''])) (hc : ClsV c cv) (hd : ClsV c' dv) (he : ClsV c'' ev) (e : PySem.W.kitOne K (.ref C) cv = some b) (e' : PySem.W.kitOne K (.ref C) dv = some b') (e'' : PySem.W.kitOne K (.ref C) ev = some b'') (hb : (b || (b' || b'')) = bb) (q : Q (.bl bb) H) : rIsX K [v, .ref t] H Q :=
  ⟨v, .ref t, w, B, C, bb, rfl, x, xc, .inr ⟨t, [c, c', c''], [cv, dv, ev], rfl, ht, .cons hc (.cons hd (.cons he .nil)), (kitAny3 e e' e'').trans (by rw [hb])⟩, q⟩
end
/-! ### what a refusal keeps -/
inductive Wh where
  | i (n : Int)
  | n
  | p (a b : Int)
  deriving DecidableEq
instance : Rp Wh := ⟨fun G v x => match x with
  | .i n => v = .int n
  | .n => v = .non
  | .p a b => Rep G v (a, b), fun {G G' v x} s h => match x, h with
  | .i _, h => h
  | .n, h => h
  | .p _ _, h => Rep.up h s⟩
instance : Dt Wh where
  d := fun x => match x with
    | .i n => .int n
    | .n => .none
    | .p a b => .tuple [.int a, .int b]
  dp := fun {K G H v x} s h => match x, h with
    | .i n, h => by have h : v = V.int n := h; subst h; exact .int _
    | .n, h => by have h : v = V.non := h; subst h; exact .non
    | .p a b, h => Dt.dp (x := ((a, b) : Int × Int)) s h
  eqv := fun x y => by
    cases x <;> cases y <;> simp [PyData.eqv, PyData.eqvAll]
  dep := 1
  depth := fun x => by cases x <;> simp [PyData.depth, PyData.depthAll]
  lay := fun x => by cases x <;> simp [PyData.canLay0, PyData.canLayAll0]
/-- an exception of the class C with what = x may leave -/
def RaiseR (E : XK) (H : Hp) (C : Addr) (x : Wh) : Prop := ∀ d H' w, H d = none → Same H H' → Rep H' w x → H' d = some (.xd [(("what" : Str), w)]) → E (.ref C) (some d) H'
theorem RaiseR.up {E : XK} {H H' : Hp} {C : Addr} {x : Wh} (h : RaiseR E H C x) (s : Same H H') : RaiseR E H' C x := fun d H2 w n u r e => h d H2 w (s.free n) (s.trans u) r e
theorem RaiseR.at {E : XK} {H : Hp} {C : Addr} {x : Wh} {w : V} (h : RaiseR E H C x) (r : Rep H w x) {d : Addr} (n : H d = none) : E (.ref C) (some d) (upd H d (.xd [(("what" : Str), w)])) := h d _ w n (same_upd n) (Rep.up r (same_upd n)) upd_same
end EB

namespace EB
open PySem L2 PySem.Spec PyProof.Rows
/-! ### a def that may raise: what it does where it doesn't, told apart -/
section
variable {P : Program} {w : World} {K : PySem.W.Frag} {mg : Str → Option Value} {base : Heap} {j k : Nat} {f : Addr} {fd : FuncData} {ps : List Str} {sp sp' : Sp}
theorem okOr (F : FnOk P w K mg base CX0 j f fd ps sp) (F' : FnOk P w K mg base (L2.CX P w) k f fd ps sp') (h : j ≤ k) : FnOk P w K mg base (L2.CX P w) k f fd ps (fun vs H Q E => sp vs H Q E ∨ sp' vs H Q E) where
  len := fun vs H Q E s => s.elim (F.len vs H Q E) (F'.len vs H Q E)
  run := fun A outer s H args us vs Q E hr e0 b r want => by
    rcases want with want | want
    · refine codeAny_mono ((F.mono h).run A outer s H args us vs Q E hr e0 b r want) fun r s' hq => ?_
      cases r with
      | error e => exact (show False from hq).elim
      | ok fl => cases fl <;> exact hq
    · exact F'.run A outer s H args us vs Q E hr e0 b r want
end
end EB

namespace EB
open PySem L2 PySem.Spec PyProof.Rows
/-! ### d != {} -/
def rNeD0 : R2 := fun x y H Q => ∃ a b ks, x = .ref a ∧ y = .ref b ∧ H a = some (.dK ks) ∧ H b = some (.dK []) ∧ Q (.bl (decide (ks ≠ []))) H
theorem op_ne_dict0 {X : Cx} (hu : X.A.units < cLine) : OpR X (compareOp .NotEq) rNeD0 := by
  intro pins s σ H x y v u Q I rx ry h
  obtain ⟨a, b, ks, rfl, rfl, ea, eb, q⟩ := h
  obtain rfl : v = Value.ref a := rx
  obtain rfl : u = Value.ref b := ry
  obtain ⟨_, ya, va, ra, da⟩ := (show ObjOk X.prog X.w H s.heap a (.dK ks) from I.hok a _ ea)
  obtain ⟨_, yb, vb, rb, db⟩ := (show ObjOk X.prog X.w H s.heap b (.dK []) from I.hok b _ eb)
  have la := ra.length
  have lb : 0 = vb.length := rb.length
  refine PySem.W.keq_ne (knd := mixKind X.prog X.w) (r := true) ya yb da db hu (fun h => hits_all rb ra fun p hp => ?_) (fin_bl I q ?_)
  · have : ks.length = 0 := by omega
    rw [List.length_eq_zero_iff.mp this] at hp
    cases hp
  · cases ks with
    | nil =>
      have : va.length = vb.length := by rw [← la, ← lb]; rfl
      simp [this]
    | cons z ks =>
      have : va.length ≠ vb.length := by rw [← la, ← lb]; simp
      simp [this]
theorem g_neDX {H : Hp} {p q : Addr} {ks : List (Key × V)} {Q : VK} (h1 : H p = some (.dK ks)) (h2 : H q = some (.dK [])) (k : Q (.bl (decide (ks ≠ []))) H) : rNeD0 (.ref p) (.ref q) H Q := ⟨p, q, ks, rfl, rfl, h1, h2, k⟩
end EB

namespace EB
open PySem L2 PySem.Spec PyProof.Rows
/-! ### set(xs), xs a list of ints; sorted(set), any number of members -/
section
variable {P : Program} {w : World} {A : Around} {E : Value → Shared → Prop} {s : Shared}
set_option maxHeartbeats 8000000 in
theorem call_set_listI {l : Addr} {items : Array Value} (ns : List Int) {Q : Value → Shared → Prop} (hh : A.handled = none) (hl : s.heap.IsList l items) (hit : IntsAre items.toList ns) (hb : ns.length + 1 < scanBound)
    (h : ∀ (h' : Heap) (tk c : Nat), SetR w h' s.heap.objs.size (fun j => decide (j ∈ ns)) c → c ≤ ns.length → (∀ b o, s.heap.get? b = some o → h'.get? b = some o) → Q (.ref s.heap.objs.size) { s with heap := h', toks := tk }) :
    wpAny (model P w) A (call (.type "set") [.ref l]) Q E s := by
  have hisz : items.size = ns.length := by
    have q := IntsAre.length hit
    rw [Array.length_toList] at q
    exact q
  have hval : ∀ (i : Nat) (v : Value), items[i]? = some v → ∃ k t, ns[i]? = some k ∧ v = .int k t := fun i v hv => by
    have hi : i < ns.length := by rw [← hisz]; exact (Array.getElem?_eq_some_iff.mp hv).1
    obtain ⟨t, e⟩ := PyProof.Rows.IntsAre.int_at hit i v (by rw [Array.getElem?_toList]; exact hv)
    refine ⟨ns[i], t, List.getElem?_eq_getElem hi, ?_⟩
    rw [e, List.getD_eq_getElem?_getD, List.getElem?_eq_getElem hi] <;> rfl
  obtain ⟨c, tl, hmro⟩ := F.called_set.mro
  have hmade := F.called_set.made
  have hsub := F.called_set.sub
  refine wpAny_call (codeAny_of_tree ?_)
  show wpAny _ _ (callAny (.type "set") _) _ _ _
  refine wpAny_pure ⟨Code.quiet_builtin _ (by decide +kernel), codeAny_builtin F.entry_type_call ?_⟩
  rw [Around.under_plain (weight_type_call_type "set" [.ref l] []) rfl]
  have h1 := F.called_set.notType
  have h2 := F.called_set.canCreate
  have hct := F.typeCall_set_1 (.ref l)
  repeat (any_goals (first | assumption | wp_step))
  refine codeAny_mono (code_set_led1 (.ref l) (E := E) (Q₁ := fun obj s₁ => obj = .ref s.heap.objs.size ∧ s₁ = { s with heap := s.heap.push { cls := .type "set", dict := none, data := .set #[] 0 (.fresh 0 0 (!w.params.followText "set-order")) } }) ⟨rfl, rfl⟩) fun r s₁ hr => ?_
  cases r with
  | error e => exact hr
  | ok fl =>
    cases fl with
    | ret obj =>
      obtain ⟨rfl, rfl⟩ := hr
      have hS : (s.heap.push { cls := .type "set", dict := none, data := .set #[] 0 (.fresh 0 0 (!w.params.followText "set-order")) }).get? s.heap.objs.size = some { cls := .type "set", dict := none, data := .set #[] 0 (.fresh 0 0 (!w.params.followText "set-order")) } := Heap.get?_push_size _ rfl
      have hT : Shared.TypeIs { s with heap := s.heap.push { cls := .type "set", dict := none, data := .set #[] 0 (.fresh 0 0 (!w.params.followText "set-order")) } } (.ref s.heap.objs.size) "set" := ⟨_, hS, rfl⟩
      have hli := F.called_set.init.lookup
      have hbi := F.called_set.init.bind (.ref s.heap.objs.size)
      repeat (any_goals (first | assumption | wp_step))
      refine codeAny_mono (codeAny_call_builtin (R := wants (fun r s₂ => r = .none ∧ ∃ h' tk c, s₂ = { s with heap := h', toks := tk } ∧ SetR w h' s.heap.objs.size (fun j => decide (j ∈ ns)) c ∧ c ≤ ns.length ∧
          (∀ b o, s.heap.get? b = some o → h'.get? b = some o)) E) F.called_set.init.plain F.entry_set_init (check_set_init_1 hT ?_)) fun r₂ s₂ hr₂ => ?_
      · obtain ⟨ol, hol, hcl, nl, hdl⟩ := hl
        obtain ⟨ocls, odict, odata, oslots⟩ := ol
        simp only at hcl hdl
        subst hcl; subst hdl
        have hol' : (s.heap.push { cls := .type "set", dict := none, data := .set #[] 0 (.fresh 0 0 (!w.params.followText "set-order")) }).get? l = some { cls := .type "list", dict := odict, data := .seq items nl, slots := oslots } := Heap.get?_push_of_some _ hol
        have hsls := F.sub_list_set
        have hslf := F.sub_list_frozenset
        have hne : (Value.type "list" == Value.type "dict") = false := by decide
        have hl1 : (s.heap.push { cls := .type "set", dict := none, data := .set #[] 0 (.fresh 0 0 (!w.params.followText "set-order")) }).IsList l items := ⟨_, hol', rfl, nl, rfl⟩
        unfold Builtin.«set.__init__» noKeywords Builtin.Frozenset.updateFrom
        generalize hPI : pyIter = PI
        wp_walk
        subst hPI
        refine wpAny_pyIter_list hl1 ?_
        refine wpAny_bind (wpAny_runValue ?_)
        have hlS : l < s.heap.objs.size := Heap.lt_size hol
        have hh3 : A.in1.in1.in1.handled = none := by simp [hh]
        have hneI : l ≠ (s.heap.push { cls := .type "set", dict := none, data := .set #[] 0 (.fresh 0 0 (!w.params.followText "set-order")) }).objs.size := by
          rw [Heap.size_push]; exact Nat.ne_of_lt (Nat.lt_succ_of_lt hlS)
        have hSf : s.heap.objs.size ∉ [(s.heap.push { cls := .type "set", dict := none, data := .set #[] 0 (.fresh 0 0 (!w.params.followText "set-order")) }).objs.size, l] := by
          rw [Heap.size_push]; simp only [List.mem_cons, List.mem_singleton, List.not_mem_nil, or_false, not_or]
          exact ⟨Nat.ne_of_lt (Nat.lt_succ_self _), Nat.ne_of_gt hlS⟩
        refine set_update_ints ((Walks.list hh3 _ l hneI items).toS) s.heap.objs.size hSf ns hisz hb hval (items.size - 0) 0 _ (by omega) (Nat.zero_le _) ⟨⟨_, Heap.get?_push_size _ rfl, rfl, rfl⟩, (hl1.push _)⟩ ?hS0 ?hR
        case hS0 =>
          have hget : ((s.heap.push { cls := .type "set", dict := none, data := .set #[] 0 (.fresh 0 0 (!w.params.followText "set-order")) }).push { cls := .type "list_iterator", data := .fields #[.ref l, .int 0 0] }).get? s.heap.objs.size
              = some { cls := .type "set", dict := none, data := .set #[] 0 (.fresh 0 0 (!w.params.followText "set-order")) } := Heap.get?_push_of_some _ hS
          exact ⟨0, Nat.le_refl 0, setR_new_at hget⟩
        case hR =>
          intro s' c' hm hc' hS'
          obtain ⟨h', g2, d', tk', os'⟩ := s'
          have eg : g2 = s.gens := hm.gens
          have ed : d' = s.drawn := hm.drawn
          have eo : os' = s.os := hm.os
          subst eg; subst ed; subst eo
          show wpAny _ _ _ _ _ _
          refine wpAny_pure ?_
          show wpAny _ _ (ret Value.none) _ _ _
          rw [hisz] at hc'
          refine wpAny_pure ⟨rfl, h', tk', c', rfl, hS', hc', fun b o e => ?_⟩
          have hb0 : b < s.heap.objs.size := Heap.lt_size e
          have hb1 : b ≠ s.heap.objs.size := Nat.ne_of_lt hb0
          have hb2 : b ≠ (s.heap.push { cls := .type "set", dict := none, data := .set #[] 0 (.fresh 0 0 (!w.params.followText "set-order")) }).objs.size := by
            rw [Heap.size_push]; exact Nat.ne_of_lt (Nat.lt_succ_of_lt hb0)
          exact hm.heap b o (by simp only [List.mem_cons, List.mem_singleton, List.not_mem_nil, or_false, not_or]; exact ⟨hb1, hb2⟩) (Heap.get?_push_of_some _ (Heap.get?_push_of_some _ e))
      · cases r₂ with
        | error e => exact hr₂
        | ok fl₂ =>
          cases fl₂ with
          | ret r =>
            obtain ⟨rfl, h', tk, c', rfl, hS', hc', hk'⟩ := hr₂
            repeat (any_goals (first | assumption | wp_step))
            exact h _ _ _ hS' hc' hk'
          | _ => exact hr₂.elim
    | _ => exact hr.elim
theorem sorted_setB {a : Addr} {S : Int → Bool} {n : Nat} {Q : Value → Shared → Prop} (R : SetR w s.heap a S n) (hh : A.handled = none) (hn0 : n ≤ 100000)
    (hQ : ∀ s' p (out : Array Value) (c : Nat) (ns : List Int), (∀ b o, s.heap.get? b = some o → s'.heap.get? b = some o) → s'.gens = s.gens → s'.os = s.os → s.heap.objs.size ≤ p →
      s'.heap.get? p = some (seqObj "list" out c) → IntsAre out.toList ns → ns.Pairwise (· < ·) → (∀ k, k ∈ ns ↔ S k = true) → ns.length = n → Q (.ref p) s') :
    wpAny (model P w) A (call (.builtin "sorted") [.ref a]) Q E s := by
  obtain ⟨o, es, ep, t, ho, hex, hd, g, nd, hm, hb, hf, hn, hr, hl⟩ := R
  refine Calls.call_function_entry kind_sorted plain_sorted entry_sorted (args_sorted1 _) ?_
  unfold Builtin.«sorted»
  refine wpAny_bind (m := checkCount "sorted" 1 1 _) (wpAny_pure ?_)
  refine wpAny_bind (collect_set (A := A.in1) hh ⟨o, ho, hex.1, hd⟩ hf hb hr hl fun s1 vs k1 hz g1 o1 pm => ?_)
  have hvl : vs.length = n := by rw [pm.length_eq, List.length_map, Array.length_toList]; exact hn
  have hI : IntsAre vs (vs.map Builtin.Re.reRawOf) := ints_of vs fun v hv => by
    obtain ⟨e, he, q⟩ := List.mem_map.mp (pm.mem_iff.mp hv)
    obtain ⟨k, tk, h1, _⟩ := g e he
    exact ⟨k, tk, by rw [← q]; exact h1⟩
  have pk : (vs.map Builtin.Re.reRawOf).Perm (es.toList.map keyOf) := by
    have q := pm.map Builtin.Re.reRawOf
    rw [List.map_map] at q
    exact q
  have hvz : vs.length ≤ sizeLine := by
    rw [hvl, sizeLine_eq]
    omega
  refine wpAny_bind (wpAny_newList ?_ hvz)
  have hoL : (s1.heap.push (seqObj "list" vs.toArray 0)).get? s1.heap.objs.size = some (seqObj "list" vs.toArray 0) := Heap.get?_push_size _ rfl
  refine wpAny_bind (wpAny_holding (wpAny_call_entry slot_list_sort ⟨_, hoL, rfl⟩ entry_list_sort (SrtO.list_sort_ord SrtO.swo_int hoL hvz (fun h2 => SrtO.ints_sortable hI h2) fun out h1 h2 => ⟨_, rfl, ?_⟩) (args_list_sort _)))
  obtain ⟨a1, a2, a3⟩ := SrtO.ints_out hI h1 h2
  obtain ⟨c, hc⟩ := sortedHeap_at (vs := vs) (out := out.toArray) hoL
  have pn : (out.map SrtO.iv).Perm (es.toList.map keyOf) := a2.trans pk
  refine wpAny_pure ⟨_, rfl, hQ _ s1.heap.objs.size out.toArray c (out.map SrtO.iv) (fun b u e => ?_) g1 o1 hz hc (by simpa using a1) (lt_of_le_nodup _ a3 (pn.nodup_iff.mpr nd)) (fun k => by rw [pn.mem_iff, ← hm k]) ?_⟩
  · have q := k1 b u e
    have hlt := Heap.lt_size q
    show (sortedHeap (s1.heap.push (seqObj "list" vs.toArray 0)) s1.heap.objs.size vs out.toArray).get? b = some u
    rw [sortedHeap_old (Nat.ne_of_lt hlt) (by rw [size_push']; exact Nat.lt_succ_of_lt hlt)]
    exact Heap.get?_push_of_some _ q
  · rw [pn.length_eq, List.length_map, Array.length_toList]; exact hn
end
/-- set(xs), xs a list of ints -/
def rSetOf (K : PySem.W.Frag) (w : World) : List V → Hp → VK → Prop := fun vs H Q => ∃ (a : Addr) (ns : List Int), vs = [.ref a] ∧ SqL K H a (ns.map V.int) ∧ ns.length ≤ 4000 ∧ ∀ (n : Nat) (p : Addr), n ≤ ns.length → H p = none → Q (.ref p) (upd H p (SetO w p (fun j => decide (j ∈ ns)) n))
/-- sorted(a set) -/
def rSrtSet (w : World) : List V → Hp → VK → Prop := fun vs H Q => ∃ (a : Addr) (S : Int → Bool) (n : Nat), vs = [V.ref a] ∧ H a = some (SetO w a S n) ∧ n ≤ 100000 ∧
  ∀ (ns : List Int) (p : Addr), ns.Pairwise (· < ·) → (∀ k : Int, k ∈ ns ↔ S k = true) → ns.length = n → H p = none → Q (.ref p) (upd H p (.lst (ns.map V.int)))
section
variable {X : Cx}
theorem cSetOf (hc : X.calm = true) : CallR X (.type "set") (rSetOf X.K X.w) := by
  intro pins s σ H vs us Q I r h
  obtain ⟨a, ns, rfl, hs, hl, q⟩ := h
  obtain ⟨its, rv, hli, hz⟩ := I.list hs
  rw [Vals.ref1 r]
  refine call_set_listI ns (I.ok.hd hc) hli.isList (by simpa using rv.ints) (by unfold scanBound; omega) fun h' tk c R hcl k => ?_
  have hn : H s.heap.objs.size = none := I.hok.fresh (Nat.le_refl _)
  exact ⟨.ref _, _, I.laid (t' := tk) k (Nat.le_refl _) (setO_new R), rfl, q c _ hcl hn⟩
theorem cSrtSet (hc : X.calm = true) : CallR X (.builtin "sorted") (rSrtSet X.w) := by
  intro pins s σ H vs us Q I r h
  obtain ⟨a, S, n, rfl, ha, h64, q⟩ := h
  have R := setO_get I ha
  rw [Vals.ref1 r]
  refine sorted_setB R (I.ok.hd hc) h64 fun s' p out c ns k g o hp hg hi hs hm hl => ?_
  have hlen : (ns.map V.int).length ≤ sizeLine := by rw [List.length_map, hl, sizeLine_eq]; omega
  have hn : H p = none := I.hok.fresh hp
  have J : Inv X pins σ (upd H p (.lst (ns.map V.int))) { s with heap := s'.heap, gens := s'.gens, drawn := s'.drawn, toks := s'.toks } :=
    I.call (ch := []) (Un.laid k hp hn) (I.hok.laid k hp ⟨hlen, out.toList, c, vals_of_ints hi, hg⟩) (by rw [g]; exact I.bare) (fun _ z => nomatch z)
  have e : s' = { s with heap := s'.heap, gens := s'.gens, drawn := s'.drawn, toks := s'.toks } := by
    cases s'
    cases s
    cases o
    rfl
  rw [e]
  exact ⟨.ref p, _, J, rfl, q ns p hs hm hl hn⟩
end
/-- the members of xs, rising -/
def setI (xs : List Int) : List Int := (upI xs).eraseDups
theorem rising_uniq : ∀ {xs ys : List Int}, xs.Pairwise (· < ·) → ys.Pairwise (· < ·) → (∀ k, k ∈ xs ↔ k ∈ ys) → xs = ys
  | [], [], _, _, _ => rfl
  | [], y :: ys, _, _, h => absurd ((h y).mpr (List.mem_cons_self ..)) (by simp)
  | x :: xs, [], _, _, h => absurd ((h x).mp (List.mem_cons_self ..)) (by simp)
  | x :: xs, y :: ys, hx, hy, h => by
    obtain ⟨hx1, hx2⟩ := List.pairwise_cons.mp hx
    obtain ⟨hy1, hy2⟩ := List.pairwise_cons.mp hy
    have e : x = y := by
      rcases List.mem_cons.mp ((h x).mp (List.mem_cons_self ..)) with e | e
      · exact e
      · rcases List.mem_cons.mp ((h y).mpr (List.mem_cons_self ..)) with e2 | e2
        · exact e2.symm
        · have := hx1 y e2
          have := hy1 x e
          omega
    subst e
    congr 1
    refine rising_uniq hx2 hy2 fun k => ⟨fun hk => ?_, fun hk => ?_⟩
    · rcases List.mem_cons.mp ((h k).mp (List.mem_cons_of_mem _ hk)) with e | e
      · have := hx1 k hk
        omega
      · exact e
    · rcases List.mem_cons.mp ((h k).mpr (List.mem_cons_of_mem _ hk)) with e | e
      · have := hy1 k hk
        omega
      · exact e
/-- set(xs), then sorted of it -/
theorem g_setOf {K : PySem.W.Frag} {w : World} {G H : Hp} {L : List Res} {v : V} {xs : List Int} {Q : VK} (s : Sep G H L) (r : Rep G v xs) (hl : xs.length ≤ 4000)
    (q : ∀ p n H', n ≤ xs.length → Same H H' → H' p = some (SetO w p (fun j => decide (j ∈ xs)) n) → Sep G H' L → Q (.ref p) H') : rSetOf K w [v] H Q := by
  obtain ⟨p, vs, rfl, hp, rs⟩ := r
  obtain rfl := Reps.ints rs
  exact ⟨p, xs, rfl, .inl (.inl (s.gh _ _ hp)), hl, fun n p' hn hp' => q p' n _ hn (same_upd hp') upd_same (s.trash hp')⟩
theorem g_srtSet {w : World} {G H : Hp} {L : List Res} {p : Addr} {xs : List Int} {n : Nat} {Q : VK} (s : Sep G H L) (h : H p = some (SetO w p (fun j => decide (j ∈ xs)) n)) (hn : n ≤ xs.length) (hl : xs.length ≤ 100000)
    (q : ∀ ns l H', ns.Pairwise (· < ·) → (∀ k : Int, k ∈ ns ↔ k ∈ xs) → ns.length ≤ xs.length → Sep G H' (OwnL l ns :: L) → Q (.ref l) H') : rSrtSet w [.ref p] H Q :=
  ⟨p, _, n, rfl, h, by omega, fun ns l h1 h2 h3 hp => q ns l _ h1 (fun k => by rw [h2 k, decide_eq_true_eq]) (by omega) (s.ownNew hp (reps_ints ns))⟩
end EB

namespace EB
open PySem L2 PySem.Spec PyProof.Rows PySem.P
/-! ### sum(lists, []) -/
def flatFrom (ls : Nat → List Value) (i : Nat) : Nat → List Value
  | 0 => []
  | k + 1 => ls i ++ flatFrom ls (i + 1) k
theorem args_sum2 (a b : Value) : argsOk "sum" ⟨[a, b], []⟩ := by unfold argsOk; kernel_rfl
theorem sub_list_str : isSubtype (.type "list") (.type "str") = pure false := by rw [isSubtype_type]; kernel_rfl
theorem sub_list_bytes : isSubtype (.type "list") (.type "bytes") = pure false := by rw [isSubtype_type]; kernel_rfl
theorem sub_list_bytearray : isSubtype (.type "list") (.type "bytearray") = pure false := by rw [isSubtype_type]; kernel_rfl
section
variable {P : Program} {w : World} {A : Around} {R : Result → Shared → Prop}
theorem isIter_at {h : Heap} {I ax : Addr} {i : Nat} (x : h.IsListIter I ax i) : ∃ o, h.get? I = some o := by
  obtain ⟨o, e, _⟩ := x
  exact ⟨o, e⟩
theorem codeAny_sum_loopL {I ax S : Addr} {items : Array Value} (hh : A.handled = none) (hne : ax ≠ I) (hSI : S ≠ I) (hSa : S ≠ ax) (addr : Nat → Addr) (ls : Nat → List Value) (hit : ∀ i v, items[i]? = some v → v = Value.ref (addr i)) :
    ∀ (k i : Nat) (s : Shared) (T : Addr) (c n : Nat) (tot : List Value), items.size - i = k → i ≤ items.size → (s.heap.IsListIter I ax i ∧ s.heap.IsList ax items) → s.heap.get? S = some { cls := .type "list", dict := none, data := .seq #[.ref T] c, slots := #[] } →
    IsL s.heap T tot.toArray n → T ≠ S → T ≠ I → tot.length + (flatFrom ls i k).length ≤ sizeLine → (∀ j, i ≤ j → j < items.size → ∃ m, IsL s.heap (addr j) (ls j).toArray m ∧ addr j ≠ S ∧ addr j ≠ I) →
    (∀ s' T' n', IsL s'.heap T' (tot ++ flatFrom ls i k).toArray n' → Moved [S, I] (fun a b => b = a) s s' → T' ≠ S → T' ≠ I → ((k = 0 ∧ T' = T) ∨ (0 < k ∧ S < T')) → R (.ok (.ret (.ref T'))) s') →
    codeAny (model P w) A (.builtin "sum.loop" ⟨[.ref I, .ref S, rawInt 2, rawInt 0], []⟩) R s := by
  have W := (Walks.list (prog := P) (w := w) (A := A.in1) (by simp [hh]) I ax hne items).toS
  have hSf : S ∉ [I, ax] := by simp [hSI, hSa]
  have hSw : S ∉ [I] := by simp [hSI]
  have hsub : ∀ b ∈ [I], b ∈ [S, I] := fun b hb => List.mem_cons_of_mem _ hb
  intro k
  induction k with
  | zero =>
    intro i s T c n tot hk hi hst hS hT hTS hTI hfit hls hR
    have hin : i = items.size := by omega
    subst hin
    refine codeAny_builtin F.entry_sum_loop ?_
    rw [Around.under_plainId F.plain_sum_loop _]
    show wpAny _ A.in1 (seqItems? (.ref S) >>= _) _ _ s
    refine wpAny_bind (wpAny_seqItems hS rfl ?_)
    show wpAny _ A.in1 (tryCatch (pyNext (.ref I)) _ >>= _) _ _ s
    refine wpAny_bind (wpAny_tryCatch (W.done s _ _ hst fun s' hm => ?_))
    refine wpAny_pure (hR s' T n ?_ (hm.mono hsub) hTS hTI (.inl ⟨rfl, rfl⟩))
    show IsL s'.heap T (tot ++ []).toArray n
    rw [List.append_nil]
    exact hm.heap T _ (by simp [hTI]) hT
  | succ k ih =>
    intro i s T c n tot hk hi hst hS hT hTS hTI hfit hls hR
    have hlt : i < items.size := by omega
    refine codeAny_builtin F.entry_sum_loop ?_
    rw [Around.under_plainId F.plain_sum_loop _]
    show wpAny _ A.in1 (seqItems? (.ref S) >>= _) _ _ s
    refine wpAny_bind (wpAny_seqItems hS rfl ?_)
    show wpAny _ A.in1 (tryCatch (pyNext (.ref I)) _ >>= _) _ _ s
    refine wpAny_bind (wpAny_tryCatch (W.item i s _ _ hlt hst fun v s' hP hst' hm => ?_))
    obtain rfl := hit i v hP
    obtain ⟨m, hb, hbS, hbI⟩ := hls i (Nat.le_refl _) hlt
    have hS' := hm.heap S _ hSw hS
    have hT' : IsL s'.heap T tot.toArray n := hm.heap T _ (by simp [hTI]) hT
    have hb' : IsL s'.heap (addr i) (ls i).toArray m := hm.heap _ _ (by simp [hbI]) hb
    have ef : flatFrom ls i (k + 1) = ls i ++ flatFrom ls (i + 1) k := rfl
    rw [ef, List.length_append] at hfit
    show wpAny _ A.in1 ((holding [Value.ref (addr i)] (binaryOp .Add (.ref T) (.ref (addr i)))).attempt >>= _) _ _ _
    refine wpAny_bind (wpAny_attempt (wpAny_holding (add_list hT' hb' ?_ (by rw [List.size_toArray, List.size_toArray]; omega))))
    have ea : tot.toArray ++ (ls i).toArray = (tot ++ ls i).toArray := by simp
    rw [ea]
    have eT : IsL (s'.heap.push { cls := .type "list", data := .seq (tot ++ ls i).toArray }) s'.heap.objs.size (tot ++ ls i).toArray 0 := IsL.new _ _
    have hS1 : (s'.heap.push { cls := .type "list", data := .seq (tot ++ ls i).toArray }).get? S = _ := Heap.get?_push_of_some _ hS'
    show wpAny _ A.in1 (updateSeq S (fun _ => #[.ref s'.heap.objs.size]) >>= _) _ _ _
    refine wpAny_bind (wpAny_updateSeq hS1 rfl ?_)
    have hS₂ := Heap.get?_update_self (Obj.mapSeq fun _ => #[Value.ref s'.heap.objs.size]) hS1 rfl
    refine wpAny_bind (wpAny_letGo ?_)
    have hSlt : S < s'.heap.objs.size := Heap.lt_size hS'
    obtain ⟨oI, hI⟩ := isIter_at hst'.1
    have hIlt : I < s'.heap.objs.size := Heap.lt_size hI
    have k2 : ∀ b o, b ≠ S → s'.heap.get? b = some o → (((s'.heap.push { cls := .type "list", data := .seq (tot ++ ls i).toArray }).update S (Obj.mapSeq fun _ => #[Value.ref s'.heap.objs.size])).update S (Obj.mapSeq fun _ => #[Value.ref s'.heap.objs.size])).get? b = some o := fun b o hbS e =>
      (Heap.get?_update_other _ _ (Ne.symm hbS)).trans ((Heap.get?_update_other _ _ (Ne.symm hbS)).trans (Heap.get?_push_of_some _ e))
    refine wpAny_bind (wpAny_updateSeq hS₂ rfl (wpAny_pure ⟨plainId_quiet F.plain_sum_loop _, ih (i + 1) _ s'.heap.objs.size _ 0 (tot ++ ls i) (by omega) hlt ?_ (Heap.get?_update_self _ hS₂ rfl) ?_ (Nat.ne_of_gt hSlt) (Nat.ne_of_gt hIlt) (by rw [List.length_append]; omega) (fun j hj hj2 => ?_) fun s'' T'' n'' hT'' hm'' h1 h2 h3 => ?_⟩))
    · exact ⟨hst'.1.at fun o e => k2 I o (Ne.symm hSI) e, hst'.2.at fun o e => k2 ax o (Ne.symm hSa) e⟩
    · exact (Heap.get?_update_other _ _ (Nat.ne_of_lt hSlt)).trans ((Heap.get?_update_other _ _ (Nat.ne_of_lt hSlt)).trans eT)
    · obtain ⟨m2, hb2, hbS2, hbI2⟩ := hls j (by omega) hj2
      exact ⟨m2, k2 _ _ hbS2 (hm.heap _ _ (by simp [hbI2]) hb2), hbS2, hbI2⟩
    · refine hR s'' T'' n'' ?_ (Moved.trans W.gtrans ((hm.mono hsub).then_heap (Nat.le_refl _) fun b o hb e => k2 b o (fun z => hb (by rw [z]; exact List.mem_cons_self)) e) hm'') h1 h2 (.inr ⟨by omega, ?_⟩)
      · rw [ef, ← List.append_assoc]
        exact hT''
      · rcases h3 with ⟨_, rfl⟩ | ⟨_, h3⟩
        · exact hSlt
        · exact h3
theorem call_sum_lists {E : Value → Shared → Prop} {s : Shared} {l z : Addr} {items : Array Value} {n : Nat} {Q : Value → Shared → Prop} (hh : A.handled = none) (hl : s.heap.IsList l items) (hz : IsL s.heap z #[] n) (addr : Nat → Addr) (ls : Nat → List Value) (hit : ∀ i v, items[i]? = some v → v = Value.ref (addr i))
    (hls : ∀ j, j < items.size → ∃ m, IsL s.heap (addr j) (ls j).toArray m) (hfit : (flatFrom ls 0 items.size).length ≤ sizeLine)
    (hQ : ∀ s' T' n', IsL s'.heap T' (flatFrom ls 0 items.size).toArray n' → (∀ b o, s.heap.get? b = some o → s'.heap.get? b = some o) → s'.gens = s.gens → s'.drawn = s.drawn → s'.os = s.os → ((items.size = 0 ∧ T' = z) ∨ (0 < items.size ∧ s.heap.objs.size ≤ T')) → Q (.ref T') s') :
    wpAny (model P w) A (call (.builtin "sum") [.ref l, .ref z]) Q E s := by
  refine call_function_tree F.kind_sum F.plain_sum F.entry_sum (args_sum2 _ _) ?_
  unfold Builtin.«sum»
  simp only [List.length_cons, List.length_nil]
  rw [if_neg (by decide)]
  refine wpAny_bind (wpAny_of_eq (show Builtin.Builtins.bindParams "sum" ["start"] 0 { pos := [.ref z] } = pure [some (Value.ref z)] from rfl) ?_)
  refine wpAny_bind (wpAny_pyIter_list hl ?_)
  have hlt : l < s.heap.objs.size := by
    obtain ⟨o, e, _⟩ := hl
    exact Heap.lt_size e
  have hzlt : z < s.heap.objs.size := Heap.lt_size hz
  have hz1 : (s.heap.push { cls := .type "list_iterator", data := .fields #[.ref l, .int 0 0] }).get? z = _ := Heap.get?_push_of_some _ hz
  refine wpAny_bind (wpAny_pure ?_)
  have ty : Shared.TypeIs { s with heap := s.heap.push { cls := .type "list_iterator", data := .fields #[.ref l, .int 0 0] } } (.ref z) "list" := ⟨_, hz1, rfl⟩
  simp only [List.forIn_cons, List.forIn_nil]
  refine wpAny_bind (wpAny_bind (wpAny_bind (wpAny_isInstance (T := "list") (b := false) ty sub_list_str ?_)))
  simp only [Bool.false_eq_true, if_false]
  refine wpAny_pure (wpAny_bind (wpAny_bind (wpAny_isInstance (T := "list") (b := false) ty sub_list_bytes ?_)))
  simp only [Bool.false_eq_true, if_false]
  refine wpAny_pure (wpAny_bind (wpAny_bind (wpAny_isInstance (T := "list") (b := false) ty sub_list_bytearray ?_)))
  simp only [Bool.false_eq_true, if_false]
  refine wpAny_pure (wpAny_pure ?_)
  refine wpAny_bind (wpAny_newObj_type ?_)
  have hl1 : (s.heap.push { cls := .type "list_iterator", data := .fields #[.ref l, .int 0 0] }).IsList l items := hl.push _
  have hsz : (s.heap.push { cls := .type "list_iterator", data := .fields #[.ref l, .int 0 0] }).objs.size = s.heap.objs.size + 1 := size_push' _ _
  have e1 : ∀ b o, s.heap.get? b = some o → ((s.heap.push { cls := .type "list_iterator", data := .fields #[.ref l, .int 0 0] }).push { cls := .type "list", data := .seq #[.ref z] }).get? b = some o := fun b o e => Heap.get?_push_of_some _ (Heap.get?_push_of_some _ e)
  have hSne : ∀ b, b < s.heap.objs.size → b ≠ (s.heap.push { cls := .type "list_iterator", data := .fields #[.ref l, .int 0 0] }).objs.size := fun b hb => by
    rw [hsz]
    exact Nat.ne_of_lt (Nat.lt_succ_of_lt hb)
  refine wpAny_pure ⟨plainId_quiet F.plain_sum_loop _, codeAny_sum_loopL (I := s.heap.objs.size) (ax := l) (S := (s.heap.push { cls := .type "list_iterator", data := .fields #[.ref l, .int 0 0] }).objs.size) (by simpa using hh) (Nat.ne_of_lt hlt) (by rw [hsz]; exact Nat.succ_ne_self _) (Ne.symm (hSne l hlt)) addr ls hit items.size 0 _ z 0 n [] (by omega) (Nat.zero_le _)
    ⟨⟨_, Heap.get?_push_of_some _ (Heap.get?_push_size _ rfl), rfl, rfl⟩, hl1.push _⟩ (Heap.get?_push_size _ rfl) (e1 _ _ hz) (hSne z hzlt) (Nat.ne_of_lt hzlt) (by simpa using hfit) (fun j _ hj => ?_) fun s' T' n' h1 hm h2 h3 h4 => ?_⟩
  · obtain ⟨m, hb⟩ := hls j hj
    have hblt := Heap.lt_size hb
    exact ⟨m, e1 _ _ hb, hSne _ hblt, Nat.ne_of_lt hblt⟩
  · refine hQ s' T' n' (by simpa using h1) (fun b o e => hm.heap b o ?_ (e1 b o e)) hm.gens hm.drawn hm.os ?_
    · have hblt := Heap.lt_size e
      simp only [List.mem_cons, List.not_mem_nil, or_false, not_or]
      exact ⟨hSne b hblt, Nat.ne_of_lt hblt⟩
    · rcases h4 with ⟨h4, rfl⟩ | ⟨h4, h5⟩
      · exact .inl ⟨h4, rfl⟩
      · rw [hsz] at h5
        exact .inr ⟨h4, Nat.le_of_lt (Nat.lt_of_succ_lt h5)⟩
end
/-- sum(lists, []) -/
def rSumL : List V → Hp → VK → Prop := fun vs H Q => ∃ (a z : Addr) (bs : List Addr) (yss : List (List V)), vs = [.ref a, .ref z] ∧ H a = some (.lst (bs.map V.ref)) ∧ bs.length = yss.length ∧ (∀ j, j < bs.length → H (bs.getD j 0) = some (.lst (yss.getD j []))) ∧ H z = some (.lst []) ∧ yss.flatten.length ≤ sizeLine ∧
  (yss = [] → Q (.ref z) H) ∧ (yss ≠ [] → ∀ p, H p = none → Q (.ref p) (upd H p (.lst yss.flatten)))
theorem vals_refs : ∀ {bs : List Addr} {us : List Value}, Vals (bs.map V.ref) us → us = bs.map Value.ref
  | [], _, h => by cases h; rfl
  | b :: bs, _, h => by
    cases h with
    | cons r rs =>
      cases r
      rw [vals_refs rs]
      rfl
theorem vals_flat {ls : Nat → List Value} {yss : List (List V)} (h : ∀ j, j < yss.length → Vals (yss.getD j []) (ls j)) : ∀ k i, i + k = yss.length → Vals (yss.drop i).flatten (flatFrom ls i k)
  | 0, i, e => by
    rw [List.drop_of_length_le (by omega)]
    exact .nil
  | k + 1, i, e => by
    have hi : i < yss.length := by omega
    have h1 := h i hi
    rw [List.getD_eq_getElem?_getD, List.getElem?_eq_getElem hi] at h1
    rw [List.drop_eq_getElem_cons hi, List.flatten_cons]
    exact Vals.append h1 (vals_flat h k (i + 1) (by omega))
theorem cSumL {X : Cx} (hc : X.calm = true) : CallR X (.builtin "sum") rSumL := by
  intro pins s σ H vs us Q I r h
  obtain ⟨a, z, bs, yss, rfl, ha, hlen, hbs, hz, hfit, q0, q1⟩ := h
  obtain ⟨u1, u2, rfl, r1, r2⟩ := vals2 r
  cases r1
  cases r2
  obtain ⟨_, its, n, rv, _, e⟩ := I.lstM ha
  obtain ⟨_, its0, n0, rv0, _, e0⟩ := I.lstM hz
  cases rv0
  obtain rfl := vals_refs rv
  have ch : ∀ j, ∃ l : List Value, j < yss.length → Vals (yss.getD j []) l ∧ ∃ m, IsL s.heap (bs.getD j 0) l.toArray m := fun j => by
    by_cases c : j < yss.length
    · obtain ⟨_, l, m, rl, _, el⟩ := I.lstM (hbs j (by omega))
      exact ⟨l, fun _ => ⟨rl, m, el⟩⟩
    · exact ⟨[], fun c2 => absurd c2 c⟩
  obtain ⟨ls, hls⟩ := Classical.axiomOfChoice ch
  have vf := vals_flat (fun j hj => (hls j hj).1) yss.length 0 (by omega)
  rw [List.drop_zero] at vf
  have hsz : ((bs.map Value.ref).toArray).size = yss.length := by simp [hlen]
  refine call_sum_lists (I.ok.hd hc) (n := n0) ⟨_, e, rfl, n, rfl⟩ e0 (fun j => bs.getD j 0) ls (fun i v hv => ?_) (fun j hj => (hls j (by rw [← hsz]; exact hj)).2) (by rw [hsz, ← vf.length]; exact hfit) fun s' T' n' hT k g d o h4 => ?_
  · rw [← Array.getElem?_toList] at hv
    simp only [List.getElem?_map] at hv
    obtain ⟨b, hb, rfl⟩ := Option.map_eq_some_iff.mp hv
    rw [List.getD_eq_getElem?_getD, hb]
    rfl
  · have es : s' = { s with heap := s'.heap, toks := s'.toks } := by
      cases s'
      cases s
      cases g
      cases d
      cases o
      rfl
    rw [hsz] at h4 hT
    rcases h4 with ⟨h4, rfl⟩ | ⟨h4, h5⟩
    · have : yss = [] := List.length_eq_zero_iff.mp h4
      rw [es]
      exact ⟨.ref _, H, I.kept k, rfl, q0 this⟩
    · have ne : yss ≠ [] := fun z => by rw [z] at h4; exact absurd h4 (by decide)
      have ok : ObjOk X.prog X.w (upd H T' (.lst yss.flatten)) s'.heap T' (.lst yss.flatten) := ⟨hfit, _, n', vf, hT⟩
      rw [es]
      exact ⟨.ref _, _, I.laid (t' := s'.toks) k h5 ok, rfl, q1 ne _ (I.hok.fresh h5)⟩
theorem reps_lists {A : Type} [Rp A] {G : Hp} : ∀ {vs : List V} {xss : List (List A)}, Reps G vs xss → ∃ (bs : List Addr) (yss : List (List V)), vs = bs.map V.ref ∧ bs.length = yss.length ∧ (∀ j, j < bs.length → G (bs.getD j 0) = some (.lst (yss.getD j []))) ∧ Reps G yss.flatten xss.flatten ∧ (yss = [] → xss = [])
  | [], [], _ => ⟨[], [], rfl, rfl, fun j h => absurd h (Nat.not_lt_zero _), trivial, fun _ => rfl⟩
  | v :: vs, xs :: xss, ⟨r, rs⟩ => by
    obtain ⟨b, ys, rfl, hb, ry⟩ := r
    obtain ⟨bs, yss, rfl, hl, hg, rf, _⟩ := reps_lists rs
    refine ⟨b :: bs, ys :: yss, rfl, by simp [hl], fun j hj => ?_, ?_, fun h => by cases h⟩
    · cases j with
      | zero => exact hb
      | succ j => exact hg j (by simpa using hj)
    · rw [List.flatten_cons, List.flatten_cons]
      exact All2.app ry rf
theorem g_sumL {A : Type} [Rp A] {G H : Hp} {L : List Res} {v : V} {z : Addr} {xss : List (List A)} {Q : VK} (s : Sep G H (OwnL z ([] : List A) :: L)) (r : Rep G v xss) (hl : xss.flatten.length ≤ 1000000) (q : ∀ p H', Sep G H' (OwnL p xss.flatten :: L) → Q (.ref p) H') : rSumL [v, .ref z] H Q := by
  obtain ⟨p, vs, rfl, hp, rs⟩ := r
  obtain ⟨bs, yss, rfl, hlen, hg, rf, hn⟩ := reps_lists rs
  obtain ⟨vs0, r0, s0⟩ := s.ownO
  cases vs0 with
  | cons x xs => exact r0.elim
  | nil =>
    refine ⟨p, z, bs, yss, rfl, s.gh _ _ hp, hlen, fun j hj => s.gh _ _ (hg j hj), s0.cellAt, by rw [rf.len]; exact small_le hl, fun h => ?_, fun _ l hl => q l _ (s.drop.ownNew hl rf)⟩
    have := hn h
    subst this
    exact q z _ s
end EB

namespace EB
open PySem L2 PySem.Spec PyProof.Rows
/-! ### xs[::k], k being 1 or -1 -/
def tStepL (K : PySem.W.Frag) (te ts : TE) : TE := fun σ H Q => te σ H fun x H1 => tPart ts σ H1 fun o H2 => ∃ a xs, x = .ref a ∧ SqL K H2 a xs ∧ ((o = some (-1) ∧ ∀ p, H2 p = none → Q (.ref p) (upd H2 p (.lst xs.reverse))) ∨ (o = some 1 ∧ ∀ p, H2 p = none → Q (.ref p) (upd H2 p (.lst xs))))
section
variable {X : Cx}
theorem pick_one (its : List Value) : slicePick its.toArray none none (some 1) = its.toArray := by
  have e : slicePick its.toArray none none (some 1) = slicePick its.toArray none none none := rfl
  rw [e, slicePick_cut]
  show ((its.drop 0).take (its.length - 0)).toArray = _
  simp
theorem pe_stepL {e es : Expr} {te ts : TE} {p3 pos : Pos} (he : PE X e te) (hs : PE X es ts) : PE X (.Subscript e (.Slice none none (some es) p3) pos) (tStepL X.K te ts) := by
  refine ⟨fun pins s σ H Q I h => ?_⟩
  refine Subscript_ (thn (he.run pins s σ H _ I h) fun v s1 ⟨x, H1, I1, r1, q1⟩ => ?_)
  have hst : PO X (some es) (tPart ts) := po_some hs
  refine wpAny_Slice (thn (po_none.run pins s1 σ H1 (fun o H2 => o = none ∧ H2 = H1) I1 ⟨rfl, rfl⟩) fun vl s2 ⟨l, H2, I2, pl, el, e2⟩ => ?_)
  subst el e2
  refine thn (po_none.run pins s2 σ H2 (fun o H3 => o = none ∧ H3 = H2) I2 ⟨rfl, rfl⟩) fun vu s3 ⟨u, H3, I3, pu, eu, e3⟩ => ?_
  subst eu e3
  refine thn (hst.run pins s3 σ H3 _ I3 q1) fun vs s4 ⟨o, H4, I4, ps, a, xs, ex, hx, q⟩ => ?_
  subst ex
  cases r1
  have I5 : Inv X pins σ H4 { s4 with heap := s4.heap.push { cls := .type "slice", data := .fields #[vl, vu, vs] } } := I4.kept (t' := s4.toks) fun b ob q => Heap.get?_push_of_some _ q
  obtain ⟨its, r, ht, hz⟩ := I5.list hx
  have hlen := r.length
  show wpAny (model X.prog X.w) X.A (subscriptTail e (.Slice none none (some es) p3) (.ref a) (.ref s4.heap.objs.size)) (EP X pins σ Q) X.xe { s4 with heap := s4.heap.push { cls := .type "slice", data := .fields #[vl, vu, vs] } }
  refine tail_any (ops := [.ref a, .ref s4.heap.objs.size]) ht.isList.typeIs (PySem.slot_list_getitem.lookup) ?_ (by with_unfolding_all rfl)
  rcases q with ⟨rfl, q⟩ | ⟨rfl, q⟩
  · refine wpAny_getItem_list_slice ht.isList (Heap.IsSliceOf.new _ vl vu vs) pl pu ps (by decide) ?_ (by rw [List.size_toArray]; omega)
    rw [PySem.W.krv_pick]
    refine ⟨.ref _, _, I5.laid (t' := s4.toks) (o := .lst xs.reverse) (fun b ob q => Heap.get?_push_of_some _ q) (Nat.le_refl _) ?_, rfl, q _ (I5.hok.fresh (Nat.le_refl _))⟩
    exact ⟨by rw [List.length_reverse]; exact hz, _, 0, r.reverse, Heap.get?_push_size _ rfl⟩
  · refine wpAny_getItem_list_slice ht.isList (Heap.IsSliceOf.new _ vl vu vs) pl pu ps (by decide) ?_ (by rw [List.size_toArray]; omega)
    rw [pick_one]
    refine ⟨.ref _, _, I5.laid (t' := s4.toks) (o := .lst xs) (fun b ob q => Heap.get?_push_of_some _ q) (Nat.le_refl _) ?_, rfl, q _ (I5.hok.fresh (Nat.le_refl _))⟩
    exact ⟨hz, _, 0, r, Heap.get?_push_size _ rfl⟩
end
theorem g_stepL {K : PySem.W.Frag} {te ts : TE} {σ : L2.St} {H : Hp} {Q : VK} (h : te σ H fun x H1 => tPart ts σ H1 fun o H2 => ∃ a xs, x = .ref a ∧ SqL K H2 a xs ∧ ((o = some (-1) ∧ ∀ p, H2 p = none → Q (.ref p) (upd H2 p (.lst xs.reverse))) ∨ (o = some 1 ∧ ∀ p, H2 p = none → Q (.ref p) (upd H2 p (.lst xs))))) : tStepL K te ts σ H Q := h
end EB

namespace EB
open PySem L2 PySem.Spec PyProof.Rows
/-! ### a list of two things of unlike types -/
structure Duo (A B : Type) where
  a : A
  b : B
instance {A B : Type} [Rp A] [Rp B] : Rp (Duo A B) := ⟨fun G v x => ∃ p u w, v = .ref p ∧ G p = some (.lst [u, w]) ∧ Rep G u x.a ∧ Rep G w x.b, fun s h => by
  obtain ⟨p, u, w, e, h, ra, rb⟩ := h
  exact ⟨p, u, w, e, s _ _ h, ra.up s, rb.up s⟩⟩
instance {A B : Type} [Dt A] [Dt B] : Dt (Duo A B) where
  d := fun x => .list [Dt.d x.a, Dt.d x.b]
  dp := fun {K G H v x} s h => by
    obtain ⟨p, a, b, rfl, h, ra, rb⟩ := h
    exact .lst (.inl (.inl (s _ _ h))) (.cons (Dt.dp s ra) (.cons (Dt.dp s rb) .nil))
  eqv := fun x y => by
    obtain ⟨a, b⟩ := x
    obtain ⟨c, d⟩ := y
    simp only [PyData.eqv, PyData.eqvAll, Bool.and_true, Bool.and_eq_true, Dt.eqv, Duo.mk.injEq]
  dep := max (Dt.dep A) (Dt.dep B) + 1
  depth := fun x => by
    have h1 := Dt.depth x.a
    have h2 := Dt.depth x.b
    simp only [PyData.depth, PyData.depthAll]
    omega
  lay := fun x => by simp [PyData.canLay0, PyData.canLayAll0, Dt.lay]
theorem duo_new {A B : Type} [Rp A] [Rp B] {G H : Hp} {L : List Res} {q : Addr} {u w : V} {x : A} {y : B} (s : Sep G H L) (hq : H q = none) (ra : Rep G u x) (rb : Rep G w y) : ∃ G', Same G G' ∧ Sep G' (upd H q (.lst [u, w])) L ∧ Rep G' (.ref q) (Duo.mk x y) := by
  obtain ⟨G', u', s', h⟩ := s.raw hq
  exact ⟨G', u', s', q, u, w, rfl, h, ra.up u', rb.up u'⟩
theorem duo_shw {A B : Type} [Dt A] [Dt B] {x : A} {y : B} {m n : Nat} (h1 : (Dt.d x).showable = true ∧ (Dt.d x).shown.length ≤ m) (h2 : (Dt.d y).showable = true ∧ (Dt.d y).shown.length ≤ n) (hl : m + n + 100 ≤ sizeLine) : Shw (Duo.mk x y) := by
  have e : Dt.d (Duo.mk x y) = .list [Dt.d x, Dt.d y] := rfl
  unfold Shw
  rw [e]
  refine ⟨?_, ?_⟩
  · simp only [PyData.showable, PyData.showableAll, h1.1, h2.1, Bool.and_true]
  · have e2 : PyData.shown (.list [Dt.d x, Dt.d y]) = listText [PyData.shown (Dt.d x), PyData.shown (Dt.d y)] := by
      simp only [PyData.shown, PyData.shownAll]
    rw [e2]
    have := listText_len_le [PyData.shown (Dt.d x), PyData.shown (Dt.d y)]
    simp only [List.map_cons, List.map_nil, List.sum_cons, List.sum_nil, List.length_cons, List.length_nil] at this
    omega
end EB

namespace EB
open PySem L2 PySem.Spec PyProof.Rows
/-! ### texts -/
section
variable {X : Cx}
theorem pe_cS {z : Str} {x : Str} {pos : Pos} (hg : Gl X x) (h : ∃ t, X.mg x = some (.str z t)) (hd : (x == ("__debug__" : Str)) = false := by decide) : PE X (.Name x pos) (tC (.str z)) :=
  C8.pe_gc hg (let ⟨t, e⟩ := h; ⟨_, e, t, rfl⟩) hd
theorem pe_cI {z : Int} {x : Str} {pos : Pos} (hg : Gl X x) (h : ∃ t, X.mg x = some (.int z t)) (hd : (x == ("__debug__" : Str)) = false := by decide) : PE X (.Name x pos) (tC (.int z)) :=
  C8.pe_gc hg (let ⟨t, e⟩ := h; ⟨_, e, t, rfl⟩) hd
theorem pj_nil : PJ X [] [] := .nil
theorem pj_cons {e : Expr} {t : TE} {es : List Expr} {ts : List TE} (h : PE X e t) (r : PJ X es ts) : PJ X (e :: es) (t :: ts) := .cons h r
def tJoin (ts : List TE) : TE := fun σ H Q => tJs ts Str.empty σ H fun out H1 => Q (.str out) H1
theorem pe_joinedS {v1 v2 : Expr} {rest : List Expr} {ts : List TE} {pos : Pos} (h : PJ X (v1 :: v2 :: rest) ts) : PE X (.JoinedStr (v1 :: v2 :: rest) pos) (tJoin ts) := pe_joined h
def rFmt (x : V) (H1 : Hp) (Q : VK) : Prop := (∃ y : Str, x = .str y ∧ y.length ≤ sizeLine ∧ Q (.str y) H1) ∨ ∃ i : Int, x = .int i ∧ i.natAbs.log2 < 1920 ∧ Q (.str (toString i)) H1
def tFmtS (te : TE) : TE := fun σ H Q => te σ H fun x H1 => rFmt x H1 Q
theorem pe_fmtS {e : Expr} {te : TE} {pos : Pos} (he : PE X e te) : PE X (.FormattedValue e (-1) none pos) (tFmtS te) := pe_fmt he
def rSplit : V → List V → Hp → VK → Prop := fun x xs H Q => ∃ a b, x = .str a ∧ xs = [.str b] ∧ (b.length == 0) = false ∧ a.length + 2 ≤ sizeLine ∧ L2.rNewStrs (Txt.split a b) H Q
def rPart : V → List V → Hp → VK → Prop := fun x xs H Q => ∃ a b, x = .str a ∧ xs = [.str b] ∧ (b.length == 0) = false ∧ a.length ≤ sizeLine ∧
      ∀ p, H p = none → Q (.ref p) (upd H p (.tup [.str (Txt.partition a b).1, .str (Txt.partition a b).2.1, .str (Txt.partition a b).2.2]))
def rJn (K : PySem.W.Frag) : V → List V → Hp → VK → Prop := fun x xs H Q => ∃ a p, ∃ ys : List Str, x = .str a ∧ xs = [.ref p] ∧ (SqL K H p (ys.map V.str) ∨ SqT K H p (ys.map V.str)) ∧
      (ys.map (·.length)).sum + ys.length * a.length ≤ 16777216 ∧ Q (.str (Txt.join a ys)) H
def tMS (r : V → List V → Hp → VK → Prop) (to te : TE) : TE := fun σ H Q => to σ H fun x H1 => (∃ a, x = .str a) ∧ te σ H1 fun y H2 => r x [y] H2 Q
variable {o e : Expr} {to te : TE}
theorem pe_splitS {apos pos : Pos} (ho : PE X o to) (he : PE X e te) (hs : starEach [e] X.env = [(false, eval e X.env)] := by rfl) (hbase : attributeBase o "split" X.env (eval o X.env) = eval o X.env := by rfl) (hline : (apos.endLine == pos.line) = true := by rfl) :
    PE X (.Call (.Attribute o "split" apos) [e] [] pos) (tMS rSplit to te) := L2.pe_split ho he hs hbase hline
theorem pe_partitionS {apos pos : Pos} (ho : PE X o to) (he : PE X e te) (hs : starEach [e] X.env = [(false, eval e X.env)] := by rfl) (hbase : attributeBase o "partition" X.env (eval o X.env) = eval o X.env := by rfl) (hline : (apos.endLine == pos.line) = true := by rfl) :
    PE X (.Call (.Attribute o "partition" apos) [e] [] pos) (tMS rPart to te) := L2.pe_partition ho he hs hbase hline
theorem pe_joinS {apos pos : Pos} (ho : PE X o to) (he : PE X e te) (hs : starEach [e] X.env = [(false, eval e X.env)] := by rfl) (hbase : attributeBase o "join" X.env (eval o X.env) = eval o X.env := by rfl) (hline : (apos.endLine == pos.line) = true := by rfl) :
    PE X (.Call (.Attribute o "join" apos) [e] [] pos) (tMS (rJn X.K) to te) := L2.pe_join ho he hs hbase hline
end
section
variable {σ : L2.St} {G H : Hp} {Q : VK} {ta tb te to : TE} {ts : List TE} {tt : TT} {v w x y : V} {K : PySem.W.Frag} {L : List Res} {g : TG} {vs : List Nat} {p : Addr}
theorem g_join (h : tJs ts Str.empty σ H fun out H1 => Q (.str out) H1) : tJoin ts σ H Q := h
theorem g_js0 {acc : Str} {R : Str → Hp → Prop} (h : R acc H) : tJs [] acc σ H R := h
def rJs (ts : List TE) (acc : Str) (σ : L2.St) (x : V) (H1 : Hp) (R : Str → Hp → Prop) : Prop := ∃ y : Str, x = .str y ∧ (acc ++ y).length ≤ sizeLine ∧ tJs ts (acc ++ y) σ H1 R
theorem g_js1 {acc : Str} {R : Str → Hp → Prop} (h : te σ H fun x H1 => rJs ts acc σ x H1 R) : tJs (te :: ts) acc σ H R := h
theorem g_fmt (h : te σ H fun x H1 => rFmt x H1 Q) : tFmtS te σ H Q := h
theorem g_ms {r : V → List V → Hp → VK → Prop} (h : to σ H fun x H1 => (∃ a, x = .str a) ∧ te σ H1 fun y H2 => r x [y] H2 Q) : tMS r to te σ H Q := h
theorem g_isStr {z : Str} {P : Prop} (h : P) : (∃ a, V.str z = V.str a) ∧ P := ⟨⟨_, rfl⟩, h⟩
theorem g_iS {R : It → Hp → Prop} (h : te σ H fun v H1 => ∃ x, v = .str x ∧ R (Its x) H1) : iStr te σ H R := h
theorem g_fmtS {z : Str} (h : z.length ≤ 1000000) (q : Q (.str z) H) : rFmt (.str z) H Q := .inl ⟨z, rfl, small_le h, q⟩
/-- the signs of an int -/
def intL (i : Int) : List Nat := if i < 0 then 45 :: TL.numL i.natAbs else TL.numL i.natAbs
theorem int_S (i : Int) : Str.ofString (toString i) = SX.S (intL i) := by
  unfold intL
  cases i with
  | ofNat n =>
    rw [if_neg (show ¬ Int.ofNat n < 0 from Int.not_lt.mpr (Int.natCast_nonneg n))]
    exact SX.num_S n
  | negSucc n =>
    rw [if_pos (Int.negSucc_lt_zero n)]
    refine TL.ext_tl ?_
    rw [TL.tl_ofString]
    show _ = 45 :: TL.numL (n + 1)
    rw [← TL.tl_num, TL.tl_ofString]
    have e : toString (Int.negSucc n) = "-" ++ toString ((n + 1 : Nat) : Int) := rfl
    rw [e, String.toList_append, List.map_append]
    rfl
theorem g_fmtI {i : Int} (h : i.natAbs < 2 ^ 250) (q : Q (.str (SX.S (intL i))) H) : rFmt (.int i) H Q := .inr ⟨i, rfl, CS.w h, by
  have e : ((toString i : String) : Str) = SX.S (intL i) := int_S i
  rw [e]
  exact q⟩
theorem g_strI {i : Int} (h : i.natAbs < 2 ^ 250) (q : Q (.str (SX.S (intL i))) H) : rStr [.int i] H Q := ⟨h, by
  have e : ((toString i : String) : Str) = SX.S (intL i) := int_S i
  rw [e]
  exact q⟩
theorem g_jsS {a b : List Nat} {R : Str → Hp → Prop} (h : a.length + b.length ≤ 1000000) (q : tJs ts (SX.S (a ++ b)) σ H R) : rJs ts (SX.S a) σ (.str (SX.S b)) H R :=
  ⟨_, rfl, by rw [SX.S_cat, SX.S_len, List.length_append]; exact small_le h, by rw [SX.S_cat]; exact q⟩
theorem g_addS {a b : List Nat} (h : a.length + b.length ≤ 1000000) (q : Q (.str (SX.S (a ++ b))) H) : rAdd (.str (SX.S a)) (.str (SX.S b)) H Q := by
  show _ ∧ _
  rw [SX.S_cat]
  exact ⟨by rw [SX.S_len, SX.S_len]; exact small_le h, q⟩
theorem g_split {a b : List Nat} (s : Sep G H L) (hb : b ≠ []) (hk : b.all (· < 256) = true) (hl : a.length + 2 ≤ 1000000) (q : ∀ p H', Sep G H' (OwnL p ((TL.spl b 0 [] a).map SX.S) :: L) → Q (.ref p) H') : rSplit (.str (SX.S a)) [.str (SX.S b)] H Q := by
  refine ⟨_, _, rfl, rfl, ?_, by rw [SX.S_len]; exact small_le hl, ?_⟩
  · rw [SX.S_len, beq_eq_false_iff_ne]
    exact fun e => hb (List.length_eq_zero_iff.mp e)
  · rw [SX.split_S hb hk]
    exact fun p hp => q p _ (s.ownNew hp (reps_strs _))
/-- what partition tells -/
def part3 (b a : List Nat) : List Nat × List Nat × List Nat := match TL.par b [] a with
  | some (p, q) => (p, b, q)
  | none => (a, [], [])
theorem g_partS {a b : List Nat} (s : Sep G H L) (hb : b ≠ []) (hl : a.length ≤ 1000000) (q : ∀ p, H p = none → Sep G (upd H p (.tup [.str (SX.S (part3 b a).1), .str (SX.S (part3 b a).2.1), .str (SX.S (part3 b a).2.2)])) L → Q (.ref p) (upd H p (.tup [.str (SX.S (part3 b a).1), .str (SX.S (part3 b a).2.1), .str (SX.S (part3 b a).2.2)]))) : rPart (.str (SX.S a)) [.str (SX.S b)] H Q := by
  refine ⟨_, _, rfl, rfl, ?_, by rw [SX.S_len]; exact small_le hl, ?_⟩
  · rw [SX.S_len, beq_eq_false_iff_ne]
    exact fun e => hb (List.length_eq_zero_iff.mp e)
  · intro p hp
    have e : Txt.partition (SX.S a) (SX.S b) = (SX.S (part3 b a).1, SX.S (part3 b a).2.1, SX.S (part3 b a).2.2) := by
      unfold part3
      cases h : TL.par b [] a with
      | none => exact SX.partition_none hb h
      | some z => exact SX.partition_some hb h
    rw [e]
    exact q p hp (s.trash hp)
theorem g_joinS {a : List Nat} {ls : List (List Nat)} (r : Rep G (.ref p) (ls.map SX.S)) (s : Same G H) (hl : (ls.map (·.length)).sum + ls.length * a.length ≤ 1000000) (q : Q (.str (SX.S (TL.joinL a ls))) H) : rJn K (.str (SX.S a)) [.ref p] H Q := by
  obtain ⟨p', vs, e, h, rs⟩ := r
  obtain rfl : p = p' := V.ref.inj e
  obtain rfl := Reps.strs rs
  refine ⟨_, p, ls.map SX.S, rfl, rfl, .inl (.inl (.inl (s _ _ h))), ?_, by rw [SX.join_S]; exact q⟩
  rw [SX.lens, List.length_map, SX.S_len]
  omega
theorem g_ixS {l : List Nat} {k : Int} {c : Nat} (hl : l.length ≤ 1000000) (h0 : 0 ≤ k) (h : l[k.toNat]? = some c) (q : Q (.str (SX.S [c])) H) : rIx K (.str (SX.S l)) (.int k) H Q :=
  .inr (.inr ⟨_, k, c, rfl, rfl, by rw [SX.S_len]; exact small_le hl, at_pos h0 h, q⟩)
theorem g_slTo {l : List Nat} {k : Nat} (hl : l.length ≤ 1000000) (q : Q (.str (SX.S (l.take k))) H) : rSlA K (.str (SX.S l)) none (some (k : Int)) H Q := by
  refine .inr ⟨_, rfl, by rw [SX.S_len]; exact small_le hl, ?_⟩
  have e : cutS (SX.S l) none (some (k : Int)) = SX.S (l.take k) := by
    unfold cutS
    rw [HT.sIx_nat, HT.sIx_none, SX.S_len]
    show SX.S ((l.drop 0).take (min k l.length - 0)) = _
    rw [List.drop_zero, Nat.sub_zero]
    refine congrArg SX.S ?_
    rcases Nat.le_total k l.length with h | h
    · rw [Nat.min_eq_left h]
    · rw [Nat.min_eq_right h, List.take_of_length_le (Nat.le_refl _), List.take_of_length_le h]
  rw [e]
  exact q
theorem g_slFrom {l : List Nat} {k : Nat} (hl : l.length ≤ 1000000) (q : Q (.str (SX.S (l.drop k))) H) : rSlA K (.str (SX.S l)) (some (k : Int)) none H Q := by
  refine .inr ⟨_, rfl, by rw [SX.S_len]; exact small_le hl, ?_⟩
  have e : cutS (SX.S l) (some (k : Int)) none = SX.S (l.drop k) := by
    unfold cutS
    rw [HT.sIx_nat, HT.sIx_none, SX.S_len]
    show SX.S ((l.drop (min k l.length)).take (l.length - min k l.length)) = _
    rcases Nat.le_total k l.length with h | h
    · rw [Nat.min_eq_left h, List.take_of_length_le (by rw [List.length_drop]; omega)]
    · rw [Nat.min_eq_right h, List.drop_eq_nil_of_le h, List.drop_eq_nil_of_le (Nat.le_refl _), List.take_nil]
  rw [e]
  exact q
theorem g_intS {l : List Nat} (h : ∀ c ∈ l, 48 ≤ c ∧ c ≤ 57) (hne : l ≠ []) (hl : l.length ≤ 640) (q : Q (.int ((NumText.digitsVal l : Nat) : Int)) H) : rInt [.str (SX.S l)] H Q :=
  ⟨_, SX.int_S (List.all_eq_true.mpr fun c hc => by simp [h c hc]) hne (by omega), by rw [SX.S_len]; exact hl, q⟩
theorem g_inSt {c : Nat} {l : List Nat} (q : Q (.bl (decide (c ∈ l))) H) : rInA K (.str (SX.S [c])) (.str (SX.S l)) H Q := .inr (.inr ⟨c, _, rfl, rfl, q⟩)
theorem g_lenSt {l : List Nat} (h : l.length ≤ 1000000) (q : Q (.int (l.length : Int)) H) : rLen K [.str (SX.S l)] H Q := g_lenS (by rw [SX.S_len]; exact h) (by rw [SX.S_len]; exact q)
theorem S_dec {a b : List Nat} : decide (SX.S a = SX.S b) = decide (a = b) := decide_eq_decide.mpr ⟨SX.S_inj, fun e => by rw [e]⟩
theorem S_decN {a b : List Nat} : decide (SX.S a ≠ SX.S b) = decide (a ≠ b) := decide_eq_decide.mpr ⟨fun h e => h (by rw [e]), fun h e => h (SX.S_inj e)⟩
theorem g_eqSt {a b : List Nat} (h : Q (.bl (decide (a = b))) H) : rEqA K (.str (SX.S a)) (.str (SX.S b)) H Q := g_eqS (by rw [S_dec]; exact h)
theorem g_neSt {a b : List Nat} (h : Q (.bl (decide (a ≠ b))) H) : rNeA K (.str (SX.S a)) (.str (SX.S b)) H Q := g_neS (by rw [S_decN]; exact h)
theorem walk_str {l : List Nat} : Walk (Its (SX.S l)) l.length (fun _ => True) (fun i H v H' => H' = H ∧ ∃ c, l[i]? = some c ∧ v = .str (SX.S [c])) where
  goes := fun i H hi _ => by
    show i < (l.toArray).size
    simpa using hi
  yields := fun i H v H' hi _ ⟨e, c, hc, ev⟩ => ⟨e, c, by simpa using hc, ev⟩
  stops := fun H _ => by
    show (l.toArray).size ≤ _
    simp
variable {B : Type} [Rp B]
/-- over the signs of a text -/
theorem lcS {l : List Nat} (s : Sep G H L) (I : Nat → List B → List Res → Prop) (h0 : I 0 [] L)
    (hs : ∀ i c D acc G' H' Lc, l[i]? = some c → I i acc Lc → Same G G' → Sep G' H' (OwnL D acc :: Lc) →
      g (.str (SX.S [c])) (wipe σ vs) H' fun σ2 H3 => wipe σ2 vs = wipe σ vs ∧ tt σ2 H3 fun b H4 => if b = true then te σ2 H4 (Put G D (I (i + 1))) else Nxt G D (I (i + 1)) H4)
    (hd : ∀ D acc G' H' Lc, I l.length acc Lc → Same G G' → Sep G' H' (OwnL D acc :: Lc) → Q (.ref D) H') :
    ∃ y, V.str (SX.S l) = .str y ∧ LcLoop (Its y) g tt te σ vs Q H := by
  refine ⟨_, rfl, lcW walk_str s (fun _ _ _ _ => trivial) I h0 (fun i v D acc G' H' H2 Lc hi pI u t hy => ?_) hd⟩
  obtain ⟨rfl, c, hc, rfl⟩ := hy
  exact hs i c D acc G' H2 Lc hc pI u t
/-- any data in a list -/
theorem g_inD {A : Type} [Dt A] {a : A} {xs : List A} [Decidable (a ∈ xs)] (r : Rep G v a) (r' : Rep G w xs) (s : Same G H) (q : Q (.bl (decide (a ∈ xs))) H) (h : Dt.dep A ≤ 60 := by decide) : rInA K v w H Q := by
  have dx : Dp K H w (.list (xs.map Dt.d)) := Dt.dp (A := List A) s r'
  refine .inr (.inl ⟨Dt.d a, xs.map Dt.d, Dt.dp s r, dx, shaped_of a (by omega), shaped_of xs (by
    show Dt.dep (List A) ≤ 64
    show Dt.dep A + 1 ≤ 64
    omega), ?_⟩)
  have e : (xs.map Dt.d).any (fun z => PyData.eqv z (Dt.d a)) = decide (a ∈ xs) := by
    rw [Bool.eq_iff_iff, List.any_eq_true, decide_eq_true_iff]
    constructor
    · rintro ⟨z, hz, hq⟩
      obtain ⟨x, hx, rfl⟩ := List.mem_map.mp hz
      rw [Dt.eqv] at hq
      exact hq ▸ hx
    · intro h
      exact ⟨_, List.mem_map.mpr ⟨a, h, rfl⟩, (Dt.eqv a a).mpr rfl⟩
  rw [e]
  exact q
/-- texts as data -/
theorem nms {ls : List (List Nat)} (h : ∀ w ∈ ls, ∀ c ∈ w, c < 0x110000) : ∃ ns : List Nm, ns.map (·.s) = ls.map SX.S := by
  induction ls with
  | nil => exact ⟨[], rfl⟩
  | cons w ls ih =>
    obtain ⟨ns, e⟩ := ih fun z hz => h z (List.mem_cons_of_mem _ hz)
    refine ⟨⟨SX.S w, ?_⟩ :: ns, by rw [List.map_cons, List.map_cons, e]⟩
    unfold PyData.strOk
    rw [← Array.all_toList]
    exact List.all_eq_true.mpr fun c hc => decide_eq_true (h w (List.mem_cons_self ..) c hc)
theorem rep_nms {v : V} {ls : List (List Nat)} {ns : List Nm} (e : ns.map (·.s) = ls.map SX.S) (r : Rep G v (ls.map SX.S)) : Rep G v ns := by
  obtain ⟨p, vs, ep, h, rs⟩ := r
  obtain rfl := Reps.strs rs
  refine ⟨p, _, ep, h, ?_⟩
  rw [← e, List.map_map]
  exact All2.ofMap (f := fun n : Nm => V.str n.s) (fun _ => rfl) ns
theorem g_ne0 {ls : List (List Nat)} (hk : ∀ w ∈ ls, ∀ c ∈ w, c < 0x110000) (r : Rep G v (ls.map SX.S)) (s : Same G H) (h0 : H p = some (.lst [])) (q : Q (.bl (decide (ls ≠ []))) H) : rNeA K v (.ref p) H Q := by
  obtain ⟨ns, e⟩ := nms hk
  have r0 : Rep H (.ref p) ([] : List Nm) := ⟨p, [], rfl, h0, trivial⟩
  refine g_neT (rep_nms e r) r0 s (Same.refl _) ?_
  have e2 : decide (ns ≠ []) = decide (ls ≠ []) := by
    refine decide_eq_decide.mpr (not_congr ⟨fun z => ?_, fun z => ?_⟩)
    · subst z
      exact List.map_eq_nil_iff.mp e.symm
    · subst z
      exact List.map_eq_nil_iff.mp e
  rw [e2]
  exact q
end
end EB

namespace EB
open PySem L2 PySem.Spec PyProof.Rows
/-! ### len of a set -/
def rLenSt (w : World) : List V → Hp → VK → Prop := fun vs H Q => ∃ (a : Addr) (S : Int → Bool) (n : Nat), vs = [.ref a] ∧ H a = some (SetO w a S n) ∧ n ≤ 100000 ∧ ∀ ms : List Int, ms.Nodup → (∀ k, k ∈ ms ↔ S k = true) → Q (.int (ms.length : Int)) H
theorem cLenSt {X : Cx} : CallR X (.builtin "len") (rLenSt X.w) := by
  intro pins s σ H vs us Q I r h
  obtain ⟨a, S, n, rfl, ha, hn, q⟩ := h
  have R := setO_get I ha
  rw [Vals.ref1 r]
  obtain ⟨o, es, ep, t, ho, hex, hd, g, nd, hm, hb, hf, hsz, hr, hl⟩ := R
  refine call_len_set ho hex hd hf (by rw [hsz]; omega) ?_
  have q := q _ nd fun k => (hm k).symm
  have e : (es.toList.map keyOf).length = es.size := by rw [List.length_map, Array.length_toList]
  rw [e] at q
  exact ⟨.int _, H, I.tok _, ⟨_, rfl⟩, q⟩
theorem nd_le : ∀ {ms xs : List Int}, ms.Nodup → (∀ k ∈ ms, k ∈ xs) → ms.length ≤ xs.length ∧ (xs.length ≤ ms.length → ms.Perm xs)
  | [], xs, _, _ => ⟨Nat.zero_le _, fun h => by
    have : xs = [] := List.length_eq_zero_iff.mp (Nat.le_zero.mp h)
    rw [this]⟩
  | m :: ms, xs, nd, h => by
    obtain ⟨h1, h2⟩ := List.nodup_cons.mp nd
    have hm := h m (List.mem_cons_self ..)
    have p := List.perm_cons_erase hm
    have pl := p.length_eq
    rw [List.length_cons] at pl
    have ih := nd_le (ms := ms) (xs := xs.erase m) h2 fun k hk => (List.mem_erase_of_ne (fun e => h1 (by rw [← e]; exact hk))).mpr (h k (List.mem_cons_of_mem _ hk))
    refine ⟨by rw [List.length_cons]; omega, fun hl => ?_⟩
    rw [List.length_cons] at hl
    exact ((ih.2 (by omega)).cons m).trans p.symm
theorem g_lenSetI {w : World} {H : Hp} {Q : VK} {p : Addr} {xs : List Int} {n : Nat} (h : H p = some (SetO w p (fun j => decide (j ∈ xs)) n)) (hn : n ≤ 100000) (q : ∀ m : Nat, m ≤ xs.length → (m < xs.length ↔ ¬ xs.Nodup) → Q (.int (m : Int)) H) : rLenSt w [.ref p] H Q := by
  refine ⟨p, _, n, rfl, h, hn, fun ms nd hm => ?_⟩
  have hm' : ∀ k, k ∈ ms ↔ k ∈ xs := fun k => by rw [hm k, decide_eq_true_eq]
  have a := nd_le nd fun k hk => (hm' k).mp hk
  refine q _ a.1 ⟨fun h hx => ?_, fun h => ?_⟩
  · have := (nd_le hx fun k hk => (hm' k).mpr hk).1
    omega
  · rcases Nat.lt_or_ge ms.length xs.length with c | c
    · exact c
    · exact absurd ((a.2 c).nodup_iff.mp nd) h
end EB

namespace EB
open PySem L2 PySem.Spec PyProof.Rows
/-! ### methods that may raise, called -/
structure MetX (P : Program) (w : World) (K : PySem.W.Frag) (mg : Str → Option Value) (base : Heap) (k : Nat) (C : Addr) (m : Str) (sp : Sp) : Prop where
  ex : ∃ (f : Addr) (fd : FuncData) (ps : List Str), Cls K C ∧ Meth K C m f ∧ FnOk P w K mg base (L2.CX P w) k f fd ps sp ∧ Binds K fd ps []
theorem metX_of {P : Program} {w : World} {K : PySem.W.Frag} {mg : Str → Option Value} {base : Heap} {k : Nat} {C f : Addr} {m : Str} {sp : Sp} {fd : FuncData} {ps : List Str} (c : Cls K C) (me : Meth K C m f) (b : Binds K fd ps []) (G : FnOk P w K mg base (L2.CX P w) k f fd ps sp) : MetX P w K mg base k C m sp := ⟨f, fd, ps, c, me, G, b⟩
def tMethS (C : Addr) (m : Str) (sp : Sp) (E : L2.St → XK) (ta : TE) (t : TA) : TE := fun σ H Q => ta σ H fun x H1 => rMth C m x H1 (t σ H1 fun vs H2 => sp (x :: vs) H2 Q (E σ))
section
variable {X : Cx} {W : WX} {k j : Nat} {C : Addr} {m : Str} {sp : Sp} {pos apos : Pos} {e o : Expr} {es : List Expr} {ta : TE} {t : TA}
theorem pe_mtX {pl : Sem Bool} (c : MetX X.prog X.w X.K X.mg X.base k C m sp) (tk : Takes X W) (hr : Room j X.A) (hk : k ≤ j) (he : PE X o ta) (ha : PA X (e :: es) t)
    (hst : starEach (e :: es) X.env = (false, eval e X.env) :: starEach es X.env := by rfl) (hpl : (backTo pos (starEach es X.env)).any (·.1) = false := by rfl)
    (ht : eval (.Call (.Attribute o m apos) (e :: es) [] pos) X.env = (do
      let ov ← eval o X.env
      standAt apos.atName
      let (f, first) ← holding [ov] (getMethod ov m pl)
      callWith pos f first (backTo pos (starEach (e :: es) X.env)) (backToKw pos (keywordEach [] X.env))) := by rfl) :
    PE X (.Call (.Attribute o m apos) (e :: es) [] pos) (tMethS C m sp (WE W) ta t) := by
  obtain ⟨f, fd, ps, hc, hm, F, b⟩ := c.ex
  refine ⟨fun pins s σ H Q I h => ?_⟩
  refine PySem.W.methodCall_KW (pl := pl) (thn (he.run pins s σ H _ I h) fun u s1 ⟨x, H1, I1, rx, a, dx, fs, ex, ea, l, q⟩ => ?_) ht
  subst ex
  obtain rfl : u = Value.ref a := rx
  refine getmeth_ok I1 ea hc hm l ?_
  refine PySem.W.callWith_K (first := [.ref a]) (h₀ := X.base) I.ok.mod.kin hm.kp (thn (ha.run pos pins s1 σ H1 _ I1 q) fun us s2 ⟨vs, H2, I2, r, q2⟩ => ⟨I2.kIn, ?_⟩) hst hpl
  exact run_fnS (us := .ref a :: us) (vs := .ref a :: vs) F (hr.mono hk) b (passAt tk σ) I2 (.cons rfl r) q2
end
theorem g_mtX {C : Addr} {m : Str} {sp : Sp} {W : WX} {ta : TE} {t : TA} {σ : L2.St} {H : Hp} {Q : VK} (h : ta σ H fun x H1 => rMth C m x H1 (t σ H1 fun vs H2 => sp (x :: vs) H2 Q (WE W σ))) : tMethS C m sp (WE W) ta t σ H Q := h
/-! ### for over a tuple -/
theorem loopT {K : PySem.W.Frag} {g : TG} {tbd : TS} {D : L2.Ends} {σ : L2.St} {H : Hp} {p : Addr} {G : Hp} {xs : List V} (ht : G p = some (.tup xs)) (s : Same G H) (Pv : Nat → L2.St → Hp → Prop) (h0 : Pv 0 σ H) (hl : ∀ i σ H, i ≤ xs.length → Pv i σ H → Same G H)
    (hs : ∀ i x σ H, xs[i]? = some x → Pv i σ H → g x σ H fun σ2 H2 => tbd { D with nx := Pv (i + 1), ct := Pv (i + 1), bk := D.nx } σ2 H2) (hd : ∀ σ H, Pv xs.length σ H → D.nx σ H) :
    ∃ a, V.ref p = .ref a ∧ (∃ xs, SqT K H a xs) ∧ Loop (Itt K a) g tbd D σ H :=
  ⟨p, rfl, ⟨xs, .inl (.inl (s _ _ ht))⟩, for_tup Pv h0 (fun i σ H hi pv => .inl (.inl (hl i σ H hi pv _ _ ht))) hs hd⟩
end EB

namespace EB
open PySem L2 PySem.Spec PyProof.Rows
/-! ### a set of ints by a comprehension with two fors -/
theorem setR_fresh {h : Heap} (w : World) : SetR w (h.push { cls := .type "set", dict := none, data := .set #[] 0 (.fresh 0 0 (!w.params.followText "set-order")) }) h.objs.size (fun _ => false) 0 := by
  have z := setR_new_at (w := w) (ns := []) (Heap.get?_push_size h (o := { cls := .type "set", dict := none, data := .set #[] 0 (.fresh 0 0 (!w.params.followText "set-order")) }) rfl)
  simpa using z
theorem addI_ok {X : Cx} {pins : List (Addr × Obj)} {σ : L2.St} {H : Hp} {s : Shared} {E : Value → Shared → Prop} {D : Addr} {S : Int → Bool} {n : Nat} {k : Int} {tk : Tok} {Q : Value → Shared → Prop} (I : Inv X pins σ H s) (hD : H D = some (SetO X.w D S n)) (room : n + 1 < scanBound)
    (h : ∀ s', Inv X pins σ (upd H D (SetO X.w D (fun j => S j || decide (j = k)) (if S k = true then n else n + 1))) s' → Q .none s') : wpAny (model X.prog X.w) X.A (call (.builtin "set.add") [.ref D, .int k tk]) Q E s := by
  have R := setO_get I hD
  refine setR_add R room fun h' sb new => ?_
  have he : ∃ u, h'.get? D = some u := by
    have ⟨o, _, _, _, ho, _⟩ := new
    exact ⟨o, ho⟩
  exact h _ (I.write (e := D) (t' := s.toks + 1) (by rw [hD]; trivial) (.inl rfl) (fun b u hb hu => (sb.2 b hb).trans hu) he (setO_new new))
theorem compTurn2S_out (elt t0 i0 t1 i1 : Expr) (ifs0 ifs1 : List Expr) (scope : Scope) (pos : Pos) (it acc : Value) (env : Env) :
    compTurn (.SetComp elt [⟨t0, i0, ifs0, 0⟩, ⟨t1, i1, ifs1, 0⟩] scope pos) 0 it acc env = (do
      standAt i0.pos
      match ← pyNext it with
      | none => pure (.done .next)
      | some v =>
        letOwnedTupleGo t0 it v
        assign t0 env v
        let mut ok := true
        for c in ifs0 do
          if ok then ok ← isTrue c env (eval c env)
        if ok then
          let x ← eval i1 env
          standAt i1.pos
          let x ← foldedSetIterable i1 env x
          let _ ← runOwn (.compStart (.SetComp elt [⟨t0, i0, ifs0, 0⟩, ⟨t1, i1, ifs1, 0⟩] scope pos) 1 (← holding [x] (pyIter x)) acc env) env
        again (.compLoop (.SetComp elt [⟨t0, i0, ifs0, 0⟩, ⟨t1, i1, ifs1, 0⟩] scope pos) 0 it acc env)) := by rfl
theorem compTurn2S_in (elt t0 i0 t1 i1 : Expr) (ifs0 ifs1 : List Expr) (scope : Scope) (pos : Pos) (it acc : Value) (env : Env) :
    compTurn (.SetComp elt [⟨t0, i0, ifs0, 0⟩, ⟨t1, i1, ifs1, 0⟩] scope pos) 1 it acc env = (do
      standAt i1.pos
      match ← pyNext it with
      | none => pure (.done .next)
      | some v =>
        letOwnedTupleGo t1 it v
        assign t1 env v
        let mut ok := true
        for c in ifs1 do
          if ok then ok ← isTrue c env (eval c env)
        if ok then
          (do let v ← eval elt env; standAt elt.pos; let _ ← call (.builtin "set.add") [acc, v])
        again (.compLoop (.SetComp elt [⟨t0, i0, ifs0, 0⟩, ⟨t1, i1, ifs1, 0⟩] scope pos) 1 it acc env)) := by rfl

section
variable {prog : Program} {w : World} {A : Around} {R : Result → Shared → Prop} {s : Shared} {elt t0 i0 t1 i1 : Expr} {ifs0 ifs1 : List Expr} {scope : Scope} {pos : Pos} {it acc : Value} {env : Env}
/-- the loop of the first clause -/
theorem compLoop2S_out (hs : ∀ x, foldedSetIterable i1 env x = pure x) (I : Nat → Shared → Prop)
    (turn : ∀ n s, I n s → wpAny (model prog w) A (pyNext it) (fun r s₁ => match r with
      | none => R (.ok .next) s₁
      | some v => wpAny (model prog w) A (letOwnedTupleGo t0 it v) (fun _ s₁' => wpAny (model prog w) A (assign t0 env v) (fun _ s₂ =>
          wpAny (model prog w) A (forIn ifs0 true fun c r => if r = true then do let ok ← isTrue c env (eval c env); pure (ForInStep.yield ok) else pure (ForInStep.yield r)) (fun ok s₃ =>
            if ok = true then wpAny (model prog w) A (eval i1 env) (fun x s₄ => wpAny (model prog w) A (pyIter x) (fun it1 s₅ =>
              codeAny (model prog w) A (.compStart (.SetComp elt [⟨t0, i0, ifs0, 0⟩, ⟨t1, i1, ifs1, 0⟩] scope pos) 1 it1 acc env) (fun r s' => match r with
                | .ok _ => ∃ m, m < n ∧ I m s'
                | .error _ => False) s₅) (notedBy (model prog w) A env fun e s' => R (.error e) s') s₄) (notedBy (model prog w) A env fun e s' => R (.error e) s') s₃
            else ∃ m, m < n ∧ I m s₃) (notedBy (model prog w) A env fun e s' => R (.error e) s') s₂) (notedBy (model prog w) A env fun e s' => R (.error e) s') s₁') (notedBy (model prog w) A env fun e s' => R (.error e) s') s₁) (notedBy (model prog w) A env fun e s' => R (.error e) s') s)
    (n : Nat) (h : I n s) :
    codeAny (model prog w) A (.compLoop (.SetComp elt [⟨t0, i0, ifs0, 0⟩, ⟨t1, i1, ifs1, 0⟩] scope pos) 0 it acc env) R s := by
  refine codeAny_loop rfl I (fun n s hI => ?_) n h
  show wpAny _ A ((compTurn (.SetComp elt [⟨t0, i0, ifs0, 0⟩, ⟨t1, i1, ifs1, 0⟩] scope pos) 0 it acc env).onRaise (fun x => do noteFrame x env; theTreesLotGoes x)) _ _ s
  refine wpAny_noted ?_
  rw [compTurn2S_out]
  refine wpAny_bind (wpAny_standAt (wpAny_bind (wpAny_mono (turn n s hI) (fun r s₁ h₁ => ?_) fun _ _ h' => h')))
  cases r with
  | none => exact wpAny_pure h₁
  | some v =>
    refine wpAny_bind (wpAny_mono h₁ (fun _ s₁' h₁' => ?_) fun _ _ h' => h')
    refine wpAny_bind (wpAny_mono h₁' (fun _ s₂ h₂ => wpAny_bind (wpAny_mono h₂ (fun ok s₃ h₃ => ?_) fun _ _ h' => h')) fun _ _ h' => h')
    cases ok with
    | false => exact wpAny_pure ⟨rfl, h₃⟩
    | true =>
      refine wpAny_bind (wpAny_mono h₃ (fun x s₄ h₄ => ?_) fun _ _ h' => h')
      refine wpAny_bind (wpAny_standAt (wpAny_bind (wpAny_of_eq (hs x) (wpAny_bind (wpAny_holding (wpAny_mono h₄ (fun it1 s₅ h₅ => ?_) fun _ _ h' => h'))))))
      refine wpAny_bind (wpAny_runOwn ?_)
      rw [Around.mark_none]
      refine codeAny_mono h₅ fun r s' hr => ?_
      cases r with
      | ok f =>
        first
          | exact wpAny_pure ⟨rfl, hr⟩
          | exact wpAny_bind (wpAny_pure (wpAny_pure ⟨rfl, hr⟩))
      | error e => exact hr.elim
/-- the loop of the second -/
theorem compLoop2S_in (I : Nat → Shared → Prop)
    (turn : ∀ n s, I n s → wpAny (model prog w) A (pyNext it) (fun r s₁ => match r with
      | none => R (.ok .next) s₁
      | some v => wpAny (model prog w) A (letOwnedTupleGo t1 it v) (fun _ s₁' => wpAny (model prog w) A (assign t1 env v) (fun _ s₂ =>
          wpAny (model prog w) A (forIn ifs1 true fun c r => if r = true then do let ok ← isTrue c env (eval c env); pure (ForInStep.yield ok) else pure (ForInStep.yield r)) (fun ok s₃ =>
            if ok = true then wpAny (model prog w) A (eval elt env) (fun x s₄ =>
              wpAny (model prog w) A (call (.builtin "set.add") [acc, x]) (fun _ s₅ => ∃ m, m < n ∧ I m s₅) (notedBy (model prog w) A env fun e s' => R (.error e) s') s₄) (notedBy (model prog w) A env fun e s' => R (.error e) s') s₃
            else ∃ m, m < n ∧ I m s₃) (notedBy (model prog w) A env fun e s' => R (.error e) s') s₂) (notedBy (model prog w) A env fun e s' => R (.error e) s') s₁') (notedBy (model prog w) A env fun e s' => R (.error e) s') s₁) (notedBy (model prog w) A env fun e s' => R (.error e) s') s)
    (n : Nat) (h : I n s) :
    codeAny (model prog w) A (.compLoop (.SetComp elt [⟨t0, i0, ifs0, 0⟩, ⟨t1, i1, ifs1, 0⟩] scope pos) 1 it acc env) R s := by
  refine codeAny_loop rfl I (fun n s hI => ?_) n h
  show wpAny _ A ((compTurn (.SetComp elt [⟨t0, i0, ifs0, 0⟩, ⟨t1, i1, ifs1, 0⟩] scope pos) 1 it acc env).onRaise (fun x => do noteFrame x env; theTreesLotGoes x)) _ _ s
  refine wpAny_noted ?_
  rw [compTurn2S_in]
  refine wpAny_bind (wpAny_standAt (wpAny_bind (wpAny_mono (turn n s hI) (fun r s₁ h₁ => ?_) fun _ _ h' => h')))
  cases r with
  | none => exact wpAny_pure h₁
  | some v =>
    refine wpAny_bind (wpAny_mono h₁ (fun _ s₁' h₁' => ?_) fun _ _ h' => h')
    refine wpAny_bind (wpAny_mono h₁' (fun _ s₂ h₂ => wpAny_bind (wpAny_mono h₂ (fun ok s₃ h₃ => ?_) fun _ _ h' => h')) fun _ _ h' => h')
    cases ok with
    | false => exact wpAny_pure ⟨rfl, h₃⟩
    | true =>
      exact wpAny_bind (wpAny_bind (wpAny_mono h₃ (fun x s₄ h₄ => wpAny_bind (wpAny_standAt (wpAny_bind (wpAny_mono h₄ (fun _ s₅ h₅ => wpAny_pure (wpAny_pure ⟨rfl, h₅⟩)) fun _ _ h' => h')))) fun _ _ h' => h'))
/-- the second clause's start -/
theorem compStart1S_ok (h0 : codeAny (model prog w) A (.compLoop (.SetComp elt [⟨t0, i0, ifs0, 0⟩, ⟨t1, i1, ifs1, 0⟩] scope pos) 1 it acc env) R s)
    (h : wpAny (model prog w) A (pyIter it) (fun it' s' => codeAny (model prog w) A (.compLoop (.SetComp elt [⟨t0, i0, ifs0, 0⟩, ⟨t1, i1, ifs1, 0⟩] scope pos) 1 it' acc env) R s')
      (notedBy (model prog w) A env fun x s' => R (.error x) s') s) :
    codeAny (model prog w) A (.compStart (.SetComp elt [⟨t0, i0, ifs0, 0⟩, ⟨t1, i1, ifs1, 0⟩] scope pos) 1 it acc env) R s := by
  refine codeAny_of_tree ?_
  show wpAny _ _ ((compStart (.SetComp elt [⟨t0, i0, ifs0, 0⟩, ⟨t1, i1, ifs1, 0⟩] scope pos) 1 it acc env).onRaise (fun x => do noteFrame x env; standAt theWindowsPlace)) _ _ s
  refine wpAny_notedAt ?_
  unfold compStart
  show wpAny _ _ (ask >>= _) _ _ s
  refine wpAny_bind (wpAny_askSetting (wpAny_ite ?_))
  split
  · first
      | exact wpAny_bind (wpAny_pure (wpAny_pure (And.intro rfl h0)))
      | exact wpAny_pure (And.intro rfl h0)
  · first
      | exact wpAny_bind (wpAny_rule (wpAny_bind (wpAny_standAt (wpAny_bind (wpAny_mono h (fun it' s' h' => wpAny_pure (And.intro rfl h')) fun _ _ x => x)))))
      | (refine wpAny_bind (wpAny_rule ?_); show wpAny _ _ (standAt i1.pos >>= _) _ _ s; exact wpAny_bind (wpAny_standAt (wpAny_bind (wpAny_mono h (fun it' s' h' => wpAny_pure (And.intro rfl h')) fun _ _ x => x))))
end

section
variable {X : Cx}
/-- [elt for tg in iter if .. for tg1 in iter1 if ..]: behind the first clause's store and tests the second source's own loop, from which Nx is reached. vs: the block's names; vs1: those of the second target -/
def tSc2 (w : World) (wi : TI) (g : TG) (tt : TT) (wi1 : TI) (g1 : TG) (tt1 : TT) (te : TE) (vs vs1 : List Nat) : TE := fun σ H Q => wi σ H fun J H1 => ∀ D, H1 D = none → ∃ W : Nat → Nat → Hp → Prop, (∃ m, W 0 m (upd H1 D (SetO w D (fun _ => false) 0))) ∧ ∀ i m H, W i m H →
  (J.stop i H ∧ Q (.ref D) H) ∨ (J.go i H ∧ ∃ Nx : Hp → Prop, (∀ H', Nx H' → ∃ m', m' < m ∧ W (i + 1) m' H') ∧ ∀ x H', J.yld i H x H' → g x (wipe σ vs) H' fun σ2 H2 => wipe σ2 vs = wipe σ vs ∧ tt σ2 H2 fun b H3 =>
    if b = true then wi1 σ2 H3 fun J1 H4 => ∃ W1 : Nat → Nat → Hp → Prop, (∃ m, W1 0 m H4) ∧ ∀ j k H, W1 j k H →
      (J1.stop j H ∧ Nx H) ∨ (J1.go j H ∧ ∃ Nx1 : Hp → Prop, (∀ H', Nx1 H' → ∃ k', k' < k ∧ W1 (j + 1) k' H') ∧ ∀ x H', J1.yld j H x H' → g1 x (wipe σ2 vs1) H' fun σ3 H5 => wipe σ3 vs1 = wipe σ2 vs1 ∧ tt1 σ3 H5 fun b H6 =>
        if b = true then te σ3 H6 fun y H7 => ∃ (k : Int) (S : Int → Bool) (n : Nat), y = .int k ∧ H7 D = some (SetO w D S n) ∧ n + 1 < scanBound ∧ Nx1 (upd H7 D (SetO w D (fun j => S j || decide (j = k)) (if S k = true then n else n + 1))) else Nx1 H6)
    else Nx H3)
theorem sc2_core {pins : List (Addr × Obj)} {s : Shared} {σ : L2.St} {H : Hp} {Q : VK} {elt tg iter tg1 iter1 : Expr} {ifs ifs1 : List Expr} {scope : Scope} {own : List (Str × Nat)} {vs1 : List Nat} {pos pos' : Pos} {wi wi1 : TI} {g g1 : TG} {tt tt1 : TT} {te : TE} {use : Option (Value → Sem Unit)} {Qf : Value → Shared → Prop}
    (hc : X.calm = true) (hN : X.N.Nodup) (I : Inv X pins σ H s) (hi : PI X tg iter wi) (ok : BlkOk X.N X.env.scope scope own) (hv : ∀ i ∈ vs1, i ∈ own.map (·.2))
    (hg : ∀ (s : Shared) (H : Hp) (C : Addr) (cl : List (Str × Addr)) (fp : List Addr), PG (X.blk s H scope (compEnvC scope cl C X.env) fp) tg g) (ht : ∀ (s : Shared) (H : Hp) (C : Addr) (cl : List (Str × Addr)) (fp : List Addr), PTs (X.blk s H scope (compEnvC scope cl C X.env) fp) ifs tt)
    (he : ∀ (s : Shared) (H : Hp) (C : Addr) (cl : List (Str × Addr)) (fp : List Addr), PE (X.blk s H scope (compEnvC scope cl C X.env) fp) elt te) (hs : ∀ x, foldedSetIterable iter X.env x = pure x)
    (hi1 : ∀ (s : Shared) (H : Hp) (C : Addr) (cl : List (Str × Addr)) (fp : List Addr), PI (X.blk s H scope (compEnvC scope cl C X.env) fp) tg1 iter1 wi1)
    (hg1 : ∀ (s : Shared) (H : Hp) (C : Addr) (cl : List (Str × Addr)) (fp : List Addr), PG (X.blk s H scope (compEnvC scope cl C X.env) fp) tg1 g1)
    (ht1 : ∀ (s : Shared) (H : Hp) (C : Addr) (cl : List (Str × Addr)) (fp : List Addr), PTs (X.blk s H scope (compEnvC scope cl C X.env) fp) ifs1 tt1)
    (hs1 : ∀ env x, foldedSetIterable iter1 env x = pure x)
    (h : tSc2 X.w wi g tt wi1 g1 tt1 te (own.map (·.2)) vs1 σ H Q)
    (hRR : ∀ D C s' m H', Inv X pins σ H' s' → Q (.ref D) H' → s'.heap.Ns C m → FpOk X pins H' C → compPost (model X.prog X.w) X.A X.xe use Qf (.ref D) C (.ok .next) s') :
    wpAny (model X.prog X.w) X.A (comprehension (.SetComp elt [⟨tg, iter, ifs, 0⟩, ⟨tg1, iter1, ifs1, 0⟩] scope pos) scope X.env pos' (newSet (.type "set")) false (eval iter X.env) use) Qf X.xe s := by
  have hfree : ∀ y ∈ scope.names, y.2 = .free → ∃ c, X.env.cells.lookup y.1 = some c := fun y hy e => by
    rcases ok.free y hy e with k | k
    · exact I.ok.has _ (.inl k)
    · exact I.ok.has _ (.inr k)
  refine wpAny_comprehension_free (use := use) rfl hs (closure_ok hfree) ok.kind (fun y hy e => by rw [ok.uniq y hy, e])
    (thn (hi.run pins s σ H _ I h) fun xv s1 hx => thn hx fun itv s2 h2 => ?_)
  obtain ⟨it, fp, tn, J, H2, e, I2, T, st2, f2, q⟩ := h2
  subst e
  refine PpSet.newSet_ok (newEnv_comp ?_)
  generalize hD : s2.heap.objs.size = D
  have hDn : H2 D = none := I2.hok.fresh (Nat.le_of_eq hD)
  obtain ⟨W, ⟨m0, w0⟩, turn⟩ := q D hDn
  -- the new list
  generalize hs3 : ({ s2 with heap := s2.heap.push { cls := .type "set", dict := none, data := .set #[] 0 (.fresh 0 0 (!X.w.params.followText "set-order")) } } : Shared) = s3
  have I3 : Inv X pins σ (upd H2 D (SetO X.w D (fun _ => false) 0)) s3 := by
    rw [← hs3]
    refine I2.laid (t' := s2.toks) (fun b o e => Heap.get?_push_of_some _ e) (Nat.le_of_eq hD) ?_
    rw [← hD]
    exact setO_new (setR_fresh X.w)
  have h3 : s3.heap = s2.heap.push { cls := .type "set", dict := none, data := .set #[] 0 (.fresh 0 0 (!X.w.params.followText "set-order")) } := by rw [← hs3]
  have sz : ∀ b ∈ fp, b < s2.heap.objs.size := fun b hb => by
    obtain ⟨o, e, _⟩ := T.obj _ _ st2 b hb
    exact Heap.lt_size e
  have f3 : ∀ b ∈ fp, FpOk X pins (upd H2 D (SetO X.w D (fun _ => false) 0)) b ∧ b < s3.heap.objs.size := fun b hb => by
    have hlt := sz b hb
    refine ⟨⟨?_, (f2 b hb).2⟩, by rw [h3, Heap.size_push]; exact Nat.lt_succ_of_lt hlt⟩
    rw [upd_ne (by rw [← hD]; exact Nat.ne_of_lt hlt)]
    exact (f2 b hb).1
  have st3 : tn 0 s3.heap := T.keep _ _ _ st2 fun b _ o e => by rw [h3]; exact Heap.get?_push_of_some _ e
  have I4 := block_start I3 ok hN f3
  have pg := hg s3 (upd H2 D (SetO X.w D (fun _ => false) 0)) s3.heap.objs.size (cellsFrom (s3.heap.objs.size + 1) scope.names (cloFrom X.env.cells scope.names [])) fp
  have pt := ht s3 (upd H2 D (SetO X.w D (fun _ => false) 0)) s3.heap.objs.size (cellsFrom (s3.heap.objs.size + 1) scope.names (cloFrom X.env.cells scope.names [])) fp
  have pe := he s3 (upd H2 D (SetO X.w D (fun _ => false) 0)) s3.heap.objs.size (cellsFrom (s3.heap.objs.size + 1) scope.names (cloFrom X.env.cells scope.names [])) fp
  have pi1 := hi1 s3 (upd H2 D (SetO X.w D (fun _ => false) 0)) s3.heap.objs.size (cellsFrom (s3.heap.objs.size + 1) scope.names (cloFrom X.env.cells scope.names [])) fp
  have pg1 := hg1 s3 (upd H2 D (SetO X.w D (fun _ => false) 0)) s3.heap.objs.size (cellsFrom (s3.heap.objs.size + 1) scope.names (cloFrom X.env.cells scope.names [])) fp
  have pt1 := ht1 s3 (upd H2 D (SetO X.w D (fun _ => false) 0)) s3.heap.objs.size (cellsFrom (s3.heap.objs.size + 1) scope.names (cloFrom X.env.cells scope.names [])) fp
  show codeAny _ _ (.compStart (.SetComp elt [⟨tg, iter, ifs, 0⟩, ⟨tg1, iter1, ifs1, 0⟩] scope pos) 0 (.ref it) (.ref D) (compEnvC scope (cellsFrom (s3.heap.objs.size + 1) scope.names (cloFrom X.env.cells scope.names [])) s3.heap.objs.size X.env)) (compPost (model X.prog X.w) X.A X.xe use Qf (.ref D) s3.heap.objs.size) { s3 with heap := pushCells (s3.heap.push { cls := .type "dict", data := .dict #[] }) scope.names }
  have nfp : ∀ b ∈ fp, (upd H2 D (SetO X.w D (fun _ => false) 0)) b = none := fun b hb => (f3 b hb).1.1
  generalize hce : compEnvC scope (cellsFrom (s3.heap.objs.size + 1) scope.names (cloFrom X.env.cells scope.names [])) s3.heap.objs.size X.env = ce at I4 pg pt pe pi1 pg1 pt1 ⊢
  have cL : ce.locals = s3.heap.objs.size := by subst hce; rfl
  generalize hH3 : upd H2 D (SetO X.w D (fun _ => false) 0) = H3 at I3 I4 pg pt pe pi1 pg1 pt1 w0 nfp f3
  generalize hs4 : ({ s3 with heap := pushCells (s3.heap.push { cls := .type "dict", data := .dict #[] }) scope.names } : Shared) = s4 at I4 ⊢
  have st4 : tn 0 s4.heap := T.keep _ _ _ st3 fun b _ o e => by rw [← hs4]; exact pushCells_keeps _ _ _ _ (Heap.get?_push_of_some _ e)
  have stat : ∀ {σ' : L2.St} {H' : Hp} {s' : Shared}, Inv (X.blk s3 H3 scope ce fp) [] σ' H' s' → (∀ b ∈ fp, H' b = none) → ∀ b ∈ fp, FpOk (X.blk s3 H3 scope ce fp) [] H' b := fun {σ' H' s'} I' hn b hb =>
    ⟨hn b hb, (I'.ok.exf b hb).1, I'.ok.exfs b hb, .inl hb, fun x c e => (I'.ok.exf b hb).2 x c e, fun p hp => absurd (show p ∈ ([] : List (Addr × Obj)) ++ [] from hp) (by simp)⟩
  have loop : codeAny (model X.prog X.w) X.A (.compLoop (.SetComp elt [⟨tg, iter, ifs, 0⟩, ⟨tg1, iter1, ifs1, 0⟩] scope pos) 0 (.ref it) (.ref D) ce) (compPost (model X.prog X.w) X.A X.xe use Qf (.ref D) s3.heap.objs.size) s4 := by
    refine compLoop2S_out (hs1 ce) (fun n s' => ∃ i H', Inv (X.blk s3 H3 scope ce fp) [] (wipe σ (own.map (·.2))) H' s' ∧ tn i s'.heap ∧ (∀ b ∈ fp, H' b = none) ∧ W i n H') ?_ m0 ⟨0, H3, I4, st4, nfp, w0⟩
    rintro n s5 ⟨i, H5, I5, st5, n5, w5⟩
    rcases turn i n H5 w5 with ⟨stop, qq⟩ | ⟨go, Nx, hNx, step⟩
    · have td := T.done (X.blk s3 H3 scope ce fp) rfl rfl rfl hc i [] s5 _ H5 (fun _ _ => False) I5 (stat I5 n5) st5 stop
      refine thnF td fun r s6 ⟨hr, I6⟩ => ?_
      subst hr
      -- back in the def's context
      have I7 : Inv X pins σ H5 s6 := I3.call' (ch := fp) I6.os I6.base I6.hok I6.bare fun b hb => ⟨(f3 b hb).1.2.2.2.1, (f3 b hb).1.2.1, (f3 b hb).1.2.2.2.2.1, (f3 b hb).1.2.2.2.2.2⟩
      have nC : H5 s3.heap.objs.size = none := by
        have z : H5 ce.locals = none := I6.free
        rw [cL] at z
        exact z
      obtain ⟨m, hn, _⟩ := I6.loc
      have hn : s6.heap.Ns ce.locals m := hn
      rw [cL] at hn
      exact hRR D s3.heap.objs.size s6 m H5 I7 qq hn (I3.fpOk (Nat.le_refl _) nC)
    · have ti := T.item (X.blk s3 H3 scope ce fp) rfl rfl rfl hc i [] s5 _ H5 (fun _ _ => False) I5 (stat I5 n5) st5 go
      refine thnF ti fun r s6 ⟨u, hr, h6⟩ => ?_
      subst hr
      refine thnF h6 fun _ s7 ⟨x, H7, I7, r7, y7, st7, n7⟩ => ?_
      have I7' := I7.pinned (stat I7 n7) (T.obj _ _ st7)
      refine thnF (pg.run _ s7 _ H7 x u _ I7' r7 (step x H7 y7)) fun _ s8 ⟨σ8, H8, I8, hw8, q8⟩ => ?_
      refine thnF (pt.run _ s8 σ8 H8 _ I8 q8) fun b s9 ⟨H9, I9, q9⟩ => ?_
      -- the turn's end, from any slots that know what the block knew at its start
      have fin : ∀ {σ9 : L2.St} {s' : Shared} {H' : Hp}, Inv (X.blk s3 H3 scope ce fp) ([] ++ pinsAt fp s7.heap) σ9 H' s' → (wipe σ (own.map (·.2))).length = σ9.length → (∀ (j : Nat) v, (wipe σ (own.map (·.2)))[j]? = some (some v) → σ9[j]? = some (some v)) → Nx H' →
          ∃ m, m < n ∧ ∃ i H', Inv (X.blk s3 H3 scope ce fp) [] (wipe σ (own.map (·.2))) H' s' ∧ tn i s'.heap ∧ (∀ b ∈ fp, H' b = none) ∧ W i m H' := fun {σ9 s' H'} I' hl hk nx => by
        obtain ⟨m', hm, w'⟩ := hNx H' nx
        have pin' : ∀ b ∈ fp, ∀ o, s7.heap.get? b = some o → s'.heap.get? b = some o ∧ H' b = none := fun b hb o e =>
          let z := I'.pin (b, o) (List.mem_append_right _ (List.mem_append_right _ (mem_pinsAt hb e)))
          ⟨z.1, z.2.1⟩
        refine ⟨m', hm, i + 1, H', (I'.unpinned (pins := [])).weak hl hk, T.keep _ _ _ st7 fun b hb o e => (pin' b hb o e).1, fun b hb => ?_, w'⟩
        obtain ⟨o, e, _⟩ := T.obj _ _ st7 b hb
        exact (pin' b hb o e).2
      have hl8 : (wipe σ (own.map (·.2))).length = σ8.length := by rw [← hw8, wipe_length]
      have hk8 : ∀ (j : Nat) v, (wipe σ (own.map (·.2)))[j]? = some (some v) → σ8[j]? = some (some v) := fun j v e => by
        rw [← hw8] at e
        exact (wipe_some e).1
      have hk9 : ∀ (j : Nat) v, (wipe σ (own.map (·.2)))[j]? = some (some v) → (wipe σ8 vs1)[j]? = some (some v) := fun j v e => by
        rw [← hw8] at e
        obtain ⟨e1, e2⟩ := wipe_some e
        rw [wipe_out fun z => e2 (hv j z)]
        exact e1
      cases b with
      | false =>
        simp only [Bool.false_eq_true, if_false] at q9 ⊢
        exact fin I9 hl8 hk8 q9
      | true =>
        simp only [if_true] at q9 ⊢
        refine thnF (pi1.run _ s9 σ8 H9 _ I9 q9) fun xv s10 hx => thnF hx fun itv s11 h11 => ?_
        obtain ⟨it1, fp1, tn1, J1, H11, e1, I11, T1, st11, f11, W1, ⟨m1, w1⟩, turn1⟩ := h11
        subst e1
        -- the inner loop
        have stat1 : ∀ {H' : Hp}, (∀ b ∈ fp1, H' b = none) → ∀ b ∈ fp1, FpOk (X.blk s3 H3 scope ce fp) ([] ++ pinsAt fp s7.heap) H' b := fun hn b hb => ⟨hn b hb, (f11 b hb).2⟩
        have loop1 : codeAny (model X.prog X.w) X.A (.compLoop (.SetComp elt [⟨tg, iter, ifs, 0⟩, ⟨tg1, iter1, ifs1, 0⟩] scope pos) 1 (.ref it1) (.ref D) ce)
            (fun r s' => match r with
              | .ok _ => ∃ m, m < n ∧ ∃ i H', Inv (X.blk s3 H3 scope ce fp) [] (wipe σ (own.map (·.2))) H' s' ∧ tn i s'.heap ∧ (∀ b ∈ fp, H' b = none) ∧ W i m H'
              | .error _ => False) s11 := by
          refine compLoop2S_in (fun k s' => ∃ j H', Inv (X.blk s3 H3 scope ce fp) ([] ++ pinsAt fp s7.heap) (wipe σ8 vs1) H' s' ∧ tn1 j s'.heap ∧ (∀ b ∈ fp1, H' b = none) ∧ W1 j k H') ?_ m1 ⟨0, H11, I11.weak (wipe_length _ _) (fun j v e => (wipe_some e).1), st11, fun b hb => (f11 b hb).1, w1⟩
          rintro k s12 ⟨j, H12, I12, st12, n12, w12⟩
          rcases turn1 j k H12 w12 with ⟨stop1, nx1⟩ | ⟨go1, Nx1, hNx1, step1⟩
          · refine thnF (T1.done (X.blk s3 H3 scope ce fp) rfl rfl rfl hc j _ s12 (wipe σ8 vs1) H12 (fun _ _ => False) I12 (stat1 n12) st12 stop1) fun r s13 ⟨hr, I13⟩ => ?_
            subst hr
            exact fin I13 (hl8.trans (wipe_length σ8 vs1).symm) hk9 nx1
          · refine thnF (T1.item (X.blk s3 H3 scope ce fp) rfl rfl rfl hc j _ s12 (wipe σ8 vs1) H12 (fun _ _ => False) I12 (stat1 n12) st12 go1) fun r s13 ⟨u1, hr, h13⟩ => ?_
            subst hr
            refine thnF h13 fun _ s14 ⟨x1, H14, I14, r14, y14, st14, n14⟩ => ?_
            have I14' := I14.pinned (stat1 n14) (T1.obj _ _ st14)
            refine thnF (pg1.run _ s14 (wipe σ8 vs1) H14 x1 u1 _ I14' r14 (step1 x1 H14 y14)) fun _ s15 ⟨σ15, H15, I15, hw15, q15⟩ => ?_
            refine thnF (pt1.run _ s15 σ15 H15 _ I15 q15) fun b1 s16 ⟨H16, I16, q16⟩ => ?_
            have fin1 : ∀ {s' : Shared} {H' : Hp}, Inv (X.blk s3 H3 scope ce fp) (([] ++ pinsAt fp s7.heap) ++ pinsAt fp1 s14.heap) σ15 H' s' → Nx1 H' → ∃ m, m < k ∧ ∃ j H', Inv (X.blk s3 H3 scope ce fp) ([] ++ pinsAt fp s7.heap) (wipe σ8 vs1) H' s' ∧ tn1 j s'.heap ∧ (∀ b ∈ fp1, H' b = none) ∧ W1 j m H' := fun {s' H'} I' nx => by
              obtain ⟨m', hm, w'⟩ := hNx1 H' nx
              have pin' : ∀ b ∈ fp1, ∀ o, s14.heap.get? b = some o → s'.heap.get? b = some o ∧ H' b = none := fun b hb o e =>
                let z := I'.pin (b, o) (List.mem_append_right _ (List.mem_append_right _ (mem_pinsAt hb e)))
                ⟨z.1, z.2.1⟩
              refine ⟨m', hm, j + 1, H', I'.unpinned.weak (by rw [← hw15, wipe_length]) (fun j v e => by rw [← hw15] at e; exact (wipe_some e).1), T1.keep _ _ _ st14 fun b hb o e => (pin' b hb o e).1, fun b hb => ?_, w'⟩
              obtain ⟨o, e, _⟩ := T1.obj _ _ st14 b hb
              exact (pin' b hb o e).2
            cases b1 with
            | false =>
              simp only [Bool.false_eq_true, if_false] at q16 ⊢
              exact fin1 I16 q16
            | true =>
              simp only [if_true] at q16 ⊢
              refine thnF (pe.run _ s16 σ15 H16 _ I16 q16) fun z s17 ⟨yv, H17, I17, r17, k0, S0, n0, ey, hD17, hz17, nx⟩ => ?_
              subst ey
              obtain ⟨tk0, rfl⟩ := (show ∃ t, z = Value.int k0 t from r17)
              exact addI_ok (X := X.blk s3 H3 scope ce fp) I17 hD17 hz17 fun s18 I18 => fin1 I18 nx
        exact compStart1S_ok loop1 (T1.self X.A 0 _ _ _ st11 loop1)
  exact PpSet.codeAny_compStart_set loop (T.self X.A 0 _ _ _ st4 loop)
/-- as a value -/
theorem pe_sc2 {elt tg iter tg1 iter1 : Expr} {ifs ifs1 : List Expr} {scope : Scope} {own : List (Str × Nat)} {vs1 : List Nat} {pos : Pos} {wi wi1 : TI} {g g1 : TG} {tt tt1 : TT} {te : TE} (hc : X.calm = true) (hN : X.N.Nodup) (hi : PI X tg iter wi) (ok : BlkOk X.N X.env.scope scope own) (hv : ∀ i ∈ vs1, i ∈ own.map (·.2))
    (hg : ∀ (s : Shared) (H : Hp) (C : Addr) (cl : List (Str × Addr)) (fp : List Addr), PG (X.blk s H scope (compEnvC scope cl C X.env) fp) tg g) (ht : ∀ (s : Shared) (H : Hp) (C : Addr) (cl : List (Str × Addr)) (fp : List Addr), PTs (X.blk s H scope (compEnvC scope cl C X.env) fp) ifs tt)
    (hi1 : ∀ (s : Shared) (H : Hp) (C : Addr) (cl : List (Str × Addr)) (fp : List Addr), PI (X.blk s H scope (compEnvC scope cl C X.env) fp) tg1 iter1 wi1)
    (hg1 : ∀ (s : Shared) (H : Hp) (C : Addr) (cl : List (Str × Addr)) (fp : List Addr), PG (X.blk s H scope (compEnvC scope cl C X.env) fp) tg1 g1) (ht1 : ∀ (s : Shared) (H : Hp) (C : Addr) (cl : List (Str × Addr)) (fp : List Addr), PTs (X.blk s H scope (compEnvC scope cl C X.env) fp) ifs1 tt1)
    (he : ∀ (s : Shared) (H : Hp) (C : Addr) (cl : List (Str × Addr)) (fp : List Addr), PE (X.blk s H scope (compEnvC scope cl C X.env) fp) elt te) (hs : ∀ x, foldedSetIterable iter X.env x = pure x := by intro _; rfl) (hs1 : ∀ env x, foldedSetIterable iter1 env x = pure x := by intro _ _; rfl) :
    PE X (.SetComp elt [⟨tg, iter, ifs, 0⟩, ⟨tg1, iter1, ifs1, 0⟩] scope pos) (tSc2 X.w wi g tt wi1 g1 tt1 te (own.map (·.2)) vs1) := by
  refine ⟨fun pins s σ H Q I h => ?_⟩
  rw [PpSet.eval_SetComp]
  refine sc2_core hc hN I hi ok hv hg ht he hs hi1 hg1 ht1 hs1 h fun D C s' m H' I' q hn f => ⟨m, hn, fun h'' sb => ?_⟩
  obtain ⟨f0, f1, f2, f3, f4, f5⟩ := f
  exact ⟨.ref D, H', I'.turned (t' := s'.toks) (fun b o hb e => (sb.2 b hb).trans e) f0 f1 f3 f4 f5, rfl, q⟩
theorem ps_setSc2 {i : Nat} {y : Str} {py : Pos} {elt tg iter tg1 iter1 : Expr} {ifs ifs1 : List Expr} {scope : Scope} {own : List (Str × Nat)} {vs1 : List Nat} {pos spos : Pos} {wi wi1 : TI} {g g1 : TG} {tt tt1 : TT} {te : TE} (hc : X.calm = true) (hN : X.N.Nodup) (hy : X.N[i]? = some y) (hyl : X.env.scope.names.lookup y = some .local)
    (hsw : swapsWith (.SetComp elt [⟨tg, iter, ifs, 0⟩, ⟨tg1, iter1, ifs1, 0⟩] scope pos) (some (.Name y py)) spos.line X.env = pure true) (hi : PI X tg iter wi) (ok : BlkOk X.N X.env.scope scope own) (hv : ∀ i ∈ vs1, i ∈ own.map (·.2))
    (hg : ∀ (s : Shared) (H : Hp) (C : Addr) (cl : List (Str × Addr)) (fp : List Addr), PG (X.blk s H scope (compEnvC scope cl C X.env) fp) tg g) (ht : ∀ (s : Shared) (H : Hp) (C : Addr) (cl : List (Str × Addr)) (fp : List Addr), PTs (X.blk s H scope (compEnvC scope cl C X.env) fp) ifs tt)
    (hi1 : ∀ (s : Shared) (H : Hp) (C : Addr) (cl : List (Str × Addr)) (fp : List Addr), PI (X.blk s H scope (compEnvC scope cl C X.env) fp) tg1 iter1 wi1)
    (hg1 : ∀ (s : Shared) (H : Hp) (C : Addr) (cl : List (Str × Addr)) (fp : List Addr), PG (X.blk s H scope (compEnvC scope cl C X.env) fp) tg1 g1) (ht1 : ∀ (s : Shared) (H : Hp) (C : Addr) (cl : List (Str × Addr)) (fp : List Addr), PTs (X.blk s H scope (compEnvC scope cl C X.env) fp) ifs1 tt1)
    (he : ∀ (s : Shared) (H : Hp) (C : Addr) (cl : List (Str × Addr)) (fp : List Addr), PE (X.blk s H scope (compEnvC scope cl C X.env) fp) elt te) (hs : ∀ x, foldedSetIterable iter X.env x = pure x := by intro _; rfl) (hs1 : ∀ env x, foldedSetIterable iter1 env x = pure x := by intro _ _; rfl) :
    PS X (.Assign [.Name y py] (.SetComp elt [⟨tg, iter, ifs, 0⟩, ⟨tg1, iter1, ifs1, 0⟩] scope pos) spos) (tAsg (tSc2 X.w wi g tt wi1 g1 tt1 te (own.map (·.2)) vs1) (gName i)) := by
  refine ⟨fun pins s σ H D I h => ?_⟩
  rw [exec_Assign_Name_used _ _ _ _ hsw]
  refine wpAny_bind (wpAny_standAt (wpAny_bind ?_))
  show wpAny _ X.A (do let _ ← comprehension (.SetComp elt [⟨tg, iter, ifs, 0⟩, ⟨tg1, iter1, ifs1, 0⟩] scope pos) scope X.env (firstIterPos [⟨tg, iter, ifs, 0⟩, ⟨tg1, iter1, ifs1, 0⟩] pos) (newSet (.type "set")) false (eval iter X.env) (some (assign (.Name y py) X.env))) _ _ s
  have h : tSc2 X.w wi g tt wi1 g1 tt1 te (own.map (·.2)) vs1 σ H (fun x H1 => gName i x σ H1 D.nx) := h
  refine wpAny_bind (thn (sc2_core (Qf := fun _ s' => SP X pins D .next s') hc hN I hi ok hv hg ht he hs hi1 hg1 ht1 hs1 h fun L C s' m H' I' q hn f => ?_) fun _ s' hq => wpAny_pure (wpAny_pure hq))
  show wpAny _ _ (assign (.Name y py) X.env (.ref L)) _ _ _
  refine wpAny_assign_Name (store_ok2 (v := V.ref L) I' hN hy (.inl hyl) rfl (fun s2 I2 ⟨a, sb, ha⟩ => ?_) (.inr hyl))
  obtain ⟨f0, f1, f2, f3, f4, f5⟩ := f
  have haC : C ≠ a := by
    rcases ha with z | z
    · rw [z]; exact f1
    · exact fun e => f4 y a z e.symm
  refine ⟨m, hn.sameBut sb haC, fun h3 sb3 => ?_⟩
  exact ⟨_, H', I2.turned (t' := s2.toks) (fun b o hb e => (sb3.2 b hb).trans e) f0 f1 f3 f4 f5, q⟩
end
theorem swS {elt : Expr} {gs : List Comprehension} {scope : Scope} {pos py : Pos} {y : Str} {l : Nat} {env : Env} (hk : env.scope.kind = .function) (hy : env.scope.names.lookup y = some .local) (hl : (py.line == pos.line) = true)
    (ha : (scope.names.any fun (n, k) => n == y && (k == .local || k == .cell)) = false) : swapsWith (.SetComp elt gs scope pos) (some (.Name y py)) l env = pure true := by
  have ky : env.kindOf y = some .local := hy
  have hb : env.blockKind = .function := by unfold Env.blockKind; rw [hk]; rfl
  unfold swapsWith
  simp only [hb, ky, ha, Expr.pos, hl]
  rfl
/-! ### the steps -/
def InnerS (w : World) (J1 : It) (g1 : TG) (tt1 : TT) (te : TE) (σ2 : L2.St) (vs1 : List Nat) (D : Addr) (N : Hp → Prop) (H4 : Hp) : Prop := ∃ W1 : Nat → Nat → Hp → Prop, (∃ m, W1 0 m H4) ∧ ∀ j k H, W1 j k H →
      (J1.stop j H ∧ N H) ∨ (J1.go j H ∧ ∃ Nx1 : Hp → Prop, (∀ H', Nx1 H' → ∃ k', k' < k ∧ W1 (j + 1) k' H') ∧ ∀ x H', J1.yld j H x H' → g1 x (wipe σ2 vs1) H' fun σ3 H5 => wipe σ3 vs1 = wipe σ2 vs1 ∧ tt1 σ3 H5 fun b H6 =>
        if b = true then te σ3 H6 fun y H7 => ∃ (k : Int) (S : Int → Bool) (n : Nat), y = .int k ∧ H7 D = some (SetO w D S n) ∧ n + 1 < scanBound ∧ Nx1 (upd H7 D (SetO w D (fun j => S j || decide (j = k)) (if S k = true then n else n + 1))) else Nx1 H6)
def Sc2Loop (w : World) (J : It) (g : TG) (tt : TT) (wi1 : TI) (g1 : TG) (tt1 : TT) (te : TE) (σ : L2.St) (vs vs1 : List Nat) (Q : VK) (H1 : Hp) : Prop := ∀ D, H1 D = none → ∃ W : Nat → Nat → Hp → Prop, (∃ m, W 0 m (upd H1 D (SetO w D (fun _ => false) 0))) ∧ ∀ i m H, W i m H →
  (J.stop i H ∧ Q (.ref D) H) ∨ (J.go i H ∧ ∃ Nx : Hp → Prop, (∀ H', Nx H' → ∃ m', m' < m ∧ W (i + 1) m' H') ∧ ∀ x H', J.yld i H x H' → g x (wipe σ vs) H' fun σ2 H2 => wipe σ2 vs = wipe σ vs ∧ tt σ2 H2 fun b H3 =>
    if b = true then wi1 σ2 H3 fun J1 H4 => InnerS w J1 g1 tt1 te σ2 vs1 D Nx H4 else Nx H3)
theorem g_sc2 {w : World} {wi : TI} {g : TG} {tt : TT} {wi1 : TI} {g1 : TG} {tt1 : TT} {te : TE} {σ : L2.St} {vs vs1 : List Nat} {Q : VK} {H : Hp} (h : wi σ H fun J H1 => Sc2Loop w J g tt wi1 g1 tt1 te σ vs vs1 Q H1) : tSc2 w wi g tt wi1 g1 tt1 te vs vs1 σ H Q := h
/-- the set under way at D: its members are those of m, no more than b of them -/
def SetAt (w : World) (D : Addr) (m : List Int) (b : Nat) (L : List Res) (G H : Hp) : Prop := ∃ (G' : Hp) (S : Int → Bool) (n : Nat), Same G G' ∧ Sep G' H (cell D (SetO w D S n) :: L) ∧ (∀ k, S k = true ↔ k ∈ m) ∧ n ≤ b
section
variable {w : World} {σ σ2 : L2.St} {G H : Hp} {Q : VK} {te : TE} {tt tt1 : TT} {v : V} {K : PySem.W.Frag} {L : List Res} {g g1 : TG} {wi1 : TI} {vs vs1 : List Nat} {D : Addr}
theorem sc2L {A : Type} [Rp A] {xs : List A} (r : Rep G v xs) (s : Sep G H L) (F : A → List Int) (c : Nat)
    (hs : ∀ i v x D b H', xs[i]? = some x → SetAt w D ((xs.take i).flatMap F) b L G H' → Rep G v x → b = i * c →
      g v (wipe σ vs) H' fun σ2 H3 => wipe σ2 vs = wipe σ vs ∧ tt σ2 H3 fun b' H4 => if b' = true then wi1 σ2 H4 (fun J1 H5 => InnerS w J1 g1 tt1 te σ2 vs1 D (SetAt w D ((xs.take i).flatMap F ++ F x) (b + c) L G) H5) else SetAt w D ((xs.take i).flatMap F ++ F x) (b + c) L G H4)
    (hd : ∀ D H', SetAt w D (xs.flatMap F) (xs.length * c) L G H' → Q (.ref D) H') :
    ∃ a, v = .ref a ∧ (∃ xs, SqL K H a xs) ∧ Sc2Loop w (Itl K a) g tt wi1 g1 tt1 te σ vs vs1 Q H := by
  obtain ⟨p, ws, rfl, h, rs⟩ := id r
  have sq : ∀ {H'}, Same G H' → SqL K H' p ws := fun s => .inl (.inl (s _ _ h))
  refine ⟨p, rfl, ⟨ws, sq s.gh⟩, fun D hD => ?_⟩
  refine ⟨fun i m H => m = ws.length - i ∧ i ≤ ws.length ∧ SetAt w D ((xs.take i).flatMap F) (i * c) L G H, ⟨ws.length, by simp, Nat.zero_le _, G, _, 0, Same.refl _, s.cellNew hD, by simp, by simp⟩, ?_⟩
  rintro i m H' ⟨rfl, hi, sa⟩
  have wk := walk_list (K := K) (a := p) (xs := ws)
  have sa0 := sa
  obtain ⟨G', S, n, u, t, hS, hn⟩ := sa
  have q := sq (u.trans t.gh)
  by_cases hlt : i < ws.length
  · refine .inr ⟨wk.goes i H' hlt q, SetAt w D ((xs.take (i + 1)).flatMap F) ((i + 1) * c) L G, fun H2 p' => ⟨ws.length - (i + 1), by omega, rfl, hlt, p'⟩, fun x H2 y => ?_⟩
    obtain ⟨e, hy⟩ := wk.yields i H' x H2 hlt q y
    subst e
    obtain ⟨z, hz, rz⟩ := rs.get' hy
    have e1 : (xs.take (i + 1)).flatMap F = (xs.take i).flatMap F ++ F z := by
      rw [take_more hz, List.flatMap_append]
      simp
    rw [e1, Nat.succ_mul]
    exact hs i x z D (i * c) H2 hz sa0 rz rfl
  · have e : i = ws.length := by omega
    subst e
    refine .inl ⟨wk.stops H' q, hd D H' ?_⟩
    rw [rs.len, List.take_length] at sa0
    exact sa0
/-- the inner one, over a tuple of ints, each put in itself -/
theorem inT {p : Addr} {ys m : List Int} {b : Nat} {N : Hp → Prop} (ht : ∀ G' H', Same G G' → Same G' H' → SqT K H' p (ys.map V.int)) (h0 : SetAt w D m b L G H) (hb : b + ys.length + 1 < scanBound)
    (hstep : ∀ (y : Int) (H' : Hp) (R : V → Hp → Prop) (R0 : Hp → Prop), R (.int y) H' → g1 (.int y) (wipe σ2 vs1) H' fun σ3 H5 => wipe σ3 vs1 = wipe σ2 vs1 ∧ tt1 σ3 H5 fun b H6 => if b = true then te σ3 H6 R else R0 H6)
    (hd : ∀ H', SetAt w D (m ++ ys) (b + ys.length) L G H' → N H') : (∃ xs, SqT K H p xs) ∧ InnerS w (Itt K p) g1 tt1 te σ2 vs1 D N H := by
  have sq : ∀ {m' b' H'}, SetAt w D m' b' L G H' → SqT K H' p (ys.map V.int) := fun sa => by
    obtain ⟨G', S, n, u, t, _⟩ := sa
    exact ht _ _ u t.gh
  refine ⟨⟨_, sq h0⟩, fun j k H => k = ys.length - j ∧ j ≤ ys.length ∧ SetAt w D (m ++ ys.take j) (b + j) L G H, ⟨ys.length, by simp, Nat.zero_le _, by simpa using h0⟩, ?_⟩
  rintro j k H' ⟨rfl, hj, sa⟩
  have q := sq sa
  by_cases hlt : j < ys.length
  · have hy : ys[j]? = some ys[j] := List.getElem?_eq_getElem hlt
    refine .inr ⟨⟨_, _, q, by rw [List.getElem?_map, hy]; rfl⟩, SetAt w D (m ++ ys.take (j + 1)) (b + (j + 1)) L G, fun H2 p' => ⟨ys.length - (j + 1), by omega, rfl, hlt, p'⟩, fun x H2 y => ?_⟩
    obtain ⟨e, y⟩ := y
    subst e
    have ex := y _ q
    rw [List.getElem?_map, hy] at ex
    obtain rfl : V.int ys[j] = x := by simpa using ex
    obtain ⟨G', S, n, u, t, hS, hn⟩ := sa
    refine hstep _ _ _ _ ⟨ys[j], S, n, rfl, t.cellAt, by omega, G', _, _, u, t.cellSet, fun k => ?_, ?_⟩
    · rw [take_more hy, Bool.or_eq_true, decide_eq_true_eq, hS k, ← List.append_assoc, List.mem_append, List.mem_append, List.mem_append, List.mem_singleton]
    · split <;> omega
  · have e : j = ys.length := by omega
    subst e
    rw [List.take_length] at sa
    exact .inl ⟨⟨_, q, by simp⟩, hd H' sa⟩
end
end EB

namespace EB
open PySem L2 PySem.Spec PyProof.Rows
/-! ### repr of an int or of None -/
def rReprN : List V → Hp → VK → Prop := fun vs H Q => rStr vs H Q ∨ (vs = [.non] ∧ Q (.str "None") H)
theorem cReprN {X : Cx} : CallR X (.builtin "repr") rReprN := by
  intro pins s σ H xs us Q I r h
  rcases h with h | ⟨rfl, q⟩
  · exact cRepr pins s σ H xs us Q I r h
  · obtain ⟨u, rfl, e⟩ := vals1 r
    obtain rfl : u = Value.none := e
    exact PySem.P.repr_of_none ⟨.str "None", H, I.tok _, ⟨_, rfl⟩, q⟩
/-- as a text -/
def optText (o : Option Int) : List Nat := match o with
  | some i => intL i
  | none => [78, 111, 110, 101]
theorem g_reprN {G H : Hp} {v : V} {o : Option Int} {Q : VK} (r : Rep G v o) (h : ∀ i, o = some i → i.natAbs < 2 ^ 250) (q : Q (.str (SX.S (optText o))) H) : rReprN [v] H Q := by
  cases o with
  | none =>
    obtain rfl : v = V.non := r
    refine .inr ⟨rfl, ?_⟩
    have e : ("None" : Str) = SX.S [78, 111, 110, 101] := by decide +kernel
    rw [e]
    exact q
  | some i =>
    obtain rfl : v = V.int i := r
    exact .inl (g_strI (h i rfl) q)
theorem reps_some {A : Type} [Rp A] {G : Hp} : ∀ {vs : List V} {xs : List A}, Reps G vs xs → Reps G vs (xs.map some)
  | [], [], _ => trivial
  | _ :: _, _ :: _, ⟨h, t⟩ => ⟨h, reps_some t⟩
theorem Rep.lsome {A : Type} [Rp A] {G : Hp} {v : V} {xs : List A} (r : Rep G v xs) : Rep G v (xs.map some) := by
  obtain ⟨p, vs, e, h, rs⟩ := r
  exact ⟨p, vs, e, h, reps_some rs⟩
theorem g_par3 {i j l : Nat} {tr : TA} {D : L2.Ends} {σ : L2.St} {H : Hp} (h : tr σ H fun vs H1 => ∃ u v w, vs = [u, v, w] ∧ D.nx (((σ.set i (some u)).set j (some v)).set l (some w)) H1) : tPar3 i j l tr D σ H := h
theorem g_par33 {u v w : V} {P : V → V → V → Prop} (h : P u v w) : ∃ a b c, [u, v, w] = [a, b, c] ∧ P a b c := ⟨u, v, w, rfl, h⟩
end EB

namespace EB
open PySem L2 PySem.Spec PyProof.Rows
/-! ### where an exception is handled: the ends of walks -/
section
variable {prog : Program} {w : World} {A : Around} {E : Value → Shared → Prop} {s : Shared}
theorem list_end_hot {it l x1 : Addr} (hx1 : x1 ≠ it) {i : Nat} {items} {Q : Option Value → Shared → Prop} (hot : HotX.HotAt A x1 s.heap)
    (hit : s.heap.IsListIter it l i) (hl : s.heap.IsList l items) (hx : items[i]? = none)
    (hQ : ∀ h', Heap.ExtBut it s.heap h' → Q none { s with heap := h' }) : wpAny (model prog w) A (pyNext (.ref it)) Q E s := by
  obtain ⟨o, ho, hc, hd⟩ := id hit
  obtain ⟨ol, hol, _, nl, hdl⟩ := hl
  obtain ⟨hh, o1, vs1, h1, d1, c1⟩ := hot
  unfold pyNext
  refine wpAny_bind (wpAny_attempt (wpAny_callSpecial?_slot (name := Str.ofString "__next__") hit.typeIs slot_listiter_next
    (wpAny_call_entry slot_listiter_next hit.typeIs entry_listiter_next ?_ (args_listiter_next _))))
  show wpAny _ _ (field (.ref it) 0 >>= _) _ _ s
  refine wpAny_bind (wpAny_field ho hd (x := .ref l) rfl ?_)
  show wpAny _ _ (if (Value.ref l == Value.none) = true then _ else _) _ _ s
  rw [if_neg (show ¬ ((Value.ref l == Value.none) = true) from Bool.false_ne_true)]
  show wpAny _ _ (field (.ref it) 1 >>= _) _ _ s
  refine wpAny_bind (wpAny_field ho hd (x := .int i 0) rfl ?_)
  show wpAny _ _ (seqItems? (.ref l) >>= _) _ _ s
  refine wpAny_bind (wpAny_seqItems hol hdl ?_)
  simp only [Int.toNat_natCast, hx]
  refine wpAny_bind (wpAny_rule (wpAny_bind (wpAny_setField ho hd (by simp) ?_)))
  show wpAny _ _ (newExc (.type "StopIteration") [] >>= _) _ _ _
  refine wpAny_bind ?_
  simp only [newExc, newTuple]
  refine wpAny_bind (wpAny_newObj_type ?_ (by size_fits))
  refine wpAny_bind (m := firstArgMember _ _) (wpAny_of_eq (a := Value.none) (by first | rfl | (simp only [firstArgMember]; rfl)) ?_)
  refine wpAny_newObj_type ?_ (by size_fits)
  refine HotX.raiseNew_hot ⟨hh, o1, vs1, Heap.get?_push_of_some _ (Heap.get?_push_of_some _ ((Heap.get?_update_other _ _ (Ne.symm hx1)).trans h1)), d1, c1⟩ (Nat.ne_of_lt (Heap.lt_size (Heap.get?_push_of_some _ ((Heap.get?_update_other _ _ (Ne.symm hx1)).trans h1)))) (Heap.get?_push_size _ rfl) rfl (by first | (simp; done) | (simp; omega) | (simp only [Array.size_append]; simp; omega)) ?_
  refine wpAny_bind (wpAny_isInstance (T := "StopIteration") (b := true) ⟨_, Heap.get?_update_self _ (Heap.get?_push_size _ rfl) rfl, rfl⟩ isSubtype_stop ?_)
  refine wpAny_pure (hQ _ fun b o hb e => ?_)
  have e1 : ∀ f, (s.heap.update it f).get? b = some o := fun f => (Heap.get?_update_other s.heap f (Ne.symm hb)).trans e
  exact (Heap.get?_update_other _ _ (Nat.ne_of_gt (Heap.lt_size (Heap.get?_push_of_some _ (e1 _))))).trans (Heap.get?_push_of_some _ (Heap.get?_push_of_some _ (e1 _)))

theorem tuple_end_hot {it t x1 : Addr} (hx1 : x1 ≠ it) {i : Nat} {items} {Q : Option Value → Shared → Prop} (hot : HotX.HotAt A x1 s.heap)
    (hit : IsTupIter s.heap it t i) (ht : IsTup s.heap t items) (hx : items[i]? = none)
    (hQ : ∀ h', Heap.ExtBut it s.heap h' → Q none { s with heap := h' }) : wpAny (model prog w) A (pyNext (.ref it)) Q E s := by
  obtain ⟨o, ho, hc, hd⟩ := id hit
  obtain ⟨ol, hol, _, nl, hdl⟩ := ht
  obtain ⟨hh, o1, vs1, h1, d1, c1⟩ := hot
  unfold pyNext
  refine wpAny_bind (wpAny_attempt (wpAny_callSpecial?_slot (name := Str.ofString "__next__") hit.typeIs slot_tupleiter_next
    (wpAny_call_entry slot_tupleiter_next hit.typeIs entry_tupleiter_next ?_ (args_tupleiter_next _))))
  show wpAny _ _ (field (.ref it) 0 >>= _) _ _ s
  refine wpAny_bind (wpAny_field ho hd (x := .ref t) rfl ?_)
  show wpAny _ _ (if (Value.ref t == Value.none) = true then _ else _) _ _ s
  rw [if_neg (show ¬ ((Value.ref t == Value.none) = true) from Bool.false_ne_true)]
  show wpAny _ _ (field (.ref it) 1 >>= _) _ _ s
  refine wpAny_bind (wpAny_field ho hd (x := .int i 0) rfl ?_)
  show wpAny _ _ (seqItems? (.ref t) >>= _) _ _ s
  refine wpAny_bind (wpAny_seqItems hol hdl ?_)
  simp only [Int.toNat_natCast, hx]
  refine wpAny_bind (wpAny_rule (wpAny_bind (wpAny_setField ho hd (by simp) ?_)))
  show wpAny _ _ (newExc (.type "StopIteration") [] >>= _) _ _ _
  refine wpAny_bind ?_
  simp only [newExc, newTuple]
  refine wpAny_bind (wpAny_newObj_type ?_ (by size_fits))
  refine wpAny_bind (m := firstArgMember _ _) (wpAny_of_eq (a := Value.none) (by first | rfl | (simp only [firstArgMember]; rfl)) ?_)
  refine wpAny_newObj_type ?_ (by size_fits)
  refine HotX.raiseNew_hot ⟨hh, o1, vs1, Heap.get?_push_of_some _ (Heap.get?_push_of_some _ ((Heap.get?_update_other _ _ (Ne.symm hx1)).trans h1)), d1, c1⟩ (Nat.ne_of_lt (Heap.lt_size (Heap.get?_push_of_some _ ((Heap.get?_update_other _ _ (Ne.symm hx1)).trans h1)))) (Heap.get?_push_size _ rfl) rfl (by first | (simp; done) | (simp; omega) | (simp only [Array.size_append]; simp; omega)) ?_
  refine wpAny_bind (wpAny_isInstance (T := "StopIteration") (b := true) ⟨_, Heap.get?_update_self _ (Heap.get?_push_size _ rfl) rfl, rfl⟩ isSubtype_stop ?_)
  refine wpAny_pure (hQ _ fun b o hb e => ?_)
  have e1 : ∀ f, (s.heap.update it f).get? b = some o := fun f => (Heap.get?_update_other s.heap f (Ne.symm hb)).trans e
  exact (Heap.get?_update_other _ _ (Nat.ne_of_gt (Heap.lt_size (Heap.get?_push_of_some _ (e1 _))))).trans (Heap.get?_push_of_some _ (Heap.get?_push_of_some _ (e1 _)))
theorem unpackItems_hot {t x1 : Addr} {items : Array Value} {Q : List Value → Shared → Prop} (hot : HotX.HotAt A x1 s.heap) (ht : IsTup s.heap t items)
    (hQ : ∀ h', Heap.ExtBut s.heap.objs.size s.heap h' → Q items.toList { s with heap := h' }) : wpAny (model prog w) A (unpackItems (.ref t) items.size none) Q E s := by
  have hlt : t ≠ s.heap.objs.size := by obtain ⟨o, ho, _⟩ := ht; exact Nat.ne_of_lt (Heap.lt_size ho)
  unfold unpackItems
  refine wpAny_bind ?_
  · unfold notIterableAtAll
    refine wpAny_bind (wpAny_specialOf ht.typeIs slot_tuple_iter.lookup ?_)
    refine wpAny_pure ?_
    simp only [Bool.false_eq_true, if_false]
    refine wpAny_bind (wpAny_holding (iter_tuple ht ?_))
    refine wpAny_bind (wpAny_holding (draw_tuple hlt items.size 0 _ _ ⟨_, Heap.get?_push_size _ rfl, rfl, rfl⟩ (ht.push _) (by omega) fun h₁ hit₁ hs₁ => ?_))
    have hall : List.take items.size (List.drop 0 items.toList) = items.toList := by
      rw [List.drop_zero]; exact List.take_of_length_le (by simp)
    rw [hall]
    rw [if_neg (by simp)]
    have hot₁ : HotX.HotAt A x1 h₁ := by
      obtain ⟨q1, o1, vs1, q2, q3, q4⟩ := hot
      exact ⟨q1, o1, vs1, hs₁.extBut x1 o1 (Nat.ne_of_lt (Heap.lt_size q2)) (Heap.get?_push_of_some _ q2), q3, q4⟩
    have hx1 : x1 ≠ s.heap.objs.size := by
      obtain ⟨q1, o1, vs1, q2, q3, q4⟩ := hot
      exact Nat.ne_of_lt (Heap.lt_size q2)
    have ht₁ : IsTup h₁ t items := (ht.push _).extBut hs₁.extBut hlt
    refine wpAny_bind (wpAny_holding (tuple_end_hot hx1 hot₁ hit₁ ht₁ (by simp) fun h₂ he₂ => ?_))
    simp only [Option.isSome_none, Bool.false_eq_true, if_false]
    refine wpAny_pure (hQ h₂ fun b o hb e => he₂ b o hb (hs₁.extBut b o hb (Heap.get?_push_of_some _ e)))

theorem unpack_hot {t x1 : Addr} {items : Array Value} {targets : List (Bool × (Value → Sem Unit))} {Q : Unit → Shared → Prop} (hot : HotX.HotAt A x1 s.heap) (ht : IsTup s.heap t items)
    (hn : targets.length = items.size) (hstar : targets.findIdx? (·.1) = none)
    (h : ∀ h', Heap.ExtBut s.heap.objs.size s.heap h' → wpAny (model prog w) A (assignInOrder (targets.map (·.2)) items.toList) Q E { s with heap := h' }) :
    wpAny (model prog w) A (unpack (.ref t) targets) Q E s := by
  unfold unpack
  rw [hn, hstar]
  exact wpAny_bind (wpAny_holding (unpackItems_hot hot ht h))
theorem assign_Tuple_hot {env : Env} {elts : List Expr} {xk} {pos : Pos} {t x1 : Addr} {items : Array Value} {Q : Unit → Shared → Prop} (hot : HotX.HotAt A x1 s.heap) (ht : IsTup s.heap t items)
    (hn : (assignEach elts env).length = items.size) (hstar : (assignEach elts env).findIdx? (·.1) = none)
    (h : ∀ h', Heap.ExtBut s.heap.objs.size s.heap h' → wpAny (model prog w) A (assignInOrder ((assignEach elts env).map (·.2)) items.toList) Q E { s with heap := h' }) :
    wpAny (model prog w) A (assign (.Tuple elts xk pos) env (.ref t)) Q E s := by
  rw [assign_Tuple]
  exact wpAny_bind (wpAny_standAt (unpack_hot hot ht hn hstar h))
end
end EB

namespace EB
open PySem L2 PySem.Spec PyProof.Rows
/-! ### exceptions whose context is None: made, raised, called through, caught -/
section
variable {X : Cx} {o e : Expr} {es : List Expr} {to te : TE} {ta : TA} {f : Str} {p p' p1 p2 pos : Pos}
theorem mk_endN {pins : List (Addr × Obj)} {σ : L2.St} {H1 H2 : Hp} {Q : XK} {hp hp2 h2 : Heap} {g1 g2 : Array GenState} {d1 d2 : Drawn} {t1 t2 : Nat} {os1 os2 : OsState} {a C d : Addr} {fs : List (Str × V)} (T : Raises X (.ref C)) (I1 : Inv X pins σ H1 ⟨hp, g1, d1, t1, os1⟩)
    (ha : hp.objs.size ≤ a) (k : ∀ b o, hp.get? b = some o → hp2.get? b = some o) (un : Un (frs X.stack) [] (upd H1 a (exo a C none)) H2 hp2 h2) (hok : HOk X.prog X.w H2 h2) (ho : os2 = os1) (hb : AllBare g2)
    (ea : H2 a = some (exo a C (some d))) (ed : H2 d = some (exd d fs)) (hd1 : H1 d = none) (q : Q (.ref C) (some d) (upd (del H2 a) d (.xd fs))) : L2N.MkP X pins σ Q (.ref a) ⟨h2, g2, d2, t2, os2⟩ := by
  obtain ⟨t0, G, J, kG, ge, hoe, na⟩ := mk_end0 (d2 := d2) (t2 := t2) I1 ha k un hok ho hb ea ed hd1
  exact ⟨a, _, _, ⟨G, g2, d2, t2, os2⟩, _, .ref C, some d, rfl, J, kG, ge, hoe, ⟨rfl, rfl, fun vs hv => by cases hv; rfl⟩, rfl, rfl, na, rfl, hb, T, q⟩
theorem pmk_oexN {CX : CXT} {x : Str} {C fI : Addr} {k : Nat} {fd : FuncData} {ps : List Str} {sp : Sp} {ds : List Value} {dvs : List V} (T : OexC X.K C) (iC : PySem.W.findIn X.K (.ref C) "__init__" = some (some (.ref fI))) (tI : PySem.W.typeIn X.K (.ref fI) = some (.type "function"))
    (F1 : FnOk X.prog X.w X.K X.mg X.base CX k fI fd ps sp) (hr : Room (k + 1) X.A) (hb : Binds X.K fd ps ds) (hd : Vals dvs ds) (hx : Passes CX X (fun _ _ _ => False)) (hg : Gl X x) (hm : X.mg x = some (.ref C)) (ha : PA X (e :: es) ta)
    (hdb : (x == ("__debug__" : Str)) = false := by decide) (he : starEach (e :: es) X.env = (false, eval e X.env) :: starEach es X.env := by rfl) (hpl : (backTo pos (starEach es X.env)).any (·.1) = false := by rfl) :
    L2N.PMk X (.Call (.Name x p) (e :: es) [] pos) (tMkO C sp dvs ta) := by
  intro pins s σ H Q I h
  obtain ⟨nm, q, N, bs, bm, sn, sub, ab, col, dd, k0, k1, k2, k3, k5, hC, hbm⟩ := T.cls
  refine wpAny_Call_Name_kw (ld_glob I hg hm ?_ hdb)
  refine PySem.W.callWith_K (h₀ := X.base) I.ok.mod.kin T.kC (thn (ha.run pos pins s σ H _ I h) fun us s1 ⟨vs, H1, I1, r1, hz, q1⟩ => ⟨I1.kIn, ?_⟩) he hpl
  show wpAny _ _ (call (.ref C) us) _ _ _
  obtain ⟨hp, g, dr, tk, os⟩ := s1
  have hsz : hp.objs.size ≤ hp.objs.size + 1 := Nat.le_succ _
  have hn : H1 (hp.objs.size + 1) = none := I1.hok.fresh hsz
  have hq := q1 (hp.objs.size + 1) hn
  have kk : ∀ b o, hp.get? b = some o → ((hp.push (PySem.W.kdv_tup us)).push (PySem.HandSPX.excO C hp.objs.size)).get? b = some o := fun b o e => Heap.get?_push_of_some _ (Heap.get?_push_of_some _ e)
  have hget : ((hp.push (PySem.W.kdv_tup us)).push (PySem.HandSPX.excO C hp.objs.size)).get? (hp.objs.size + 1) = some (PySem.HandSPX.excO C hp.objs.size) := by heap_get
  have I2 : Inv X pins σ (upd H1 (hp.objs.size + 1) (exo (hp.objs.size + 1) C none)) ⟨(hp.push (PySem.W.kdv_tup us)).push (PySem.HandSPX.excO C hp.objs.size), g, dr, tk, os⟩ :=
    I1.laid (t' := tk) (a := hp.objs.size + 1) (o := exo (hp.objs.size + 1) C none) (h' := (hp.push (PySem.W.kdv_tup us)).push (PySem.HandSPX.excO C hp.objs.size)) kk hsz (exo_ok hget)
  have r2 : Vals (V.ref (hp.objs.size + 1) :: (vs ++ dvs)) (Value.ref (hp.objs.size + 1) :: (us ++ ds)) := .cons rfl (r1.append hd)
  have hl : (Value.ref (hp.objs.size + 1) :: us ++ ds).length = ps.length := by
    have e := r2.length
    rw [F1.len _ _ _ _ hq] at e
    exact e.symm
  have hus : us.length ≤ sizeLine := by
    rw [← Paired.length r1, sizeLine_eq]
    omega
  refine wpAny_call (PySem.HandSPX.call_own F.excBase_ValueError (fun Y => PySem.HandSPX.refsVE_contains Y bm hbm) (I1.kIn _ _ hC) (PySem.W.looks_findIn I1.kIn iC) (fun self => PySem.W.bind_fn I1.kIn self tI) hus
    (codeAny_mono (F1.run _ X.stack _ _ ⟨Value.ref (hp.objs.size + 1) :: us, []⟩ (Value.ref (hp.objs.size + 1) :: (us ++ ds)) _ _ (fun _ _ _ => False) (hr.make C us []) (I2.env0.make C us []) (hb _ (Value.ref (hp.objs.size + 1) :: us) I2.kIn hl) r2 hq) fun r s' hq' => ?_))
  cases r with
  | error er => exact hx pins σ _ _ er s' I2 hq'
  | ok fl =>
    cases fl with
    | ret u =>
      obtain ⟨v, H2, os2, bare2, un2, hok2, rv, ev, d, fs, ea, ed, hd1, q2⟩ := hq'
      subst ev
      obtain ⟨h2, g2, d2, t2, os'⟩ := s'
      exact ⟨rv, mk_endN (raises_own T.exC T.tyC) I1 hsz kk un2 hok2 os2 bare2 ea ed hd1 q2⟩
    | next => exact False.elim hq'
    | brk => exact False.elim hq'
    | cont => exact False.elim hq'
end
section
variable {X : Cx} {W : WX} {x : Str} {B C : Addr} {e : Expr} {ta : TA} {p pos pos2 : Pos}
theorem ps_rsN (M : ExM X.prog X.w X.K X.mg X.base x B C) (hc : X.calm = true) (tk : L2N.Takes X W) (hr : Room 2 X.A) (hg : Gl X x) (ha : PA X [e] ta)
    (hdb : (x == ("__debug__" : Str)) = false := by decide) (he : starEach [e] X.env = (false, eval e X.env) :: starEach [] X.env := by rfl) (hpl : (backTo pos (starEach [] X.env)).any (·.1) = false := by rfl) :
    PS X (.Raise (some (.Call (.Name x p) [e] [] pos)) none pos2) (tRaise W (tMkE X.K C ta)) := by
  obtain ⟨fI, fd, h1, h2, F, b⟩ := M.it
  exact L2N.ps_raise hc tk (pmk_oexN M.xc.ox h1 h2 F hr b .nil pass0 hg M.gC ha hdb he hpl)
end
section
variable {P : Program} {w : World} {K : PySem.W.Frag} {mg : Str → Option Value} {base : Heap}
theorem _root_.L2.Fun.okN {x qual : Str} {st : Stmt} {f : Addr} {fd : FuncData} {N ps : List Str} {k : Nat} {sp : Sp} (F : Fun K x qual st f fd) (S : FnScope N ps (defScope st)) (len : ∀ vs H Q E, sp vs H Q E → vs.length = ps.length)
    (hbody : ∀ (cdv : Value) (A : Around) (outer : List Env) (s : Shared) (H : Hp) (vs : List V) (Q : VK) (E : XK), Room k (A.deeper (envOfC qual (defScope st) s.heap.objs.size f cdv)) → sp vs H Q E →
      ∃ t, PSs (cxOf (L2N.CX P w) P w K mg base N qual (defScope st) f cdv A outer s H E) (defBody st) t ∧ t { nx := fun _ H' => Q .non H', rt := Q } (start N vs) H) : FnOk P w K mg base (L2N.CX P w) (k + 1) f fd ps sp := by
  obtain ⟨oc, od, kV, doc, pm, an, cdv, ct, osl, rfl, lk, hcd⟩ := F.ex
  exact fn_of lk hcd S len fun A outer s H vs Q E hr hsp => hbody cdv A outer s H vs Q E hr hsp
theorem okOrN {j k : Nat} {f : Addr} {fd : FuncData} {ps : List Str} {sp sp' : Sp} (F : FnOk P w K mg base CX0 j f fd ps sp) (F' : FnOk P w K mg base (L2N.CX P w) k f fd ps sp') (h : j ≤ k) : FnOk P w K mg base (L2N.CX P w) k f fd ps (fun vs H Q E => sp vs H Q E ∨ sp' vs H Q E) where
  len := fun vs H Q E s => s.elim (F.len vs H Q E) (F'.len vs H Q E)
  run := fun A outer s H args us vs Q E hr e0 b r want => by
    rcases want with want | want
    · refine codeAny_mono ((F.mono h).run A outer s H args us vs Q E hr e0 b r want) fun r s' hq => ?_
      cases r with
      | error e => exact (show False from hq).elim
      | ok fl => cases fl <;> exact hq
    · exact F'.run A outer s H args us vs Q E hr e0 b r want
structure CalN (P : Program) (w : World) (K : PySem.W.Frag) (mg : Str → Option Value) (base : Heap) (k : Nat) (x : Str) (sp : Sp) : Prop where
  ex : ∃ (f : Addr) (fd : FuncData) (ps : List Str), FnOk P w K mg base (L2N.CX P w) k f fd ps sp ∧ mg x = some (.ref f) ∧ PySem.W.keepIn K (.ref f) = true ∧ Binds K fd ps []
theorem calN_of {x qual : Str} {st : Stmt} {f : Addr} {fd : FuncData} {ps : List Str} {k : Nat} {sp : Sp} (F : Fun K x qual st f fd) (mine : mg x = some (.ref f)) (b : Binds K fd ps []) (G : FnOk P w K mg base (L2N.CX P w) k f fd ps sp) : CalN P w K mg base k x sp := ⟨f, fd, ps, G, mine, F.kp, b⟩
end
section
variable {X : Cx} {W : WX} {k j : Nat} {x : Str} {p pos : Pos} {e : Expr} {es : List Expr} {t : TA} {sp : Sp}
theorem pe_cN (c : CalN X.prog X.w X.K X.mg X.base k x sp) (tk : L2N.Takes X W) (hr : Room j X.A) (hk : k ≤ j) (hg : Gl X x) (ha : PA X (e :: es) t)
    (hdb : (x == ("__debug__" : Str)) = false := by decide) (he : starEach (e :: es) X.env = (false, eval e X.env) :: starEach es X.env := by rfl) (hpl : (backTo pos (starEach es X.env)).any (·.1) = false := by rfl) :
    PE X (.Call (.Name x p) (e :: es) [] pos) (tCallS sp (WE W) t) := by
  obtain ⟨f, fd, ps, F, mine, kp, b⟩ := c.ex
  exact pe_callS F (hr.mono hk) hg mine kp b (fun σ => L2N.passAt tk σ) ha hdb he hpl
theorem takes0N {X : Cx} : L2N.Takes X (fun _ _ _ _ => False) := fun _ _ x => by
  obtain ⟨_, _, _, _, _, _, _, _, _, _, _, _, _, _, _, _, z⟩ := x
  exact z.elim
theorem ps_tryN {n : Str} {c : Value} {i : Nat} {body suite : List Stmt} {b₀ : Stmt} {np pos pos' : Pos} {tb : WX → TS} {ts : Addr → Value → Option Addr → TS} {Wout : WX} (stk : X.stack = X.env :: X.outer) (own : X.env.frame = some X.env.locals) (uniq : X.N.Nodup) (slot : X.N[i]? = some n) (loc : X.env.kindOf n = some .local) (nm : Names X x c) (tk : L2N.Takes X Wout)
    (hb : ∀ (W : WX) (pn : List (Addr × Obj)) (xe : Value → Shared → Prop), L2N.Takes (X.tr pn xe) W → PassesOwn (model X.prog X.w) X.A X.env xe → PSs (X.tr pn xe) body (tb W))
    (hsu : ∀ (a : Addr) (oe : Obj) (cls : Value) (d : Option Addr) (pn : List (Addr × Obj)), L2N.Zn cls d oe → (∃ vs, oe.data = .fields vs) → PSs (X.suite a ((a, oe) :: pn)) (b₀ :: suite) (ts a cls d)) :
    PS X (.Try body [.ExceptHandler (some (.Name x np)) (some n) (b₀ :: suite) pos'] [] [] pos) (tTryA X.K c i tb ts Wout) := L2N.ps_try_as stk own uniq slot loc nm tk hb hsu
end
/-! ### comprehensions and targets where an exception is handled -/
section
variable {X : Cx}
theorem turn_listH {P : Program} {w : World} {K : PySem.W.Frag} {tg : Expr} (a it : Addr) : L2H.TurnH P w K tg (Itl K a) [it] it (fun i h => h.IsListIter it a i) where
  mem := by simp
  obj := fun i h st b hb => by
    have e : b = it := by simpa using hb
    subst e
    obtain ⟨o, e, c, d⟩ := st
    exact ⟨o, e, fun v z => by rw [d] at z; cases z⟩
  keep := fun i h h' st k => st.at fun o e => k it (by simp) o e
  item := by
    intro X hP hw hK hc i pins s σ H E I hf st hg
    subst hP hw hK
    obtain ⟨xs, x, hq, hx⟩ := hg
    obtain ⟨its, rv, p, hz⟩ := I.list hq
    obtain ⟨u, hu, ru⟩ := rv.get hx
    obtain ⟨f0, f1, f2, f3, f4, f5⟩ := hf it (by simp)
    refine wpAny_pyNext_list_item st p.isList (x := u) (by simpa using hu) fun h' st' sb => ?_
    have I1 : Inv X pins σ H { s with heap := h' } := I.turned (t' := s.toks) (fun b o hb e => (sb.2 b hb).trans e) f0 f1 f3 f4 f5
    obtain ⟨o, e, c, d⟩ := id st'
    exact ⟨u, rfl, go_of (s := { s with heap := h' }) e c d (by decide) ⟨x, H, I1, ru, ⟨rfl, fun ys hy => by rw [I.list_inj hy hq]; exact hx⟩, st', fun b hb => (hf b hb).1⟩⟩
  done := by
    intro X hP hw hK hc i pins s σ H E I hf st hg
    subst hP hw hK
    obtain ⟨xs, hq, hx⟩ := hg
    obtain ⟨its, rv, p, hz⟩ := I.list hq
    obtain ⟨f0, f1, f2, f3, f4, f5⟩ := hf it (by simp)
    have hl := rv.length
    obtain ⟨pp, hot1, hpp⟩ := hc
    have hne : pp.1 ≠ it := f5 pp (List.mem_append_left _ hpp)
    obtain ⟨hh, v1, e1, c1⟩ := hot1
    exact list_end_hot hne ⟨hh, pp.2, v1, (I.pin pp (List.mem_append_left _ hpp)).1, e1, c1⟩ st p.isList (by simp; omega) fun h' eb => ⟨rfl, I.turned (t' := s.toks) (fun b o hb e => eb b o hb e) f0 f1 f3 f4 f5⟩
  self := fun _ _ _ _ _ st h => wpAny_pyIter_listiter st h
theorem pi_listH {tg l : Expr} {tl : TE} (hl : PE X l tl) : L2H.PIH X tg l (iList X.K tl) := by
  refine ⟨fun pins s σ H R I h => ?_⟩
  refine thn (hl.run pins s σ H _ I h) fun v s1 ⟨x, H1, I1, r1, q1⟩ => ?_
  obtain ⟨a, e, ⟨xs, hq⟩, q⟩ := q1
  subst e
  cases r1
  obtain ⟨its, rv, p, hz⟩ := I1.list hq
  refine wpAny_pyIter_list p.isList ?_
  refine ⟨s1.heap.objs.size, [s1.heap.objs.size], _, _, H1, rfl, I1.kept (t' := s1.toks) fun b o e => Heap.get?_push_of_some _ e, turn_listH a _, ⟨_, Heap.get?_push_size _ rfl, rfl, rfl⟩, fun b hb => ?_, q⟩
  have e : b = s1.heap.objs.size := by simpa using hb
  subst e
  exact I1.fpOk (Nat.le_refl _) (I1.hok.fresh (Nat.le_refl _))
theorem pg_tupH {es : List Expr} {k : Nat} {t : TGs} {n : Nat} {pos : Pos} (hc : L2H.HotC X) (h : PGs X es t)
    (hn : (assignEach es X.env).length = n := by rfl) (hst : (assignEach es X.env).findIdx? (·.1) = none := by rfl) : PG X (.Tuple es k pos) (gTup X.K n t) := by
  refine ⟨fun pins s σ H v u Q I r hw => ?_⟩
  obtain ⟨a, xs, e1, hq, hl, hw⟩ := hw
  subst e1
  cases r
  obtain ⟨its, rv, ht, hz⟩ := I.tuple hq
  obtain ⟨x1, hot⟩ := hc.at I
  refine assign_Tuple_hot hot ht (by simp [hn, ← hl, rv.length]) hst fun h' hx => ?_
  have I1 : Inv X pins σ H { s with heap := h' } := I.kept (t' := s.toks) fun b o e => hx b o (Nat.ne_of_lt (Heap.lt_size e)) e
  exact h.run pins _ σ H xs _ Q I1 (by simpa using rv) hw
theorem block_startP {pins : List (Addr × Obj)} {σ : L2.St} {H : Hp} {s : Shared} {scope : Scope} {own : List (Str × Nat)} {fp : List Addr} (I : Inv X pins σ H s) (ok : BlkOk X.N X.env.scope scope own) (hN : X.N.Nodup) (hfp : ∀ b ∈ fp, FpOk X pins H b ∧ b < s.heap.objs.size) :
    Inv ((X.blk s H scope (compEnvC scope (cellsFrom (s.heap.objs.size + 1) scope.names (cloFrom X.env.cells scope.names [])) s.heap.objs.size X.env) fp).tr X.pn fun _ _ => False) [] (wipe σ (own.map (·.2))) H { s with heap := pushCells (s.heap.push { cls := .type "dict", data := .dict #[] }) scope.names } := by
  have J := block_start I ok hN hfp
  refine ⟨J.ok.toTry _ _, J.os, J.bare, J.base, J.loc, J.cell, J.free, J.freeC, fun q hq => ?_, J.hok, J.len⟩
  have hq : q ∈ X.pn := by simpa using (show q ∈ X.pn ++ [] from hq)
  have P1 := I.pin q (List.mem_append_left _ hq)
  refine ⟨pushCells_keeps _ _ _ _ (Heap.get?_push_of_some _ P1.1), P1.2.1, Nat.ne_of_lt (Heap.lt_size P1.1), fun hm => ?_, P1.2.2.2.2⟩
  exact (List.mem_cons.mp (I.stkSub q.1 hm)).elim P1.2.2.1 P1.2.2.2.1
theorem lc_coreH {pins : List (Addr × Obj)} {s : Shared} {σ : L2.St} {H : Hp} {Q : VK} {elt tg iter : Expr} {ifs : List Expr} {scope : Scope} {own : List (Str × Nat)} {pos pos' : Pos} {wi : TI} {g : TG} {tt : TT} {te : TE} {use : Option (Value → Sem Unit)} {Qf : Value → Shared → Prop}
    (hc : L2H.HotC X) (hN : X.N.Nodup) (I : Inv X pins σ H s) (hi : L2H.PIH X tg iter wi) (ok : BlkOk X.N X.env.scope scope own)
    (hg : ∀ (s : Shared) (H : Hp) (C : Addr) (cl : List (Str × Addr)) (fp : List Addr), PG ((X.blk s H scope (compEnvC scope cl C X.env) fp).tr X.pn fun _ _ => False) tg g) (ht : ∀ (s : Shared) (H : Hp) (C : Addr) (cl : List (Str × Addr)) (fp : List Addr), PTs ((X.blk s H scope (compEnvC scope cl C X.env) fp).tr X.pn fun _ _ => False) ifs tt)
    (he : ∀ (s : Shared) (H : Hp) (C : Addr) (cl : List (Str × Addr)) (fp : List Addr), PE ((X.blk s H scope (compEnvC scope cl C X.env) fp).tr X.pn fun _ _ => False) elt te) (hs : ∀ x, foldedSetIterable iter X.env x = pure x)
    (h : tLc wi g tt te (own.map (·.2)) σ H Q)
    (hRR : ∀ D C s' m H', Inv X pins σ H' s' → Q (.ref D) H' → s'.heap.Ns C m → FpOk X pins H' C → compPost (model X.prog X.w) X.A X.xe use Qf (.ref D) C (.ok .next) s') :
    wpAny (model X.prog X.w) X.A (comprehension (.ListComp elt [⟨tg, iter, ifs, 0⟩] scope pos) scope X.env pos' (newList []) false (eval iter X.env) use) Qf X.xe s := by
  have hfree : ∀ y ∈ scope.names, y.2 = .free → ∃ c, X.env.cells.lookup y.1 = some c := fun y hy e => by
    rcases ok.free y hy e with k | k
    · exact I.ok.has _ (.inl k)
    · exact I.ok.has _ (.inr k)
  refine wpAny_comprehension_free (use := use) rfl hs (closure_ok hfree) ok.kind (fun y hy e => by rw [ok.uniq y hy, e])
    (thn (hi.run pins s σ H _ I h) fun xv s1 hx => thn hx fun itv s2 h2 => ?_)
  obtain ⟨it, fp, tn, J, H2, e, I2, T, st2, f2, q⟩ := h2
  subst e
  refine wpAny_newObj_type (newEnv_comp ?_) (by show 0 ≤ sizeLine; decide)
  generalize hD : s2.heap.objs.size = D
  have hDn : H2 D = none := I2.hok.fresh (Nat.le_of_eq hD)
  obtain ⟨W, ⟨m0, w0⟩, turn⟩ := q D hDn
  -- the new list
  generalize hs3 : ({ s2 with heap := s2.heap.push { cls := .type "list", data := .seq ([] : List Value).toArray } } : Shared) = s3
  have I3 : Inv X pins σ (upd H2 D (.lst [])) s3 := by
    rw [← hs3]
    refine I2.laid (t' := s2.toks) (fun b o e => Heap.get?_push_of_some _ e) (Nat.le_of_eq hD) ⟨Nat.zero_le _, [], 0, .nil, ?_⟩
    rw [← hD]
    exact Heap.get?_push_size _ rfl
  have h3 : s3.heap = s2.heap.push { cls := .type "list", data := .seq ([] : List Value).toArray } := by rw [← hs3]
  have sz : ∀ b ∈ fp, b < s2.heap.objs.size := fun b hb => by
    obtain ⟨o, e, _⟩ := T.obj _ _ st2 b hb
    exact Heap.lt_size e
  have f3 : ∀ b ∈ fp, FpOk X pins (upd H2 D (.lst [])) b ∧ b < s3.heap.objs.size := fun b hb => by
    have hlt := sz b hb
    refine ⟨⟨?_, (f2 b hb).2⟩, by rw [h3, Heap.size_push]; exact Nat.lt_succ_of_lt hlt⟩
    rw [upd_ne (by rw [← hD]; exact Nat.ne_of_lt hlt)]
    exact (f2 b hb).1
  have st3 : tn 0 s3.heap := T.keep _ _ _ st2 fun b _ o e => by rw [h3]; exact Heap.get?_push_of_some _ e
  have I4 := block_startP I3 ok hN f3
  have pg := hg s3 (upd H2 D (.lst [])) s3.heap.objs.size (cellsFrom (s3.heap.objs.size + 1) scope.names (cloFrom X.env.cells scope.names [])) fp
  have pt := ht s3 (upd H2 D (.lst [])) s3.heap.objs.size (cellsFrom (s3.heap.objs.size + 1) scope.names (cloFrom X.env.cells scope.names [])) fp
  have pe := he s3 (upd H2 D (.lst [])) s3.heap.objs.size (cellsFrom (s3.heap.objs.size + 1) scope.names (cloFrom X.env.cells scope.names [])) fp
  show codeAny _ _ (.compStart (.ListComp elt [⟨tg, iter, ifs, 0⟩] scope pos) 0 (.ref it) (.ref D) (compEnvC scope (cellsFrom (s3.heap.objs.size + 1) scope.names (cloFrom X.env.cells scope.names [])) s3.heap.objs.size X.env)) (compPost (model X.prog X.w) X.A X.xe use Qf (.ref D) s3.heap.objs.size) { s3 with heap := pushCells (s3.heap.push { cls := .type "dict", data := .dict #[] }) scope.names }
  have nfp : ∀ b ∈ fp, (upd H2 D (.lst [])) b = none := fun b hb => (f3 b hb).1.1
  generalize hce : compEnvC scope (cellsFrom (s3.heap.objs.size + 1) scope.names (cloFrom X.env.cells scope.names [])) s3.heap.objs.size X.env = ce at I4 pg pt pe ⊢
  have cL : ce.locals = s3.heap.objs.size := by subst hce; rfl
  generalize hH3 : upd H2 D (.lst []) = H3 at I3 I4 pg pt pe w0 nfp f3
  generalize hs4 : ({ s3 with heap := pushCells (s3.heap.push { cls := .type "dict", data := .dict #[] }) scope.names } : Shared) = s4 at I4 ⊢
  have st4 : tn 0 s4.heap := T.keep _ _ _ st3 fun b _ o e => by rw [← hs4]; exact pushCells_keeps _ _ _ _ (Heap.get?_push_of_some _ e)
  have stat : ∀ {σ' : L2.St} {H' : Hp} {s' : Shared}, Inv ((X.blk s3 H3 scope ce fp).tr X.pn fun _ _ => False) [] σ' H' s' → (∀ b ∈ fp, H' b = none) → ∀ b ∈ fp, FpOk ((X.blk s3 H3 scope ce fp).tr X.pn fun _ _ => False) [] H' b := fun {σ' H' s'} I' hn b hb =>
    ⟨hn b hb, (I'.ok.exf b hb).1, I'.ok.exfs b hb, .inl hb, fun x c e => (I'.ok.exf b hb).2 x c e, fun p hp => (f3 b hb).1.2.2.2.2.2 p (List.mem_append_left _ (by simpa using (show p ∈ X.pn ++ [] from hp)))⟩
  have loop : codeAny (model X.prog X.w) X.A (.compLoop (.ListComp elt [⟨tg, iter, ifs, 0⟩] scope pos) 0 (.ref it) (.ref D) ce) (compPost (model X.prog X.w) X.A X.xe use Qf (.ref D) s3.heap.objs.size) s4 := by
    refine compLoop_any (fun n s' => ∃ i H', Inv ((X.blk s3 H3 scope ce fp).tr X.pn fun _ _ => False) [] (wipe σ (own.map (·.2))) H' s' ∧ tn i s'.heap ∧ (∀ b ∈ fp, H' b = none) ∧ W i n H') ?_ m0 ⟨0, H3, I4, st4, nfp, w0⟩
    rintro n s5 ⟨i, H5, I5, st5, n5, w5⟩
    rcases turn i n H5 w5 with ⟨stop, qq⟩ | ⟨go, Nx, hNx, step⟩
    · have td := T.done ((X.blk s3 H3 scope ce fp).tr X.pn fun _ _ => False) rfl rfl rfl (show L2H.HotC ((X.blk s3 H3 scope ce fp).tr X.pn fun _ _ => False) from hc) i [] s5 _ H5 (fun _ _ => False) I5 (stat I5 n5) st5 stop
      refine thnF td fun r s6 ⟨hr, I6⟩ => ?_
      subst hr
      -- back in the def's context
      have I7 : Inv X pins σ H5 s6 := I3.call' (ch := fp) I6.os I6.base I6.hok I6.bare fun b hb => ⟨(f3 b hb).1.2.2.2.1, (f3 b hb).1.2.1, (f3 b hb).1.2.2.2.2.1, (f3 b hb).1.2.2.2.2.2⟩
      have nC : H5 s3.heap.objs.size = none := by
        have z : H5 ce.locals = none := I6.free
        rw [cL] at z
        exact z
      obtain ⟨m, hn, _⟩ := I6.loc
      have hn : s6.heap.Ns ce.locals m := hn
      rw [cL] at hn
      exact hRR D s3.heap.objs.size s6 m H5 I7 qq hn (I3.fpOk (Nat.le_refl _) nC)
    · have ti := T.item ((X.blk s3 H3 scope ce fp).tr X.pn fun _ _ => False) rfl rfl rfl (show L2H.HotC ((X.blk s3 H3 scope ce fp).tr X.pn fun _ _ => False) from hc) i [] s5 _ H5 (fun _ _ => False) I5 (stat I5 n5) st5 go
      refine thnF ti fun r s6 ⟨u, hr, h6⟩ => ?_
      subst hr
      refine thnF h6 fun _ s7 ⟨x, H7, I7, r7, y7, st7, n7⟩ => ?_
      have I7' := I7.pinned (stat I7 n7) (T.obj _ _ st7)
      refine thnF (pg.run _ s7 _ H7 x u _ I7' r7 (step x H7 y7)) fun _ s8 ⟨σ8, H8, I8, hw8, q8⟩ => ?_
      refine thnF (pt.run _ s8 σ8 H8 _ I8 q8) fun b s9 ⟨H9, I9, q9⟩ => ?_
      -- the turn's end
      have fin : ∀ {s' : Shared} {H' : Hp}, Inv ((X.blk s3 H3 scope ce fp).tr X.pn fun _ _ => False) ([] ++ pinsAt fp s7.heap) σ8 H' s' → Nx H' → ∃ m, m < n ∧ ∃ i H', Inv ((X.blk s3 H3 scope ce fp).tr X.pn fun _ _ => False) [] (wipe σ (own.map (·.2))) H' s' ∧ tn i s'.heap ∧ (∀ b ∈ fp, H' b = none) ∧ W i m H' := fun {s' H'} I' nx => by
        obtain ⟨m', hm, w'⟩ := hNx H' nx
        have pin' : ∀ b ∈ fp, ∀ o, s7.heap.get? b = some o → s'.heap.get? b = some o ∧ H' b = none := fun b hb o e =>
          let z := I'.pin (b, o) (List.mem_append_right _ (List.mem_append_right _ (mem_pinsAt hb e)))
          ⟨z.1, z.2.1⟩
        have hl : (wipe σ (own.map (·.2))).length = σ8.length := by rw [← hw8, wipe_length]
        refine ⟨m', hm, i + 1, H', (I'.unpinned (pins := [])).weak hl (fun j v e => ?_), T.keep _ _ _ st7 fun b hb o e => (pin' b hb o e).1, fun b hb => ?_, w'⟩
        · rw [← hw8] at e
          exact (wipe_some e).1
        · obtain ⟨o, e, _⟩ := T.obj _ _ st7 b hb
          exact (pin' b hb o e).2
      cases b with
      | false =>
        simp only [Bool.false_eq_true, if_false] at q9 ⊢
        exact fin I9 q9
      | true =>
        simp only [if_true] at q9 ⊢
        refine thnF (pe.run _ s9 σ8 H9 _ I9 q9) fun z s10 ⟨yv, H10, I10, r10, acc, hD10, hz10, nx⟩ => ?_
        exact app_ok (X := ((X.blk s3 H3 scope ce fp).tr X.pn fun _ _ => False)) I10 hD10 hz10 r10 fun s11 I11 => fin I11 nx
  exact codeAny_compStart_list loop (T.self X.A 0 _ _ _ st4 loop)
theorem pe_lcH {elt tg iter : Expr} {ifs : List Expr} {scope : Scope} {own : List (Str × Nat)} {pos : Pos} {wi : TI} {g : TG} {tt : TT} {te : TE} (hc : L2H.HotC X) (hN : X.N.Nodup) (hi : L2H.PIH X tg iter wi) (ok : BlkOk X.N X.env.scope scope own)
    (hg : ∀ (s : Shared) (H : Hp) (C : Addr) (cl : List (Str × Addr)) (fp : List Addr), PG ((X.blk s H scope (compEnvC scope cl C X.env) fp).tr X.pn fun _ _ => False) tg g) (ht : ∀ (s : Shared) (H : Hp) (C : Addr) (cl : List (Str × Addr)) (fp : List Addr), PTs ((X.blk s H scope (compEnvC scope cl C X.env) fp).tr X.pn fun _ _ => False) ifs tt)
    (he : ∀ (s : Shared) (H : Hp) (C : Addr) (cl : List (Str × Addr)) (fp : List Addr), PE ((X.blk s H scope (compEnvC scope cl C X.env) fp).tr X.pn fun _ _ => False) elt te) (hs : ∀ x, foldedSetIterable iter X.env x = pure x := by intro _; rfl) :
    PE X (.ListComp elt [⟨tg, iter, ifs, 0⟩] scope pos) (tLc wi g tt te (own.map (·.2))) := by
  refine ⟨fun pins s σ H Q I h => ?_⟩
  rw [eval_ListComp]
  refine lc_coreH hc hN I hi ok hg ht he hs h fun D C s' m H' I' q hn f => ⟨m, hn, fun h'' sb => ?_⟩
  obtain ⟨f0, f1, f2, f3, f4, f5⟩ := f
  exact ⟨.ref D, H', I'.turned (t' := s'.toks) (fun b o hb e => (sb.2 b hb).trans e) f0 f1 f3 f4 f5, rfl, q⟩
end
/-! ### a def called where p's exception is handled -/
structure FnHp (P : Program) (w : World) (K : PySem.W.Frag) (mg : Str → Option Value) (base : Heap) (CX : CXT) (p : Addr × Obj) (k : Nat) (f : Addr) (fd : FuncData) (ps : List Str) (sp : Sp) : Prop where
  len : ∀ vs H Q E, sp vs H Q E → vs.length = ps.length
  run : ∀ (A : Around) (outer : List Env) (s : Shared) (H : Hp) (args : Args) (us : List Value) (vs : List V) (Q : VK) (E : XK), L2H.RoomH k A → L2H.Hot1 A p → L2H.PinOk outer H s p → Env0 P w K mg base A outer s H → BindsTo s fd args (ps.zip us) → Vals vs us → sp vs H Q E →
    codeAny (model P w) A (.call (.ref f) args) (CR CX outer P w H s Q E) s
theorem fn_ofP {CX : CXT} {p : Addr × Obj} {P : Program} {w : World} {K : PySem.W.Frag} {mg : Str → Option Value} {base : Heap} {k : Nat} {f : Addr} {name qual : Str} {params : Arguments} {body : List Stmt} {scope : Scope} {dV kV doc pm cdv ct oc : Value} {an od : Option Addr}
    {osl : Array (Option Value)} {N ps : List Str} {sp : Sp} (lk : K.lookup f = some ⟨oc, od, .func (PySem.W.fnOf name qual params body scope dV kV doc pm an cdv ct), osl⟩) (hcd : PySem.W.codeIn K cdv qual = true) (S : FnScope N ps scope)
    (len : ∀ vs H Q E, sp vs H Q E → vs.length = ps.length)
    (hbody : ∀ (A : Around) (outer : List Env) (s : Shared) (H : Hp) (vs : List V) (Q : VK) (E : XK), L2H.Hot1 A p → L2H.RoomH k (A.deeper (envOfC qual scope s.heap.objs.size f cdv)) → sp vs H Q E →
      ∃ t, PSs (L2H.cxH CX P w K mg base N qual scope f cdv A outer s H E p) body t ∧ t { nx := fun _ H' => Q .non H', rt := Q } (L2.start N vs) H) :
    FnHp P w K mg base CX p (k + 1) f (PySem.W.fnOf name qual params body scope dV kV doc pm an cdv ct) ps sp := by
  refine ⟨len, fun A outer s H args us vs Q E hr hot hpin e0 hb r hsp => ?_⟩
  have hl := len _ _ _ _ hsp
  have KX : K.In s.heap := e0.mod.kin.keeps fun b o e => (e0.bs b o e).1
  have lim : s.heap.NoLimit := e0.mod.nolimit.keeps fun b o e => (e0.bs b o e).1
  have hkind : ∀ y ∈ ps.zip us, scope.names.lookup y.1 = some .local ∨ (scope.names.lookup y.1 = some .cell ∧ ((cellsFrom (s.heap.objs.size + 1) scope.names []).lookup y.1).isSome = true) := fun ⟨n, v⟩ hy => by
    rcases S.par n (List.of_mem_zip hy).1 with q | q
    · exact .inl q
    · exact .inr ⟨q, PySem.W.cellsFrom_some _ _ _ (.inl q)⟩
  refine codeAny_call_function hr.depth (KX _ _ lk) rfl S.co S.gen rfl (PySem.W.codeRec_of KX hcd) (hb _ _ _ _ ?_)
  refine wpAny_newFunctionEnv_cells S.kind hkind fun env he s1 x => ?_
  subst he
  refine ⟨lim.keeps x.toInCall.keep, codeAny_func ?_⟩
  obtain ⟨t, ht, hq⟩ := hbody A outer s H vs Q E hot (hr.deeper _) hsp
  have I : Inv (L2H.cxH CX P w K mg base N qual scope f cdv A outer s H E p) [] (L2.start N vs) H s1 := L2H.inv_startH S hpin e0 hl r x
  refine wpAny_mono (ht.run [] s1 (L2.start N vs) H _ I hq) (fun fl s' hs => ?_) fun e s' hs => hs
  have fin : ∀ {σ' : L2.St} {H' : Hp} {v : V} {u : Value}, Inv (L2H.cxH CX P w K mg base N qual scope f cdv A outer s H E p) [] σ' H' s' → RelV v u → Q v H' → CE outer P w H s Q u s' :=
    fun {σ' H' v u} J rv q => ⟨v, H', J.os, J.bare, J.base, J.hok, rv, q⟩
  cases fl with
  | ret u =>
    obtain ⟨v, σ', H', J, rv, q⟩ := hs
    exact fin J rv q
  | next =>
    obtain ⟨σ', H', J, q⟩ := hs
    exact fin (v := V.non) (u := Value.none) J rfl q
  | brk =>
    obtain ⟨_, _, _, q⟩ := hs
    exact False.elim q
  | cont =>
    obtain ⟨_, _, _, q⟩ := hs
    exact False.elim q

end EB

namespace EB
open PySem L2 PySem.Spec PyProof.Rows
/-! ### the handled exception, asked by a def that is called in the suite -/
section
variable {X : Cx} {a : Addr} {oe : Obj} {cls : Value} {d : Option Addr} {pn : List (Addr × Obj)}
theorem SuX.instG {pins : List (Addr × Obj)} {σ : L2.St} {H : Hp} {s : Shared} {C : Addr} {w : V} (hm : (a, oe) ∈ X.pn) (hz : Zc cls d oe) (hf : ∃ vs, oe.data = .fields vs) (I : L2.Inv X pins σ H s) (x : SuX H cls d C w) :
    ∃ (od : Obj) (l : Str → Option Value), PySem.W.InstAt s.heap a oe C (some od) ∧ (∀ f, PySem.W.lookIn f od = some (l f)) ∧ ∀ f, RelO (List.lookup f [(("what" : Str), w)]) (l f) := by
  obtain ⟨rfl, dd, rfl, h2⟩ := x
  obtain ⟨g, _⟩ := I.pin (a, oe) (List.mem_append_left _ hm)
  obtain ⟨vs, hd⟩ := hf
  have hx : ObjOk X.prog X.w H s.heap dd (.xd [(("what" : Str), w)]) := I.hok dd _ h2
  obtain ⟨mA, hns, hr⟩ := hx
  obtain ⟨od, ho, hl⟩ := lookIn_ns hns
  exact ⟨od, mA, ⟨g, hz.1, by unfold PySem.W.notCls; rw [hd] <;> rfl, by rw [hz.2]; exact ho⟩, hl, hr⟩
theorem cIsPG (hm : (a, oe) ∈ X.pn) (hz : Zc cls d oe) (hf : ∃ vs, oe.data = .fields vs) : CallR X (.builtin "isinstance") (rIsP X.K a cls d) := by
  intro pins s σ H xs us Q I rel want
  obtain ⟨c, w, B, C, b, rfl, x, xc, alt, q⟩ := want
  obtain ⟨od, l, J, _, _⟩ := x.instG hm hz hf I
  cases rel with
  | cons r1 rr =>
    cases rr with
    | cons r2 rn =>
      cases rn
      cases r1
      have Z := PySem.W.kitx_exc (K := X.K) (x := a) (ox := oe) (od := some od) (clsIn_some xc.cl) xc.ga xc.gg xc.ox.exC xc.ca xc.cg xc.ct xc.mo
      have done : ∀ tk : Nat, EP X pins σ Q (.bool b) { s with toks := tk } := fun tk => ⟨.bl b, H, I.kept (t' := tk) fun _ _ z => z, rfl, q⟩
      rcases alt with ⟨cv, hcv, e⟩ | ⟨t, cs, cvs, rfl, ht, hcs, e⟩
      · rw [hcv.eq r2]
        exact PySem.W.kia_one Z I.kIn J e (fun z => nomatch z) done
      · cases r2
        obtain ⟨_, its, rv, o, h1, h2, n, h3⟩ := (show ObjOk X.prog X.w H s.heap t (.tup cs) from I.hok t _ ht)
        obtain rfl := ClsV.all hcs rv
        obtain ⟨oc, od', da, sl⟩ := o
        dsimp only at h2 h3
        subst h2 h3
        exact PySem.W.kia_tup Z I.kIn J h1 e (fun z => nomatch z) done
theorem pe_whatPG {e : Expr} {te : TE} {pos : Pos} (hm : (a, oe) ∈ X.pn) (hz : Zc cls d oe) (hf : ∃ vs, oe.data = .fields vs) (he : PE X e te) (hb : attributeBase e "what" X.env (eval e X.env) = eval e X.env := by rfl) :
    PE X (.Attribute e "what" pos) (tWhatP X.K a cls d te) := by
  refine ⟨fun pins s σ H Q I h => attr_of hb (thn (he.run pins s σ H _ I h) ?_)⟩
  rintro u s1 ⟨v, H1, I1, rv, B, C, w, rfl, x, xc, q⟩
  obtain ⟨od, l, J, hl, hr⟩ := x.instG hm hz hf I1
  obtain rfl : u = Value.ref a := rv
  have lk : List.lookup ("what" : Str) [(("what" : Str), w)] = some w := by simp [List.lookup]
  obtain ⟨u, hu, ru⟩ := RelO.some_of (v := w) (o := l "what") (by rw [← lk]; exact hr "what")
  exact HandSPX.exc_get I1.kIn J xc.ga xc.gg xc.ox.exC (PySem.W.findObj_own xc.hd xc.no rfl (by rw [hl, hu])) (handed_of ru) ⟨w, H1, I1.tok _, ru, q⟩
end
theorem hotC {X : Cx} {p : Addr × Obj} (h : L2H.Hot1 X.A p) (hm : p ∈ X.pn) : L2H.HotC X := ⟨p, h, hm⟩
def FnP (P : Program) (w : World) (K : PySem.W.Frag) (mg : Str → Option Value) (base : Heap) (k : Nat) (f : Addr) (fd : FuncData) (ps : List Str) (sp : Addr → Value → Option Addr → Sp) : Prop :=
  ∀ (p : Addr × Obj) (cls : Value) (d : Option Addr), L2N.Zn cls d p.2 → (∃ vs, p.2.data = .fields vs) → FnHp P w K mg base CX0 p k f fd ps (sp p.1 cls d)
structure CalP (P : Program) (w : World) (K : PySem.W.Frag) (mg : Str → Option Value) (base : Heap) (k : Nat) (x : Str) (sp : Addr → Value → Option Addr → Sp) : Prop where
  ex : ∃ (f : Addr) (fd : FuncData) (ps : List Str), FnP P w K mg base k f fd ps sp ∧ mg x = some (.ref f) ∧ PySem.W.keepIn K (.ref f) = true ∧ Binds K fd ps []
section
variable {P : Program} {w : World} {K : PySem.W.Frag} {mg : Str → Option Value} {base : Heap}
theorem calP_of {x qual : Str} {st : Stmt} {f : Addr} {fd : FuncData} {ps : List Str} {k : Nat} {sp : Addr → Value → Option Addr → Sp} (F : Fun K x qual st f fd) (mine : mg x = some (.ref f)) (b : Binds K fd ps []) (G : FnP P w K mg base k f fd ps sp) : CalP P w K mg base k x sp := ⟨f, fd, ps, G, mine, F.kp, b⟩
theorem _root_.L2.Fun.okP {x qual : Str} {st : Stmt} {f : Addr} {fd : FuncData} {N ps : List Str} {k : Nat} {sp : Addr → Value → Option Addr → Sp} (F : Fun K x qual st f fd) (S : FnScope N ps (defScope st)) (len : ∀ a cls d vs H Q E, sp a cls d vs H Q E → vs.length = ps.length)
    (hbody : ∀ (pp : Addr × Obj) (cls : Value) (d : Option Addr), L2N.Zn cls d pp.2 → (∃ vs, pp.2.data = .fields vs) → ∀ (cdv : Value) (A : Around) (outer : List Env) (s : Shared) (H : Hp) (vs : List V) (Q : VK) (E : XK), L2H.Hot1 A pp → L2H.RoomH k (A.deeper (envOfC qual (defScope st) s.heap.objs.size f cdv)) → sp pp.1 cls d vs H Q E →
      ∃ t, PSs (L2H.cxH CX0 P w K mg base N qual (defScope st) f cdv A outer s H E pp).nox (defBody st) t ∧ t { nx := fun _ H' => Q .non H', rt := Q } (start N vs) H) : FnP P w K mg base (k + 1) f fd ps sp := by
  obtain ⟨oc, od, kV, doc, pm, an, cdv, ct, osl, rfl, lk, hcd⟩ := F.ex
  intro pp cls d hz hf
  refine fn_ofP lk hcd S (len pp.1 cls d) fun A outer s H vs Q E hot hr hsp => ?_
  obtain ⟨t, h, q⟩ := hbody pp cls d hz hf cdv A outer s H vs Q E hot hr hsp
  exact ⟨t, h.nox, q⟩
end
section
variable {X : Cx} {a : Addr} {oe : Obj} {cls : Value} {d : Option Addr} {pn : List (Addr × Obj)} {k j : Nat} {x : Str} {q pos : Pos} {e : Expr} {es : List Expr} {t : TA} {sp : Addr → Value → Option Addr → Sp}
theorem run_fnHp {CX : CXT} {p : Addr × Obj} {f : Addr} {fd : FuncData} {ps : List Str} {sp : Sp} {E : L2.St → XK} {pins : List (Addr × Obj)} {σ : L2.St} {H : Hp} {s : Shared} {Q : VK} {us : List Value} {vs : List V} (F : FnHp X.prog X.w X.K X.mg X.base CX p k f fd ps sp) (hr : L2H.RoomH k X.A) (hot : L2H.Hot1 X.A p) (hp : p ∈ X.pn) (hb : Binds X.K fd ps []) (hx : PassesAt CX X σ (E σ))
    (I : Inv X pins σ H s) (r : Vals vs us) (h : sp vs H Q (E σ)) : wpAny (model X.prog X.w) X.A (call (.ref f) us) (EP X pins σ Q) X.xe s := by
  have hl : us.length = ps.length := by rw [← r.length]; exact F.len _ _ _ _ h
  have b := hb s us I.kIn (by rw [List.append_nil]; exact hl)
  rw [List.append_nil] at b
  have P1 := I.pin p (List.mem_append_left _ hp)
  have hpin : L2H.PinOk X.stack H s p := ⟨P1.1, P1.2.1, fun hm => (List.mem_cons.mp (I.stkSub p.1 hm)).elim P1.2.2.1 P1.2.2.2.1, P1.2.2.2.2⟩
  refine wpAny_call (codeAny_mono (F.run X.A X.stack s H ⟨us, []⟩ us vs Q (E σ) hr hot hpin I.env0 b r h) fun r s' hq => ?_)
  cases r with
  | error e => exact hx pins H s e s' I hq
  | ok fl =>
    cases fl with
    | ret u => exact I.after hq
    | next => exact False.elim hq
    | brk => exact False.elim hq
    | cont => exact False.elim hq
theorem pe_cP (c : CalP X.prog X.w X.K X.mg X.base k x sp) (hz : L2N.Zn cls d oe) (hf : ∃ vs, oe.data = .fields vs) (hr : Room j X.A) (hk : k ≤ j) (hg : Gl X x) (ha : PA (X.suite a ((a, oe) :: pn)) (e :: es) t)
    (hdb : (x == ("__debug__" : Str)) = false := by decide) (he : starEach (e :: es) X.env = (false, eval e X.env) :: starEach es X.env := by rfl) (hpl : (backTo pos (starEach es X.env)).any (·.1) = false := by rfl) :
    PE (X.suite a ((a, oe) :: pn)) (.Call (.Name x q) (e :: es) [] pos) (tCall (sp a cls d) [] E0 t) := by
  obtain ⟨f, fd, ps, F, hm, kp, b⟩ := c.ex
  refine ⟨fun pins s σ H Q I h => ?_⟩
  refine wpAny_Call_Name_kw (ld_glob (X := X.suite a ((a, oe) :: pn)) I hg hm ?_ hdb)
  refine PySem.W.callWith_K (h₀ := X.base) I.ok.mod.kin kp (thn (ha.run pos pins s σ H _ I h) fun us s1 ⟨vs, H1, I1, r, q⟩ => ⟨I1.kIn, ?_⟩) he hpl
  have hr2 : L2H.RoomH k (X.suite a ((a, oe) :: pn)).A := ⟨(L2H.roomH_of (hr.mono hk)).dp, (L2H.roomH_of (hr.mono hk)).un⟩
  have hot : L2H.Hot1 (X.suite a ((a, oe) :: pn)).A (a, oe) := ⟨rfl, by
    obtain ⟨v1, hv⟩ := hf
    exact ⟨v1, hv, hz.2.2 v1 hv⟩⟩
  exact run_fnHp (X := X.suite a ((a, oe) :: pn)) (E := fun _ => E0) (F (a, oe) cls d hz hf) hr2 hot List.mem_cons_self b (fun _ _ _ _ _ _ h => h.elim) I1 r (by
    have q : sp a cls d (vs ++ []) H1 Q E0 := q
    rw [List.append_nil] at q
    exact q)
end
end EB

namespace EB
open PySem L2 PySem.Spec PyProof.Rows
/-! ### list.remove of an int -/
theorem erase_filter : ∀ {l : List Int} {j : Nat} {k : Int}, l.Nodup → l[j]? = some k → l.eraseIdx j = l.filter (fun x => decide (x ≠ k))
  | [], _, _, _, h => by cases h
  | a :: l, 0, k, nd, h => by
    have e : a = k := Option.some.inj h
    subst e
    have hn := (List.nodup_cons.mp nd).1
    rw [List.eraseIdx_cons_zero, List.filter_cons, if_neg (by simp)]
    exact (List.filter_eq_self.mpr fun x hx => by
      rw [decide_eq_true_eq]
      exact fun z => hn (z ▸ hx)).symm
  | a :: l, j + 1, k, nd, h => by
    have h : l[j]? = some k := h
    have hn := (List.nodup_cons.mp nd)
    have hk : a ≠ k := fun z => hn.1 (z ▸ List.mem_of_getElem? h)
    rw [List.eraseIdx_cons_succ, List.filter_cons, if_pos (by simpa using hk), erase_filter hn.2 h]
theorem g_remove {G H : Hp} {L : List Res} {p : Addr} {ns : List Int} {k : Int} {Q : VK} (s : Sep G H (OwnL p ns :: L)) (h : k ∈ ns) (nd : ns.Nodup) (q : ∀ H', Sep G H' (OwnL p (ns.filter fun x => decide (x ≠ k)) :: L) → Q .non H') : rRemI (.ref p) [.int k] H Q := by
  obtain ⟨j, hj⟩ := List.mem_iff_getElem?.mp h
  obtain ⟨ws, rs, t⟩ := s.ownO
  obtain rfl := Reps.ints rs
  refine ⟨p, ns, k, j, rfl, rfl, t.cellAt, hj, fun m hm e => ?_, ?_⟩
  · obtain ⟨h1, e1⟩ := List.getElem?_eq_some_iff.mp e
    obtain ⟨h2, e2⟩ := List.getElem?_eq_some_iff.mp hj
    have := (List.pairwise_iff_getElem.mp nd) m j h1 h2 hm
    exact this (e1.trans e2.symm)
  · rw [erase_filter nd hj]
    exact q _ (t.cellSet.ownI (reps_ints _))
/-- sorted of a list of pairs that is owned -/
theorem g_srtPO {K : PySem.W.Frag} {G H : Hp} {L : List Res} {b : Addr} {Q : VK} {ns : List (Int × Int)} (s : Sep G H (OwnL b ns :: L)) (q : ∀ p H', Sep G H' (OwnL p (upP ns) :: OwnL b ns :: L) → Q (.ref p) H') : rSrt K [.ref b] H Q := by
  obtain ⟨vs, rs, t⟩ := s.ownO
  obtain ⟨e, hx⟩ := kOf_all rs
  refine .inr ⟨b, vs, kOf G, rfl, .inl (.inl t.cellAt), fun x m => ?_, fun ys l h1 h2 hl => ?_⟩
  · obtain ⟨t', e, ht⟩ := hx x m
    exact ⟨t', e, s.gh _ _ ht⟩
  · have h3 := upP_uniq (xs := ns) (ys := ys.map (kOf G)) (by rw [← e]; exact h2.perm.map _) (srtd_leP h1)
    rw [← h3] at q
    exact q l _ (s.ownNew hl (kOf_reps fun v hv => hx v (h2.perm.mem_iff.mp hv)))
end EB

namespace EB
open PySem L2 PySem.Spec PyProof.Rows
theorem g_gsub {to ti : TE} {t : TSet} {v : V} {σ : L2.St} {H : Hp} {Q : L2.St → Hp → Prop} (h : to σ H fun o H1 => ti σ H1 fun i H2 => t o i v H2 fun H3 => Q σ H3) : gSub to ti t v σ H Q := h
/-! ### texts, by their lengths alone -/
def rMulS : R2 := fun x y H Q => ∃ (z : Str) (k : Int), x = .str z ∧ y = .int k ∧ MulOk z k ∧ Q (.str (Txt.mul z k)) H
theorem opMulS {X : Cx} : OpR X (binaryOp .Mult) rMulS := by
  intro pins s σ H x y v u Q I rx ry h
  obtain ⟨z, k, rfl, rfl, hm, q⟩ := h
  obtain ⟨t, rfl⟩ := rx
  obtain ⟨t2, rfl⟩ := ry
  exact SB.mul hm fun t' tk => ⟨.str (Txt.mul z k), H, I.tok _, ⟨t', rfl⟩, q⟩
theorem any_S (z : Str) : ∃ l : List Nat, z = SX.S l ∧ l.length = z.length := ⟨z.cps.toList, (SX.S_tl z).symm, by
  conv => rhs; rw [← SX.S_tl z]
  exact (SX.S_len _).symm⟩
theorem any_Ss : ∀ zs : List Str, ∃ ls : List (List Nat), zs = ls.map SX.S ∧ ls.map (·.length) = zs.map (·.length)
  | [] => ⟨[], rfl, rfl⟩
  | z :: zs => by
    obtain ⟨l, e, hl⟩ := any_S z
    obtain ⟨ls, es, hs⟩ := any_Ss zs
    exact ⟨l :: ls, by rw [List.map_cons, ← e, ← es], by rw [List.map_cons, List.map_cons, hl, hs]⟩
abbrev Ok (z : Str) : Prop := PyData.strOk z = true
theorem S_ok {l : List Nat} : Ok (SX.S l) ↔ ∀ c ∈ l, c < 0x110000 := by
  unfold Ok PyData.strOk
  rw [← Array.all_toList, List.all_eq_true]
  exact ⟨fun h c hc => of_decide_eq_true (h c hc), fun h c hc => decide_eq_true (h c hc)⟩
theorem spl_ok (S : List Nat) : ∀ (l : List Nat) (k : Nat) (acc : List Nat), (∀ c ∈ acc, c < 0x110000) → (∀ c ∈ l, c < 0x110000) → ∀ w ∈ TL.spl S k acc l, ∀ c ∈ w, c < 0x110000
  | [], k, acc, ha, _ => by
    rw [TL.spl_nil]
    intro w hw
    rw [List.mem_singleton.mp hw]
    exact ha
  | x :: r, 0, acc, ha, hl => by
    have hr : ∀ c ∈ r, c < 0x110000 := fun c hc => hl c (List.mem_cons_of_mem _ hc)
    cases h : TL.pre S (x :: r) with
    | true =>
      rw [TL.spl_hit h]
      intro w hw
      rcases List.mem_cons.mp hw with rfl | hw
      · exact ha
      · exact spl_ok S r _ [] (fun c hc => by cases hc) hr w hw
    | false =>
      rw [TL.spl_miss h]
      refine spl_ok S r 0 (acc ++ [x]) (fun c hc => ?_) hr
      rcases List.mem_append.mp hc with hc | hc
      · exact ha c hc
      · rw [List.mem_singleton.mp hc]
        exact hl x (List.mem_cons_self ..)
  | x :: r, k + 1, acc, ha, hl => spl_ok S r k acc ha fun c hc => hl c (List.mem_cons_of_mem _ hc)
theorem joinS_ok {S : List Nat} (hS : ∀ c ∈ S, c < 0x110000) : ∀ {ps : List (List Nat)}, (∀ p ∈ ps, ∀ c ∈ p, c < 0x110000) → ∀ c ∈ TL.joinL S ps, c < 0x110000
  | [], _ => fun c hc => by cases hc
  | [p], h => h p (List.mem_cons_self ..)
  | p :: q :: r, h => fun c hc => by
    have hc : c ∈ p ++ (S ++ TL.joinL S (q :: r)) := hc
    rcases List.mem_append.mp hc with hc | hc
    · exact h p (List.mem_cons_self ..) c hc
    · rcases List.mem_append.mp hc with hc | hc
      · exact hS c hc
      · exact joinS_ok hS (fun z hz => h z (List.mem_cons_of_mem _ hz)) c hc
section
variable {K : PySem.W.Frag} {G H : Hp} {L : List Res} {Q : VK} {z a b : Str} {p : Addr}
theorem g_ixStr {k : Int} (hl : z.length ≤ 1000000) (h0 : 0 ≤ k) (h1 : k < z.length) (q : ∀ y : Str, y.length = 1 → (Ok z → Ok y) → Q (.str y) H) : rIx K (.str z) (.int k) H Q := by
  obtain ⟨l, rfl, el⟩ := any_S z
  exact g_ixS (c := l[k.toNat]'(by omega)) (by omega) h0 (List.getElem?_eq_getElem (by omega)) (q _ (by rw [SX.S_len]; rfl) fun h => S_ok.mpr fun c hc => by
    rw [List.mem_singleton.mp hc]
    exact S_ok.mp h _ (List.getElem_mem _))
theorem g_addStr (h : a.length + b.length ≤ 1000000) (q : ∀ y : Str, y.length = a.length + b.length → (Ok a → Ok b → Ok y) → Q (.str y) H) : rAdd (.str a) (.str b) H Q := by
  obtain ⟨l, rfl, el⟩ := any_S a
  obtain ⟨m, rfl, em⟩ := any_S b
  exact g_addS (by omega) (q _ (by rw [SX.S_len, List.length_append]; omega) fun h1 h2 => S_ok.mpr fun c hc => by
    rcases List.mem_append.mp hc with hc | hc
    · exact S_ok.mp h1 c hc
    · exact S_ok.mp h2 c hc)
theorem g_slToStr {k : Int} (h0 : 0 ≤ k) (hl : z.length ≤ 1000000) (q : ∀ y : Str, y.length ≤ z.length → y.length ≤ k.toNat → (Ok z → Ok y) → Q (.str y) H) : rSlA K (.str z) none (some k) H Q := by
  obtain ⟨l, rfl, el⟩ := any_S z
  have e : k = ((k.toNat : Nat) : Int) := by omega
  rw [e]
  refine g_slTo (by omega) (q _ ?_ ?_ fun h => S_ok.mpr fun c hc => S_ok.mp h c (List.mem_of_mem_take hc))
  · rw [SX.S_len, List.length_take]
    omega
  · rw [SX.S_len, List.length_take]
    omega
theorem g_slFromStr {k : Int} (h0 : 0 ≤ k) (hl : z.length ≤ 1000000) (q : ∀ y : Str, y.length ≤ z.length → (Ok z → Ok y) → Q (.str y) H) : rSlA K (.str z) (some k) none H Q := by
  obtain ⟨l, rfl, el⟩ := any_S z
  have e : k = ((k.toNat : Nat) : Int) := by omega
  rw [e]
  refine g_slFrom (by omega) (q _ ?_ fun h => S_ok.mpr fun c hc => S_ok.mp h c (List.mem_of_mem_drop hc))
  rw [SX.S_len, List.length_drop]
  omega
theorem spl_wt (S : List Nat) : ∀ (l : List Nat) (k : Nat) (acc : List Nat), k ≤ l.length → ((TL.spl S k acc l).map (·.length)).sum + S.length * (TL.spl S k acc l).length + k ≤ acc.length + l.length + S.length ∧ TL.spl S k acc l ≠ []
  | [], k, acc, h => by
    rw [TL.spl_nil]
    simp at h
    subst h
    simp
  | c :: r, 0, acc, _ => by
    cases h : TL.pre S (c :: r) with
    | true =>
      rw [TL.spl_hit h]
      have hp : S.length ≤ (c :: r).length := by
        have e : (c :: r).take S.length = S := by simpa [TL.pre] using h
        have := congrArg List.length e
        rw [List.length_take] at this
        omega
      rw [List.length_cons] at hp
      have ih := (spl_wt S r (S.length - 1) [] (by omega)).1
      refine ⟨?_, by simp⟩
      rw [List.map_cons, List.sum_cons, List.length_cons, Nat.mul_add, List.length_cons]
      simp only [List.length_nil] at ih
      omega
    | false =>
      rw [TL.spl_miss h]
      have ih := spl_wt S r 0 (acc ++ [c]) (Nat.zero_le _)
      refine ⟨?_, ih.2⟩
      have ih := ih.1
      rw [List.length_append, List.length_singleton] at ih
      rw [List.length_cons]
      omega
  | c :: r, k + 1, acc, h => by
    have h : k ≤ r.length := by simpa using h
    have ih := spl_wt S r k acc h
    show ((TL.spl S k acc r).map (·.length)).sum + S.length * (TL.spl S k acc r).length + (k + 1) ≤ _ ∧ TL.spl S k acc r ≠ []
    refine ⟨?_, ih.2⟩
    have := ih.1
    rw [List.length_cons]
    omega
/-- how much a list of texts weighs, each with a joint of m signs -/
def wt (m : Nat) (zs : List Str) : Nat := (zs.map (·.length)).sum + m * zs.length
theorem g_splitStr (s : Sep G H L) (hb : 0 < b.length) (hk : b.cps.toList.all (· < 256) = true) (hl : a.length + 2 ≤ 1000000) (q : ∀ p H' (zs : List Str), zs ≠ [] → wt b.length zs ≤ a.length + b.length → (Ok a → ∀ z ∈ zs, Ok z) → Sep G H' (OwnL p zs :: L) → Q (.ref p) H') : rSplit (.str a) [.str b] H Q := by
  obtain ⟨l, rfl, el⟩ := any_S a
  have eb : b = SX.S b.cps.toList := (SX.S_tl b).symm
  have lb : b.cps.toList.length = b.length := by
    conv => rhs; rw [eb]
    exact (SX.S_len _).symm
  generalize b.cps.toList = m at eb lb hk
  subst eb
  refine g_split s (fun z => by
    rw [z] at lb hb
    simp only [List.length_nil] at lb
    omega) hk (by omega) fun p H' st => q p H' _ ?_ ?_ (fun h z hz => by
    obtain ⟨w, hw, rfl⟩ := List.mem_map.mp hz
    exact S_ok.mpr (spl_ok m l 0 [] (fun c hc => by cases hc) (S_ok.mp h) w hw)) st
  · have := (spl_wt m l 0 [] (Nat.zero_le _)).2
    simpa using this
  · have := (spl_wt m l 0 [] (Nat.zero_le _)).1
    unfold wt
    rw [List.map_map, List.length_map]
    have e : (fun x : Str => x.length) ∘ SX.S = fun x : List Nat => x.length := funext fun x => SX.S_len x
    rw [e]
    simp only [List.length_nil] at this
    rw [← lb]
    omega
theorem g_joinStr {zs : List Str} (r : Rep G (.ref p) zs) (s : Same G H) (hl : wt a.length zs ≤ 1000000) (q : ∀ y : Str, y.length ≤ wt a.length zs → (Ok a → (∀ z ∈ zs, Ok z) → Ok y) → Q (.str y) H) : rJn K (.str a) [.ref p] H Q := by
  obtain ⟨l, rfl, el⟩ := any_S a
  obtain ⟨ls, rfl, es⟩ := any_Ss zs
  unfold wt at hl q
  rw [← es, List.length_map, ← el] at hl q
  refine g_joinS r s (by rw [Nat.mul_comm]; exact hl) (q _ ?_ fun h1 h2 => S_ok.mpr (joinS_ok (S_ok.mp h1) fun p hp => S_ok.mp (h2 _ (List.mem_map.mpr ⟨p, hp, rfl⟩))))
  rw [SX.S_len]
  have jl : ∀ ps : List (List Nat), (TL.joinL l ps).length ≤ (ps.map (·.length)).sum + l.length * ps.length := fun ps => by
    induction ps with
    | nil => simp [TL.joinL]
    | cons p ps ih =>
      cases ps with
      | nil => simp [TL.joinL]
      | cons q qs =>
        have e : TL.joinL l (p :: q :: qs) = p ++ l ++ TL.joinL l (q :: qs) := by simp [TL.joinL]
        rw [e, List.length_append, List.length_append, List.map_cons, List.sum_cons, List.length_cons, Nat.mul_add]
        omega
  exact jl ls
theorem g_ne0S {zs : List Str} {v : V} (hk : ∀ z ∈ zs, Ok z) (r : Rep G v zs) (s : Same G H) (h0 : H p = some (.lst [])) (q : Q (.bl (decide (zs ≠ []))) H) : rNeA K v (.ref p) H Q := by
  obtain ⟨ls, rfl, es⟩ := any_Ss zs
  refine g_ne0 (fun w hw => S_ok.mp (hk _ (List.mem_map.mpr ⟨w, hw, rfl⟩))) r s h0 ?_
  have e : decide (ls ≠ []) = decide (ls.map SX.S ≠ []) := decide_eq_decide.mpr (not_congr ⟨fun z => by rw [z]; rfl, fun z => List.map_eq_nil_iff.mp z⟩)
  rw [e]
  exact q
end
end EB

namespace EB
open PySem L2 PySem.Spec PyProof.Rows
section
variable {X : Cx} {k j : Nat} {x : Str} {p pos : Pos} {sp : Sp}
theorem pe_c0 (c : Cal X.prog X.w X.K X.mg X.base k x sp) (hr : Room j X.A) (hk : k ≤ j) (hg : Gl X x) (hdb : (x == ("__debug__" : Str)) = false := by decide) :
    PE X (.Call (.Name x p) [] [] pos) (tCall sp [] E0 tNil) := by
  obtain ⟨f, fd, ps, F, hm, kp, b⟩ := c.ex
  exact pe_call0 F (hr.mono hk) hg hm kp b .nil pass0 hdb
end
end EB

namespace PySem
namespace HandSPX
/-! ### own exceptions made by keyword: type.__call__ with keywords -/
section
variable {M : Model} {A : Around} {E : Value → Shared → Prop} {h : Heap} {g : Array GenState} {d : Drawn} {t : Nat} {os : OsState}
variable {nm q : Str} {C N : Addr} {bs bm bmB : List Value} {hdct : Bool} {sn : List Str} {sub : List Value} {ab : Bool} {col : Option Bool} {dd : Option Addr} {k0 k1 k2 k3 k5 : Option Value} {B newId initId : String} {kw : List (Str × Value)}
theorem check_new_ownK (F : ExcBaseFacts B newId initId bmB) (hT : ∀ X : String, bm.contains (.type X) = bmB.contains (.type X)) {rest : List Value} {Q : Unit → Shared → Prop}
    (hC : h.get? C = some (excClassObj nm q C N bs bm hdct sn sub ab col dd k0 k1 k2 k3 k5 newId)) (hq : Q () ⟨h, g, d, t, os⟩) : wpAny M A (checkBuiltinCall newId ⟨.ref C :: rest, kw⟩) Q E ⟨h, g, d, t, os⟩ := by
  have hcont : (Value.ref C :: bm).contains (.type B) = true := by rw [List.contains_cons, hT, F.hasB, Bool.or_true]
  have hstar := F.noStar
  simp only [checkBuiltinCall, F.newKind, F.newSplit, F.newRow]
  repeat (first | refine wpAny_loadPart_at hC ?_ | (refine wpAny_isSubtype_exc hC ?_; rw [hcont]) | refine wpAny_staticBase_exc hC ?_ | refine wpAny_madeBy_exc hC ?_ | simp only [bne_self_eq_false, Bool.false_eq_true, if_false] | wp_step)
  exact hq
end
section
variable {prog : Program} {w : World} {A : Around} {E : Value → Shared → Prop} {R : Result → Shared → Prop} {h : Heap} {g : Array GenState} {d : Drawn} {t : Nat} {os : OsState}
variable {nm q : Str} {C N : Addr} {bs bm bmB : List Value} {hdct : Bool} {sn : List Str} {sub : List Value} {ab : Bool} {col : Option Bool} {dd : Option Addr} {k0 k1 k2 k3 k5 : Option Value} {B newId initId : String} {kw : List (Str × Value)}
theorem new_ownK (F : ExcBaseFacts B newId initId bmB) (hT : ∀ X : String, bm.contains (.type X) = bmB.contains (.type X)) {rest : List Value}
    (hC : h.get? C = some (excClassObj nm q C N bs bm hdct sn sub ab col dd k0 k1 k2 k3 k5 newId))
    (hq : R (.ok (.ret (.ref (h.objs.size + 1)))) ⟨(h.push { cls := .type "tuple", data := .seq rest.toArray }).push
      { cls := .ref C, data := .fields #[.ref h.objs.size, .none, .none, .none, .bool false, .none] }, g, d, t, os⟩) (hrest : rest.length ≤ sizeLine) :
    codeAny (model prog w) A (.builtin newId ⟨.ref C :: rest, kw⟩) R ⟨h, g, d, t, os⟩ := by
  have hends := F.ends
  have hcB : (Value.ref C :: bm).contains (.type B) = true := by rw [List.contains_cons, hT, F.hasB, Bool.or_true]
  have hcA : (Value.ref C :: bm).contains (.type "AttributeError") = false := by rw [List.contains_cons, hT, F.noAttr]; rfl
  have hcN : (Value.ref C :: bm).contains (.type "NameError") = false := by rw [List.contains_cons, hT, F.noName]; rfl
  refine codeAny_builtinAt F.entry ?_
  unfold Builtin.«BaseException.__new__»
  refine wpAt_bind ?_
  show wpAt _ _ _ (stack >>= _) _ _ _
  refine wpAt_bind (wpAt_stack fun p below => wpAt_of_wpAny ?_)
  wp_walk
  refine wpAt_of_wpAny ?_
  rw [F.owner]
  repeat (first | with_reducible refine wpAny_madeHere_exc F.canon hC ?_ | with_reducible refine wpAny_loadPart_at hC ?_ | (with_reducible refine wpAny_isSubtype_exc hC ?_; first | rw [hcB] | rw [hcA] | rw [hcN]) | wp_step)
  show R _ _
  rw [Heap.size_push]
  exact hq
theorem type_call_ownK (F : ExcBaseFacts B newId initId bmB) (hT : ∀ X : String, bm.contains (.type X) = bmB.contains (.type X)) {rest : List Value} {fI : Addr} {Q : Fin → Shared → Prop}
    (hC : h.get? C = some (excClassObj nm q C N bs bm hdct sn sub ab col dd k0 k1 k2 k3 k5 newId))
    (hi : W.Looks (model prog w) h (typeLookup (.ref C) "__init__") (some (.ref fI))) (hb : ∀ self, W.Looks (model prog w) h (bindSpecial (.ref fI) self) (.ref fI, [self])) (hrest : rest.length ≤ sizeLine)
    (hq : codeAny (model prog w) A (.call (.ref fI) ⟨.ref (h.objs.size + 1) :: rest, kw⟩)
      (fun r s' => match r with | .ok (.ret v) => v = .none ∧ Q (.done (.ret (.ref (h.objs.size + 1)))) s' | .ok _ => False | .error e => E e s')
      ⟨(h.push (W.kdv_tup rest)).push (excO C h.objs.size), g, d, t, os⟩) :
    wpAny (model prog w) A (Builtin.«type.__call__» ⟨.ref C :: rest, kw⟩) Q E ⟨h, g, d, t, os⟩ := by
  repeat (first | with_reducible refine wpAny_loadPart_at hC ?_ | with_reducible refine wpAny_madeBy_exc hC ?_ | wp_step)
  refine codeAny_call_builtin_code (Code.quiet_builtin _ F.quiet) (check_new_ownK F hT hC ?_)
  refine new_ownK F hT hC ?_ hrest
  show wpAny _ _ _ _ _ _
  have k : ∀ b o, h.get? b = some o → ((h.push (W.kdv_tup rest)).push (excO C h.objs.size)).get? b = some o := fun b o e => Heap.get?_push_of_some _ (Heap.get?_push_of_some _ e)
  have hC₁ := k _ _ hC
  have hget : ((h.push (W.kdv_tup rest)).push (excO C h.objs.size)).get? (h.objs.size + 1) = some (excO C h.objs.size) := by heap_get
  have hcC : (Value.ref C :: bm).contains (.ref C) = true := by simp
  have i1 := hi.keeps k
  have b1 := (hb (.ref (h.objs.size + 1))).keeps k
  unfold isInstance
  repeat (first | with_reducible refine wpAny_loadPart_at hget ?_ | (with_reducible refine wpAny_isSubtype_exc hC₁ ?_; rw [hcC]) | wp_step)
  show wpAny _ _ (typeLookup (.ref C) _) _ _ _
  refine i1.at ?_
  refine wpAny_holding (wpAny_bind (b1.at ?_))
  refine wpAny_bind (wpAny_call (codeAny_mono hq fun r s' z => ?_))
  rcases r with e | (v | _ | _ | _) <;> first | exact z | exact z.elim | skip
  obtain ⟨rfl, z⟩ := z
  first
    | exact wpAny_pure (wpAny_pure z)
    | (wp_walk; exact z)
theorem call_ownK (F : ExcBaseFacts B newId initId bmB) (hT : ∀ X : String, bm.contains (.type X) = bmB.contains (.type X)) {rest : List Value} {fI : Addr}
    (hC : h.get? C = some (excClassObj nm q C N bs bm hdct sn sub ab col dd k0 k1 k2 k3 k5 newId))
    (hi : W.Looks (model prog w) h (typeLookup (.ref C) "__init__") (some (.ref fI))) (hb : ∀ self, W.Looks (model prog w) h (bindSpecial (.ref fI) self) (.ref fI, [self])) (hrest : rest.length ≤ sizeLine)
    (hq : codeAny (model prog w) (A.under (.builtin "type.__call__" ⟨.ref C :: rest, kw⟩)) (.call (.ref fI) ⟨.ref (h.objs.size + 1) :: rest, kw⟩) (W.InitBack (h.objs.size + 1) R)
      ⟨(h.push (W.kdv_tup rest)).push (excO C h.objs.size), g, d, t, os⟩) :
    codeAny (model prog w) A (.call (.ref C) ⟨rest, kw⟩) R ⟨h, g, d, t, os⟩ := by
  have f1 := tc_lookup
  have f2 := tc_bind (.ref C)
  have hTy : (⟨h, g, d, t, os⟩ : Shared).TypeIs (.ref C) "type" := ⟨_, hC, rfl⟩
  refine codeAny_of_tree ?_
  show wpAny _ _ (callAny (.ref C) _) _ _ _
  repeat (any_goals (first | assumption | with_reducible refine wpAny_loadPart_at hC ?_ | wp_step))
  refine ⟨rfl, ?_⟩
  refine codeAny_call_builtin_at (Code.quiet_builtin _ (by decide +kernel)) entry_typeCall (wpAny_check_type_call_sub hC (type_call_ownK F hT hC hi hb hrest ?_))
  refine codeAny_mono hq fun r s' z => ?_
  rcases r with e | (v | _ | _ | _) <;> exact z
end
end HandSPX
end PySem
namespace EB
open PySem L2 PySem.Spec PyProof.Rows
/-! ### an own exception as a value -/
def tMkV (t : L2.St → Hp → XK → Prop) : TE := fun σ H Q => t σ H fun cls d H' => ∀ a, H' a = none → Q (.ref a) (upd H' a (xcp cls d a))
theorem pe_ofMk {X : Cx} {e : Expr} {t : L2.St → Hp → XK → Prop} (h : PMk X e t) : PE X e (tMkV t) := by
  constructor
  intro pins s σ H Q I want
  refine wpAny_mono (h pins s σ H _ I want) (fun u s1 hu => ?_) (fun _ _ x => x)
  obtain ⟨a, oe, vs, sI, H', cls, d, rfl, J, k, hne, ha, hz, hd, h1, na, os, ag, r, q⟩ := hu
  exact ⟨.ref a, upd H' a (xcp cls d a), J.call' (ch := []) os (Un.laidN k hne na) (J.hok.laidN k na (xcp_ok ha hz hd)) ag (fun _ z => nomatch z), rfl, q a na⟩
section
variable {X : Cx} {x : Str} {B C : Addr} {e : Expr} {ta tk : TA} {p pos : Pos} {kws : List Keyword}
theorem pe_mkX (M : ExM X.prog X.w X.K X.mg X.base x B C) (hr : Room 2 X.A) (hg : Gl X x) (ha : PA X [e] ta)
    (hdb : (x == ("__debug__" : Str)) = false := by decide) (he : starEach [e] X.env = (false, eval e X.env) :: starEach [] X.env := by rfl) (hpl : (backTo pos (starEach [] X.env)).any (·.1) = false := by rfl) :
    PE X (.Call (.Name x p) [e] [] pos) (tMkV (tMkE X.K C ta)) := by
  obtain ⟨fI, fd, h1, h2, F, b⟩ := M.it
  exact pe_ofMk (pmk_oex M.xc.ox h1 h2 F hr b .nil pass0 hg M.gC ha hdb he hpl)
structure ExMK (P : Program) (w : World) (K : PySem.W.Frag) (mg : Str → Option Value) (base : Heap) (x : Str) (B C : Addr) : Prop where
  xc : XCls K B C
  gC : mg x = some (.ref C)
  it : ∃ (fI : Addr) (fd : FuncData) (g : List Value → List Value → List Value), PySem.W.findIn K (.ref C) "__init__" = some (some (.ref fI)) ∧ PySem.W.typeIn K (.ref fI) = some (.type "function") ∧ FnOk P w K mg base CX0 1 fI fd ["self", "what"] (spInit K) ∧ KBinds K fd ["self", "what"] ["what"] g (kwm [0])
def mkEK (K : PySem.W.Frag) (C : Addr) (Q : XK) : List V → Hp → Prop := fun zs H1 => ∀ a, H1 a = none → spInit K (kwm [0] [.ref a] zs) (upd H1 a (exo a C none))
  (fun v H2 => v = .non ∧ ∃ (d : Addr) (fs : List (Str × V)), H2 a = some (exo a C (some d)) ∧ H2 d = some (exd d fs) ∧ H1 d = none ∧ Q (.ref C) (some d) (upd (del H2 a) d (.xd fs))) (fun _ _ _ => False)
def tMkEK (K : PySem.W.Frag) (C : Addr) (tk : TA) : L2.St → Hp → XK → Prop := fun σ H Q => tk σ H (mkEK K C Q)
theorem pmk_oexK (M : ExMK X.prog X.w X.K X.mg X.base x B C) (hr : Room 2 X.A) (hg : Gl X x) (hkw : PK X kws tk)
    (hall : (backToKw pos (keywordEach kws X.env)).all (·.1.isSome) = true := by rfl) (hks : (backToKw pos (keywordEach kws X.env)).filterMap (·.1) = [("what" : Str)] := by rfl) (hdb : (x == ("__debug__" : Str)) = false := by decide)
    (hpl : ((backTo pos (starEach [] X.env)).any (·.1) || (backToKw pos (keywordEach kws X.env)).any (·.1.isNone)) = false := by rfl) :
    PMk X (.Call (.Name x p) [] kws pos) (tMkEK X.K C tk) := by
  obtain ⟨fI, fd, gg, iC, tI, F1, hb⟩ := M.it
  have T := M.xc.ox
  intro pins s σ H Q I h
  obtain ⟨nm, q, N, bs, bm, sn, sub, ab, col, dd, k0, k1, k2, k3, k5, hC, hbm⟩ := T.cls
  refine wpAny_Call_Name_kw (ld_glob I hg M.gC ?_ hdb)
  refine PySem.W.callWith_KW0 (h₀ := X.base) I.ok.mod.kin T.kC hall ?_ hpl
  refine thn (hkw.run pos pins s σ H _ I h) ?_
  rintro ws s1 ⟨zs, H1, I1, rz, q1⟩
  refine ⟨I1.kIn, ?_⟩
  rw [hks]
  show wpAny _ _ (call (.ref C) [] ([("what" : Str)].zip ws)) _ _ _
  obtain ⟨hp, g, dr, tk, os⟩ := s1
  have hsz : hp.objs.size ≤ hp.objs.size + 1 := Nat.le_succ _
  have hn : H1 (hp.objs.size + 1) = none := I1.hok.fresh hsz
  have hq := q1 (hp.objs.size + 1) hn
  have kk : ∀ b o, hp.get? b = some o → ((hp.push (PySem.W.kdv_tup [])).push (PySem.HandSPX.excO C hp.objs.size)).get? b = some o := fun b o e => Heap.get?_push_of_some _ (Heap.get?_push_of_some _ e)
  have hget : ((hp.push (PySem.W.kdv_tup [])).push (PySem.HandSPX.excO C hp.objs.size)).get? (hp.objs.size + 1) = some (PySem.HandSPX.excO C hp.objs.size) := by heap_get
  have I2 : Inv X pins σ (upd H1 (hp.objs.size + 1) (exo (hp.objs.size + 1) C none)) ⟨(hp.push (PySem.W.kdv_tup [])).push (PySem.HandSPX.excO C hp.objs.size), g, dr, tk, os⟩ :=
    I1.laid (t' := tk) (a := hp.objs.size + 1) (o := exo (hp.objs.size + 1) C none) (h' := (hp.push (PySem.W.kdv_tup [])).push (PySem.HandSPX.excO C hp.objs.size)) kk hsz (exo_ok hget)
  have r1 : Vals [V.ref (hp.objs.size + 1)] [Value.ref (hp.objs.size + 1)] := .cons rfl .nil
  have r2 := hb.rel r1 rz
  have hl : (gg [Value.ref (hp.objs.size + 1)] ws).length = ["self", "what"].length := r2.length.symm.trans (F1.len _ _ _ _ hq)
  refine wpAny_call (PySem.HandSPX.call_ownK F.excBase_ValueError (fun Y => PySem.HandSPX.refsVE_contains Y bm hbm) (I1.kIn _ _ hC) (PySem.W.looks_findIn I1.kIn iC) (fun self => PySem.W.bind_fn I1.kIn self tI) (by show 0 ≤ _; exact Nat.zero_le _)
    (codeAny_mono (F1.run _ X.stack _ _ ⟨[Value.ref (hp.objs.size + 1)], [("what" : Str)].zip ws⟩ (gg [Value.ref (hp.objs.size + 1)] ws) _ _ (fun _ _ _ => False) (hr.make C [] _) (I2.env0.make C [] _) (hb.to _ [Value.ref (hp.objs.size + 1)] ws I2.kIn hl) r2 hq) fun r s' hq' => ?_))
  cases r with
  | error er => exact hq'.elim
  | ok fl =>
    cases fl with
    | ret u =>
      obtain ⟨v, H2, os2, bare2, un2, hok2, rv, ev, d, fs, ea, ed, hd1, q2⟩ := hq'
      subst ev
      obtain ⟨h2, g2, d2, t2, os'⟩ := s'
      exact ⟨rv, mk_end (raises_own T.exC T.tyC) I1 hsz kk un2 hok2 os2 bare2 ea ed hd1 q2⟩
    | next => exact False.elim hq'
    | brk => exact False.elim hq'
    | cont => exact False.elim hq'
theorem pe_mkXK (M : ExMK X.prog X.w X.K X.mg X.base x B C) (hr : Room 2 X.A) (hg : Gl X x) (hkw : PK X kws tk)
    (hall : (backToKw pos (keywordEach kws X.env)).all (·.1.isSome) = true := by rfl) (hks : (backToKw pos (keywordEach kws X.env)).filterMap (·.1) = [("what" : Str)] := by rfl) (hdb : (x == ("__debug__" : Str)) = false := by decide)
    (hpl : ((backTo pos (starEach [] X.env)).any (·.1) || (backToKw pos (keywordEach kws X.env)).any (·.1.isNone)) = false := by rfl) :
    PE X (.Call (.Name x p) [] kws pos) (tMkV (tMkEK X.K C tk)) := pe_ofMk (pmk_oexK M hr hg hkw hall hks hdb hpl)
end
section
variable {K : PySem.W.Frag} {B C : Addr} {σ : L2.St} {G H : Hp} {L : List Res} {Q : VK} {v : V} {t : L2.St → Hp → XK → Prop} {tk : TA} {q : XK}
theorem g_mkV (h : t σ H fun cls d H' => ∀ a, H' a = none → Q (.ref a) (upd H' a (xcp cls d a))) : tMkV t σ H Q := h
theorem g_mkEK (h : tk σ H (mkEK K C q)) : tMkEK K C tk σ H q := h
theorem mkEK_of {Q : XK} (xc : XCls K B C) (h : ∀ d, H d = none → Q (.ref C) (some d) (upd H d (.xd [(("what" : Str), v)]))) : mkEK K C Q [v] H := (mkE_of xc h).2
theorem mkV_in {xc : XCls K B C} (s : Sep G H L) (h : ∀ a G' H', Same G G' → Sep G' H' L → IsX G' (.ref a) C v → Q (.ref a) H') : ∀ d, H d = none → ∀ a, upd H d (.xd [(("what" : Str), v)]) a = none → Q (.ref a) (upd (upd H d (.xd [(("what" : Str), v)])) a (xcp (.ref C) (some d) a)) := fun d hd a ha => by
  obtain ⟨G', u, st, x⟩ := s.keepX (same_upd hd) hd upd_same ha
  exact h a G' _ u st x
theorem g_newX (xc : XCls K B C) (s : Sep G H L) (h : ∀ a G' H', Same G G' → Sep G' H' L → IsX G' (.ref a) C v → Q (.ref a) H') : mkE K C (fun cls d H' => ∀ a, H' a = none → Q (.ref a) (upd H' a (xcp cls d a))) [v] H := mkE_of xc (mkV_in (xc := xc) s h)
theorem g_newXK (xc : XCls K B C) (s : Sep G H L) (h : ∀ a G' H', Same G G' → Sep G' H' L → IsX G' (.ref a) C v → Q (.ref a) H') : mkEK K C (fun cls d H' => ∀ a, H' a = none → Q (.ref a) (upd H' a (xcp cls d a))) [v] H := mkEK_of xc (mkV_in (xc := xc) s h)
end
end EB

namespace EB
open PySem L2 PySem.Spec PyProof.Rows
/-! ### the class of them all, made by hand without a field -/
structure ExcB (K : PySem.W.Frag) (mg : Str → Option Value) (x : Str) (B : Addr) : Prop where
  ga : PySem.W.findIn K (.ref B) "__getattribute__" = some (some (.builtin "BaseException.__getattribute__"))
  gg : PySem.W.findIn K (.ref B) "__getattr__" = some none
  sub : PySem.W.subIn K (.ref B) (.type "BaseException") = some true
  hd : PySem.W.hasDictIn K B = true
  ca : PySem.W.findIn K (.ref B) "__class__" = some (some (.builtin "object.__class__"))
  cg : PySem.W.specialIn K (.builtin "object.__class__") "__get__" = some (some (.builtin "getset_descriptor.__get__"))
  ct : PySem.W.takesIn K (.builtin "object.__class__") = some true
  mo : PySem.W.mroIn K B (.type "object") = some true
  sv : PySem.W.subIn K (.ref B) (.type "ValueError") = some true
  nw : PySem.W.excIn K B [.type "ValueError", .type "Exception", .type "BaseException", .type "object"] "ValueError.__new__" = true
  kp : PySem.W.keepIn K (.ref B) = true
  gm : mg x = some (.ref B)
section
variable {K : PySem.W.Frag} {mg : Str → Option Value} {x : Str} {B : Addr}
theorem ExcB.isSelf (c : ExcB K mg x B) : PySem.W.kitOne K (.ref B) (.ref B) = some true := by
  unfold PySem.W.kitOne
  rw [if_pos (beq_self_eq_true _)]
theorem ExcB.isVal (c : ExcB K mg x B) : PySem.W.kitOne K (.ref B) (.type "ValueError") = some true := by
  unfold PySem.W.kitOne
  rw [if_neg (fun z => by have q := beq_iff_eq.mp z; cases q)]
  unfold PySem.W.kitCls
  dsimp only
  rw [if_pos (show PySem.W.kitMeta "ValueError" = true by decide +kernel)]
  exact c.sv
end
def tBare (C : Addr) (ta : TE) : TE := fun σ H Q => ta σ H fun _ H1 => ∀ a, H1 a = none → Q (.ref a) (upd H1 a (xcp (.ref C) none a))
/-- an exception of the class B without a field, at v -/
def IsB (H : Hp) (v : V) (B : Addr) : Prop := ∃ a : Addr, v = .ref a ∧ H a = some (xcp (.ref B) none a)
theorem IsB.up {H H' : Hp} {v : V} {B : Addr} (x : IsB H v B) (s : Same H H') : IsB H' v B :=
  let ⟨a, e, h⟩ := x
  ⟨a, e, s _ _ h⟩
/-- isinstance of one that has a field, or of a bare one -/
def rIsXB (K : PySem.W.Frag) : List V → Hp → VK → Prop := fun xs H Q => rIsX K xs H Q ∨ ∃ (v c : V) (x : Str) (mg : Str → Option Value) (B : Addr) (b : Bool) (cv : Value), xs = [v, c] ∧ IsB H v B ∧ ExcB K mg x B ∧ ClsV c cv ∧ PySem.W.kitOne K (.ref B) cv = some b ∧ Q (.bl b) H
section
variable {X : Cx} {x : Str} {C : Addr} {e : Expr} {ta : TE} {p pos : Pos}
theorem pe_bare (M : ExcB X.K X.mg x C) (hg : Gl X x) (he : PE X e ta) (hs : starEach [e] X.env = (false, eval e X.env) :: starEach [] X.env := by rfl) (hdb : (x == ("__debug__" : Str)) = false := by decide) :
    PE X (.Call (.Name x p) [e] [] pos) (tBare C ta) := by
  refine ⟨fun pins s σ H Q I h => ?_⟩
  refine wpAny_Call_Name_kw (ld_glob I hg M.gm ?_ hdb)
  refine PySem.W.callWith_K (h₀ := X.base) I.ok.mod.kin M.kp ?_ hs (by rfl)
  rw [hs]
  show wpAny _ _ (spliced ((false, eval e X.env) :: backTo pos (starEach [] X.env))) _ _ s
  refine Calls.spliced_cons (thn (he.run pins s σ H _ I h) fun u s1 ⟨v, H1, I1, r1, q1⟩ => ?_)
  refine Calls.spliced_nil ⟨I1.kIn, ?_⟩
  show wpAny _ _ (call (.ref C) [u]) _ _ _
  obtain ⟨bm, N, nm, qn, bs, hdct, sn, sub, ab, col, dd, k0, k1, k2, k3, k5, mN, hC, hN, hni, T⟩ := exc_obj I1.kIn M.nw
  refine wpAny_call_exc_subT PySem.F.excBase_ValueError T hC hN hni (fun h' a hm => ?_) (by show 1 ≤ sizeLine; rw [sizeLine_eq]; omega)
  have hn : H1 a = none := I1.hok.gone hm.new
  obtain ⟨t, ht, _, _⟩ := hm.there
  exact ⟨.ref a, upd H1 a (xcp (.ref C) none a), I1.laidN hm.keeps hm.new hn (xcp_ok ht ⟨rfl, rfl⟩ rfl), rfl, q1 a hn⟩
theorem cIsXB : CallR X (.builtin "isinstance") (rIsXB X.K) := by
  intro pins s σ H xs us Q I rel want
  rcases want with want | ⟨v, c, x, mg, B, b, cv, rfl, ⟨a, rfl, h1⟩, M, hcv, e, q⟩
  · exact cIsX pins s σ H xs us Q I rel want
  obtain ⟨oe, fs, g, z, hd⟩ := xcp_at I.hok h1
  have J : PySem.W.InstAt s.heap a oe B none := ⟨g, z.1, by unfold PySem.W.notCls; rw [hd] <;> rfl, by rw [z.2]; trivial⟩
  cases rel with
  | cons r1 rr =>
    cases rr with
    | cons r2 rn =>
      cases rn
      cases r1
      rw [hcv.eq r2]
      exact PySem.W.kia_one (PySem.W.handS_kitx_exc M.ga M.gg M.sub M.hd M.ca M.cg M.ct M.mo) I.kIn J e (fun z => nomatch z) fun tk => ⟨.bl b, H, I.kept (t' := tk) fun _ _ z => z, rfl, q⟩
end
section
variable {K : PySem.W.Frag} {mg : Str → Option Value} {x : Str} {B : Addr} {σ : L2.St} {H : Hp} {Q : VK} {v c w : V} {ta : TE} {b : Bool} {cv : Value} {C : Addr} {vs : List V}
theorem g_bare (h : ta σ H fun _ H1 => ∀ a, H1 a = none → Q (.ref a) (upd H1 a (xcp (.ref C) none a))) : tBare C ta σ H Q := h
theorem g_isXL (h : rIsX K vs H Q) : rIsXB K vs H Q := .inl h
theorem g_isB (y : IsB H v B) (M : ExcB K mg x B) (hc : ClsV c cv) (e : PySem.W.kitOne K (.ref B) cv = some b) (q : Q (.bl b) H) : rIsXB K [v, c] H Q := .inr ⟨v, c, x, mg, B, b, cv, rfl, y, M, hc, e, q⟩
end
end EB

namespace EB
open PySem L2 PySem.Spec PyProof.Rows
/-! ### one of three defs, picked from a list, called -/
def tIx3 (f1 f2 f3 : Addr) (sp1 sp2 sp3 : Sp) (E : L2.St → XK) (tf : TE) (t : TA) : TE := fun σ H Q => tf σ H fun x H1 =>
  (x = .ref f1 ∧ t σ H1 fun vs H2 => sp1 vs H2 Q (E σ)) ∨ (x = .ref f2 ∧ t σ H1 fun vs H2 => sp2 vs H2 Q (E σ)) ∨ (x = .ref f3 ∧ t σ H1 fun vs H2 => sp3 vs H2 Q (E σ))
section
variable {P : Program} {w : World} {K : PySem.W.Frag} {mg : Str → Option Value} {base : Heap} {k : Nat} {x : Str} {sp : Sp} {f : Addr}
theorem CalN.at (c : CalN P w K mg base k x sp) (hm : mg x = some (.ref f)) : ∃ (fd : FuncData) (ps : List Str), FnOk P w K mg base (L2N.CX P w) k f fd ps sp ∧ PySem.W.keepIn K (.ref f) = true ∧ Binds K fd ps [] := by
  obtain ⟨f', fd, ps, F, mine, kp, b⟩ := c.ex
  rw [hm] at mine
  cases mine
  exact ⟨fd, ps, F, kp, b⟩
end
section
variable {X : Cx} {W : WX} {k1 k2 k3 j : Nat} {x1 x2 x3 : Str} {f1 f2 f3 : Addr} {sp1 sp2 sp3 : Sp} {pos : Pos} {e fe : Expr} {es : List Expr} {tf : TE} {t : TA}
theorem pe_ix3N (c1 : CalN X.prog X.w X.K X.mg X.base k1 x1 sp1) (m1 : X.mg x1 = some (.ref f1)) (c2 : CalN X.prog X.w X.K X.mg X.base k2 x2 sp2) (m2 : X.mg x2 = some (.ref f2)) (c3 : CalN X.prog X.w X.K X.mg X.base k3 x3 sp3) (m3 : X.mg x3 = some (.ref f3))
    (tk : L2N.Takes X W) (hr : Room j X.A) (hk1 : k1 ≤ j) (hk2 : k2 ≤ j) (hk3 : k3 ≤ j) (hf : PE X fe tf) (ha : PA X (e :: es) t)
    (ht : eval (.Call fe (e :: es) [] pos) X.env = (do callWith pos (← eval fe X.env) [] (backTo pos (starEach (e :: es) X.env)) (backToKw pos (keywordEach [] X.env))) := by rfl)
    (hst : starEach (e :: es) X.env = (false, eval e X.env) :: starEach es X.env := by rfl) (hpl : (backTo pos (starEach es X.env)).any (·.1) = false := by rfl) :
    PE X (.Call fe (e :: es) [] pos) (tIx3 f1 f2 f3 sp1 sp2 sp3 (WE W) tf t) := by
  refine ⟨fun pins s σ H Q I h => ?_⟩
  rw [ht]
  refine wpAny_bind (thn (hf.run pins s σ H _ I h) fun u s1 ⟨v, H1, I1, rv, q1⟩ => ?_)
  rcases q1 with ⟨rfl, q⟩ | ⟨rfl, q⟩ | ⟨rfl, q⟩
  · obtain ⟨fd, ps, F, kp, b⟩ := c1.at m1
    obtain rfl : u = Value.ref f1 := rv
    refine PySem.W.callWith_K (h₀ := X.base) I1.ok.mod.kin kp (thn (ha.run pos pins s1 σ H1 _ I1 q) fun us s2 ⟨vs, H2, I2, r, q2⟩ => ⟨I2.kIn, ?_⟩) hst hpl
    exact run_fnS F (hr.mono hk1) b (L2N.passAt tk σ) I2 r q2
  · obtain ⟨fd, ps, F, kp, b⟩ := c2.at m2
    obtain rfl : u = Value.ref f2 := rv
    refine PySem.W.callWith_K (h₀ := X.base) I1.ok.mod.kin kp (thn (ha.run pos pins s1 σ H1 _ I1 q) fun us s2 ⟨vs, H2, I2, r, q2⟩ => ⟨I2.kIn, ?_⟩) hst hpl
    exact run_fnS F (hr.mono hk2) b (L2N.passAt tk σ) I2 r q2
  · obtain ⟨fd, ps, F, kp, b⟩ := c3.at m3
    obtain rfl : u = Value.ref f3 := rv
    refine PySem.W.callWith_K (h₀ := X.base) I1.ok.mod.kin kp (thn (ha.run pos pins s1 σ H1 _ I1 q) fun us s2 ⟨vs, H2, I2, r, q2⟩ => ⟨I2.kIn, ?_⟩) hst hpl
    exact run_fnS F (hr.mono hk3) b (L2N.passAt tk σ) I2 r q2
end
theorem g_ix3 {f1 f2 f3 : Addr} {sp1 sp2 sp3 : Sp} {E : L2.St → XK} {tf : TE} {t : TA} {σ : L2.St} {H : Hp} {Q : VK} (h : tf σ H fun x H1 => (x = .ref f1 ∧ t σ H1 fun vs H2 => sp1 vs H2 Q (E σ)) ∨ (x = .ref f2 ∧ t σ H1 fun vs H2 => sp2 vs H2 Q (E σ)) ∨ (x = .ref f3 ∧ t σ H1 fun vs H2 => sp3 vs H2 Q (E σ))) : tIx3 f1 f2 f3 sp1 sp2 sp3 E tf t σ H Q := h
end EB

namespace PySem
namespace EBZ
open PySem PySem.Calls PyProof.Rows PyProof.V PySem.Spec
/-! ### list(zip(xs, ys)): the zip's tuple is kept by the list, so each next makes a new one -/
abbrev ZipAt (h : Heap) (z TI TO : Addr) (f0 : Value) (fl : Bool) : Prop :=
  h.get? z = some { cls := .type "zip", dict := none, data := .fields #[f0, .bool fl, .bool false, .ref TI, .ref TO], slots := #[] }
section
variable {prog : Program} {w : World} {A : Around} {E : Value → Shared → Prop} {s : Shared}
theorem zip_held {z TI TO T : Addr} {fl : Bool} {oT : Obj} {Q : Bool → Shared → Prop} (hz : ZipAt s.heap z TI TO (rawInt T) fl) (hT : s.heap.get? T = some oT)
    (hQ : ∀ h', ZipAt h' z TI TO (rawInt T) true → Heap.SameBut z s.heap h' → Q false { s with heap := h' }) : wpAny (model prog w) A (Builtin.SmallTypes.ownedTupleIsFree (.ref z)) Q E s := by
  unfold Builtin.SmallTypes.ownedTupleIsFree
  refine wpAny_bind (wpAny_field hz rfl (x := rawInt T) rfl ?_)
  show wpAny _ _ (loadIfAlive ((T : Int).toNat) >>= _) _ _ _
  rw [Int.toNat_natCast]
  refine wpAny_bind (W.kdx_alive hT ?_)
  simp only [Option.isNone_some, Bool.false_eq_true, if_false]
  refine wpAny_bind (wpAny_field hz rfl (x := .bool fl) rfl ?_)
  cases fl with
  | true =>
    rw [if_neg (show ¬ ((Value.bool true != Value.bool true) = true) from Bool.false_ne_true)]
    exact wpAny_pure (hQ _ hz (Heap.SameBut.refl _ _))
  | false =>
    rw [if_pos (show (Value.bool false != Value.bool true) = true from rfl)]
    refine wpAny_bind (wpAny_setField_rec hz (by simp) fun h₃ he₃ hs₃ => ?_)
    exact wpAny_pure (hQ _ he₃ hs₃)
theorem zip_next_item2 {z TI TO i1 i2 l1 l2 T : Addr} {fl : Bool} {oT : Obj} {k1 k2 : Nat} {xs ys : Array Value} {x y : Value} {Q : Value → Shared → Prop} (D : ZipApart z TI TO i1 i2 l1 l2)
    (hz : ZipAt s.heap z TI TO (rawInt T) fl) (hT : s.heap.get? T = some oT) (hTI : IsPair s.heap TI (.ref i1) (.ref i2))
    (h1 : s.heap.IsListIter i1 l1 k1) (h2 : s.heap.IsListIter i2 l2 k2) (hl1 : s.heap.IsList l1 xs) (hl2 : s.heap.IsList l2 ys) (hx : xs[k1]? = some x) (hy : ys[k2]? = some y)
    (hQ : ∀ h', ZipAt h' z TI TO (rawInt T) true → h'.IsListIter i1 l1 (k1 + 1) → h'.IsListIter i2 l2 (k2 + 1) → IsPair h' s.heap.objs.size x y → h'.objs.size = s.heap.objs.size + 1 →
      (∀ c o, c ≠ z → c ≠ i1 → c ≠ i2 → s.heap.get? c = some o → h'.get? c = some o) → Q (.ref s.heap.objs.size) { s with heap := h' }) :
    wpAny (model prog w) A (Builtin.«zip.__next__» ⟨[.ref z], []⟩) (fun fin s' => ∃ v, fin = .done (.ret v) ∧ Q v s') E s := by
  show wpAny _ _ (field (.ref z) 2 >>= _) _ _ _
  refine wpAny_bind (wpAny_field hz rfl (x := .bool false) rfl ?_)
  show wpAny _ _ (field (.ref z) 3 >>= _) _ _ _
  refine wpAny_bind (wpAny_field hz rfl (x := .ref TI) rfl ?_)
  refine wpAny_bind (wpAny_seqItems hTI rfl ?_)
  show wpAny _ _ (Builtin.SmallTypes.ownedTupleIsFree (.ref z) >>= _) _ _ _
  refine wpAny_bind (zip_held hz hT fun h₁ hz₁ hs₁ => ?_)
  simp only [Bool.false_eq_true, if_false]
  rw [← Array.forIn_toList]
  simp only [List.forIn_cons, List.forIn_nil]
  refine wpAny_bind (wpAny_bind (wpAny_bind (wpAny_holding ?_)))
  show wpAny _ _ (Builtin.SmallTypes.nextOf (.ref i1) >>= _) _ _ _
  refine wpAny_bind (wpAny_nextOf_list_item (h1.extBut hs₁.extBut D.i1z) (hl1.extBut hs₁.extBut D.l1z) hx fun h₂ h1₂ hs₂ => wpAny_pure ?_)
  refine wpAny_pure ?_
  refine wpAny_bind (wpAny_bind (wpAny_holding ?_))
  show wpAny _ _ (Builtin.SmallTypes.nextOf (.ref i2) >>= _) _ _ _
  refine wpAny_bind (wpAny_nextOf_list_item ((h2.extBut hs₁.extBut D.i2z).extBut hs₂.extBut D.i12.symm) ((hl2.extBut hs₁.extBut D.l2z).extBut hs₂.extBut D.l2i1) hy fun h₃ h2₃ hs₃ => wpAny_pure ?_)
  refine wpAny_pure ?_
  refine wpAny_pure ?_
  show wpAny _ _ (newTuple [x, y] >>= _) _ _ _
  refine wpAny_bind (wpAny_newTuple ?_)
  have hs₁ : Heap.SameBut z s.heap h₁ := hs₁
  have hs₂ : Heap.SameBut i1 h₁ h₂ := hs₂
  have hs₃ : Heap.SameBut i2 h₂ h₃ := hs₃
  have hsz : h₃.objs.size = s.heap.objs.size := by rw [hs₃.1, hs₂.1, hs₁.1]
  have up : ∀ c o, h₃.get? c = some o → (h₃.push { cls := .type "tuple", data := .seq #[x, y] }).get? c = some o := fun c o e => Heap.get?_push_of_some _ e
  refine wpAny_pure ⟨_, rfl, ?_⟩
  show Q (.ref h₃.objs.size) { s with heap := h₃.push { cls := .type "tuple", data := .seq #[x, y] } }
  have hT₃ : IsPair (h₃.push { cls := .type "tuple", data := .seq #[x, y] }) s.heap.objs.size x y := by
    rw [← hsz]
    exact Heap.get?_push_size _ rfl
  rw [hsz]
  exact hQ _ (up _ _ (hs₃.extBut _ _ D.i2z.symm (hs₂.extBut _ _ D.i1z.symm hz₁))) ((h1₂.extBut hs₃.extBut D.i12).at fun o e => up _ o e) (h2₃.at fun o e => up _ o e) hT₃ (by rw [Heap.size_push, hsz])
    fun c o c1 c2 c3 e => up c o (hs₃.extBut _ _ c3 (hs₂.extBut _ _ c2 (hs₁.extBut _ _ c1 e)))
theorem zip_next_end2 {z TI TO i1 i2 l1 l2 T : Addr} {fl : Bool} {oT : Obj} {k1 : Nat} {xs : Array Value} {Q : Fin → Shared → Prop} (hh : A.handled = none) (D : ZipApart z TI TO i1 i2 l1 l2)
    (hz : ZipAt s.heap z TI TO (rawInt T) fl) (hT : s.heap.get? T = some oT) (hTI : IsPair s.heap TI (.ref i1) (.ref i2))
    (h1 : s.heap.IsListIter i1 l1 k1) (hl1 : s.heap.IsList l1 xs) (hx : xs[k1]? = none)
    (hE : ∀ h' e, (∀ c o, c ≠ z → c ≠ i1 → s.heap.get? c = some o → h'.get? c = some o) → (∃ o, h'.get? e = some o ∧ o.cls = .type "StopIteration") → E (.ref e) { s with heap := h' }) :
    wpAny (model prog w) A (Builtin.«zip.__next__» ⟨[.ref z], []⟩) Q E s := by
  show wpAny _ _ (field (.ref z) 2 >>= _) _ _ _
  refine wpAny_bind (wpAny_field hz rfl (x := .bool false) rfl ?_)
  show wpAny _ _ (field (.ref z) 3 >>= _) _ _ _
  refine wpAny_bind (wpAny_field hz rfl (x := .ref TI) rfl ?_)
  refine wpAny_bind (wpAny_seqItems hTI rfl ?_)
  show wpAny _ _ (Builtin.SmallTypes.ownedTupleIsFree (.ref z) >>= _) _ _ _
  refine wpAny_bind (zip_held hz hT fun h₁ hz₁ hs₁ => ?_)
  simp only [Bool.false_eq_true, if_false]
  rw [← Array.forIn_toList]
  simp only [List.forIn_cons, List.forIn_nil]
  refine wpAny_bind (wpAny_bind (wpAny_bind (wpAny_holding ?_)))
  show wpAny _ _ (Builtin.SmallTypes.nextOf (.ref i1) >>= _) _ _ _
  exact wpAny_bind (wpAny_nextOf_list_end hh (h1.extBut hs₁.extBut D.i1z) (hl1.extBut hs₁.extBut D.l1z) hx fun h₂ e hs₂ he => hE h₂ e (fun c o c1 c2 y => hs₂ _ _ c2 (hs₁.extBut _ _ c1 y)) he)
/-- the zip, i pairs of it drawn; S is the list that keeps them -/
structure ZipLst (h : Heap) (z TI TO i1 i2 l1 l2 S : Addr) (xs ys : Array Value) (i : Nat) : Prop where
  zt : IsZip h z TI TO .none ∨ ∃ (T : Addr) (fl : Bool) (oT : Obj), ZipAt h z TI TO (rawInt (T : Int)) fl ∧ h.get? T = some oT ∧ T ≠ S ∧ T ≠ z ∧ T ≠ i1 ∧ T ≠ i2
  ti : IsPair h TI (.ref i1) (.ref i2)
  to : ∃ a b, IsPair h TO a b
  h1 : h.IsListIter i1 l1 i
  h2 : h.IsListIter i2 l2 i
  e1 : h.IsList l1 xs
  e2 : h.IsList l2 ys
structure ZipOff (z TI TO i1 i2 l1 l2 S : Addr) : Prop where
  z : z ≠ S
  ti : TI ≠ S
  to : TO ≠ S
  i1 : i1 ≠ S
  i2 : i2 ≠ S
  l1 : l1 ≠ S
  l2 : l2 ≠ S
theorem ZipLst.keep {h h' : Heap} {z TI TO i1 i2 l1 l2 S : Addr} {xs ys : Array Value} {i : Nat} (x : ZipLst h z TI TO i1 i2 l1 l2 S xs ys i) (F : ZipOff z TI TO i1 i2 l1 l2 S) (hk : ∀ b o, b ≠ S → h.get? b = some o → h'.get? b = some o) : ZipLst h' z TI TO i1 i2 l1 l2 S xs ys i := by
  obtain ⟨zt, ti, ⟨a, b, to⟩, h1, h2, e1, e2⟩ := x
  refine ⟨?_, hk _ _ F.ti ti, ⟨a, b, hk _ _ F.to to⟩, h1.at fun o e => hk _ o F.i1 e, h2.at fun o e => hk _ o F.i2 e, e1.at fun o e => hk _ o F.l1 e, e2.at fun o e => hk _ o F.l2 e⟩
  rcases zt with zt | ⟨T, fl, oT, a1, a2, a3⟩
  · exact .inl (hk _ _ F.z zt)
  · exact .inr ⟨T, fl, oT, hk _ _ F.z a1, hk _ _ a3.1 a2, a3⟩
theorem zl_item {z TI TO i1 i2 l1 l2 S : Addr} {i : Nat} {xs ys : Array Value} {x y : Value} {Q : Option Value → Shared → Prop} (D : ZipApart z TI TO i1 i2 l1 l2) (st : ZipLst s.heap z TI TO i1 i2 l1 l2 S xs ys i) (hS : S < s.heap.objs.size) (hx : xs[i]? = some x) (hy : ys[i]? = some y)
    (hQ : ∀ h', ZipLst h' z TI TO i1 i2 l1 l2 S xs ys (i + 1) → IsPair h' s.heap.objs.size x y → h'.objs.size = s.heap.objs.size + 1 → (∀ c o, c ≠ z → c ≠ TO → c ≠ i1 → c ≠ i2 → s.heap.get? c = some o → h'.get? c = some o) → Q (some (.ref s.heap.objs.size)) { s with heap := h' }) :
    wpAny (model prog w) A (pyNext (.ref z)) Q E s := by
  obtain ⟨zt, ti, ⟨a, b, to⟩, h1, h2, e1, e2⟩ := st
  rcases zt with zt | ⟨T, fl, oT, a1, a2, a3⟩
  · refine wpAny_pyNext_zip_item D zt ti to h1 h2 e1 e2 hx hy fun h' b1 b2 b3 b4 b5 b6 hk => ?_
    have lt : ∀ {c o}, s.heap.get? c = some o → s.heap.objs.size ≠ c := fun e => Nat.ne_of_gt (Heap.lt_size e)
    exact hQ h' ⟨.inr ⟨_, false, _, b1, b5, Nat.ne_of_gt hS, lt zt, (by obtain ⟨_, e, _⟩ := h1; exact lt e), (by obtain ⟨_, e, _⟩ := h2; exact lt e)⟩, hk _ _ D.TIz D.TITO D.TIi1 D.TIi2 ti, ⟨_, _, b2⟩, b3, b4, e1.at fun o e => hk _ o D.l1z D.l1TO D.l1i1 D.l1i2 e, e2.at fun o e => hk _ o D.l2z D.l2TO D.l2i1 D.l2i2 e⟩ b5 b6 hk
  · have hT : s.TypeIs (.ref z) "zip" := ⟨_, a1, rfl⟩
    unfold pyNext
    refine wpAny_bind (wpAny_attempt (wpAny_callSpecial?_slot (name := Str.ofString "__next__") hT F.slot_zip_next
      (wpAny_call_entry F.slot_zip_next hT F.entry_zip_next (zip_next_item2 D a1 a2 ti h1 h2 e1 e2 hx hy fun h' b1 b3 b4 b5 b6 hk => wpAny_pure ?_) (F.args_zip_next_1 _))))
    exact hQ h' ⟨.inr ⟨T, true, oT, b1, hk _ _ a3.2.1 a3.2.2.1 a3.2.2.2 a2, a3⟩, hk _ _ D.TIz D.TIi1 D.TIi2 ti, ⟨_, _, hk _ _ D.TOz D.TOi1 D.TOi2 to⟩, b3, b4, e1.at fun o e => hk _ o D.l1z D.l1i1 D.l1i2 e, e2.at fun o e => hk _ o D.l2z D.l2i1 D.l2i2 e⟩ b5 b6
      fun c o c1 _ c3 c4 e => hk c o c1 c3 c4 e
theorem zl_done {z TI TO i1 i2 l1 l2 S : Addr} {i : Nat} {xs ys : Array Value} {Q : Option Value → Shared → Prop} (hh : A.handled = none) (D : ZipApart z TI TO i1 i2 l1 l2) (st : ZipLst s.heap z TI TO i1 i2 l1 l2 S xs ys i) (hx : xs[i]? = none)
    (hQ : ∀ h', (∀ c o, c ≠ z → c ≠ TO → c ≠ i1 → c ≠ i2 → s.heap.get? c = some o → h'.get? c = some o) → Q none { s with heap := h' }) : wpAny (model prog w) A (pyNext (.ref z)) Q E s := by
  obtain ⟨zt, ti, ⟨a, b, to⟩, h1, h2, e1, e2⟩ := st
  rcases zt with zt | ⟨T, fl, oT, a1, a2, a3⟩
  · exact wpAny_pyNext_zip_end hh D zt ti to h1 h2 e1 e2 (.inl hx) hQ
  · have hT : s.TypeIs (.ref z) "zip" := ⟨_, a1, rfl⟩
    unfold pyNext
    refine wpAny_bind (wpAny_attempt (wpAny_callSpecial?_slot (name := Str.ofString "__next__") hT F.slot_zip_next
      (wpAny_call_entry F.slot_zip_next hT F.entry_zip_next (zip_next_end2 hh D a1 a2 ti h1 e1 hx fun h' e hk he => ?_) (F.args_zip_next_1 _))))
    obtain ⟨o, ho, hc⟩ := he
    refine wpAny_bind (wpAny_isInstance (T := "StopIteration") (b := true) ⟨o, ho, hc⟩ isSubtype_stop ?_)
    exact wpAny_pure (hQ _ fun c o c1 _ c3 _ e => hk c o c1 c3 e)
/-- the pairs so far -/
structure ZipG (xs ys : Array Value) (lo : Addr) (h : Heap) (as : List Addr) : Prop where
  rise : as.Pairwise (· < ·)
  above : ∀ a ∈ as, lo < a
  pairs : ∀ (j : Nat) (a : Addr), as[j]? = some a → ∃ x y, xs[j]? = some x ∧ ys[j]? = some y ∧ IsPair h a x y
theorem ZipG.there {xs ys : Array Value} {lo : Addr} {h : Heap} {as : List Addr} (g : ZipG xs ys lo h as) {a : Addr} (ha : a ∈ as) : a < h.objs.size := by
  obtain ⟨j, hj⟩ := List.mem_iff_getElem?.mp ha
  obtain ⟨_, _, _, _, e⟩ := g.pairs j a hj
  exact Heap.lt_size e
end
section
variable {prog : Program} {w : World} {A : Around} {s : Shared} {R : Result → Shared → Prop} {xs ys : Array Value}
theorem zl_loop {S z TI TO i1 i2 l1 l2 lo : Addr} (hh : A.handled = none) (D : ZipApart z TI TO i1 i2 l1 l2) (F : ZipOff z TI TO i1 i2 l1 l2 S) (hlo : S ≤ lo ∧ z ≤ lo ∧ TO ≤ lo ∧ i1 ≤ lo ∧ i2 ≤ lo) (hxy : ys.size = xs.size) (hn : xs.size ≤ sizeLine) (res : Value) {h₁ : Heap}
    (hR : ∀ h' tk acc c as, (∀ b o, b ≠ S → b ≠ z → b ≠ TO → b ≠ i1 → b ≠ i2 → h₁.get? b = some o → h'.get? b = some o) → h'.get? S = some { cls := .type "list", dict := none, data := .seq acc c, slots := #[] } → as.length = xs.size → ZipG xs ys lo h' as →
      acc.toList = as.map Value.ref → R (.ok (.ret res)) { s with heap := h', toks := tk }) :
    ∀ (k i : Nat) (h : Heap) (tk c : Nat) (acc : Array Value) (as : List Addr), xs.size - i = k → i ≤ xs.size → ZipLst h z TI TO i1 i2 l1 l2 S xs ys i → (∀ b o, b ≠ S → b ≠ z → b ≠ TO → b ≠ i1 → b ≠ i2 → h₁.get? b = some o → h.get? b = some o) →
      h.get? S = some { cls := .type "list", dict := none, data := .seq acc c, slots := #[] } → acc.toList = as.map Value.ref → as.length = i → ZipG xs ys lo h as → lo < h.objs.size →
      codeAny (model prog w) A (.builtin "list.extend.loop" ⟨[.ref S, .ref z, res], []⟩) R { s with heap := h, toks := tk } := by
  intro k
  induction k with
  | zero =>
    intro i h tk c acc as hk hi hst hkeep hS hacc hal hG hIs
    have hin : i = xs.size := by omega
    refine codeAny_builtin PySem.F.entry_extend_loop ?_
    rw [Around.under_plainId PySem.F.plain_extend_loop _]
    show wpAny _ A.in1 (pyNext (.ref z) >>= _) _ _ _
    refine wpAny_bind (zl_done (s := { s with heap := h, toks := tk }) (A := A.in1) hh D hst (Array.getElem?_eq_none (by omega)) fun h' he => ?_)
    refine wpAny_pure (hR h' tk acc c as (fun b o b1 b2 b3 b4 b5 e => he b o b2 b3 b4 b5 (hkeep b o b1 b2 b3 b4 b5 e)) (he S _ F.z.symm F.to.symm F.i1.symm F.i2.symm hS) (by omega) ⟨hG.rise, hG.above, fun j a hj => ?_⟩ hacc)
    obtain ⟨x, y, e1, e2, e3⟩ := hG.pairs j a hj
    have ha := hG.above a (List.mem_of_getElem? hj)
    have ne : ∀ b, b ≤ lo → a ≠ b := fun b hb => Nat.ne_of_gt (Nat.lt_of_le_of_lt hb ha)
    exact ⟨x, y, e1, e2, he a _ (ne _ hlo.2.1) (ne _ hlo.2.2.1) (ne _ hlo.2.2.2.1) (ne _ hlo.2.2.2.2) e3⟩
  | succ k ih =>
    intro i h tk c acc as hk hi hst hkeep hS hacc hal hG hIs
    have hlt : i < xs.size := by omega
    have hx : xs[i]? = some xs[i] := Array.getElem?_eq_getElem hlt
    have hy : ys[i]? = some (ys[i]'(by omega)) := Array.getElem?_eq_getElem _
    generalize xs[i] = x at hx
    generalize ys[i]'(by omega) = y at hy
    have hsz : acc.size = i := by rw [← Array.length_toList, hacc, List.length_map, hal]
    refine codeAny_builtin PySem.F.entry_extend_loop ?_
    rw [Around.under_plainId PySem.F.plain_extend_loop _]
    show wpAny _ A.in1 (pyNext (.ref z) >>= _) _ _ _
    refine wpAny_bind (zl_item (s := { s with heap := h, toks := tk }) (S := S) D hst (Heap.lt_size hS) hx hy fun h' hst' ht hz hkp => ?_)
    dsimp only at ht hz hkp ⊢
    have hS' := hkp S _ F.z.symm F.to.symm F.i1.symm F.i2.symm hS
    have up : ∀ b o, b ≠ S → h'.get? b = some o → (h'.update S (Obj.mapSeq (·.push (Value.ref h.objs.size)))).get? b = some o := fun b o hb e => (Heap.get?_update_other _ _ (Ne.symm hb)).trans e
    have hSl : S < h.objs.size := Heap.lt_size hS
    show wpAny _ A.in1 (updateSeq S (·.push (Value.ref h.objs.size)) >>= _) _ _ _
    refine wpAny_bind ?_
    refine wpAny_updateSeq hS' rfl (wpAny_pure ⟨plainId_quiet PySem.F.plain_extend_loop _, ih (i + 1) _ tk _ (acc.push (Value.ref h.objs.size)) (as ++ [h.objs.size]) (by omega) hlt (hst'.keep F up)
      (fun b o b1 b2 b3 b4 b5 e => up b o b1 (hkp b o b2 b3 b4 b5 (hkeep b o b1 b2 b3 b4 b5 e))) (Heap.get?_update_self _ hS' rfl) (by rw [Array.toList_push, hacc, List.map_append]; rfl) (by rw [List.length_append, hal]; rfl) ⟨?_, ?_, ?_⟩ ?_⟩) (by rw [hsz]; omega) (by show (acc.push (Value.ref h.objs.size)).size ≤ sizeLine + 1; rw [Array.size_push, hsz]; omega)
    · refine List.pairwise_append.mpr ⟨hG.rise, List.pairwise_singleton _ _, fun a ha b hb => ?_⟩
      rw [List.mem_singleton.mp hb]
      exact hG.there ha
    · intro a ha
      rcases List.mem_append.mp ha with ha | ha
      · exact hG.above a ha
      · rw [List.mem_singleton.mp ha]; exact hIs
    · intro j b hj
      rcases Nat.lt_trichotomy j as.length with q1 | q1 | q1
      · rw [List.getElem?_append_left q1] at hj
        obtain ⟨x', y', e1, e2, e3⟩ := hG.pairs j b hj
        have hb := hG.above b (List.mem_of_getElem? hj)
        have ne : ∀ b', b' ≤ lo → b ≠ b' := fun b' hb' => Nat.ne_of_gt (Nat.lt_of_le_of_lt hb' hb)
        exact ⟨x', y', e1, e2, up b _ (ne _ hlo.1) (hkp b _ (ne _ hlo.2.1) (ne _ hlo.2.2.1) (ne _ hlo.2.2.2.1) (ne _ hlo.2.2.2.2) e3)⟩
      · subst q1
        have hb : h.objs.size = b := by simpa using hj
        subst hb
        exact ⟨x, y, by rw [hal]; exact hx, by rw [hal]; exact hy, up _ _ (Nat.ne_of_gt hSl) ht⟩
      · have hnone : (as ++ [h.objs.size])[j]? = none := List.getElem?_eq_none (by rw [List.length_append, List.length_singleton]; omega)
        rw [hnone] at hj; cases hj
    · have e : (h'.update S (Obj.mapSeq (·.push (Value.ref h.objs.size)))).get? h.objs.size = _ := up _ _ (Nat.ne_of_gt hSl) ht
      exact Nat.lt_trans hIs (Heap.lt_size e)
theorem zip_no_len : typeLookup (.type "zip") "__len__" = pure none := by rw [typeLookup_type, builtinLookup_eq_fast]; kernel_rfl
theorem zip_no_hint : typeLookup (.type "zip") "__length_hint__" = pure none := by rw [typeLookup_type, builtinLookup_eq_fast]; kernel_rfl
theorem zl_extend {S z TI TO i1 i2 l1 l2 : Addr} (hh : A.handled = none) (D : ZipApart z TI TO i1 i2 l1 l2) (F : ZipOff z TI TO i1 i2 l1 l2 S) (st : ZipLst s.heap z TI TO i1 i2 l1 l2 S xs ys 0) (hxy : ys.size = xs.size) (hn : xs.size ≤ sizeLine) (res : Value) (c₀ : Nat)
    (hS : s.heap.get? S = some { cls := .type "list", data := .seq #[] c₀ })
    (hR : ∀ h' tk acc c as, (∀ b o, b ≠ S → b ≠ z → b ≠ TO → b ≠ i1 → b ≠ i2 → s.heap.get? b = some o → h'.get? b = some o) → h'.get? S = some { cls := .type "list", dict := none, data := .seq acc c, slots := #[] } → as.length = xs.size → ZipG xs ys (s.heap.objs.size - 1) h' as →
      acc.toList = as.map Value.ref → R (.ok (.ret res)) { s with heap := h', toks := tk }) :
    wpAny (model prog w) A.in1 (Builtin.List.listExtendWith (.ref S) (.ref z) res)
      (fun fin s' => match fin with | .done f => R (.ok f) s' | .again c' => c'.quiet = true ∧ codeAny (model prog w) A c' R s') (fun e s' => R (.error e) s') s := by
  have lS := Heap.lt_size hS
  obtain ⟨zt, ti, ⟨a, b, to⟩, h1, h2, e1, e2⟩ := id st
  obtain ⟨f0, fl, hz⟩ : ∃ f0 fl, ZipAt s.heap z TI TO f0 fl := by
    rcases zt with zt | ⟨T, fl, oT, a1, _⟩
    · exact ⟨_, _, zt⟩
    · exact ⟨_, _, a1⟩
  have hT : s.TypeIs (.ref z) "zip" := ⟨_, hz, rfl⟩
  have lz := Heap.lt_size hz
  have lTO := Heap.lt_size to
  have li1 : i1 < s.heap.objs.size := by obtain ⟨_, e, _⟩ := h1; exact Heap.lt_size e
  have li2 : i2 < s.heap.objs.size := by obtain ⟨_, e, _⟩ := h2; exact Heap.lt_size e
  unfold Builtin.List.listExtendWith
  refine wpAny_bind (wpAny_typeOf hT ?_)
  have h1' : Builtin.List.listSameRef (.ref S) (.ref z) = false := by simp [Builtin.List.listSameRef, F.z.symm]
  have h2' : (Value.type "zip" == Value.type "list") = false := by decide
  have h3' : (Value.type "zip" == Value.type "tuple") = false := by decide
  simp only [h1', h2', h3', Bool.or_false, Bool.false_eq_true, if_false]
  have self : ∀ {Q : Value → Shared → Prop} {E : Value → Shared → Prop}, Q (.ref z) s → wpAny (model prog w) A.in1 (pyIter (.ref z)) Q E s := fun h => by
    refine wpAny_pyIter_slot hT PySem.F.slot_zip_iter (wpAny_call_entry PySem.F.slot_zip_iter hT PySem.F.entry_zip_iter ?_ (PySem.F.args_zip_iter_1 _))
    show wpAny _ _ (ret (.ref z)) _ _ s
    exact wpAny_pure ⟨_, rfl, "zip", _, hT, PySem.F.slot_zip_next.lookup, h⟩
  refine wpAny_bind (self ?_)
  refine wpAny_bind (wpAny_holding ?_)
  unfold Builtin.List.listLengthHint
  refine wpAny_bind (wpAny_specialOf hT zip_no_len ?_)
  show wpAny _ A.in1 (specialOf (Value.ref z) (Str.ofString "__length_hint__") >>= _) _ _ _
  refine wpAny_bind (wpAny_specialOf hT zip_no_hint ?_)
  refine wpAny_pure ?_
  show wpAny _ A.in1 (rule "list.extend.makes-room" >>= fun _ => Builtin.List.listTouch (.ref S) >>= fun _ =>
    again (.builtin "list.extend.loop" ⟨[.ref S, .ref z, res], []⟩)) _ _ _
  refine wpAny_bind (wpAny_rule ?_)
  refine wpAny_bind ?_
  show wpAny _ A.in1 (updateSeq S (·.push .none) >>= fun _ => updateSeq S (·.pop)) _ _ _
  refine wpAny_bind (wpAny_updateSeq hS rfl ?_)
  have hS₂ := Heap.get?_update_self (Obj.mapSeq (·.push Value.none)) hS rfl
  refine wpAny_updateSeq (hz := by seq_fits) hS₂ rfl ?_
  have hS₃ := Heap.get?_update_self (Obj.mapSeq (·.pop)) hS₂ rfl
  have oth : ∀ b o, b ≠ S → s.heap.get? b = some o → ((s.heap.update S (Obj.mapSeq (·.push Value.none))).update S (Obj.mapSeq (·.pop))).get? b = some o :=
    fun b o hb e => (Heap.get?_update_other _ _ (Ne.symm hb)).trans ((Heap.get?_update_other _ _ (Ne.symm hb)).trans e)
  refine wpAny_pure ⟨plainId_quiet PySem.F.plain_extend_loop _, zl_loop (s := s) (h₁ := s.heap) (lo := s.heap.objs.size - 1) hh D F ⟨Nat.le_sub_one_of_lt lS, Nat.le_sub_one_of_lt lz, Nat.le_sub_one_of_lt lTO, Nat.le_sub_one_of_lt li1, Nat.le_sub_one_of_lt li2⟩ hxy hn res hR xs.size 0 _ s.toks _ #[] [] (Nat.sub_zero _) (Nat.zero_le _) (st.keep F oth)
    (fun b o b1 _ _ _ _ e => oth b o b1 e) hS₃ rfl rfl ⟨List.Pairwise.nil, (fun _ ha => nomatch ha), (fun j a hj => by simp at hj)⟩ ?_⟩
  have := Heap.lt_size hS₃
  have l2 := Heap.lt_size (oth z _ F.z hz)
  have : s.heap.objs.size - 1 < s.heap.objs.size := Nat.sub_lt (Nat.zero_lt_of_lt lz) Nat.one_pos
  refine Nat.lt_of_lt_of_eq this ?_
  simp [Heap.update]
theorem zl_init {S z TI TO i1 i2 l1 l2 : Addr} (hh : A.handled = none) (D : ZipApart z TI TO i1 i2 l1 l2) (F : ZipOff z TI TO i1 i2 l1 l2 S) (st : ZipLst s.heap z TI TO i1 i2 l1 l2 S xs ys 0) (hxy : ys.size = xs.size) (hn : xs.size ≤ sizeLine)
    (hS : s.heap.get? S = some { cls := .type "list", data := .seq #[] })
    (hR : ∀ h' tk acc c as, (∀ b o, b ≠ S → b ≠ z → b ≠ TO → b ≠ i1 → b ≠ i2 → s.heap.get? b = some o → h'.get? b = some o) → h'.get? S = some { cls := .type "list", dict := none, data := .seq acc c, slots := #[] } → as.length = xs.size → ZipG xs ys (s.heap.objs.size - 1) h' as →
      acc.toList = as.map Value.ref → R (.ok (.ret .none)) { s with heap := h', toks := tk }) :
    wpAny (model prog w) A.in1 (Builtin.«list.__init__» ⟨[.ref S, .ref z], []⟩)
      (fun fin s' => match fin with | .done f => R (.ok f) s' | .again c' => c'.quiet = true ∧ codeAny (model prog w) A c' R s') (fun e s' => R (.error e) s') s := by
  show wpAny _ A.in1 (do let old ← Builtin.List.listItems (.ref S); Builtin.List.listUpdate (.ref S) (fun _ => #[]); letGo old.toList.reverse; Builtin.List.listExtendWith (.ref S) (.ref z) .none) _ _ s
  refine wpAny_bind ?_
  unfold Builtin.List.listItems
  refine wpAny_bind (wpAny_seqItems hS rfl (wpAny_pure ?_))
  show wpAny _ A.in1 (updateSeq S (fun _ => #[]) >>= fun _ => letGo (#[] : Array Value).toList.reverse >>= fun _ => Builtin.List.listExtendWith (.ref S) (.ref z) .none) _ _ s
  refine wpAny_bind (wpAny_updateSeq hS rfl ?_)
  have hS₂ := Heap.get?_update_self (Obj.mapSeq (fun _ => (#[] : Array Value))) hS rfl
  have oth : ∀ b o, b ≠ S → s.heap.get? b = some o → (s.heap.update S (Obj.mapSeq (fun _ => (#[] : Array Value)))).get? b = some o :=
    fun b o hb e => (Heap.get?_update_other _ _ (Ne.symm hb)).trans e
  refine wpAny_bind (wpAny_letGo ?_)
  have sz : (s.heap.update S (Obj.mapSeq (fun _ => (#[] : Array Value)))).objs.size = s.heap.objs.size := by simp [Heap.update]
  refine zl_extend hh D F (st.keep F oth) hxy hn .none _ hS₂ fun h' tk acc c as hk hS' hl hG hacc => ?_
  exact hR h' tk acc c as (fun b o b1 b2 b3 b4 b5 e => hk b o b1 b2 b3 b4 b5 (oth b o b1 e)) hS' hl (by rw [← sz]; exact hG) hacc
end
section
variable {prog : Program} {w : World} {A : Around} {E : Value → Shared → Prop} {s : Shared} {xs ys : Array Value}
theorem zl_call {z TI TO i1 i2 l1 l2 : Addr} {Q : Value → Shared → Prop} (hh : A.handled = none) (D : ZipApart z TI TO i1 i2 l1 l2) (zt : IsZip s.heap z TI TO .none) (ti : IsPair s.heap TI (.ref i1) (.ref i2)) (to : ∃ a b, IsPair s.heap TO a b) (h1 : s.heap.IsListIter i1 l1 0) (h2 : s.heap.IsListIter i2 l2 0)
    (e1 : s.heap.IsList l1 xs) (e2 : s.heap.IsList l2 ys) (hxy : ys.size = xs.size) (hn : xs.size ≤ sizeLine)
    (hQ : ∀ h' tk acc c as, (∀ b o, b ≠ z → b ≠ TO → b ≠ i1 → b ≠ i2 → s.heap.get? b = some o → h'.get? b = some o) → h'.get? s.heap.objs.size = some { cls := .type "list", dict := none, data := .seq acc c, slots := #[] } → as.length = xs.size → ZipG xs ys s.heap.objs.size h' as →
      acc.toList = as.map Value.ref → Q (.ref s.heap.objs.size) { s with heap := h', toks := tk }) :
    wpAny (model prog w) A (call (.type "list") [.ref z]) Q E s := by
  refine callType_codes (Q₁ := fun obj s₁ => obj = .ref s.heap.objs.size ∧ s₁ = { s with heap := s.heap.push { cls := .type "list", data := .seq #[] } }) PySem.F.called_list (PySem.F.typeCall_list_1 _) PySem.F.entry_list_init
    (code_list_new _ ⟨rfl, rfl⟩) fun obj s₁ q₁ => ?_
  obtain ⟨rfl, rfl⟩ := q₁
  have hS : (s.heap.push { cls := .type "list", data := .seq #[] }).get? s.heap.objs.size = some { cls := .type "list", data := .seq #[] } := Heap.get?_push_size _ rfl
  have up : ∀ b o, s.heap.get? b = some o → (s.heap.push { cls := .type "list", data := .seq #[] }).get? b = some o := fun b o e => Heap.get?_push_of_some _ e
  have lt : ∀ {b o}, s.heap.get? b = some o → b ≠ s.heap.objs.size := fun e => Nat.ne_of_lt (Heap.lt_size e)
  obtain ⟨a, b, to⟩ := to
  have F : ZipOff z TI TO i1 i2 l1 l2 s.heap.objs.size := ⟨lt zt, lt ti, lt to, by obtain ⟨_, e, _⟩ := h1; exact lt e, by obtain ⟨_, e, _⟩ := h2; exact lt e, by obtain ⟨_, e, _⟩ := e1; exact lt e, by obtain ⟨_, e, _⟩ := e2; exact lt e⟩
  have st : ZipLst (s.heap.push { cls := .type "list", data := .seq #[] }) z TI TO i1 i2 l1 l2 s.heap.objs.size xs ys 0 := ⟨.inl (up _ _ zt), up _ _ ti, ⟨a, b, up _ _ to⟩, h1.at fun o e => up _ o e, h2.at fun o e => up _ o e, e1.at fun o e => up _ o e, e2.at fun o e => up _ o e⟩
  refine ⟨⟨_, hS, rfl⟩, PySem.F.args_list_init_2 _ _, zl_init (A := A.in1) hh D F st hxy hn hS fun h' tk acc c as hk hS' hl hG hacc => ?_⟩
  refine ⟨rfl, hQ h' tk acc c as (fun b o b2 b3 b4 b5 e => hk b o (lt e) b2 b3 b4 b5 (up b o e)) hS' hl ?_ hacc⟩
  have e : (s.heap.push { cls := .type "list", data := .seq #[] }).objs.size - 1 = s.heap.objs.size := by rw [Heap.size_push]; rfl
  rw [← e]
  exact hG
end
end EBZ
end PySem

namespace EB
open PySem L2 PySem.Spec PyProof.Rows
/-! ### list(zip(e, e2)) -/
def putZ : Hp → List Addr → List (V × V) → Hp
  | H, a :: as, p :: kvs => putZ (upd H a (.tup [p.1, p.2])) as kvs
  | H, _, _ => H
theorem putZ_off {b : Addr} : ∀ (as : List Addr) (kvs : List (V × V)) (H : Hp), b ∉ as → putZ H as kvs b = H b
  | [], _, _, _ => rfl
  | _ :: _, [], _, _ => rfl
  | a :: as, p :: kvs, H, h => by
    show putZ (upd H a (.tup [p.1, p.2])) as kvs b = H b
    rw [putZ_off as kvs _ (fun z => h (List.mem_cons_of_mem _ z)), upd_ne (fun z => h (by rw [z]; exact List.mem_cons_self))]
theorem putZ_at : ∀ (as : List Addr) (kvs : List (V × V)) (H : Hp), as.length = kvs.length → as.Nodup → Paired (fun (t : Addr) (p : V × V) => putZ H as kvs t = some (.tup [p.1, p.2])) as kvs
  | [], [], _, _, _ => .nil
  | [], _ :: _, _, h, _ => by cases h
  | _ :: _, [], _, h, _ => by cases h
  | a :: as, p :: kvs, H, h, hn => by
    have hn' := List.nodup_cons.mp hn
    have ih := putZ_at as kvs (upd H a (.tup [p.1, p.2])) (Nat.succ.inj h) hn'.2
    refine .cons ?_ ih
    show putZ (upd H a (.tup [p.1, p.2])) as kvs a = some (.tup [p.1, p.2])
    rw [putZ_off as kvs _ hn'.1, upd_same]
theorem zip_get {us ws : List V} {j : Nat} {q : V × V} (h : (us.zip ws)[j]? = some q) : us[j]? = some q.1 ∧ ws[j]? = some q.2 := by
  rw [List.getElem?_zip_eq_some] at h
  exact h
section
variable {X : Cx} {e e2 : Expr} {ta : TA} {p p2 pos pos2 : Pos}
theorem zip_laid {pins : List (Addr × Obj)} {σ : L2.St} {H : Hp} {s : Shared} {h' : Heap} {tk : Nat} {us ws : List V} {its its2 : List Value} {acc : Array Value} {c S : Nat} {as : List Addr} (I : Inv X pins σ H s) (hz : us.length ≤ sizeLine) (r1 : Vals us its) (r2 : Vals ws its2) (hl2 : us.length = ws.length)
    (hk : ∀ b o, s.heap.get? b = some o → h'.get? b = some o) (hSs : s.heap.objs.size ≤ S) (hS : h'.get? S = some { cls := .type "list", dict := none, data := .seq acc c, slots := #[] }) (hl : as.length = us.length) (hG : EBZ.ZipG its.toArray its2.toArray S h' as) (hacc : acc.toList = as.map Value.ref) :
    ∃ H' : Hp, (∀ b o, H b = some o → H' b = some o) ∧ H S = none ∧ (∀ t ∈ as, H t = none) ∧ S ∉ as ∧ as.Nodup ∧ H' S = some (.lst (as.map V.ref)) ∧ Paired (fun (t : Addr) (q : V × V) => H' t = some (.tup [q.1, q.2])) as (us.zip ws) ∧ Inv X pins σ H' { s with heap := h', toks := tk } := by
  have lz : (us.zip ws).length = us.length := by rw [List.length_zip, ← hl2, Nat.min_self]
  have hSn : S ∉ as := fun z => Nat.lt_irrefl _ (hG.above _ z)
  have nd : as.Nodup := List.Pairwise.imp (fun {a b} (h : a < b) => Nat.ne_of_lt h) hG.rise
  have new : ∀ t ∈ as, H t = none := fun t ht => I.hok.fresh (Nat.le_trans hSs (Nat.le_of_lt (hG.above t ht)))
  have newS : H S = none := I.hok.fresh hSs
  have atP := putZ_at as (us.zip ws) (upd H S (.lst (as.map V.ref))) (by rw [lz]; exact hl) nd
  have off : ∀ b, b ∉ as → b ≠ S → putZ (upd H S (.lst (as.map V.ref))) as (us.zip ws) b = H b := fun b h1 h2 => by rw [putZ_off as _ _ h1, upd_ne h2]
  have low : ∀ b o, s.heap.get? b = some o → b ∉ as ∧ b ≠ S := fun b o e => ⟨fun z => absurd (Heap.lt_size e) (Nat.not_lt.mpr (Nat.le_trans hSs (Nat.le_of_lt (hG.above b z)))), Nat.ne_of_lt (Nat.lt_of_lt_of_le (Heap.lt_size e) hSs)⟩
  have kp : ∀ b u, H b = some u → (putZ (upd H S (.lst (as.map V.ref))) as (us.zip ws)) b = some u := fun b u e => by
    rw [off b (fun z => by rw [new b z] at e; cases e) (fun z => by rw [z, newS] at e; cases e)]
    exact e
  have eS : putZ (upd H S (.lst (as.map V.ref))) as (us.zip ws) S = some (.lst (as.map V.ref)) := by rw [putZ_off as _ _ hSn, upd_same]
  refine ⟨putZ (upd H S (.lst (as.map V.ref))) as (us.zip ws), kp, newS, new, hSn, nd, eS, atP, ?_⟩
  refine I.call' (ch := []) rfl ⟨fun b o q _ _ _ => hk b o q, fun b o q _ _ _ => ⟨o.slots, hk b o q⟩, fun b o q n _ => ?_, fun b o q _ => ⟨o, hk b o q⟩, fun b xs q => kp b _ q, fun b o u q => kp b _ q, fun b ps q => ⟨#[], by rw [kp b _ q]; simp⟩⟩ (fun b u q => ?_) I.bare fun b z => by simp at z
  · obtain ⟨z1, z2⟩ := low b o q
    rw [off b z1 z2]
    exact n
  · by_cases hb : b ∈ as
    · obtain ⟨j, pk, e1, e2, e3⟩ := LiI.paired_ix atP hb
      rw [e3] at q
      cases q
      obtain ⟨x, y, f1, f2, f3⟩ := hG.pairs j b e1
      obtain ⟨g1, g2⟩ := zip_get e2
      obtain ⟨x', k1, k2⟩ := LiI.paired_get r1 g1
      obtain ⟨y', m1, m2⟩ := LiI.paired_get r2 g2
      have ex : x = x' := by simpa [k1] using f1.symm
      have ey : y = y' := by simpa [m1] using f2.symm
      subst ex ey
      exact ⟨by show 2 ≤ sizeLine; decide, [x, y], .cons k2 (.cons m2 .nil), ⟨_, f3, rfl, _, rfl⟩⟩
    · by_cases hb2 : b = S
      · rw [hb2] at q ⊢
        rw [eS] at q
        cases q
        refine ⟨by rw [List.length_map]; omega, acc.toList, c, by rw [hacc]; exact LiI.vals_refs as, ?_⟩
        rw [Array.toArray_toList]
        exact hS
      · rw [off b hb hb2] at q
        exact (I.hok b u q).stay (fun d v _ y => hk d v y) (fun d y => kp d _ y) fun d xs y => kp d _ y
def rLz (K : PySem.W.Frag) : List V → Hp → VK → Prop := fun vs H1 Q => ∃ (a b : Addr) (us ws : List V), vs = [.ref a, .ref b] ∧ SqL K H1 a us ∧ SqL K H1 b ws ∧ us.length = ws.length ∧ us.length ≤ sizeLine ∧
  ∀ (H' : Hp) (p : Addr) (ts : List Addr), (∀ b o, H1 b = some o → H' b = some o) → H1 p = none → (∀ t ∈ ts, H1 t = none) → p ∉ ts → ts.Nodup → H' p = some (.lst (ts.map V.ref)) → Paired (fun (t : Addr) (q : V × V) => H' t = some (.tup [q.1, q.2])) ts (us.zip ws) → Q (.ref p) H'
def tListZip (K : PySem.W.Frag) (ta : TA) : TE := fun σ H Q => ta σ H fun vs H1 => rLz K vs H1 Q
theorem pe_listZip (hc : X.calm = true) (hg : Gl X "list") (hm : X.mg "list" = none) (hg2 : Gl X "zip") (hm2 : X.mg "zip" = none) (ha : PA X [e, e2] ta)
    (hs : starEach [e, e2] X.env = (false, eval e X.env) :: starEach [e2] X.env := by rfl) (hpl : (backTo pos2 (starEach [e2] X.env)).any (·.1) = false := by rfl)
    (hs0 : starEach [.Call (.Name "zip" p2) [e, e2] [] pos2] X.env = (false, eval (.Call (.Name "zip" p2) [e, e2] [] pos2) X.env) :: starEach [] X.env := by rfl) :
    PE X (.Call (.Name "list" p) [.Call (.Name "zip" p2) [e, e2] [] pos2] [] pos) (tListZip X.K ta) := by
  refine ⟨fun pins s σ H Q I h => ?_⟩
  refine wpAny_Call_Name_kw (ld_blt I hg hm boot_list ?_)
  refine PyProof.Rows.callWith_type1 ?_ hs0 rfl
  rw [hs0]
  show wpAny _ _ (spliced ((false, eval (.Call (.Name "zip" p2) [e, e2] [] pos2) X.env) :: backTo pos (starEach [] X.env))) _ _ s
  refine Calls.spliced_cons ?_
  refine Call_ (ld_blt I hg2 hm2 PyProof.Rows.boot_zip (PyProof.Rows.callWith_type1 (thn (ha.run pos2 pins s σ H _ I h) fun us s1 ⟨vs, H1, I1, r1, q1⟩ => ?_) hs hpl))
  obtain ⟨a, b, xs, ys, ex, hqx, hqy, el, esz, q⟩ := q1
  subst ex
  cases r1 with
  | cons r rr =>
    cases rr with
    | cons r' rr =>
      cases rr
      cases r
      cases r'
      obtain ⟨its, rv, p1, _⟩ := I1.list hqx
      obtain ⟨its2, rv2, p2', _⟩ := I1.list hqy
      have la : a < s1.heap.objs.size := p1.lt
      have lb : b < s1.heap.objs.size := p2'.lt
      have l1 : xs.length = its.length := Paired.length rv
      have l2 : ys.length = its2.length := Paired.length rv2
      refine call_zip_2 p1.isList p2'.isList fun h' hz hTI hTO h1 h2 hsz hk => Calls.spliced_nil ?_
      refine EBZ.zl_call (s := { s1 with heap := h' }) (I1.ok.hd hc) (PySem.W.ktu_apart s1.heap.objs.size a b la lb) hz hTI ⟨_, _, hTO⟩ h1 h2 (p1.isList.at fun o y => hk _ o y) (p2'.isList.at fun o y => hk _ o y) (by simp; omega) (by simp; omega) fun h'' tk acc c as hk2 hS hl hG hacc => ?_
      have keep : ∀ b o, s1.heap.get? b = some o → h''.get? b = some o := fun b o y => by
        have lt := Heap.lt_size y
        exact hk2 b o (Nat.ne_of_lt (Nat.lt_add_right _ lt)) (Nat.ne_of_lt (Nat.lt_add_right _ lt)) (Nat.ne_of_lt lt) (Nat.ne_of_lt (Nat.lt_add_right _ lt)) (hk b o y)
      obtain ⟨H', k1, k2, k3, k4, k5, k6, k7, J⟩ := zip_laid (tk := tk) I1 esz rv rv2 el keep (by show s1.heap.objs.size ≤ h'.objs.size; rw [hsz]; exact Nat.le_add_right _ _) hS (by rw [hl]; simp; omega) hG hacc
      exact ⟨.ref _, H', J, rfl, q H' _ as k1 k2 k3 k4 k5 k6 k7⟩
end
/-- the pairs laid one by one, and seen -/
theorem imm_all {L : List Res} : ∀ (ts : List Addr) (ps : List (V × V)) (G H : Hp), Sep G H L → (∀ t ∈ ts, H t = none) → ts.Nodup → ts.length = ps.length → ∃ G', Same G G' ∧ Sep G' (putZ H ts ps) L ∧ Paired (fun (t : Addr) (q : V × V) => G' t = some (.tup [q.1, q.2])) ts ps
  | [], [], G, H, s, _, _, _ => ⟨G, Same.refl _, s, .nil⟩
  | [], _ :: _, _, _, _, _, _, h => by cases h
  | _ :: _, [], _, _, _, _, _, h => by cases h
  | t :: ts, p :: ps, G, H, s, hn, nd, hl => by
    have nd' := List.nodup_cons.mp nd
    obtain ⟨u1, s1⟩ := s.imm (o := .tup [p.1, p.2]) (hn t List.mem_cons_self)
    obtain ⟨G', u2, s2, h2⟩ := imm_all ts ps _ _ s1 (fun x hx => by rw [upd_ne (fun e : x = t => nd'.1 (by rw [← e]; exact hx))]; exact hn x (List.mem_cons_of_mem _ hx)) nd'.2 (Nat.succ.inj hl)
    exact ⟨G', u1.trans u2, s2, .cons (u2 _ _ upd_same) h2⟩
theorem reps_len2 {A : Type} [Rp A] {G : Hp} : ∀ {vs : List V} {xs : List A}, Reps G vs xs → vs.length = xs.length
  | [], [], _ => rfl
  | _ :: _, _ :: _, ⟨_, h⟩ => by rw [List.length_cons, List.length_cons, reps_len2 h]
  | [], _ :: _, h => h.elim
  | _ :: _, [], h => h.elim
theorem reps_zip {A C : Type} [Rp A] [Rp C] {G G' : Hp} (u : Same G G') : ∀ {us ws : List V} {xs : List A} {ys : List C} {ts : List Addr}, Reps G us xs → Reps G ws ys → Paired (fun (t : Addr) (q : V × V) => G' t = some (.tup [q.1, q.2])) ts (us.zip ws) → us.length = ws.length → Reps G' (ts.map V.ref) (xs.zip ys)
  | [], [], [], [], [], _, _, _, _ => trivial
  | a :: us, b :: ws, x :: xs, y :: ys, t :: ts, ⟨ra, rs⟩, ⟨rb, rs'⟩, .cons h hs, hl => ⟨⟨t, a, b, rfl, h, ra.up u, rb.up u⟩, reps_zip u rs rs' hs (Nat.succ.inj hl)⟩
  | [], [], _ :: _, _, _, h, _, _, _ => h.elim
  | [], [], [], _ :: _, _, _, h, _, _ => h.elim
  | _ :: _, _ :: _, [], _, _, h, _, _, _ => h.elim
  | _ :: _, _ :: _, _ :: _, [], _, _, h, _, _ => h.elim
  | [], _ :: _, _, _, _, _, _, _, h => by cases h
  | _ :: _, [], _, _, _, _, _, _, h => by cases h
section
variable {K : PySem.W.Frag} {σ : L2.St} {ta : TA} {H : Hp} {Q : VK} {G : Hp} {L : List Res} {v w : V}
theorem g_listZip {A C : Type} [Rp A] [Rp C] {xs : List A} {ys : List C} (r : Rep G v xs) (r' : Rep G w ys) (s : Sep G H L) (hl : xs.length = ys.length) (hz : xs.length ≤ sizeLine) (q : ∀ p G' H', Same G G' → Sep G' H' (OwnL p (xs.zip ys) :: L) → Q (.ref p) H') :
    rLz K [v, w] H Q := by
  obtain ⟨a, us, rfl, ha, rs⟩ := r
  obtain ⟨b, ws, rfl, hb, rs'⟩ := r'
  have l1 := reps_len2 rs
  have l2 := reps_len2 rs'
  refine ⟨a, b, us, ws, rfl, .inl (.inl (s.gh _ _ ha)), .inl (.inl (s.gh _ _ hb)), by omega, by omega, fun H' p ts hk hp hts hpn nd hpl hpr => ?_⟩
  have lz : (us.zip ws).length = us.length := by rw [List.length_zip]; omega
  obtain ⟨G', u, st, hG⟩ := imm_all ts (us.zip ws) G H s hts nd (Paired.length hpr)
  have hp2 : putZ H ts (us.zip ws) p = none := by rw [putZ_off _ _ _ hpn]; exact hp
  have st := st.ownNew hp2 (reps_zip u rs rs' hG (by omega))
  refine q p G' H' u (st.keep fun c o e => ?_)
  by_cases hc : c = p
  · subst hc
    rw [upd_same] at e
    rw [hpl]
    exact e
  · rw [upd_ne hc] at e
    by_cases hm : c ∈ ts
    · obtain ⟨j, z, e1, e2, e3⟩ := LiI.paired_ix hpr hm
      have at2 := putZ_at ts (us.zip ws) H (Paired.length hpr) nd
      obtain ⟨z', f1, f2⟩ := LiI.paired_get at2 e1
      rw [e2] at f1
      obtain rfl := Option.some.inj f1
      rw [f2] at e
      rw [e3]
      exact e
    · rw [putZ_off _ _ _ hm] at e
      exact hk c o e
theorem g_lz (h : ta σ H fun vs H1 => rLz K vs H1 Q) : tListZip K ta σ H Q := h
end
end EB

local macro_rules | `(tactic| walk_at "cm") => `(tactic| first | assumption | (refine And.intro ?_ ?_ <;> omega) | omega | decide)
local macro_rules | `(tactic| walk_at "sm") => `(tactic| first
  | exact L2.Same.refl _
  | assumption
  | exact EB.Sep.gh (by assumption)
  | (refine L2.Same.trans ?_ (EB.Sep.gh (by assumption)); walk_at "sm")
  | (refine L2.Same.trans ?_ (by assumption); walk_at "sm"))
local macro_rules | `(tactic| walk_at "rep") => `(tactic| first
  | assumption
  | exact rfl
  | exact EB.Rep.up (by assumption) (by walk_at "sm"))
local macro_rules | `(tactic| walk_at "1") => `(tactic| first
  | with_reducible refine EB.g_seq ?_
  | with_reducible refine EB.g_asg ?_
  | with_reducible refine EB.g_asgT ?_
  | with_reducible refine EB.g_asgS ?_
  | with_reducible refine EB.g_name ?_
  | with_reducible refine EB.g_par ?_
  | with_reducible refine EB.g_par2 ?_
  | with_reducible refine EB.g_par3 ?_
  | with_reducible refine EB.g_par33 ?_
  | with_reducible refine EB.g_ret ?_
  | with_reducible refine EB.g_drop ?_
  | with_reducible refine EB.g_next ?_
  | with_reducible refine EB.g_if ?_
  | with_reducible refine EB.g_test ?_
  | with_reducible refine EB.g_B ?_
  | with_reducible refine EB.g_bl ?_
  | with_reducible refine EB.g_and ?_
  | with_reducible refine EB.g_or ?_
  | with_reducible refine EB.g_not ?_
  | with_reducible refine EB.g_ifE ?_
  | ((with_reducible refine' EB.g_var ?hv ?_); (case hv => rfl))
  | with_reducible refine EB.g_c ?_
  | with_reducible refine EB.g_op ?_
  | with_reducible refine EB.g_un ?_
  | with_reducible refine EB.g_cb ?_
  | with_reducible refine EB.g_nil ?_
  | with_reducible refine EB.g_cons ?_
  | with_reducible refine EB.g_tup ?_
  | with_reducible refine EB.g_lst ?_
  | with_reducible refine EB.g_call ?_
  | with_reducible refine EB.g_callK ?_
  | ((with_reducible refine' EB.g_aug ?hv ?_); (case hv => rfl))
  | with_reducible refine EB.g_ipI ?_
  | with_reducible refine EB.g_rI0 ?_
  | with_reducible refine EB.g_rU ?_
  | with_reducible refine EB.g_add ?_
  | with_reducible refine EB.g_addb ?_
  | with_reducible refine EB.g_sub ?_
  | ((with_reducible refine EB.g_mul ?hm ?_); (case hm => walk_at "cm"))
  | ((with_reducible refine EB.g_div ?h0 ?h1 ?_); (case h0 => walk_at "cm"); (case h1 => walk_at "cm"))
  | ((with_reducible refine EB.g_mod ?h0 ?_); (case h0 => walk_at "cm"))
  | with_reducible refine EB.g_abs ?_
  | with_reducible refine EB.g_max ?_
  | with_reducible refine EB.g_min ?_
  | with_reducible refine EB.g_intI ?_
  | with_reducible refine EB.g_intB ?_
  | with_reducible refine EB.g_eqI ?_
  | with_reducible refine EB.g_neI ?_
  | with_reducible refine EB.g_eqS ?_
  | with_reducible refine EB.g_neS ?_
  | with_reducible refine EB.g_isN ?_
  | with_reducible refine EB.g_notN ?_
  | with_reducible refine EB.g_bm ?_
  | with_reducible refine EB.g_bm0 ?_
  | with_reducible refine EB.g_lc ?_
  | with_reducible refine EB.g_yes ?_
  | with_reducible refine EB.g_iteT ?_
  | with_reducible refine EB.g_iteF ?_
  | ((with_reducible refine EB.g_wipe ?hw ?_); (case hw => rfl))
  | with_reducible refine EB.g_dget ?_
  | with_reducible refine EB.g_din ?_
  | with_reducible refine EB.g_dni ?_
  | with_reducible refine EB.g_dput ?_
  | with_reducible refine EB.g_daug ?_
  | with_reducible refine EB.g_del ?_
  | with_reducible refine EB.g_dc ?_
  | with_reducible refine EB.g_rAddL ?_
  | with_reducible refine EB.g_for ?_
  | with_reducible refine EB.g_iL ?_
  | with_reducible refine EB.g_iT ?_
  | with_reducible refine EB.g_iR1 ?_
  | with_reducible refine EB.g_iR2 ?_
  | with_reducible refine EB.g_iE ?_
  | with_reducible refine EB.g_iZ ?_
  | with_reducible refine EB.g_iV ?_
  | with_reducible refine EB.g_sl ?_
  | with_reducible refine EB.g_noPart ?_
  | with_reducible refine EB.g_part ?_
  | with_reducible refine EB.g_someI ?_
  | with_reducible refine EB.g_revL ?_
  | with_reducible refine EB.g_ckw ?_
  | with_reducible refine EB.g_eqB ?_
  | with_reducible refine EB.g_neB ?_
  | with_reducible refine EB.g_andV ?_
  | with_reducible refine EB.g_orV ?_
  | with_reducible refine EB.g_notV ?_
  | with_reducible refine EB.g_iteNT ?_
  | with_reducible refine EB.g_iteNF ?_
  | with_reducible refine EB.g_lstRg1 ?_
  | with_reducible refine EB.g_lc2 ?_
  | with_reducible refine EB.g_sc2 ?_
  | with_reducible refine EB.g_fld ?_
  | with_reducible refine EB.g_sfld ?_
  | with_reducible refine EB.g_meth ?_
  | with_reducible refine EB.g_mtX ?_
  | with_reducible refine EB.g_make ?_
  | with_reducible refine EB.g_methK ?_
  | with_reducible refine EB.g_lstItm ?_
  | with_reducible refine EB.g_iZA ?_
  | with_reducible refine EB.g_iEZ ?_
  | with_reducible refine EB.g_dpop ?_
  | with_reducible refine EB.g_chain ?_
  | with_reducible refine EB.g_dget2 ?_
  | with_reducible refine EB.g_augS ?_
  | with_reducible refine EB.g_callS ?_
  | with_reducible refine EB.g_callKS ?_
  | with_reducible refine EB.g_raise ?_
  | with_reducible refine EB.g_tryK ?_
  | with_reducible refine EB.g_tryA ?_
  | with_reducible refine EB.g_whatP ?_
  | with_reducible refine EB.g_mk ?_
  | with_reducible refine EB.g_mkV ?_
  | with_reducible refine EB.g_mkEK ?_
  | with_reducible refine EB.g_what ?_
  | with_reducible refine EB.g_join ?_
  | with_reducible refine EB.g_js0 ?_
  | with_reducible refine EB.g_js1 ?_
  | with_reducible refine EB.g_fmt ?_
  | with_reducible refine EB.g_ms ?_
  | with_reducible refine EB.g_isStr ?_
  | with_reducible refine EB.g_iS ?_)
local macro_rules | `(tactic| walk_at "g") => `(tactic| (repeat walk_at "1"))
local macro_rules | `(tactic| walk_at "pull") => `(tactic| first | with_reducible exact List.Perm.refl _ | ((with_reducible refine' EB.pullS ?hp); (case hp => walk_at "pull")))
local macro_rules | `(tactic| walk_at "pp") => `(tactic| first | with_reducible exact List.Perm.refl _ | ((refine' EB.pullTo ?hp ?hk); (case hp => walk_at "pull"); (case hk => walk_at "pp")))
local macro_rules | `(tactic| walk_at "e") => `(tactic| (repeat ((fail_if_success (with_reducible refine EB.g_seq ?_)); walk_at "1")))
local macro_rules | `(tactic| walk_at "st") => `(tactic| ((with_reducible refine EB.g_seq ?_); walk_at "e"))
namespace El
open PySem L2 EB
def topS (i : Nat) : Stmt := PySem.Challenge.pw_elderinn_k08_whole_any_arrangement.main.body.getD i (.Pass ⟨0, 0, 0, 0⟩)
end El
namespace El
open PySem L2 EB
/-! ### the tray of draws -/
def trL (g : Addr) (l f t : Int) : List V := [.ref g, .int l, .int f, .int t]
/-- a tray at p, from which n at most were drawn -/
def TrayR (p : Addr) (n : Nat) : Res := .ex fun (x : Addr × List Int × Int × Int × Int) => .if (0 ≤ x.2.2.1 ∧ 0 ≤ x.2.2.2.1 ∧ x.2.2.2.1 < 2305843009213693951 ∧ 0 ≤ x.2.2.2.2 ∧ x.2.2.2.2 ≤ n ∧ (∀ y ∈ x.2.1, 0 ≤ y) ∧ x.2.1.length ≤ 63)
  (.all [cell p (.lst (trL x.1 x.2.2.1 x.2.2.2.1 x.2.2.2.2)), OwnL x.1 x.2.1])
theorem TrayR.open {G H : Hp} {L : List Res} {p : Addr} {n : Nat} (s : Sep G H (TrayR p n :: L)) : ∃ (g : Addr) (gr : List Int) (l f t : Int), (0 ≤ l ∧ 0 ≤ f ∧ f < 2305843009213693951 ∧ 0 ≤ t ∧ t ≤ n ∧ (∀ y ∈ gr, 0 ≤ y) ∧ gr.length ≤ 63) ∧ Sep G H (cell p (.lst (trL g l f t)) :: OwnL g gr :: L) := by
  obtain ⟨⟨g, gr, l, f, t⟩, s⟩ := s.exO
  obtain ⟨c, s⟩ := s.ifO
  exact ⟨g, gr, l, f, t, c, s.allO⟩
theorem TrayR.close {G H : Hp} {L : List Res} {p : Addr} {n : Nat} {g : Addr} {gr : List Int} {l f t : Int} (c : 0 ≤ l ∧ 0 ≤ f ∧ f < 2305843009213693951 ∧ 0 ≤ t ∧ t ≤ n ∧ (∀ y ∈ gr, 0 ≤ y) ∧ gr.length ≤ 63) (s : Sep G H (cell p (.lst (trL g l f t)) :: OwnL g gr :: L)) :
    Sep G H (TrayR p n :: L) := .exI (g, gr, l, f, t) (.ifI c (.allI s))
theorem TrayR.le {G H : Hp} {L : List Res} {p : Addr} {n m : Nat} (s : Sep G H (TrayR p n :: L)) (h : n ≤ m) : Sep G H (TrayR p m :: L) := by
  obtain ⟨g, gr, l, f, t, c, s⟩ := TrayR.open s
  exact TrayR.close ⟨c.1, c.2.1, c.2.2.1, c.2.2.2.1, by have := c.2.2.2.2.1; omega, c.2.2.2.2.2⟩ s
section
variable {P : Program} {w : World} {K : PySem.W.Frag} {mg : Str → Option Value} {base : Heap}
abbrev s__law_tray : Stmt := topS 16
theorem sc__law_tray : FnScope ["script", "fold", "great", "cell", "much"] ["script"] (defScope s__law_tray) := ⟨rfl, rfl, rfl, by decide +kernel, rfl, by decide +kernel, by decide +kernel⟩
def spTray (K : PySem.W.Frag) : Sp := fun vs H Q _ => ∃ (a : Addr) (ns : List Int) (G : Hp) (L : List Res), vs = [.ref a] ∧ SqL K G a (ns.map V.int) ∧ ns.length ≤ 63 ∧ Sep G H L ∧ ∀ H' p, Sep G H' (TrayR p 0 :: L) → Q (.ref p) H'
theorem ok__law_tray {f : Addr} {fd : FuncData} (F : Fun K "_law_tray" "_law_tray" s__law_tray f fd) (B : Bn mg) : FnOk P w K mg base CX0 1 f fd ["script"] (spTray K) := by
  have sc := sc__law_tray
  refine F.ok sc (fun vs H Q E h => ?_) (fun cdv A outer s H vs Q E hr h => ?_)
  · obtain ⟨a, ns, G, L, rfl, _⟩ := h
    rfl
  · obtain ⟨a, ns, G, L, rfl, ha, hl, st, k⟩ := h
    have hu := hu_of hr
    refine ⟨_, (pss_cons (ps_set (i := 1) sc.nd rfl (.inl rfl) pe_int)
  (pss_cons (ps_set (i := 2) sc.nd rfl (.inl rfl) (pe_lst pa_nil))
  (pss_cons (ps_for PassesOwn.never rfl (pi_list (pv 0)) (pg_name (i := 3) sc.nd rfl (.inl rfl))
  (pss_cons (ps_set (i := 1) sc.nd rfl (.inl rfl) (pe_op opMod (pe_op opAdd (pe_op opMul (pv 1) pe_int) (pv 3)) (kSub (n := 2305843009213693951) (by rfl) (by decide) (by decide) (kPow (n := 2305843009213693952) (by rfl) (by decide) (by decide) pe_int pe_int) pe_int)))
  (pss_cons (ps_set (i := 4) sc.nd rfl (.inl rfl) (pe_callB (cMax2 rfl) (by rfl) B.max bt_max (pa_cons (pv 3) (pa_cons (pe_op opSub pe_int (pv 3)) pa_nil))))
  (pss_one (ps_if (pt_cmpR op_ge (pv 4) (kPow (n := 1000000000000000000) (by rfl) (by decide) (by decide) pe_int pe_int) (nomark _)) (pss_one (ps_expr (pe_bm PySem.F.plainAttrs_list PySem.F.slot_list_append PySem.F.type_list_append mt_append (pv 2) (pa_cons (pe_op opSub (pv 4) (kPow (n := 1000000000000000000) (by rfl) (by decide) (by decide) pe_int pe_int)) pa_nil)))) pss_nil)))))
  (pss_one (ps_ret (pe_lst (pa_cons (pv 2) (pa_cons pe_int (pa_cons (pv 1) (pa_cons pe_int pa_nil)))))))))), ?_⟩
    try dsimp only [cxOf, Cx.nox, Cx.wish]
    walk_at "g"
    refine ⟨Nat.zero_le _, fun g hg => ?_⟩
    have st := st.ownNew (vs := []) (xs := ([] : List Int)) hg trivial
    walk_at "g"
    refine loopI (st.gh.seq ha) (fun i σ H' => ∃ (f : Int) (gr : List Int) (c d : Option V), σ = [some (.ref a), some (.int f), some (.ref g), c, d] ∧ Sep G H' (OwnL g gr :: L) ∧ 0 ≤ f ∧ f < 2305843009213693951 ∧ (∀ y ∈ gr, 0 ≤ y) ∧ gr.length ≤ i)
      ⟨_, [], _, _, rfl, st, by decide, by decide, by simp, by simp⟩ (fun i σ H' _ ⟨_, _, _, _, _, s, _⟩ => s.gh.seq ha) ?_ ?_
    · rintro i n σ H' hi ⟨f, gr, c, d, rfl, st, f0, f1, hg0, hlen⟩
      have hil : i < 63 := by
        have := (List.getElem?_eq_some_iff.mp hi).1
        omega
      walk_at "g"
      have f2 : 0 ≤ (f * 1000003 + n) % 2305843009213693951 := Int.emod_nonneg _ (by decide)
      have f3 : (f * 1000003 + n) % 2305843009213693951 < 2305843009213693951 := Int.emod_lt_of_pos _ (by decide)
      refine g_ite (fun hc => ?_) (fun hc => ?_)
      · walk_at "g"
        refine g_tyO st ?_
        walk_at "g"
        refine g_append st rep_int (by omega) fun H2 st => ?_
        refine ⟨_, _, _, _, rfl, st, f2, f3, ?_, ?_⟩
        · intro y hy
          rcases List.mem_append.mp hy with hy | hy
          · exact hg0 y hy
          · rw [List.mem_singleton.mp hy]
            omega
        · rw [List.length_append, List.length_singleton]
          omega
      · walk_at "g"
        exact ⟨_, gr, _, _, rfl, st, f2, f3, hg0, by omega⟩
    · rintro σ H' ⟨f, gr, c, d, rfl, st, f0, f1, hg0, hlen⟩
      walk_at "g"
      refine ⟨by show 4 ≤ sizeLine; decide, fun p hp => ?_⟩
      exact k _ _ (TrayR.close (l := 0) (f := f) (t := 0) ⟨by decide, f0, f1, by decide, by decide, hg0, by omega⟩ (st.cellNew hp))
abbrev s__law_draw : Stmt := topS 17
theorem sc__law_draw : FnScope ["tray", "many", "found", "mixed"] ["tray", "many"] (defScope s__law_draw) := ⟨rfl, rfl, rfl, by decide +kernel, rfl, by decide +kernel, by decide +kernel⟩
def spDraw : Sp := fun vs H Q _ => ∃ (p : Addr) (m : Int) (n : Nat) (G : Hp) (L : List Res), vs = [.ref p, .int m] ∧ Sep G H (TrayR p n :: L) ∧ 0 < m ∧ m.natAbs < 2 ^ 250 ∧ n < 2 ^ 60 ∧ ∀ d H', 0 ≤ d → d < m → Sep G H' (TrayR p (n + 1) :: L) → Q (.int d) H'
theorem ok__law_draw {f : Addr} {fd : FuncData} (F : Fun K "_law_draw" "_law_draw" s__law_draw f fd) (B : Bn mg) : FnOk P w K mg base CX0 1 f fd ["tray", "many"] spDraw := by
  have sc := sc__law_draw
  refine F.ok sc (fun vs H Q E h => ?_) (fun cdv A outer s H vs Q E hr h => ?_)
  · obtain ⟨p, m, n, G, L, rfl, _⟩ := h
    rfl
  · obtain ⟨p, m, n, G, L, rfl, st, m0, m1, hn, k⟩ := h
    have hu := hu_of hr
    refine ⟨_, (pss_cons (ps_while PassesOwn.never (PW.pt (pw_and (pt_cmpR op_lt (pe_ix ix_seq (pv 0) pe_int (fun _ _ => rfl)) pe_int (nomark _)) (pw_and1 (pt_cmpR (opNe (units64 hr)) (pe_ix ix_seq (pv 0) pe_int (fun _ _ => rfl)) (pe_lst pa_nil) (nomark _)))))
  (pss_one (ps_asg (pe_bm PySem.F.plainAttrs_list PySem.F.slot_list_pop PySem.F.type_list_pop mt_popAt (pe_ix ix_seq (pv 0) pe_int (fun _ _ => rfl)) (pa_cons pe_int pa_nil)) (pg_sub (pv 0) pe_int set_list))))
  (pss_cons (ps_if (pt_cmpR op_ge (pe_ix ix_seq (pv 0) pe_int (fun _ _ => rfl)) pe_int (nomark _)) (pss_cons (ps_set (i := 2) sc.nd rfl (.inl rfl) (pe_op opMod (pe_ix ix_seq (pv 0) pe_int (fun _ _ => rfl)) (pv 1)))
  (pss_cons (ps_asg (pe_op opDiv (pe_ix ix_seq (pv 0) pe_int (fun _ _ => rfl)) (pv 1)) (pg_sub (pv 0) pe_int set_list))
  (pss_one (ps_ret (pv 2))))) pss_nil)
  (pss_cons (ps_asg (pe_op opAdd (pe_ix ix_seq (pv 0) pe_int (fun _ _ => rfl)) pe_int) (pg_sub (pv 0) pe_int set_list))
  (pss_cons (ps_set (i := 3) sc.nd rfl (.inl rfl) (pe_op opMod (pe_op opAdd (pe_op opMul (pe_op opAdd (pe_ix ix_seq (pv 0) pe_int (fun _ _ => rfl)) pe_int) (pe_op opPow (pe_op opAdd (pe_ix ix_seq (pv 0) pe_int (fun _ _ => rfl)) pe_int) pe_int)) (pe_op opMul pe_int (pe_ix ix_seq (pv 0) pe_int (fun _ _ => rfl)))) (kSub (n := 2305843009213693951) (by rfl) (by decide) (by decide) (kPow (n := 2305843009213693952) (by rfl) (by decide) (by decide) pe_int pe_int) pe_int)))
  (pss_one (ps_ret (pe_op opMod (pe_op opDiv (pe_op opMod (pe_op opPow (pv 3) pe_int) (kAdd (n := 1000000000000000009) (by rfl) (by decide) (by decide) (kPow (n := 1000000000000000000) (by rfl) (by decide) (by decide) pe_int pe_int) pe_int)) pe_int) (pv 1)))))))), ?_⟩
    try dsimp only [cxOf, Cx.nox, Cx.wish]
    obtain ⟨g, gr, l, fo, t, ⟨l0, f0, f1, t0, tn, gr0, grl⟩, st⟩ := TrayR.open st
    refine g_cut (fun σ H => ∃ (gr : List Int) (l : Int), σ = [some (.ref p), some (.int m), none, none] ∧ 0 ≤ l ∧ (∀ y ∈ gr, 0 ≤ y) ∧ gr.length ≤ 63 ∧ Sep G H (cell p (.lst (trL g l fo t)) :: OwnL g gr :: L)) (fun N hN => ?_) ?_
    · refine ⟨fun mm σ H => ∃ (gr : List Int) (l : Int), mm = gr.length ∧ σ = [some (.ref p), some (.int m), none, none] ∧ 0 ≤ l ∧ (∀ y ∈ gr, 0 ≤ y) ∧ gr.length ≤ 63 ∧ Sep G H (cell p (.lst (trL g l fo t)) :: OwnL g gr :: L), ⟨_, gr, l, rfl, rfl, l0, gr0, grl, st⟩, ?_⟩
      rintro mm σ H1 ⟨gr, l, rfl, rfl, l0, gr0, grl, st⟩
      walk_at "g"
      refine g_ixC st.cellAt (w := .int l) rfl ?_
      walk_at "g"
      refine g_ite (fun c => ?_) (fun c => ?_)
      · walk_at "g"
        refine g_ixC st.cellAt (w := .ref g) rfl ?_
        walk_at "g"
        refine ⟨Nat.zero_le _, fun q hq => ?_⟩
        have st := st.trash (o := .lst []) hq
        refine g_neT (y := ([] : List Int)) st.sw.ownRep rep_nil_new (Same.refl _) (Same.refl _) ?_
        walk_at "g"
        refine g_ite (fun c2 => ?_) (fun c2 => ?_)
        · refine g_turn ?_
          walk_at "g"
          refine g_ixC st.cellAt (w := .ref g) rfl ?_
          refine g_tyO st.sw ?_
          walk_at "g"
          match gr, gr0, grl, c2, st with
          | y :: gr, gr0, grl, c2, st =>
            refine g_popAt (a := y) st.sw (by decide) (by decide) rfl fun w H' rw' st => ?_
            obtain rfl := rw'.int
            walk_at "g"
            refine g_setC st.sw (j := 1) rfl fun H' st => ?_
            refine ⟨_, Nat.lt_succ_self _, gr, y, rfl, rfl, gr0 y (List.mem_cons_self ..), fun z hz => gr0 z (List.mem_cons_of_mem _ hz), ?_, st⟩
            rw [List.length_cons] at grl
            omega
        · exact hN _ _ ⟨gr, l, rfl, l0, gr0, grl, st⟩
      · exact hN _ _ ⟨gr, l, rfl, l0, gr0, grl, st⟩
    · rintro σ H ⟨gr, l, rfl, l0, gr0, grl, st⟩
      walk_at "g"
      refine g_ixC st.cellAt (w := .int l) rfl ?_
      walk_at "g"
      refine g_ite (fun c => ?_) (fun c => ?_)
      · walk_at "g"
        refine g_ixC st.cellAt (w := .int l) rfl ?_
        walk_at "g"
        refine g_ixC st.cellAt (w := .int l) rfl ?_
        walk_at "g"
        refine g_setC st (j := 1) rfl fun H' st => ?_
        walk_at "g"
        exact k _ _ (Int.emod_nonneg _ (by omega)) (Int.emod_lt_of_pos _ m0) (TrayR.close (l := l / m) (f := fo) (t := t) ⟨Int.ediv_nonneg l0 (by omega), f0, f1, t0, by omega, gr0, grl⟩ st)
      · walk_at "g"
        refine g_ixC st.cellAt (w := .int t) rfl ?_
        walk_at "g"
        refine g_setC st (j := 3) rfl fun H' st => ?_
        walk_at "g"
        refine g_ixC st.cellAt (w := .int fo) rfl ?_
        walk_at "g"
        refine g_ixC st.cellAt (w := .int (t + 1)) rfl ?_
        walk_at "g"
        refine g_pow ⟨by decide, by decide, by omega⟩ ?_
        have e2 : ((t + 1 + 2) ^ (Int.toNat 3)).natAbs < 2 ^ (61 * 3) := pow_lt' (by omega) (by decide)
        refine g_mul ⟨by omega, Nat.lt_of_lt_of_le e2 (by decide)⟩ ?_
        walk_at "g"
        refine g_ixC st.cellAt (w := .int (t + 1)) rfl ?_
        walk_at "g"
        refine g_pow ⟨by decide, by decide, ?_⟩ ?_
        · have a1 := Int.emod_nonneg ((fo + 5) * (t + 1 + 2) ^ (Int.toNat 3) + 1000003 * (t + 1)) (show (2305843009213693951 : Int) ≠ 0 by decide)
          have a2 := Int.emod_lt_of_pos ((fo + 5) * (t + 1 + 2) ^ (Int.toNat 3) + 1000003 * (t + 1)) (show (0 : Int) < 2305843009213693951 by decide)
          omega
        walk_at "g"
        exact k _ _ (Int.emod_nonneg _ (by omega)) (Int.emod_lt_of_pos _ m0) (TrayR.close (l := l) (f := fo) (t := t + 1) ⟨l0, f0, f1, by omega, by omega, gr0, grl⟩ st)
end
theorem draw_use {G H : Hp} {L : List Res} {p : Addr} {m : Int} {n : Nat} {Q : VK} {E : XK} (st : Sep G H (TrayR p n :: L)) (m0 : 0 < m) (m1 : m.natAbs < 2 ^ 250) (hn : n < 2 ^ 60)
    (k : ∀ d H', 0 ≤ d → d < m → Sep G H' (TrayR p (n + 1) :: L) → Q (.int d) H') : spDraw [.ref p, .int m] H Q E := ⟨p, m, n, G, L, rfl, st, m0, m1, hn, k⟩
end El

namespace El
open PySem L2 EB
abbrev Gs := List (Int × Int)
end El

namespace El
open PySem L2 EB
/-! ### rooms by age -/
def fit (b : Int) (r : List Int) : Bool := decide ((r.length : Int) ≤ b)
def spot (ss : List (List Int)) (b : Int) : Nat := ss.findIdx (fit b)
def putR (ss : List (List Int)) (g : Int × Int) : List (List Int) := if spot ss g.2 < ss.length then ss.set (spot ss g.2) (ss.getD (spot ss g.2) [] ++ [g.1]) else ss ++ [[g.1]]
def byAge (gs : Gs) : List (List Int) := (dnP gs).foldl putR []
structure Good (gs : Gs) : Prop where
  pos : ∀ g ∈ gs, 0 ≤ g.2
  nd : (gs.map (·.1)).Nodup
  len : gs.length ≤ 1000
theorem putR_len (ss : List (List Int)) (g : Int × Int) : (putR ss g).length ≤ ss.length + 1 := by
  unfold putR
  split
  · rw [List.length_set]
    omega
  · rw [List.length_append, List.length_singleton]
    exact Nat.le_refl _
theorem fold_len (gs : Gs) : ∀ ss, (gs.foldl putR ss).length ≤ ss.length + gs.length := by
  induction gs with
  | nil => intro ss; exact Nat.le_refl _
  | cons g r ih =>
    intro ss
    have h1 := ih (putR ss g)
    have h2 := putR_len ss g
    show (r.foldl putR (putR ss g)).length ≤ ss.length + (r.length + 1)
    omega
theorem putR_room (ss : List (List Int)) (g : Int × Int) (n : Nat) (h : ∀ r ∈ ss, r.length ≤ n) : ∀ r ∈ putR ss g, r.length ≤ n + 1 := by
  unfold putR
  split
  · rename_i c
    intro r hr
    rcases List.mem_or_eq_of_mem_set hr with hr | rfl
    · have := h r hr
      omega
    · rw [List.length_append, List.length_singleton, List.getD_eq_getElem?_getD, List.getElem?_eq_getElem c]
      have := h _ (List.getElem_mem c)
      show ss[spot ss g.2].length + 1 ≤ _
      omega
  · intro r hr
    rcases List.mem_append.mp hr with hr | hr
    · have := h r hr
      omega
    · rw [List.mem_singleton.mp hr]
      show 1 ≤ _
      omega
theorem fold_room (gs : Gs) : ∀ ss n, (∀ r ∈ ss, r.length ≤ n) → ∀ r ∈ gs.foldl putR ss, r.length ≤ n + gs.length := by
  induction gs with
  | nil => intro ss n h; exact h
  | cons g r ih =>
    intro ss n h x hx
    have := ih (putR ss g) (n + 1) (putR_room ss g n h) x hx
    show x.length ≤ n + (r.length + 1)
    omega
theorem dnP_len (gs : Gs) : (dnP gs).length = gs.length := (dnP_perm gs).length_eq
theorem byAge_len (gs : Gs) : (byAge gs).length ≤ gs.length := by
  have := fold_len (dnP gs) []
  rw [dnP_len] at this
  simpa [byAge] using this
theorem byAge_room (gs : Gs) : ∀ r ∈ byAge gs, r.length ≤ gs.length := by
  intro r hr
  have := fold_room (dnP gs) [] 0 (by simp) r hr
  rw [dnP_len] at this
  simpa [byAge] using this
theorem byAge_perm {gs hs : Gs} (p : gs.Perm hs) : byAge gs = byAge hs := by
  unfold byAge
  rw [dnP_of_perm p]
theorem spot_cons (r : List Int) (ss : List (List Int)) (b : Int) : spot (r :: ss) b = if fit b r = true then 0 else spot ss b + 1 := by
  unfold spot
  rw [List.findIdx_cons]
  cases fit b r <;> rfl
theorem spot_le (ss : List (List Int)) (b : Int) : spot ss b ≤ ss.length := List.findIdx_le_length
/-- the rooms that a guest bears -/
def filt (b : Int) (as : List Addr) (ss : List (List Int)) : List (Addr × List Int) := (as.zip ss).filter fun z => fit b z.2
theorem filt_none {b : Int} : ∀ {as : List Addr} {ss : List (List Int)}, as.length = ss.length → (filt b as ss = [] ↔ ¬ spot ss b < ss.length)
  | [], [], _ => by simp [filt]
  | a :: as, r :: ss, h => by
    have ih := filt_none (b := b) (as := as) (ss := ss) (by simpa using h)
    rw [spot_cons]
    cases c : fit b r with
    | true => simp [filt, c]
    | false =>
      have e : filt b (a :: as) (r :: ss) = filt b as ss := by simp [filt, c]
      rw [e, ih]
      simp
  | [], _ :: _, h => by cases h
  | _ :: _, [], h => by cases h
theorem filt_first {b : Int} : ∀ {as : List Addr} {ss : List (List Int)}, as.length = ss.length → spot ss b < ss.length → ∃ a r, as[spot ss b]? = some a ∧ filt b as ss = (a, ss.getD (spot ss b) []) :: r
  | [], [], _, h => by cases h
  | a :: as, s :: ss, h, h2 => by
    rw [spot_cons] at h2 ⊢
    cases c : fit b s with
    | true => exact ⟨a, filt b as ss, by simp, by simp [filt, c]⟩
    | false =>
      rw [c] at h2
      simp only [Bool.false_eq_true, if_false, List.length_cons] at h2 ⊢
      obtain ⟨x, r, e1, e2⟩ := filt_first (b := b) (as := as) (ss := ss) (by simpa using h) (by omega)
      exact ⟨x, r, by simpa using e1, by
        have e : filt b (a :: as) (s :: ss) = filt b as ss := by simp [filt, c]
        rw [e, e2]
        simp⟩
  | [], _ :: _, h, _ => by cases h
  | _ :: _, [], h, _ => by cases h
theorem mem_filt {b : Int} {as : List Addr} {ss : List (List Int)} {z : Addr × List Int} (h : z ∈ filt b as ss) : ∃ i : Nat, as[i]? = some z.1 ∧ ss[i]? = some z.2 := by
  have h := (List.mem_filter.mp h).1
  obtain ⟨i, hi⟩ := List.mem_iff_getElem?.mp h
  exact ⟨i, List.getElem?_zip_eq_some.mp hi⟩
theorem filt_reps {H : Hp} : ∀ {l : List (Addr × List Int)}, (∀ z ∈ l, Rep H (.ref z.1) z.2) → Reps H (l.map fun z => V.ref z.1) (l.map (·.2))
  | [], _ => trivial
  | z :: l, h => ⟨h z (List.mem_cons_self ..), filt_reps fun y hy => h y (List.mem_cons_of_mem _ hy)⟩
end El

namespace El
open PySem L2 EB
/-! ### arrangements, and who is upset in them -/
structure Arr (gs : Gs) (arr : List (List Int)) : Prop where
  pm : arr.flatten.Perm (gs.map (·.1))
  len : arr.length ≤ 1000
def bearsOf (gs : Gs) (a : Int) : Int := (gs.lookup a).getD 0
def up1 (b : Int → Int) : List Int → Nat → Option Int
  | [], _ => none
  | a :: r, k => if b a < (k : Int) then some a else up1 b r (k + 1)
def upset (gs : Gs) : List (List Int) → Nat → Option (Int × Int)
  | [], _ => none
  | room :: r, n => match up1 (bearsOf gs) (dnI room) 0 with
    | some a => some ((n : Int), a)
    | none => upset gs r (n + 1)
theorem upset_step {gs : Gs} {arr : List (List Int)} {i : Nat} {room : List Int} (h : arr[i]? = some room) : upset gs (arr.drop i) i = match up1 (bearsOf gs) (dnI room) 0 with
    | some a => some ((i : Int), a)
    | none => upset gs (arr.drop (i + 1)) (i + 1) := by
  obtain ⟨h1, h2⟩ := List.getElem?_eq_some_iff.mp h
  rw [List.drop_eq_getElem_cons h1, h2]
  rfl
theorem up1_step {b : Int → Int} {l : List Int} {i : Nat} {a : Int} (h : l[i]? = some a) : up1 b (l.drop i) i = if b a < (i : Int) then some a else up1 b (l.drop (i + 1)) (i + 1) := by
  obtain ⟨h1, h2⟩ := List.getElem?_eq_some_iff.mp h
  rw [List.drop_eq_getElem_cons h1, h2]
  rfl
theorem lookup_some {gs : Gs} {a : Int} (h : a ∈ gs.map (·.1)) : gs.lookup a = some (bearsOf gs a) := by
  unfold bearsOf
  cases e : gs.lookup a with
  | some _ => rfl
  | none =>
    have e2 : (intD gs).lookup a = none := by rw [intD_get, e]; rfl
    have := lookup_none.mp e2
    have e3 : (intD gs).map (·.1) = gs.map (·.1) := by simp [intD, List.map_map, Function.comp_def]
    rw [e3] at this
    exact absurd h this
end El

namespace El
open PySem L2 EB
theorem putR_nil (g : Int × Int) : putR [] g = [[g.1]] := by simp [putR]
theorem putR_cons (r : List Int) (ss : List (List Int)) (g : Int × Int) : putR (r :: ss) g = if fit g.2 r = true then (r ++ [g.1]) :: ss else r :: putR ss g := by
  unfold putR
  rw [spot_cons]
  cases c : fit g.2 r with
  | true => simp
  | false =>
    simp only [Bool.false_eq_true, if_false, List.length_cons, Nat.add_lt_add_iff_right, List.set_cons_succ, List.getD_cons_succ]
    split <;> rfl
theorem putR_flat (g : Int × Int) : ∀ ss : List (List Int), (putR ss g).flatten.Perm (g.1 :: ss.flatten)
  | [] => by rw [putR_nil]; exact .refl _
  | r :: ss => by
    rw [putR_cons]
    split
    · rw [List.flatten_cons, List.flatten_cons, List.append_assoc]
      exact List.perm_middle
    · rw [List.flatten_cons, List.flatten_cons]
      exact ((putR_flat g ss).append_left r).trans List.perm_middle
theorem fold_flat : ∀ (l : Gs) (ss : List (List Int)), (l.foldl putR ss).flatten.Perm (l.map (·.1) ++ ss.flatten)
  | [], _ => .refl _
  | g :: l, ss => by
    refine (fold_flat l (putR ss g)).trans ?_
    rw [List.map_cons, List.cons_append]
    exact ((putR_flat g ss).append_left _).trans List.perm_middle
theorem byAge_flat (gs : Gs) : (byAge gs).flatten.Perm (gs.map (·.1)) := by
  have := fold_flat (dnP gs) []
  rw [List.flatten_nil, List.append_nil] at this
  exact this.trans ((dnP_perm gs).map _)
theorem bears_at : ∀ {gs : Gs} (_ : (gs.map (·.1)).Nodup) (g : Int × Int), g ∈ gs → bearsOf gs g.1 = g.2
  | [], _, _, h => by cases h
  | (a, b) :: gs, nd, g, h => by
    rw [List.map_cons, List.nodup_cons] at nd
    unfold bearsOf
    rcases List.mem_cons.mp h with rfl | h2
    · simp [List.lookup]
    · have e : (g.1 == a) = false := by
        simp only [beq_eq_false_iff_ne, ne_eq]
        intro z
        exact nd.1 (List.mem_map.mpr ⟨g, h2, z⟩)
      simp only [List.lookup, e]
      exact bears_at nd.2 g h2
theorem dnP_strict {gs : Gs} (nd : (gs.map (·.1)).Nodup) : (dnP gs).Pairwise fun x y => y.1 < x.1 := by
  have h1 := dnP_pw gs
  have h2 : ((dnP gs).map (·.1)).Nodup := ((dnP_perm gs).map _).nodup_iff.mpr nd
  have h2 : (dnP gs).Pairwise fun x y => x.1 ≠ y.1 := List.pairwise_map.mp h2
  refine (h1.and h2).imp fun {x y} h => ?_
  have h3 := h.1
  simp only [leP, decide_eq_true_eq] at h3
  have := h.2
  omega
theorem dnP_more (gs : Gs) (g : Int × Int) : ∃ a b, dnP gs = a ++ b ∧ dnP (g :: gs) = a ++ g :: b := by
  have hm : g ∈ dnP (g :: gs) := (dnP_perm _).mem_iff.mpr (List.mem_cons_self ..)
  obtain ⟨a, b, e⟩ := List.append_of_mem hm
  refine ⟨a, b, (dnP_uniq ?_ ?_).symm, e⟩
  · have p := dnP_perm (g :: gs)
    rw [e] at p
    exact (List.perm_middle.symm.trans p).cons_inv
  · have w := dnP_pw (g :: gs)
    rw [e] at w
    exact w.sublist (List.Sublist.append_left (List.sublist_cons_self g b) a)
end El

namespace El
open PySem L2 EB
theorem le_flat {rs : List (List Int)} {r : List Int} (h : r ∈ rs) : r.length ≤ rs.flatten.length := by
  obtain ⟨a, b, rfl⟩ := List.append_of_mem h
  rw [List.flatten_append, List.flatten_cons, List.length_append, List.length_append]
  omega
theorem bears_pos {gs : Gs} (h : ∀ g ∈ gs, 0 ≤ g.2) (a : Int) : 0 ≤ bearsOf gs a := by
  unfold bearsOf
  induction gs with
  | nil => exact Int.le_refl 0
  | cons g r ih =>
    obtain ⟨x, y⟩ := g
    by_cases e : a = x
    · subst e
      simp only [List.lookup, beq_self_eq_true, Option.getD_some]
      exact h (a, y) (List.mem_cons_self ..)
    · have e2 : (a == x) = false := by simpa using e
      simp only [List.lookup, e2]
      exact ih fun g hg => h g (List.mem_cons_of_mem _ hg)
theorem take_set1 {A : Type} {x : A} : ∀ {l : List A} {n : Nat}, n < l.length → (l.set n x).take (n + 1) = l.take n ++ [x]
  | [], _, h => by cases h
  | _ :: _, 0, _ => by simp
  | a :: l, n + 1, h => by
    rw [List.set_cons_succ, List.take_succ_cons, List.take_succ_cons, take_set1 (by simpa using h), List.cons_append]
theorem drop_set1 {A : Type} {x : A} : ∀ {l : List A} {n : Nat}, (l.set n x).drop (n + 1) = l.drop (n + 1)
  | [], _ => by simp
  | _ :: _, 0 => by simp
  | a :: l, n + 1 => by
    rw [List.set_cons_succ, List.drop_succ_cons, List.drop_succ_cons, drop_set1]
theorem mem_take_flat {ss : List (List Int)} {i j : Nat} {r : List Int} {a : Int} (h : ss[i]? = some r) (ha : a ∈ r) (hj : i < j) : a ∈ (ss.take j).flatten :=
  List.mem_flatten.mpr ⟨r, List.mem_of_getElem? (by rw [List.getElem?_take, if_pos hj]; exact h), ha⟩
theorem mem_drop_flat {ss : List (List Int)} {i j : Nat} {r : List Int} {a : Int} (h : ss[i]? = some r) (ha : a ∈ r) (hj : j ≤ i) : a ∈ (ss.drop j).flatten :=
  List.mem_flatten.mpr ⟨r, List.mem_of_getElem? (i := i - j) (by rw [List.getElem?_drop, show j + (i - j) = i by omega]; exact h), ha⟩
theorem flat_split (ss : List (List Int)) (j : Nat) : ss.flatten = (ss.take j).flatten ++ (ss.drop j).flatten := by
  rw [← List.flatten_append, List.take_append_drop]
theorem flat_one {ss : List (List Int)} {i j : Nat} {r s : List Int} {a : Int} (nd : ss.flatten.Nodup) (h1 : ss[i]? = some r) (h2 : ss[j]? = some s) (ha : a ∈ r) (hb : a ∈ s) : i = j := by
  rcases Nat.lt_trichotomy i j with c | c | c
  · rw [flat_split ss j, List.nodup_append] at nd
    exact absurd rfl (nd.2.2 a (mem_take_flat h1 ha c) a (mem_drop_flat h2 hb (Nat.le_refl _)))
  · exact c
  · rw [flat_split ss i, List.nodup_append] at nd
    exact absurd rfl (nd.2.2 a (mem_take_flat h2 hb c) a (mem_drop_flat h1 ha (Nat.le_refl _)))
theorem flat_set {x : List Int} : ∀ {ss : List (List Int)} {n : Nat} {r : List Int}, ss[n]? = some r → (r ++ (ss.set n x).flatten).Perm (x ++ ss.flatten)
  | [], _, _, h => by simp at h
  | s :: ss, 0, r, h => by
    have e : s = r := Option.some.inj h
    subst e
    simp only [List.set_cons_zero, List.flatten_cons]
    rw [← List.append_assoc, ← List.append_assoc]
    exact List.perm_append_comm.append_right _
  | s :: ss, n + 1, r, h => by
    have ih := flat_set (x := x) (ss := ss) (n := n) (r := r) h
    simp only [List.set_cons_succ, List.flatten_cons]
    refine (List.perm_append_comm_assoc r s _).trans ?_
    refine (ih.append_left s).trans ?_
    exact List.perm_append_comm_assoc s x _
/-! ### somebody walks in -/
/-- somebody put into a room -/
def putIn (rs : List (List Int)) (n : Nat) (a : Int) : List (List Int) := if n < rs.length then rs.set n (dnI (rs.getD n [] ++ [a])) else rs ++ [dnI [a]]
theorem getD_at {rs : List (List Int)} {n : Nat} (h : n < rs.length) : rs[n]? = some (rs.getD n []) := by
  rw [List.getD_eq_getElem?_getD, List.getElem?_eq_getElem h]
  rfl
theorem putIn_flat (rs : List (List Int)) (n : Nat) (a : Int) : (putIn rs n a).flatten.Perm (a :: rs.flatten) := by
  unfold putIn
  split
  · rename_i c
    have h1 := flat_set (x := dnI (rs.getD n [] ++ [a])) (getD_at c)
    have h2 := (dnI_perm (rs.getD n [] ++ [a])).append_right rs.flatten
    have h3 := h1.trans h2
    rw [List.append_assoc] at h3
    exact (List.perm_append_left_iff _).mp h3
  · rw [List.flatten_append]
    simp only [List.flatten_cons, List.flatten_nil, List.append_nil]
    exact ((dnI_perm [a]).append_left _).trans List.perm_append_comm
theorem remove_flat {rs : List (List Int)} {n : Nat} {r : List Int} {u : Int} (h : rs[n]? = some r) (hu : u ∈ r) (nd : r.Nodup) : (u :: (rs.set n (r.filter fun x => decide (x ≠ u))).flatten).Perm rs.flatten := by
  have h1 := flat_set (x := r.filter fun x => decide (x ≠ u)) h
  have h2 : r.Perm (u :: r.filter fun x => decide (x ≠ u)) := by
    refine (List.perm_ext_iff_of_nodup nd ?_).mpr fun x => ?_
    · rw [List.nodup_cons]
      exact ⟨by simp, nd.sublist List.filter_sublist⟩
    · simp only [List.mem_cons, List.mem_filter, decide_eq_true_eq]
      constructor
      · intro hx
        by_cases c : x = u
        · exact .inl c
        · exact .inr ⟨hx, c⟩
      · rintro (rfl | ⟨hx, _⟩)
        · exact hu
        · exact hx
  have h3 := (h2.append_right (rs.set n (r.filter fun x => decide (x ≠ u))).flatten).symm.trans h1
  refine (List.perm_append_left_iff (r.filter fun x => decide (x ≠ u))).mp (List.Perm.trans ?_ h3)
  rw [List.cons_append]
  exact List.perm_middle
def walkIn (b : Int → Int) : List (List Int) → Int → Nat → List (List Int) × List (Int × Int)
  | [], a, n => ([dnI [a]], [(a, (n : Int))])
  | r :: rs, a, n => match up1 b (dnI (r ++ [a])) 0 with
    | none => (dnI (r ++ [a]) :: rs, [(a, (n : Int))])
    | some u => ((dnI (r ++ [a])).filter (fun x => decide (x ≠ u)) :: (walkIn b rs u (n + 1)).1, (a, (n : Int)) :: (walkIn b rs u (n + 1)).2)
theorem up1_mem {b : Int → Int} : ∀ {l : List Int} {n : Nat} {u : Int}, up1 b l n = some u → u ∈ l
  | [], _, _, h => by cases h
  | a :: l, n, u, h => by
    unfold up1 at h
    split at h
    · rw [← Option.some.inj h]
      exact List.mem_cons_self ..
    · exact List.mem_cons_of_mem _ (up1_mem h)
/-- the number of one's room -/
def roomNo (rs : List (List Int)) (a : Int) : Nat := rs.findIdx fun r => decide (a ∈ r)
def nums (rs : List (List Int)) (a : Int) (n : Nat) : List Int := ((List.range n).filter fun k => decide (a ∈ rs.getD k [])).map fun k : Nat => (k : Int)
theorem nums_succ (rs : List (List Int)) (a : Int) (n : Nat) : nums rs a (n + 1) = nums rs a n ++ (if a ∈ rs.getD n [] then [(n : Int)] else []) := by
  unfold nums
  rw [List.range_succ, List.filter_append, List.map_append]
  congr 1
  by_cases c : a ∈ rs.getD n []
  · simp only [List.filter_cons, c, decide_true, if_true, List.filter_nil, List.map_cons, List.map_nil]
  · simp only [List.filter_cons, c, decide_false, if_false, List.filter_nil, List.map_nil, Bool.false_eq_true]
theorem nums_len (rs : List (List Int)) (a : Int) (n : Nat) : (nums rs a n).length ≤ n := by
  unfold nums
  rw [List.length_map]
  exact Nat.le_trans (List.length_filter_le _ _) (by rw [List.length_range]; exact Nat.le_refl _)
theorem roomNo_in {rs : List (List Int)} {a : Int} (h : roomNo rs a < rs.length) : a ∈ rs.getD (roomNo rs a) [] := by
  have := List.findIdx_getElem (w := h)
  have e : rs.getD (roomNo rs a) [] = rs[roomNo rs a] := by
    rw [List.getD_eq_getElem?_getD, List.getElem?_eq_getElem h]
    rfl
  rw [e]
  exact of_decide_eq_true this
theorem nums_before {rs : List (List Int)} {a : Int} (h : roomNo rs a < rs.length) : ∀ n, n ≤ roomNo rs a → nums rs a n = []
  | 0, _ => rfl
  | n + 1, hn => by
    rw [nums_succ, nums_before h n (by omega), if_neg, List.append_nil]
    have hl : n < rs.length := by omega
    have := List.not_of_lt_findIdx (p := fun r => decide (a ∈ r)) (xs := rs) (i := n) (by show n < roomNo rs a; omega)
    rw [List.getD_eq_getElem?_getD, List.getElem?_eq_getElem hl]
    exact of_decide_eq_false this
theorem nums_first {rs : List (List Int)} {a : Int} (h : roomNo rs a < rs.length) : ∀ n, roomNo rs a < n → ∃ t, nums rs a n = (roomNo rs a : Int) :: t
  | 0, hn => by cases hn
  | n + 1, hn => by
    rw [nums_succ]
    rcases Nat.lt_or_ge (roomNo rs a) n with c | c
    · obtain ⟨t, e⟩ := nums_first h n c
      exact ⟨_, by rw [e]; rfl⟩
    · have e : roomNo rs a = n := by omega
      rw [nums_before h n c, ← e, if_pos (roomNo_in h)]
      exact ⟨[], rfl⟩
theorem roomNo_of {rs : List (List Int)} {a : Int} {n : Nat} {r : List Int} (nd : rs.flatten.Nodup) (h : rs[n]? = some r) (ha : a ∈ r) : roomNo rs a = n ∧ n < rs.length := by
  have hl := (List.getElem?_eq_some_iff.mp h).1
  have h2 : roomNo rs a < rs.length := List.findIdx_lt_length_of_exists ⟨r, List.mem_of_getElem? h, by simpa using ha⟩
  exact ⟨flat_one nd (getD_at h2) h (roomNo_in h2) ha, hl⟩
end El

namespace El
open PySem L2 EB
section
variable {P : Program} {w : World} {K : PySem.W.Frag} {mg : Str → Option Value} {base : Heap}
abbrev s_need_guests : Stmt := topS 6
theorem sc_need_guests : FnScope ["guests", "met", "number", "age", "patience"] ["guests"] (defScope s_need_guests) := ⟨rfl, rfl, rfl, by decide +kernel, rfl, by decide +kernel, by decide +kernel⟩
def spNeedGuests : Sp := fun vs H Q _ => ∃ v, ∃ gs : Gs, vs = [v] ∧ Rep H v gs ∧ Good gs ∧ ∀ H', Same H H' → Q .non H'
theorem ok_need_guests {f : Addr} {fd : FuncData} (F : Fun K "need_guests" "need_guests" s_need_guests f fd) (B : Bn mg) : FnOk P w K mg base CX0 1 f fd ["guests"] spNeedGuests := by
  have sc := sc_need_guests
  refine F.ok sc (fun vs H Q E h => ?_) (fun cdv A outer s H vs Q E hr h => ?_)
  · obtain ⟨v, gs, rfl, _⟩ := h
    rfl
  · obtain ⟨v, gs, rfl, hv, hg, k⟩ := h
    have hu := hu_of hr
    have hgl := hg.len
    refine ⟨_, (pss_cons (ps_set (i := 1) sc.nd rfl (.inl rfl) pe_dnewK)
  (pss_one (ps_for PassesOwn.never rfl (pi_enum (by rfl) B.enumerate (pa_cons (pv 0) pa_nil)) (pg_tup rfl (pgs_cons (pg_name (i := 2) sc.nd rfl (.inl rfl)) (pgs_cons (pg_tup rfl (pgs_cons (pg_name (i := 3) sc.nd rfl (.inl rfl)) (pgs_cons (pg_name (i := 4) sc.nd rfl (.inl rfl)) pgs_nil))) pgs_nil)))
  (pss_cons (ps_if (PW.pt (pw_or (pt_cmpR op_lt (pv 4) pe_int (nomark _)) (pw_or1 (pt_cmp (pc_din hu (pv 3) (pv 1)))))) (pss_one ps_never) pss_nil)
  (pss_one (ps_dput hu (pv 1) (pv 3) pe_bl rfl)))))), ?_⟩
    try dsimp only [cxOf, Cx.nox, Cx.wish]
    walk_at "g"
    refine g_dnew (Sep.all H) fun p H1 st => ?_
    walk_at "g"
    refine loopE hv st.gh rfl (fun i σ H' => ∃ a b c, σ = [some v, some (.ref p), a, b, c] ∧ Sep H H' [cell p (.dK (kvI ((gs.take i).map fun g => (g.1, V.bl true))))]) ⟨_, _, _, rfl, st⟩ (fun i σ H' _ ⟨_, _, _, _, st⟩ => st.gh) ?_ ?_
    · rintro i v x σ H' H2 hi rx ⟨a, b, c, rfl, st⟩ e2
      have hx := hg.pos x (List.mem_of_getElem? hi)
      have st := st.keep e2
      have hn : x.1 ∉ ((gs.take i).map fun g => (g.1, V.bl true)).map (·.1) := by
        rw [List.map_map]
        intro hm
        obtain ⟨y, hy, ey⟩ := List.mem_map.mp hm
        obtain ⟨j, hj⟩ := List.mem_iff_getElem?.mp hy
        have hj2 := hj
        rw [List.getElem?_take] at hj2
        split at hj2
        · rename_i c
          have h1 : (gs.map (·.1))[j]? = some y.1 := by rw [List.getElem?_map, hj2]; rfl
          have h2 : (gs.map (·.1))[i]? = some x.1 := by rw [List.getElem?_map, hi]; rfl
          have e : y.1 = x.1 := ey
          rw [e, ← h2] at h1
          have hl := (List.getElem?_eq_some_iff.mp h2).1
          exact absurd ((List.getElem?_inj (by omega) hg.nd).mp h1) (by omega)
        · cases hj2
      walk_at "g"
      refine g_tgII rx st.gh rfl ?_
      walk_at "g"
      refine g_ite (fun c => absurd c (by omega)) (fun _ => ?_)
      walk_at "g"
      refine dI_get st.cellAt ?_
      rw [lookup_none.mpr hn, Option.isSome_none]
      walk_at "g"
      have hl : ((gs.take i).map fun g => (g.1, V.bl true)).length < 1000000 := by
        rw [List.length_map, List.length_take]
        omega
      refine dI_put st.cellAt hl hn ?_
      refine ⟨_, _, _, rfl, ?_⟩
      rw [take_more hi, List.map_append]
      exact st.cellSet
    · rintro σ H' ⟨a, b, c, rfl, st⟩
      exact k _ st.gh
abbrev s_by_age : Stmt := topS 8
theorem sc_by_age : FnScope ["guests", "age", "patience"] ["guests"] (defScope s_by_age) := ⟨rfl, rfl, rfl, by decide +kernel, rfl, by decide +kernel, by decide +kernel⟩
def spByAge : Sp := fun vs H Q _ => ∃ v, ∃ (gs : Gs) (G : Hp) (L : List Res), vs = [v] ∧ Sep G H L ∧ Rep G v gs ∧ gs.length ≤ 1000 ∧ ∀ p G' H', Same G G' → Sep G' H' (OwnL p (dnP gs) :: L) → Q (.ref p) H'
theorem ok_by_age {f : Addr} {fd : FuncData} (F : Fun K "by_age" "by_age" s_by_age f fd) (B : Bn mg) : FnOk P w K mg base CX0 1 f fd ["guests"] spByAge := by
  have sc := sc_by_age
  refine F.ok sc (fun vs H Q E h => ?_) (fun cdv A outer s H vs Q E hr h => ?_)
  · obtain ⟨v, gs, G, L, rfl, _⟩ := h
    rfl
  · obtain ⟨v, gs, G, L, rfl, st, hv, hl, k⟩ := h
    have hu := hu_of hr
    refine ⟨_, (pss_one (ps_ret (pe_callBK cSortedRev (by rfl) B.sorted bt_sorted (pa_cons (pe_lc (own := [("age", 1), ("patience", 2)]) (g := (gTup K 2 (gCons (gName 1) (gCons (gName 2) gNil)))) (tt := tYes) (te := (tTup (tCons (tVar 1) (tCons (tVar 2) tNil)))) rfl sc.nd (pi_list (pv 0)) (blkOk_by (own := [("age", 1), ("patience", 2)]) (N := ["guests", "age", "patience"]) (sc := defScope s_by_age) (by decide +kernel)) (fun _ _ _ _ _ => (pg_tup rfl (pgs_cons (pg_name (i := 1) sc.nd rfl (by first | exact .inl rfl | exact .inr rfl)) (pgs_cons (pg_name (i := 2) sc.nd rfl (by first | exact .inl rfl | exact .inr rfl)) pgs_nil)))) (fun _ _ _ _ _ => pts_nil) (fun _ _ _ _ _ => (pe_tup (pa_cons (pv 1) (pa_cons (pv 2) pa_nil))))) pa_nil) (pk_cons pe_bl pk_nil)))), ?_⟩
    try dsimp only [cxOf, Cx.nox, Cx.wish]
    walk_at "g"
    refine lcL (B := Int × Int) hv st (fun t acc Lc => acc = gs.take t ∧ Lc = L) ⟨rfl, rfl⟩ ?_ ?_
    · rintro t v2 x D acc G' H' Lc hx rx ⟨rfl, rfl⟩ u st
      refine g_tgII rx st.gh rfl ?_
      walk_at "g"
      refine ⟨by show 2 ≤ sizeLine; decide, fun q hq => ?_⟩
      obtain ⟨G2, u2, st, r2⟩ := st.tupNew hq (rep_int (n := x.1)) (rep_int (n := x.2))
      refine put_of (u.trans u2) st (by rw [List.length_take]; omega) r2 ⟨?_, rfl⟩
      rw [take_more hx]
    rintro D acc G' H' Lc ⟨rfl, rfl⟩ u st
    rw [List.take_length] at st
    obtain ⟨G2, u2, st, r2⟩ := st.ownFrz
    walk_at "g"
    refine g_srtPR st r2 fun p H3 st => ?_
    exact k p G2 H3 (u.trans u2) st
abbrev s_settled : Stmt := topS 9
theorem sc_settled : FnScope ["guests", "found", "age", "patience", "bearable", "room"] ["guests"] (defScope s_settled) := ⟨rfl, rfl, rfl, by decide +kernel, rfl, by decide +kernel, by decide +kernel⟩
def spSettled : Sp := fun vs H Q _ => ∃ v, ∃ (gs : Gs) (G : Hp) (L : List Res), vs = [v] ∧ Sep G H L ∧ Rep G v gs ∧ gs.length ≤ 1000 ∧ ∀ p G' H', Same G G' → Sep G' H' (Rooms p (byAge gs) :: L) → Q (.ref p) H'
theorem ok_settled {f : Addr} {fd : FuncData} (F : Fun K "settled" "settled" s_settled f fd) (B : Bn mg) (Cby_age : Cal P w K mg base 1 "by_age" spByAge) : FnOk P w K mg base CX0 2 f fd ["guests"] spSettled := by
  have sc := sc_settled
  refine F.ok sc (fun vs H Q E h => ?_) (fun cdv A outer s H vs Q E hr h => ?_)
  · obtain ⟨v, gs, G, L, rfl, _⟩ := h
    rfl
  · obtain ⟨v, gs, G, L, rfl, st, hv, hl, k⟩ := h
    have hu := hu_of hr
    refine ⟨_, (pss_cons (ps_set (i := 1) sc.nd rfl (.inl rfl) (pe_lst pa_nil))
  (pss_cons (ps_for PassesOwn.never rfl (pi_list (pe_c Cby_age hr (by decide) rfl (pa_cons (pv 0) pa_nil))) (pg_tup rfl (pgs_cons (pg_name (i := 2) sc.nd rfl (.inl rfl)) (pgs_cons (pg_name (i := 3) sc.nd rfl (.inr rfl)) pgs_nil)))
  (pss_cons (ps_setLc (i := 4) (own := [("room", 5)]) (g := (gName 5)) (tt := (tTest (tOp _ (tCB (EB.rLen K) (tCons (tVar 5) tNil)) (tVar 3)))) (te := (tVar 5)) rfl sc.nd rfl rfl (sw_true rfl rfl rfl (by decide +kernel)) (pi_list (pv 1)) (blkOk_by (own := [("room", 5)]) (N := ["guests", "found", "age", "patience", "bearable", "room"]) (sc := defScope s_settled) (by decide +kernel)) (fun _ _ _ _ _ => (pg_name (i := 5) sc.nd rfl (by first | exact .inl rfl | exact .inr rfl))) (fun _ _ _ _ _ => (pts_one (pt_cmpR op_le (pe_callB cLen (by rfl) B.len bt_len (pa_cons (pv 5) pa_nil)) (pv 3) (nomark _)))) (fun _ _ _ _ _ => (pv 5)))
  (pss_one (ps_if (pt_cmpR (opEq (units64 hr)) (pv 4) (pe_lst pa_nil) (nomark _)) (pss_one (ps_expr (pe_bm PySem.F.plainAttrs_list PySem.F.slot_list_append PySem.F.type_list_append mt_append (pv 1) (pa_cons (pe_lst (pa_cons (pv 2) pa_nil)) pa_nil)))) (pss_one (ps_expr (pe_bm PySem.F.plainAttrs_list PySem.F.slot_list_append PySem.F.type_list_append mt_append (pe_ix ix_seq (pv 4) pe_int (fun _ _ => rfl)) (pa_cons (pv 2) pa_nil))))))))
  (pss_one (ps_ret (pv 1))))), ?_⟩
    try dsimp only [cxOf, Cx.nox, Cx.wish]
    walk_at "g"
    refine ⟨Nat.zero_le _, fun fo hf => ?_⟩
    have st := Rooms.new (A := Int) st hf
    walk_at "g"
    refine ⟨v, gs, G, _, rfl, st, hv, hl, fun p G1 H1 u1 st => ?_⟩
    obtain ⟨G2, u2, st, r2⟩ := st.ownFrz
    refine loopL r2 st.gh (fun i σ H' => ∃ a b c d G', σ = [some v, some (.ref fo), a, b, c, d] ∧ Same G2 G' ∧ Sep G' H' (Rooms fo (((dnP gs).take i).foldl putR []) :: L)) ⟨_, _, _, _, G2, rfl, Same.refl _, st⟩ (fun i σ H' _ ⟨_, _, _, _, G', _, u, st⟩ => u.trans st.gh) ?_ ?_
    · rintro i v2 x σ H' hi rx ⟨a, b, c, d, G3, rfl, u3, st⟩
      have hi2 := (List.getElem?_eq_some_iff.mp hi).1
      rw [dnP_len] at hi2
      have hfl := fold_len ((dnP gs).take i) []
      rw [List.length_take, dnP_len, List.length_nil, Nat.zero_add] at hfl
      have hfr := fold_room ((dnP gs).take i) [] 0 (by simp)
      rw [List.length_take, dnP_len] at hfr
      rw [show ((dnP gs).take (i + 1)).foldl putR [] = putR (((dnP gs).take i).foldl putR []) x from foldl_more hi]
      generalize ((dnP gs).take i).foldl putR [] = ss at st hfl hfr ⊢
      refine g_tgII rx (u3.trans st.gh) rfl ?_
      walk_at "g"
      obtain ⟨as, hal, hfo, hrep⟩ := Rooms.refs st
      refine lcL (B := Raw) (xs := (as.map V.ref).map Raw.mk) (G := H') ⟨fo, _, rfl, hfo, reps_raw _⟩ (Sep.all H') (fun t acc Lc => acc = (((as.zip ss).take t).filter fun z => fit x.2 z.2).map (fun z => Raw.mk (.ref z.1)) ∧ Lc = []) ⟨rfl, rfl⟩ ?_ ?_
      · rintro t v3 y D acc G' H4 Lc hx rx ⟨rfl, rfl⟩ u st4
        rw [List.getElem?_map, List.getElem?_map] at hx
        obtain ⟨aw, haw, hxy⟩ := Option.map_eq_some_iff.mp hx
        obtain ⟨av, hav, haw⟩ := Option.map_eq_some_iff.mp haw
        subst hxy haw
        have rx : v3 = .ref av := rx
        subst rx
        have ht : t < as.length := (List.getElem?_eq_some_iff.mp hav).1
        have hss : ss[t]? = some ss[t] := List.getElem?_eq_getElem (by omega)
        generalize ss[t] = rm at hss
        obtain ⟨av2, hav2, hr⟩ := hrep t rm hss
        rw [hav] at hav2
        cases hav2
        have hz : (as.zip ss)[t]? = some (av, rm) := List.getElem?_zip_eq_some.mpr ⟨hav, hss⟩
        walk_at "g"
        refine g_lenL (hr.up u) st4.gh ?_
        walk_at "g"
        refine g_ite (fun c => ?_) (fun c => ?_)
        · walk_at "g"
          refine put_of u st4 (by rw [List.length_map]; exact Nat.lt_of_le_of_lt (List.length_filter_le _ _) (by rw [List.length_take, List.length_zip]; omega)) (show Rep _ _ (Raw.mk (.ref av)) from rfl) ⟨?_, rfl⟩
          rw [take_more hz, List.filter_append, List.map_append]
          have e : fit x.2 rm = true := by simpa [fit] using c
          simp [e]
        · refine skip_of u st4 ⟨?_, rfl⟩
          rw [take_more hz, List.filter_append, List.map_append]
          have e : fit x.2 rm = false := by simpa [fit] using c
          simp [e]
      rintro D acc G' H4 Lc ⟨rfl, rfl⟩ u st4
      have hzl : (as.zip ss).length = ((as.map V.ref).map Raw.mk).length := by
        rw [List.length_zip, List.length_map, List.length_map]
        omega
      rw [← hzl, List.take_length] at st4
      have kk := u.trans st4.gh
      obtain ⟨ws, G5, rw5, u5, st, hD⟩ := st.snap u st4
      have rw5 := Reps.raws rw5
      rw [List.map_map] at rw5
      have rw5 : ws = (filt x.2 as ss).map fun z => V.ref z.1 := rw5
      subst rw5
      walk_at "g"
      refine ⟨Nat.zero_le _, fun q hq => ?_⟩
      have hrD : ∀ {H6 : Hp}, Same H4 H6 → Rep H6 (.ref D) ((filt x.2 as ss).map (·.2)) := fun {H6} e6 => ⟨D, _, rfl, e6 _ _ (st.gh _ _ hD), filt_reps fun z hz => by
        obtain ⟨i, h1, h2⟩ := mem_filt hz
        obtain ⟨a2, h3, h4⟩ := hrep i z.2 h2
        rw [h1] at h3
        cases h3
        exact h4.up (kk.trans e6)⟩
      obtain ⟨G6, u6, st, r6⟩ := st.lstNew hq (reps0 (A := List Int))
      refine g_eqT (hrD (same_upd hq)) r6 (Same.refl _) st.gh ?_
      walk_at "g"
      refine g_ite (fun c => ?_) (fun c => ?_)
      · have c2 : filt x.2 as ss = [] := List.map_eq_nil_iff.mp c
        walk_at "g"
        refine g_tyRooms st ?_
        walk_at "g"
        refine ⟨by show 1 ≤ sizeLine; decide, fun q2 hq2 => ?_⟩
        have st := st.ownNew (vs := [.int x.1]) (xs := [x.1]) hq2 (reps1 rep_int)
        walk_at "g"
        refine g_appRooms st (by omega) fun H7 st => ?_
        refine ⟨_, _, _, _, G6, rfl, (u3.trans u5).trans u6, ?_⟩
        have e : putR ss x = ss ++ [[x.1]] := by
          unfold putR
          rw [if_neg ((filt_none hal).mp c2)]
        rw [e]
        exact st
      · have c2 : spot ss x.2 < ss.length := by
          by_cases z : spot ss x.2 < ss.length
          · exact z
          · exact absurd (by rw [(filt_none hal).mpr z]; rfl) c
        obtain ⟨a0, rest, h0, hf0⟩ := filt_first hal c2
        have hgd : ss[spot ss x.2]? = some (ss.getD (spot ss x.2) []) := by
          rw [List.getD_eq_getElem?_getD, List.getElem?_eq_getElem c2]
          rfl
        walk_at "g"
        refine .inl ⟨D, _, 0, .ref a0, rfl, rfl, .inl (.inl (st.gh _ _ (u6 _ _ hD))), by rw [hf0]; exact atI_nat (j := 0) rfl, ?_⟩
        obtain ⟨b0, as0, hb0, hp0, st⟩ := Rooms.at st hgd
        have e0 : as0 = as := by
          have := (kk.trans (same_upd (o := .lst []) hq)) _ _ hfo
          rw [hp0] at this
          exact (List.map_inj_right (fun _ _ h => by cases h; rfl)).mp (HO.lst.inj (Option.some.inj this))
        subst e0
        rw [h0] at hb0
        cases hb0
        refine g_tyO st ?_
        walk_at "g"
        have hlr : (ss.getD (spot ss x.2) []).length ≤ 0 + min i gs.length := hfr _ (List.mem_of_getElem? hgd)
        refine g_append st rep_int (by omega) fun H7 st => ?_
        refine ⟨_, _, _, _, G6, rfl, (u3.trans u5).trans u6, ?_⟩
        have e : putR ss x = ss.set (spot ss x.2) (ss.getD (spot ss x.2) [] ++ [x.1]) := by
          unfold putR
          rw [if_pos c2]
        rw [e]
        exact Rooms.put c2 st
    · rintro σ H' ⟨a, b, c, d, G3, rfl, u3, st⟩
      walk_at "g"
      rw [List.take_length] at st
      exact k fo G3 H' ((u1.trans u2).trans u3) st
abbrev s_rooms : Stmt := topS 10
theorem sc_rooms : FnScope ["guests"] ["guests"] (defScope s_rooms) := ⟨rfl, rfl, rfl, by decide +kernel, rfl, by decide +kernel, by decide +kernel⟩
def spRooms : Sp := fun vs H Q _ => ∃ v, ∃ (gs : Gs) (G : Hp) (L : List Res), vs = [v] ∧ Sep G H L ∧ Rep G v gs ∧ Good gs ∧ ∀ p G' H', Same G G' → Sep G' H' (Rooms p (byAge gs) :: L) → Q (.ref p) H'
theorem ok_rooms {f : Addr} {fd : FuncData} (F : Fun K "rooms" "rooms" s_rooms f fd) (B : Bn mg) (Cneed_guests : Cal P w K mg base 1 "need_guests" spNeedGuests) (Csettled : Cal P w K mg base 2 "settled" spSettled) : FnOk P w K mg base CX0 3 f fd ["guests"] spRooms := by
  have sc := sc_rooms
  refine F.ok sc (fun vs H Q E h => ?_) (fun cdv A outer s H vs Q E hr h => ?_)
  · obtain ⟨v, gs, G, L, rfl, _⟩ := h
    rfl
  · obtain ⟨v, gs, G, L, rfl, st, hv, hg, k⟩ := h
    have hu := hu_of hr
    refine ⟨_, (pss_cons (ps_expr (pe_c Cneed_guests hr (by decide) rfl (pa_cons (pv 0) pa_nil)))
  (pss_one (ps_ret (pe_c Csettled hr (by decide) rfl (pa_cons (pv 0) pa_nil))))), ?_⟩
    try dsimp only [cxOf, Cx.nox, Cx.wish]
    walk_at "g"
    refine ⟨v, gs, rfl, hv.up st.gh, hg, fun H1 e1 => ?_⟩
    have st := st.keep e1
    walk_at "g"
    exact ⟨v, gs, G, L, rfl, st, hv, hg.len, k⟩
end
end El

namespace El
open PySem L2 EB
def lens (ss : List (List Int)) : List Int := ss.map fun r => (r.length : Int)
end El

namespace El
open PySem L2 EB
section
variable {P : Program} {w : World} {K : PySem.W.Frag} {mg : Str → Option Value} {base : Heap}
abbrev s_sizes : Stmt := topS 11
theorem sc_sizes : FnScope ["guests", "room"] ["guests"] (defScope s_sizes) := ⟨rfl, rfl, rfl, by decide +kernel, rfl, by decide +kernel, by decide +kernel⟩
def spSizes : Sp := fun vs H Q _ => ∃ v, ∃ (gs : Gs) (G : Hp) (L : List Res), vs = [v] ∧ Sep G H L ∧ Rep G v gs ∧ Good gs ∧ ∀ p G' H', Same G G' → Sep G' H' (OwnL p (lens (byAge gs)) :: L) → Q (.ref p) H'
theorem ok_sizes {f : Addr} {fd : FuncData} (F : Fun K "sizes" "sizes" s_sizes f fd) (B : Bn mg) (Crooms : Cal P w K mg base 3 "rooms" spRooms) : FnOk P w K mg base CX0 4 f fd ["guests"] spSizes := by
  have sc := sc_sizes
  refine F.ok sc (fun vs H Q E h => ?_) (fun cdv A outer s H vs Q E hr h => ?_)
  · obtain ⟨v, gs, G, L, rfl, _⟩ := h
    rfl
  · obtain ⟨v, gs, G, L, rfl, st, hv, hg, k⟩ := h
    have hu := hu_of hr
    refine ⟨_, (pss_one (ps_ret (pe_lc (own := [("room", 1)]) (g := (gName 1)) (tt := tYes) (te := (tCB (EB.rLen K) (tCons (tVar 1) tNil))) rfl sc.nd (pi_list (pe_c Crooms hr (by decide) rfl (pa_cons (pv 0) pa_nil))) (blkOk_by (own := [("room", 1)]) (N := ["guests", "room"]) (sc := defScope s_sizes) (by decide +kernel)) (fun _ _ _ _ _ => (pg_name (i := 1) sc.nd rfl (by first | exact .inl rfl | exact .inr rfl))) (fun _ _ _ _ _ => pts_nil) (fun _ _ _ _ _ => (pe_callB cLen (by rfl) B.len bt_len (pa_cons (pv 1) pa_nil)))))), ?_⟩
    try dsimp only [cxOf, Cx.nox, Cx.wish]
    walk_at "g"
    refine ⟨v, gs, G, L, rfl, st, hv, hg, fun p G1 H1 u1 st => ?_⟩
    obtain ⟨G2, u2, st, r2⟩ := Rooms.frz st
    have hl1 := byAge_len gs
    have hl2 := hg.len
    refine lcL (B := Int) r2 st (fun t acc Lc => acc = lens ((byAge gs).take t) ∧ Lc = L) ⟨rfl, rfl⟩ ?_ ?_
    · rintro t v2 x D acc G' H' Lc hx rx ⟨rfl, rfl⟩ u st
      walk_at "g"
      refine g_lenL rx st.gh ?_
      refine put_of u st (by unfold lens; rw [List.length_map, List.length_take]; omega) rep_int ⟨?_, rfl⟩
      rw [take_more hx]
      unfold lens
      rw [List.map_append]
      rfl
    rintro D acc G' H' Lc ⟨rfl, rfl⟩ u st
    rw [List.take_length] at st
    exact k D G' H' ((u1.trans u2).trans u) st
end
end El

namespace El
open PySem L2 EB
/-! ### one guest more makes one room one fuller -/
def spotI (s : List Int) (b : Int) : Nat := s.findIdx fun n => decide (n ≤ b)
def bump (s : List Int) (i : Nat) : List Int := if i < s.length then s.set i (s.getD i 0 + 1) else s ++ [1]
def putN (s : List Int) (b : Int) : List Int := bump s (spotI s b)
theorem spotI_le (s : List Int) (b : Int) : spotI s b ≤ s.length := List.findIdx_le_length
theorem spotI_cons (r : Int) (ss : List Int) (b : Int) : spotI (r :: ss) b = if r ≤ b then 0 else spotI ss b + 1 := by
  unfold spotI
  rw [List.findIdx_cons]
  by_cases c : r ≤ b
  · simp [c]
  · simp [c]
theorem bump_cons (r : Int) (ss : List Int) (i : Nat) : bump (r :: ss) (i + 1) = r :: bump ss i := by
  unfold bump
  by_cases c : i < ss.length
  · have c2 : i + 1 < (r :: ss).length := by simp; omega
    rw [if_pos c, if_pos c2]
    simp
  · have c2 : ¬ i + 1 < (r :: ss).length := by simp; omega
    rw [if_neg c, if_neg c2]
    simp
theorem bump_zero (r : Int) (ss : List Int) : bump (r :: ss) 0 = (r + 1) :: ss := by
  unfold bump
  simp
theorem bump_len {s : List Int} {i : Nat} (h : i ≤ s.length) : s.length ≤ (bump s i).length ∧ i < (bump s i).length := by
  unfold bump
  split
  · rw [List.length_set]
    omega
  · rw [List.length_append, List.length_singleton]
    omega
theorem bump_get {s : List Int} {i : Nat} (h : i ≤ s.length) (k : Nat) : (bump s i)[k]? = if k = i then some (s.getD i 0 + 1) else s[k]? := by
  induction s generalizing i k with
  | nil =>
    have : i = 0 := by simpa using h
    subst this
    cases k with
    | zero => simp [bump]
    | succ k => simp [bump]
  | cons r ss ih =>
    cases i with
    | zero =>
      rw [bump_zero]
      cases k with
      | zero => simp
      | succ k => simp
    | succ i =>
      rw [bump_cons]
      cases k with
      | zero => simp
      | succ k =>
        have := ih (i := i) (by simpa using h) k
        simp only [List.getElem?_cons_succ, this, Nat.add_right_cancel_iff, List.getD_cons_succ]
/-- another place: the two come to the same -/
theorem bump_comm {s : List Int} {i j : Nat} (h : i ≤ s.length) (h2 : j ≤ s.length) (d : i ≠ j) : bump (bump s i) j = bump (bump s j) i := by
  induction s generalizing i j with
  | nil =>
    have e1 : i = 0 := by simpa using h
    have e2 : j = 0 := by simpa using h2
    omega
  | cons r ss ih =>
    cases i with
    | zero =>
      cases j with
      | zero => omega
      | succ j => rw [bump_zero, bump_cons, bump_cons, bump_zero]
    | succ i =>
      cases j with
      | zero => rw [bump_zero, bump_cons, bump_cons, bump_zero]
      | succ j => rw [bump_cons, bump_cons, bump_cons, bump_cons, ih (by simpa using h) (by simpa using h2) (by omega)]
/-- elsewhere: the first room that is borne stays the first -/
theorem spot_bump {s : List Int} {i : Nat} {b : Int} (h : i ≤ s.length) (d : spotI s b ≠ i) : spotI (bump s i) b = spotI s b := by
  induction s generalizing i with
  | nil =>
    have e1 : i = 0 := by simpa using h
    subst e1
    exact absurd rfl d
  | cons r ss ih =>
    cases i with
    | zero =>
      rw [bump_zero, spotI_cons, spotI_cons]
      rw [spotI_cons] at d
      split at d
      · exact absurd rfl d
      · rename_i c
        rw [if_neg c, if_neg (by omega)]
    | succ i =>
      rw [bump_cons, spotI_cons, spotI_cons]
      split
      · rfl
      · rename_i c
        rw [spotI_cons, if_neg c] at d
        rw [ih (by simpa using h) (by omega)]
theorem put_bump {s : List Int} {i : Nat} (b : Int) (h : i ≤ s.length) : ∃ j, j ≤ (putN s b).length ∧ putN (bump s i) b = bump (putN s b) j := by
  by_cases d : spotI s b = i
  · subst d
    exact ⟨spotI (putN s b) b, spotI_le _ _, rfl⟩
  · refine ⟨i, ?_, ?_⟩
    · have := (bump_len (spotI_le s b)).1
      unfold putN
      omega
    · unfold putN
      rw [spot_bump h d, bump_comm h (spotI_le s b) (Ne.symm d)]
theorem fold_bump (bs : List Int) : ∀ {s : List Int} {i : Nat}, i ≤ s.length → ∃ j, j ≤ (bs.foldl putN s).length ∧ bs.foldl putN (bump s i) = bump (bs.foldl putN s) j := by
  induction bs with
  | nil => exact fun h => ⟨_, h, rfl⟩
  | cons b r ih =>
    intro s i h
    obtain ⟨j, h1, h2⟩ := put_bump b h
    obtain ⟨m, h3, h4⟩ := ih h1
    exact ⟨m, h3, by show r.foldl putN (putN (bump s i) b) = _; rw [h2, h4]; rfl⟩
theorem lens_spot (b : Int) : ∀ ss : List (List Int), spotI (lens ss) b = spot ss b
  | [] => rfl
  | r :: ss => by
    show spotI ((r.length : Int) :: lens ss) b = _
    rw [spotI_cons, spot_cons, lens_spot b ss]
    by_cases c : (r.length : Int) ≤ b
    · simp [fit, c]
    · simp [fit, c]
theorem lens_put (ss : List (List Int)) (g : Int × Int) : lens (putR ss g) = putN (lens ss) g.2 := by
  unfold putN bump putR
  rw [lens_spot]
  have e : (lens ss).length = ss.length := List.length_map ..
  rw [e]
  split
  · rename_i c
    unfold lens
    rw [List.map_set]
    congr 1
    rw [List.getD_eq_getElem?_getD, List.getD_eq_getElem?_getD, List.getElem?_map, List.getElem?_eq_getElem c]
    simp
  · unfold lens
    rw [List.map_append]
    rfl
theorem lens_fold (gs : Gs) : ∀ ss, lens (gs.foldl putR ss) = (gs.map (·.2)).foldl putN (lens ss) := by
  induction gs with
  | nil => exact fun _ => rfl
  | cons g r ih =>
    intro ss
    show lens (r.foldl putR (putR ss g)) = (r.map (·.2)).foldl putN (putN (lens ss) g.2)
    rw [ih, lens_put]
theorem one_bump (gs : Gs) (g : Int × Int) : ∃ j, j ≤ (lens (byAge gs)).length ∧ lens (byAge (gs ++ [g])) = bump (lens (byAge gs)) j := by
  rw [byAge_perm (show (gs ++ [g]).Perm (g :: gs) from List.perm_append_comm)]
  obtain ⟨a, b, e1, e2⟩ := dnP_more gs g
  unfold byAge
  rw [e1, e2, lens_fold, lens_fold, List.map_append, List.map_append, List.foldl_append, List.foldl_append]
  exact fold_bump _ (spotI_le _ _)
/-! the numbers of rooms that are unlike -/
def unl (ahead later : List Int) (n : Nat) : List Int := ((List.range n).filter fun k => decide (ahead[k]? ≠ later[k]?)).map fun k : Nat => (k : Int)
theorem unl_succ (ahead later : List Int) (n : Nat) : unl ahead later (n + 1) = unl ahead later n ++ (if ahead[n]? ≠ later[n]? then [(n : Int)] else []) := by
  unfold unl
  rw [List.range_succ, List.filter_append, List.map_append]
  congr 1
  by_cases c : ahead[n]? = later[n]?
  · simp [c]
  · simp [c]
theorem unl_bump {s : List Int} {j : Nat} (h : j ≤ s.length) : ∀ n, unl s (bump s j) n = if j < n then [(j : Int)] else []
  | 0 => by simp [unl]
  | n + 1 => by
    rw [unl_succ, unl_bump h n, bump_get h n]
    by_cases c : n = j
    · subst c
      rw [if_neg (Nat.lt_irrefl n), if_pos rfl, if_pos (Nat.lt_succ_self n), if_pos ?_, List.nil_append]
      rcases Nat.lt_or_ge n s.length with c | c
      · rw [List.getD_eq_getElem?_getD, List.getElem?_eq_getElem c]
        simp
        omega
      · rw [List.getElem?_eq_none c]
        simp
    · rw [if_neg c]
      simp only [ne_eq, not_true_eq_false, if_false, List.append_nil]
      by_cases c2 : j < n
      · rw [if_pos c2, if_pos (by omega)]
      · rw [if_neg c2, if_neg (by omega)]
theorem unl_all {s : List Int} {j : Nat} (h : j ≤ s.length) : unl s (bump s j) (bump s j).length = [(j : Int)] := by
  rw [unl_bump h, if_pos (bump_len h).2]
theorem cut_one (xs : List Int) (k : Nat) : cut xs (some (k : Int)) (some ((k : Int) + 1)) = xs[k]?.toList := by
  rw [cut_of (by omega) (by omega)]
  have e : ((k : Int) + 1).toNat = k + 1 := by omega
  rw [e, Int.toNat_natCast]
  rcases Nat.lt_or_ge k xs.length with c | c
  · rw [List.take_add_one, List.drop_append_of_le_length (by rw [List.length_take]; omega), List.drop_of_length_le (by rw [List.length_take]; omega), List.nil_append]
  · rw [List.getElem?_eq_none c, List.drop_of_length_le (by rw [List.length_take]; omega)]
    rfl
theorem toList_inj {A : Type} {a b : Option A} : a.toList = b.toList ↔ a = b := by
  cases a <;> cases b <;> simp
theorem good_more {gs : Gs} {g : Int × Int} (h : Good gs) (h0 : 0 ≤ g.2) (h1 : g.1 ∉ gs.map (·.1)) (h2 : gs.length ≤ 900) : Good (gs ++ [g]) := by
  have p : (gs ++ [g]).Perm (g :: gs) := List.perm_append_comm
  refine ⟨fun x hx => ?_, ?_, ?_⟩
  · rcases List.mem_append.mp hx with hx | hx
    · exact h.pos x hx
    · rw [List.mem_singleton.mp hx]
      exact h0
  · refine (p.map (·.1)).nodup_iff.mpr ?_
    rw [List.map_cons, List.nodup_cons]
    exact ⟨h1, h.nd⟩
  · rw [List.length_append, List.length_singleton]
    omega
end El

namespace El
open PySem L2 EB
/-! ### sizes never rise -/
theorem put_mem (b : Int) : ∀ (s : List Int), ∀ x ∈ bump s (spotI s b), x ∈ s ∨ x ≤ b + 1 ∨ x = 1
  | [], x, hx => by
    simp [bump] at hx
    exact .inr (.inr hx)
  | r :: ss, x, hx => by
    rw [spotI_cons] at hx
    split at hx
    · rename_i c
      rw [bump_zero] at hx
      rcases List.mem_cons.mp hx with rfl | hx
      · exact .inr (.inl (by omega))
      · exact .inl (List.mem_cons_of_mem _ hx)
    · rw [bump_cons] at hx
      rcases List.mem_cons.mp hx with rfl | hx
      · exact .inl (List.mem_cons_self ..)
      · rcases put_mem b ss x hx with h | h
        · exact .inl (List.mem_cons_of_mem _ h)
        · exact .inr h
theorem put_desc {b : Int} (h0 : 0 ≤ b) : ∀ {s : List Int}, s.Pairwise (· ≥ ·) → (putN s b).Pairwise (· ≥ ·)
  | [], _ => by simp [putN, bump]
  | r :: ss, h => by
    unfold putN
    rw [spotI_cons]
    obtain ⟨h1, h2⟩ := List.pairwise_cons.mp h
    split
    · rw [bump_zero]
      exact List.pairwise_cons.mpr ⟨fun x hx => by
        have : r ≥ x := h1 x hx
        show r + 1 ≥ x
        omega, h2⟩
    · rename_i c
      rw [bump_cons]
      refine List.pairwise_cons.mpr ⟨fun x hx => ?_, put_desc h0 h2⟩
      show r ≥ x
      rcases put_mem b ss x hx with h | h | h
      · exact h1 x h
      · omega
      · omega
theorem fold_desc : ∀ (bs : List Int), (∀ b ∈ bs, 0 ≤ b) → ∀ s : List Int, s.Pairwise (· ≥ ·) → (bs.foldl putN s).Pairwise (· ≥ ·)
  | [], _, _, h => h
  | b :: bs, hb, s, h => fold_desc bs (fun x hx => hb x (List.mem_cons_of_mem _ hx)) _ (put_desc (hb b (List.mem_cons_self ..)) h)
theorem sizes_desc {gs : Gs} (h : ∀ g ∈ gs, 0 ≤ g.2) : (lens (byAge gs)).Pairwise (· ≥ ·) := by
  unfold byAge
  rw [lens_fold]
  refine fold_desc _ (fun b hb => ?_) _ (by simp [lens])
  obtain ⟨g, hg, rfl⟩ := List.mem_map.mp hb
  exact h g ((dnP_perm gs).mem_iff.mp hg)
end El

namespace El
open PySem L2 EB
section
variable {P : Program} {w : World} {K : PySem.W.Frag} {mg : Str → Option Value} {base : Heap}
abbrev s_need_number : Stmt := topS 7
theorem sc_need_number : FnScope ["j"] ["j"] (defScope s_need_number) := ⟨rfl, rfl, rfl, by decide +kernel, rfl, by decide +kernel, by decide +kernel⟩
def spNeedNumber : Sp := fun vs H Q _ => ∃ j : Int, vs = [.int j] ∧ 0 ≤ j ∧ ∀ H', Same H H' → Q .non H'
theorem ok_need_number {f : Addr} {fd : FuncData} (F : Fun K "need_number" "need_number" s_need_number f fd) (B : Bn mg) : FnOk P w K mg base CX0 1 f fd ["j"] spNeedNumber := by
  have sc := sc_need_number
  refine F.ok sc (fun vs H Q E h => ?_) (fun cdv A outer s H vs Q E hr h => ?_)
  · obtain ⟨j, rfl, _⟩ := h
    rfl
  · obtain ⟨j, rfl, hj, k⟩ := h
    have hu := hu_of hr
    refine ⟨_, (pss_one (ps_if (pt_cmpR op_lt (pv 0) pe_int (nomark _)) (pss_one ps_never) pss_nil)), ?_⟩
    try dsimp only [cxOf, Cx.nox, Cx.wish]
    walk_at "g"
    refine g_ite (fun c => absurd c (by omega)) (fun _ => ?_)
    walk_at "g"
    exact k H (Same.refl _)
end
end El

namespace El
open PySem L2 EB
section
variable {P : Program} {w : World} {K : PySem.W.Frag} {mg : Str → Option Value} {base : Heap}
abbrev s_in_first : Stmt := topS 12
theorem sc_in_first : FnScope ["guests", "j", "found"] ["guests", "j"] (defScope s_in_first) := ⟨rfl, rfl, rfl, by decide +kernel, rfl, by decide +kernel, by decide +kernel⟩
def firstN (gs : Gs) (j : Int) : Int := ((lens (byAge gs)).take j.toNat).sum
def spInFirst : Sp := fun vs H Q _ => ∃ (v : V) (gs : Gs) (j : Int), vs = [v, .int j] ∧ Rep H v gs ∧ Good gs ∧ 0 ≤ j ∧ ∀ H', Same H H' → Q (.int (firstN gs j)) H'
theorem ok_in_first {f : Addr} {fd : FuncData} (F : Fun K "in_first" "in_first" s_in_first f fd) (B : Bn mg) (Csizes : Cal P w K mg base 4 "sizes" spSizes) (Cneed_number : Cal P w K mg base 1 "need_number" spNeedNumber) : FnOk P w K mg base CX0 5 f fd ["guests", "j"] spInFirst := by
  have sc := sc_in_first
  refine F.ok sc (fun vs H Q E h => ?_) (fun cdv A outer s H vs Q E hr h => ?_)
  · obtain ⟨v, gs, j, rfl, _⟩ := h
    rfl
  · obtain ⟨v, gs, j, rfl, hv, hg, hj, k⟩ := h
    have hu := hu_of hr
    refine ⟨_, (pss_cons (ps_set (i := 2) sc.nd rfl (.inl rfl) (pe_c Csizes hr (by decide) rfl (pa_cons (pv 0) pa_nil)))
  (pss_cons (ps_expr (pe_c Cneed_number hr (by decide) rfl (pa_cons (pv 1) pa_nil)))
  (pss_one (ps_ret (pe_callB (cSum rfl) (by rfl) B.sum bt_sum (pa_cons (pe_slice slA (pv 2) po_none (po_some (pv 1))) pa_nil)))))), ?_⟩
    try dsimp only [cxOf, Cx.nox, Cx.wish]
    walk_at "g"
    refine ⟨v, gs, H, [], rfl, Sep.all H, hv, hg, fun p G1 H1 u1 st => ?_⟩
    obtain ⟨G2, u2, st, r2⟩ := st.ownFrz
    walk_at "g"
    refine ⟨j, rfl, hj, fun H2 e2 => ?_⟩
    have st := st.keep e2
    walk_at "g"
    refine g_slL st r2 fun p3 H3 st => ?_
    obtain ⟨G3, u3, st, r3⟩ := st.ownFrz
    rw [cut_to hj] at r3
    refine g_sum r3 st.gh ?_
    exact k H3 (((u1.trans u2).trans u3).trans st.gh)
end
end El

namespace El
open PySem L2 EB
section
variable {P : Program} {w : World} {K : PySem.W.Frag} {mg : Str → Option Value} {base : Heap}
abbrev s_need_arrangement : Stmt := topS 13
theorem sc_need_arrangement : FnScope ["guests", "arrangement", "left", "age", "patience", "number", "room"] ["guests", "arrangement"] (defScope s_need_arrangement) := ⟨rfl, rfl, rfl, by decide +kernel, rfl, by decide +kernel, by decide +kernel⟩
def spNeedArr : Sp := fun vs H Q _ => ∃ (v u : V) (gs : Gs) (arr : List (List Int)), vs = [v, u] ∧ Rep H v gs ∧ Good gs ∧ Rep H u arr ∧ Arr gs arr ∧ ∀ H', Same H H' → Q .non H'
theorem ok_need_arrangement {f : Addr} {fd : FuncData} (F : Fun K "need_arrangement" "need_arrangement" s_need_arrangement f fd) (B : Bn mg) (Cneed_guests : Cal P w K mg base 1 "need_guests" spNeedGuests) : FnOk P w K mg base CX0 2 f fd ["guests", "arrangement"] spNeedArr := by
  have sc := sc_need_arrangement
  refine F.ok sc (fun vs H Q E h => ?_) (fun cdv A outer s H vs Q E hr h => ?_)
  · obtain ⟨v, u, gs, arr, rfl, _⟩ := h
    rfl
  · obtain ⟨v, u, gs, arr, rfl, hv, hg, hu', ha, k⟩ := h
    have hu := hu_of hr
    have hgl := hg.len
    refine ⟨_, (pss_cons (ps_expr (pe_c Cneed_guests hr (by decide) rfl (pa_cons (pv 0) pa_nil)))
  (pss_cons (ps_setDc (i := 2) (own := [("age", 3), ("patience", 4)]) (g := (gTup K 2 (gCons (gName 3) (gCons (gName 4) gNil)))) (tt := tYes) (tk := (tVar 3)) (tv := (tC (V.bl true))) rfl sc.nd rfl rfl (swD rfl rfl rfl (by decide +kernel)) (pi_list (pv 0)) (blkOk_by (own := [("age", 3), ("patience", 4)]) (N := ["guests", "arrangement", "left", "age", "patience", "number", "room"]) (sc := defScope s_need_arrangement) (by decide +kernel)) (fun _ _ _ _ _ => (pg_tup rfl (pgs_cons (pg_name (i := 3) sc.nd rfl (by first | exact .inl rfl | exact .inr rfl)) (pgs_cons (pg_name (i := 4) sc.nd rfl (by first | exact .inl rfl | exact .inr rfl)) pgs_nil)))) (fun _ _ _ _ _ => pts_nil) (fun _ _ _ _ _ => (pv 3)) (fun _ _ _ _ _ => pe_bl))
  (pss_cons (ps_for PassesOwn.never rfl (pi_enum (by rfl) B.enumerate (pa_cons (pv 1) pa_nil)) (pg_tup rfl (pgs_cons (pg_name (i := 5) sc.nd rfl (.inl rfl)) (pgs_cons (pg_name (i := 6) sc.nd rfl (.inl rfl)) pgs_nil)))
  (pss_one (ps_for PassesOwn.never rfl (pi_list (pv 6)) (pg_name (i := 3) sc.nd rfl (.inl rfl))
  (pss_cons (ps_if (pt_cmp (pc_dnotin hu (pv 3) (pv 2))) (pss_one ps_never) pss_nil)
  (pss_one (ps_ddel (pv 2) (pv 3)))))))
  (pss_one (ps_if (pt_cmpR (op_ne_dictA (Nat.lt_of_succ_lt hu)) (pv 2) pe_dnewK (nomark _)) (pss_one ps_never) pss_nil))))), ?_⟩
    try dsimp only [cxOf, Cx.nox, Cx.wish]
    walk_at "g"
    refine ⟨v, gs, rfl, hv, hg, fun H1 e1 => ?_⟩
    have st := (Sep.all H).keep e1
    walk_at "g"
    refine dcL hv st (fun t acc Lc => acc = (gs.take t).map (fun g => (g.1, V.bl true)) ∧ Lc = []) ⟨rfl, rfl⟩ ?_ ?_
    · rintro t v2 x D acc G' H' Lc hx rx ⟨rfl, rfl⟩ u st
      refine g_tgII rx st.gh rfl ?_
      walk_at "g"
      refine dput_of u st (by rw [List.length_map, List.length_take]; omega) ?_ ⟨?_, rfl⟩
      · rw [List.map_map]
        intro hm
        obtain ⟨y, hy, ey⟩ := List.mem_map.mp hm
        obtain ⟨j, hj⟩ := List.mem_iff_getElem?.mp hy
        have hj2 := hj
        rw [List.getElem?_take] at hj2
        split at hj2
        · rename_i c
          have h1 : (gs.map (·.1))[j]? = some y.1 := by rw [List.getElem?_map, hj2]; rfl
          have h2 : (gs.map (·.1))[t]? = some x.1 := by rw [List.getElem?_map, hx]; rfl
          have e : y.1 = x.1 := ey
          rw [e, ← h2] at h1
          have hl := (List.getElem?_eq_some_iff.mp h2).1
          exact absurd ((List.getElem?_inj (by omega) hg.nd).mp h1) (by omega)
        · cases hj2
      · rw [take_more hx, List.map_append]
        rfl
    rintro D acc G1 H2 Lc ⟨rfl, rfl⟩ u1 st
    rw [List.take_length] at st
    have hu' := hu'.up u1
    have pm0 : ((gs.map fun g => (g.1, V.bl true)).map (·.1)).Perm (arr.drop 0).flatten := by
      rw [List.map_map]
      exact ha.pm.symm
    walk_at "g"
    have nd0 : (arr.flatten).Nodup := ha.pm.nodup_iff.mpr hg.nd
    refine loopE hu' st.gh rfl (fun i σ H' => ∃ rem x3 x4 x5 x6, σ = [some v, some u, some (.ref D), x3, x4, x5, x6] ∧ Sep G1 H' [cell D (.dK (kvI rem))] ∧ (rem.map (·.1)).Perm (arr.drop i).flatten) ⟨_, _, _, _, _, rfl, st, pm0⟩ (fun i σ H' _ ⟨_, _, _, _, _, _, st, _⟩ => st.gh) ?_ ?_
    · rintro i v2 room σ H3 H4 hi rx ⟨rem, x3, x4, x5, x6, rfl, st, pm⟩ e4
      have st := st.keep e4
      obtain ⟨hi1, hi2⟩ := List.getElem?_eq_some_iff.mp hi
      rw [List.drop_eq_getElem_cons hi1, hi2, List.flatten_cons] at pm
      walk_at "g"
      refine loopL rx st.gh (fun j σ H' => ∃ rem x3, σ = [some v, some u, some (.ref D), x3, x4, some (.int i), some v2] ∧ Sep G1 H' [cell D (.dK (kvI rem))] ∧ (rem.map (·.1)).Perm (room.drop j ++ (arr.drop (i + 1)).flatten)) ⟨_, _, rfl, st, pm⟩ (fun j σ H' _ ⟨_, _, _, st, _⟩ => st.gh) ?_ ?_
      · rintro j v3 age σ H5 hj rage ⟨rem, x3, rfl, st, pm⟩
        obtain rfl := rage.int
        obtain ⟨hj1, hj2⟩ := List.getElem?_eq_some_iff.mp hj
        rw [List.drop_eq_getElem_cons hj1, hj2, List.cons_append] at pm
        have hin : age ∈ rem.map (·.1) := pm.mem_iff.mpr (List.mem_cons_self ..)
        have ndr : (age :: (room.drop (j + 1) ++ (arr.drop (i + 1)).flatten)).Nodup := by
          refine List.Sublist.nodup ?_ nd0
          rw [← List.cons_append, ← hj2, ← List.drop_eq_getElem_cons hj1]
          have e : arr.flatten = (arr.take i).flatten ++ (room ++ (arr.drop (i + 1)).flatten) := by
            rw [← List.flatten_cons, ← hi2, ← List.drop_eq_getElem_cons hi1, ← List.flatten_append, List.take_append_drop]
          rw [e]
          exact ((List.drop_sublist j room).append_right _).trans (List.sublist_append_right _ _)
        walk_at "g"
        refine dI_get st.cellAt ?_
        cases hlk : rem.lookup age with
        | none => exact absurd hin (lookup_none.mp hlk)
        | some w7 =>
          rw [Option.isSome_some]
          walk_at "g"
          refine dI_del st hin fun H6 st => ?_
          refine ⟨_, _, rfl, st, ?_⟩
          have e : (rem.filter fun z => decide (z.1 ≠ age)).map (·.1) = (rem.map (·.1)).filter fun k => decide (k ≠ age) := by
            rw [List.filter_map]
            rfl
          rw [e]
          refine (pm.filter _).trans ?_
          rw [List.filter_cons_of_neg (by simp)]
          rw [List.filter_eq_self.mpr]
          intro k hk
          have := (List.nodup_cons.mp ndr).1
          simp only [decide_eq_true_eq]
          rintro rfl
          exact this hk
      · rintro σ H5 ⟨rem, x3, rfl, st, pm⟩
        rw [List.drop_length, List.nil_append] at pm
        exact ⟨_, _, _, _, _, rfl, st, pm⟩
    · rintro σ H3 ⟨rem, x3, x4, x5, x6, rfl, st, pm⟩
      rw [List.drop_length] at pm
      have e : rem = [] := List.map_eq_nil_iff.mp (List.perm_nil.mp pm)
      subst e
      walk_at "g"
      refine g_dnew st fun q H4 st => ?_
      refine g_neD0 st.sw.cellAt st.cellAt ?_
      walk_at "g"
      exact k _ (u1.trans st.gh)
abbrev s_upset : Stmt := topS 14
theorem sc_upset : FnScope ["guests", "arrangement", "bears", "age", "patience", "number", "room", "elders"] ["guests", "arrangement"] (defScope s_upset) := ⟨rfl, rfl, rfl, by decide +kernel, rfl, by decide +kernel, by decide +kernel⟩
def spUpset : Sp := fun vs H Q _ => ∃ (v u : V) (gs : Gs) (arr : List (List Int)), vs = [v, u] ∧ Rep H v gs ∧ Good gs ∧ Rep H u arr ∧ Arr gs arr ∧ ∀ x G' H', Same H G' → Same G' H' → Rep G' x (upset gs arr 0) → Q x H'
theorem ok_upset {f : Addr} {fd : FuncData} (F : Fun K "upset" "upset" s_upset f fd) (B : Bn mg) (Cneed_arrangement : Cal P w K mg base 2 "need_arrangement" spNeedArr) : FnOk P w K mg base CX0 3 f fd ["guests", "arrangement"] spUpset := by
  have sc := sc_upset
  refine F.ok sc (fun vs H Q E h => ?_) (fun cdv A outer s H vs Q E hr h => ?_)
  · obtain ⟨v, u, gs, arr, rfl, _⟩ := h
    rfl
  · obtain ⟨v, u, gs, arr, rfl, hv, hg, hu', ha, k⟩ := h
    have hu := hu_of hr
    have hgl := hg.len
    refine ⟨_, (pss_cons (ps_expr (pe_c Cneed_arrangement hr (by decide) rfl (pa_cons (pv 0) (pa_cons (pv 1) pa_nil))))
  (pss_cons (ps_set (i := 2) sc.nd rfl (.inl rfl) (pe_callTy (cDict rfl) (by rfl) B.dict bt_dict (pa_cons (pe_lc (own := [("age", 3), ("patience", 4)]) (g := (gTup K 2 (gCons (gName 3) (gCons (gName 4) gNil)))) (tt := tYes) (te := (tTup (tCons (tVar 3) (tCons (tVar 4) tNil)))) rfl sc.nd (pi_list (pv 0)) (blkOk_by (own := [("age", 3), ("patience", 4)]) (N := ["guests", "arrangement", "bears", "age", "patience", "number", "room", "elders"]) (sc := defScope s_upset) (by decide +kernel)) (fun _ _ _ _ _ => (pg_tup rfl (pgs_cons (pg_name (i := 3) sc.nd rfl (by first | exact .inl rfl | exact .inr rfl)) (pgs_cons (pg_name (i := 4) sc.nd rfl (by first | exact .inl rfl | exact .inr rfl)) pgs_nil)))) (fun _ _ _ _ _ => pts_nil) (fun _ _ _ _ _ => (pe_tup (pa_cons (pv 3) (pa_cons (pv 4) pa_nil))))) pa_nil)))
  (pss_cons (ps_for PassesOwn.never rfl (pi_enum (by rfl) B.enumerate (pa_cons (pv 1) pa_nil)) (pg_tup rfl (pgs_cons (pg_name (i := 5) sc.nd rfl (.inl rfl)) (pgs_cons (pg_name (i := 6) sc.nd rfl (.inl rfl)) pgs_nil)))
  (pss_one (ps_for PassesOwn.never rfl (pi_enum (by rfl) B.enumerate (pa_cons (pe_callBK cSortedRev (by rfl) B.sorted bt_sorted (pa_cons (pv 6) pa_nil) (pk_cons pe_bl pk_nil)) pa_nil)) (pg_tup rfl (pgs_cons (pg_name (i := 7) sc.nd rfl (.inl rfl)) (pgs_cons (pg_name (i := 3) sc.nd rfl (.inl rfl)) pgs_nil)))
  (pss_one (ps_if (pt_cmpR op_gt (pv 7) (pe_dget hu (pv 2) (pv 3) (fun _ _ => rfl)) (nomark _)) (pss_one (ps_ret (pe_tup (pa_cons (pv 5) (pa_cons (pv 3) pa_nil))))) pss_nil)))))
  (pss_one (ps_ret pe_non))))), ?_⟩
    try dsimp only [cxOf, Cx.nox, Cx.wish]
    walk_at "g"
    refine ⟨v, u, gs, arr, rfl, hv, hg, hu', ha, fun H1 e1 => ?_⟩
    have st := (Sep.all H).keep e1
    walk_at "g"
    refine lcL (B := Int × Int) hv st (fun t acc Lc => acc = gs.take t ∧ Lc = []) ⟨rfl, rfl⟩ ?_ ?_
    · rintro t v2 x D acc G' H' Lc hx rx ⟨rfl, rfl⟩ u st
      refine g_tgII rx st.gh rfl ?_
      walk_at "g"
      refine ⟨by show 2 ≤ sizeLine; decide, fun q hq => ?_⟩
      obtain ⟨G2, u2, st, r2⟩ := st.tupNew hq (rep_int (n := x.1)) (rep_int (n := x.2))
      refine put_of (u.trans u2) st (by rw [List.length_take]; omega) r2 ⟨?_, rfl⟩
      rw [take_more hx]
    rintro D acc G1 H2 Lc ⟨rfl, rfl⟩ u1 st
    rw [List.take_length] at st
    obtain ⟨G2, u2, st, r2⟩ := st.ownFrz
    walk_at "g"
    refine g_dictP st r2 hg.nd fun pd H3 st => ?_
    have hu' := hu'.up (u1.trans u2)
    walk_at "g"
    refine loopE hu' st.gh rfl (fun i σ H' => ∃ x3 x4 x5 x6 x7 G', σ = [some v, some u, some (.ref pd), x3, x4, x5, x6, x7] ∧ Same G2 G' ∧ Sep G' H' [cell pd (.dK (kvI (intD gs)))] ∧ upset gs arr 0 = upset gs (arr.drop i) i) ⟨_, _, _, _, _, G2, rfl, Same.refl _, st, rfl⟩ (fun i σ H' _ ⟨_, _, _, _, _, G', _, u, st, _⟩ => u.trans st.gh) ?_ ?_
    · rintro i v2 room σ H4 H5 hi rx ⟨x3, x4, x5, x6, x7, G3, rfl, u3, st, hup⟩ e5
      have st := st.keep e5
      rw [upset_step hi] at hup
      walk_at "g"
      refine g_srtIR st (rx.up u3) fun p6 H6 st => ?_
      obtain ⟨G4, u4, st, r4⟩ := st.ownFrz
      walk_at "g"
      refine loopE r4 st.gh rfl (fun j σ H' => ∃ x3 x7, σ = [some v, some u, some (.ref pd), x3, x4, some (.int i), some v2, x7] ∧ Sep G4 H' [cell pd (.dK (kvI (intD gs)))] ∧ up1 (bearsOf gs) (dnI room) 0 = up1 (bearsOf gs) ((dnI room).drop j) j) ⟨_, _, rfl, st, rfl⟩ (fun j σ H' _ ⟨_, _, _, st, _⟩ => st.gh) ?_ ?_
      · rintro j v7 age σ H7 H8 hj rage ⟨x3, x7, rfl, st, hu1⟩ e8
        have st := st.keep e8
        obtain rfl := rage.int
        rw [up1_step hj] at hu1
        have hmem : age ∈ gs.map (·.1) := by
          refine ha.pm.mem_iff.mp (List.mem_flatten.mpr ⟨room, List.mem_of_getElem? hi, ?_⟩)
          exact (dnI_perm room).mem_iff.mp (List.mem_of_getElem? hj)
        walk_at "g"
        refine dI_at st.cellAt (by rw [intD_get, lookup_some hmem]; rfl) ?_
        walk_at "g"
        refine g_ite (fun c => ?_) (fun c => ?_)
        · rw [if_pos c] at hu1
          rw [hu1] at hup
          walk_at "g"
          refine ⟨by show 2 ≤ sizeLine; decide, fun q9 hq9 => ?_⟩
          obtain ⟨G9, u9, st, r9⟩ := st.tupNew hq9 (rep_int (n := (i : Int))) (rep_int (n := age))
          refine k _ G9 _ (((u1.trans u2).trans (u3.trans u4)).trans u9) st.gh ?_
          rw [hup]
          exact rep_some r9
        · rw [if_neg c] at hu1
          walk_at "g"
          exact ⟨_, _, rfl, st, hu1⟩
      · rintro σ H7 ⟨x3, x7, rfl, st, hu1⟩
        rw [List.drop_length] at hu1
        have hu1 : up1 (bearsOf gs) (dnI room) 0 = none := hu1
        rw [hu1] at hup
        exact ⟨_, _, _, _, _, G4, rfl, u3.trans u4, st, hup⟩
    · rintro σ H4 ⟨x3, x4, x5, x6, x7, G3, rfl, u3, st, hup⟩
      rw [List.drop_length] at hup
      have hup : upset gs arr 0 = none := hup
      walk_at "g"
      refine k _ G3 _ ((u1.trans u2).trans u3) st.gh ?_
      rw [hup]
      exact rep_none
end
end El

namespace El
open PySem L2 EB
/-! ### rooms by age are in peace; their first rooms are those of who is in them -/
/-- going to one of the first j rooms, or behind them -/
theorem putR_take (g : Int × Int) : ∀ (ss : List (List Int)) (j : Nat), (spot ss g.2 < j → putR (ss.take j) g = (putR ss g).take j) ∧ (¬ spot ss g.2 < j → (putR ss g).take j = ss.take j)
  | ss, 0 => ⟨fun h => absurd h (Nat.not_lt_zero _), fun _ => rfl⟩
  | [], j + 1 => ⟨fun _ => by rw [putR_nil, List.take_nil, putR_nil]; simp, fun h => absurd (by simp [spot]) h⟩
  | r :: ss, j + 1 => by
    obtain ⟨h1, h2⟩ := putR_take g ss j
    rw [spot_cons, putR_cons, List.take_succ_cons, putR_cons]
    cases c : fit g.2 r with
    | true => simp
    | false =>
      simp only [Bool.false_eq_true, if_false, Nat.add_lt_add_iff_right, List.take_succ_cons, List.cons.injEq, true_and]
      exact ⟨h1, h2⟩
theorem putR_in (g : Int × Int) : ∀ (ss : List (List Int)), ∃ r, (putR ss g)[spot ss g.2]? = some r ∧ g.1 ∈ r
  | [] => ⟨[g.1], by rw [putR_nil]; rfl, by simp⟩
  | r :: ss => by
    obtain ⟨x, h1, h2⟩ := putR_in g ss
    rw [putR_cons, spot_cons]
    cases c : fit g.2 r with
    | true => exact ⟨r ++ [g.1], rfl, by simp⟩
    | false => exact ⟨x, by simpa using h1, h2⟩
theorem putR_grow (g : Int × Int) : ∀ (ss : List (List Int)) (i : Nat) (r : List Int), ss[i]? = some r → ∃ t, (putR ss g)[i]? = some (r ++ t)
  | [], _, _, h => by simp at h
  | x :: ss, 0, r, h => by
    have e : x = r := Option.some.inj h
    subst e
    rw [putR_cons]
    split
    · exact ⟨[g.1], rfl⟩
    · exact ⟨[], by simp⟩
  | x :: ss, i + 1, r, h => by
    obtain ⟨t, ht⟩ := putR_grow g ss i r h
    rw [putR_cons]
    split
    · exact ⟨[], by simpa using h⟩
    · exact ⟨t, by simpa using ht⟩
theorem fold_grow : ∀ (l : Gs) (ss : List (List Int)) (i : Nat) (r : List Int), ss[i]? = some r → ∃ t, (l.foldl putR ss)[i]? = some (r ++ t)
  | [], _, _, r, h => ⟨[], by rw [List.append_nil]; exact h⟩
  | g :: l, ss, i, r, h => by
    obtain ⟨t, ht⟩ := putR_grow g ss i r h
    obtain ⟨t2, h2⟩ := fold_grow l (putR ss g) i _ ht
    exact ⟨t ++ t2, by rw [← List.append_assoc]; exact h2⟩
theorem fold_keep (j : Nat) : ∀ (l : Gs) (ss : List (List Int)), (l.foldl putR ss).flatten.Nodup → (l.filter fun g => decide (g.1 ∉ ((l.foldl putR ss).drop j).flatten)).foldl putR (ss.take j) = (l.foldl putR ss).take j
  | [], _, _ => rfl
  | g :: l, ss, nd => by
    have ih := fold_keep j l (putR ss g) nd
    obtain ⟨r, hr, hg⟩ := putR_in g ss
    obtain ⟨t, ht⟩ := fold_grow l (putR ss g) _ r hr
    have hgt : g.1 ∈ r ++ t := List.mem_append_left _ hg
    have nd2 := nd
    simp only [List.foldl_cons]
    have nd3 : (l.foldl putR (putR ss g)).flatten.Nodup := nd
    rw [flat_split _ j, List.nodup_append] at nd3
    by_cases c : spot ss g.2 < j
    · have h1 : g.1 ∉ ((l.foldl putR (putR ss g)).drop j).flatten := fun hm => nd3.2.2 _ (mem_take_flat ht hgt c) _ hm rfl
      rw [List.filter_cons_of_pos (by simpa using h1), List.foldl_cons, (putR_take g ss j).1 c]
      exact ih
    · have h1 : g.1 ∈ ((l.foldl putR (putR ss g)).drop j).flatten := mem_drop_flat ht hgt (by omega)
      rw [List.filter_cons_of_neg (by simpa using h1), ← (putR_take g ss j).2 c]
      exact ih
theorem dnP_filter (p : Int × Int → Bool) (gs : Gs) : dnP (gs.filter p) = (dnP gs).filter p := (dnP_uniq ((dnP_perm gs).filter p) ((dnP_pw gs).sublist List.filter_sublist)).symm
theorem byAge_keep {gs : Gs} (nd : (gs.map (·.1)).Nodup) (j : Nat) : byAge (gs.filter fun g => decide (g.1 ∉ ((byAge gs).drop j).flatten)) = (byAge gs).take j := by
  have := fold_keep j (dnP gs) [] ((byAge_flat gs).nodup_iff.mpr nd)
  rw [List.take_nil] at this
  unfold byAge
  rw [dnP_filter]
  exact this
/-! peace -/
structure Peace (b : Int → Int) (r : List Int) : Prop where
  dn : r.Pairwise (· > ·)
  ok : ∀ (k : Nat) (a : Int), r[k]? = some a → (k : Int) ≤ b a
theorem putR_mem (g : Int × Int) : ∀ (ss : List (List Int)) (x : List Int), x ∈ putR ss g → x ∈ ss ∨ ∃ r, (r ∈ ss ∨ r = []) ∧ x = r ++ [g.1] ∧ ((r.length : Int) ≤ g.2 ∨ r = [])
  | [], x, h => by
    rw [putR_nil] at h
    exact .inr ⟨[], .inr rfl, List.mem_singleton.mp h, .inr rfl⟩
  | r :: ss, x, h => by
    rw [putR_cons] at h
    split at h
    · rename_i c
      rcases List.mem_cons.mp h with rfl | h
      · exact .inr ⟨r, .inl (List.mem_cons_self ..), rfl, .inl (by simpa [fit] using c)⟩
      · exact .inl (List.mem_cons_of_mem _ h)
    · rcases List.mem_cons.mp h with rfl | h
      · exact .inl (List.mem_cons_self ..)
      · rcases putR_mem g ss x h with h | ⟨y, h1, h2⟩
        · exact .inl (List.mem_cons_of_mem _ h)
        · exact .inr ⟨y, h1.imp (List.mem_cons_of_mem _) id, h2⟩
theorem fold_peace (b : Int → Int) : ∀ (l : Gs) (ss : List (List Int)), l.Pairwise (fun x y => y.1 < x.1) → (∀ g ∈ l, b g.1 = g.2 ∧ 0 ≤ g.2) → (∀ r ∈ ss, Peace b r) → (∀ r ∈ ss, ∀ a ∈ r, ∀ g ∈ l, g.1 < a) → ∀ r ∈ l.foldl putR ss, Peace b r
  | [], _, _, _, h, _ => h
  | g :: l, ss, hp, hb, h, ha => by
    obtain ⟨hp1, hp2⟩ := List.pairwise_cons.mp hp
    obtain ⟨b1, b2⟩ := hb g (List.mem_cons_self ..)
    refine fold_peace b l (putR ss g) hp2 (fun x hx => hb x (List.mem_cons_of_mem _ hx)) (fun r hr => ?_) (fun r hr a har x hx => ?_)
    · rcases putR_mem g ss r hr with hr | ⟨y, h1, rfl, h3⟩
      · exact h r hr
      · have py : Peace b y := h1.elim (h y) fun e => by
          subst e
          exact ⟨List.Pairwise.nil, fun k a h => by simp at h⟩
        refine ⟨?_, fun k a hk => ?_⟩
        · rw [List.pairwise_append]
          refine ⟨py.dn, List.pairwise_singleton _ _, fun a hay c hc => ?_⟩
          rw [List.mem_singleton.mp hc]
          rcases h1 with h1 | rfl
          · exact ha y h1 a hay g (List.mem_cons_self ..)
          · cases hay
        · rcases Nat.lt_or_ge k y.length with c | c
          · rw [List.getElem?_append_left c] at hk
            exact py.ok k a hk
          · rw [List.getElem?_append_right c] at hk
            have e : k - y.length = 0 := by
              have := (List.getElem?_eq_some_iff.mp hk).1
              simpa using this
            rw [e] at hk
            have e2 : g.1 = a := Option.some.inj hk
            rw [← e2, b1]
            rcases h3 with h3 | rfl
            · omega
            · simp only [List.length_nil] at c e
              omega
    · rcases putR_mem g ss r hr with hr | ⟨y, h1, rfl, h3⟩
      · exact ha r hr a har x (List.mem_cons_of_mem _ hx)
      · rcases List.mem_append.mp har with har | har
        · rcases h1 with h1 | rfl
          · exact ha y h1 a har x (List.mem_cons_of_mem _ hx)
          · cases har
        · rw [List.mem_singleton.mp har]
          exact hp1 x hx
theorem byAge_peace {gs : Gs} (h : Good gs) : ∀ r ∈ byAge gs, Peace (bearsOf gs) r :=
  fold_peace (bearsOf gs) (dnP gs) [] (dnP_strict h.nd) (fun g hg => by
    have hg := (dnP_perm gs).mem_iff.mp hg
    exact ⟨bears_at h.nd g hg, h.pos g hg⟩) (by simp) (by simp)
theorem up1_none {b : Int → Int} : ∀ {l : List Int} {n : Nat}, (∀ (k : Nat) (a : Int), l[k]? = some a → ((n + k : Nat) : Int) ≤ b a) → up1 b l n = none
  | [], _, _ => rfl
  | a :: l, n, h => by
    unfold up1
    have h0 := h 0 a rfl
    rw [if_neg (by simp at h0; omega)]
    exact up1_none fun k c hk => by
      have := h (k + 1) c (by simpa using hk)
      rw [show n + 1 + k = n + (k + 1) by omega]
      exact this
theorem upset_none {gs : Gs} : ∀ {arr : List (List Int)} {n : Nat}, (∀ r ∈ arr, up1 (bearsOf gs) (dnI r) 0 = none) → upset gs arr n = none
  | [], _, _ => rfl
  | r :: arr, n, h => by
    unfold upset
    rw [h r (List.mem_cons_self ..)]
    exact upset_none fun x hx => h x (List.mem_cons_of_mem _ hx)
theorem Peace.up {b : Int → Int} {r : List Int} (h : Peace b r) : up1 b (dnI r) 0 = none := by
  have e : dnI r = r := (dnI_uniq (.refl _) (h.dn.imp fun h => Int.le_of_lt h)).symm
  rw [e]
  exact up1_none fun k a hk => by
    rw [Nat.zero_add]
    exact h.ok k a hk
theorem byAge_upset {gs : Gs} (h : Good gs) : upset gs (byAge gs) 0 = none := upset_none fun r hr => (byAge_peace h r hr).up
theorem byAge_arr {gs : Gs} (h : Good gs) : Arr gs (byAge gs) := ⟨byAge_flat gs, Nat.le_trans (byAge_len gs) h.len⟩
end El

namespace El
open PySem L2 EB
section
variable {P : Program} {w : World} {K : PySem.W.Frag} {mg : Str → Option Value} {base : Heap}
abbrev s__law_shuffled : Stmt := topS 18
theorem sc__law_shuffled : FnScope ["tray", "things", "left", "k"] ["tray", "things"] (defScope s__law_shuffled) := ⟨rfl, rfl, rfl, by decide +kernel, rfl, by decide +kernel, by decide +kernel⟩
def spShuffled (A : Type) [Rp A] : Sp := fun vs H Q _ => ∃ (p : Addr) (v : V) (xs : List A) (n : Nat) (G : Hp) (L : List Res), vs = [.ref p, v] ∧ Sep G H (TrayR p n :: L) ∧ Rep G v xs ∧ xs.length ≤ 1000 ∧ n + 2000 < 2 ^ 60 ∧
  ∀ D (ys : List A) G' H', Same G G' → ys.Perm xs → Sep G' H' (TrayR p (n + 1000) :: OwnL D ys :: L) → Q (.ref D) H'
theorem ok_shuffled {A : Type} [Rp A] {f : Addr} {fd : FuncData} (F : Fun K "_law_shuffled" "_law_shuffled" s__law_shuffled f fd) (B : Bn mg) (C_law_draw : Cal P w K mg base 1 "_law_draw" spDraw) : FnOk P w K mg base CX0 2 f fd ["tray", "things"] (spShuffled A) := by
  have sc := sc__law_shuffled
  refine F.ok sc (fun vs H Q E h => ?_) (fun cdv A outer s H vs Q E hr h => ?_)
  · obtain ⟨p, v, xs, n, G, L, rfl, _⟩ := h
    rfl
  · obtain ⟨p, v, xs, n, G, L, rfl, st, r, hl, hn, k⟩ := h
    have hu := hu_of hr
    refine ⟨_, (pss_cons (ps_set (i := 2) sc.nd rfl (.inr rfl) (pe_callTy cList (by rfl) B.list bt_list (pa_cons (pv 1) pa_nil)))
  (pss_one (ps_ret (pe_lc (own := [("k", 3)]) (g := (gName 3)) (tt := tYes) (te := (tBM K "list" _ (tVar 2) (tCons (tCall _ _ _ (tCons (tVar 0) (tCons (tCB (EB.rLen K) (tCons (tVar 2) tNil)) tNil))) tNil))) rfl sc.nd (pi_range1 (by rfl) B.range (pa_cons (pe_callB cLen (by rfl) B.len bt_len (pa_cons (pv 2) pa_nil)) pa_nil)) (blkOk_by (own := [("k", 3)]) (N := ["tray", "things", "left", "k"]) (sc := defScope s__law_shuffled) (by decide +kernel)) (fun _ _ _ _ _ => (pg_name (i := 3) sc.nd rfl (by first | exact .inl rfl | exact .inr rfl))) (fun _ _ _ _ _ => pts_nil) (fun _ _ _ _ _ => (pe_bm PySem.F.plainAttrs_list PySem.F.slot_list_pop PySem.F.type_list_pop mt_popAt (pv 2) (pa_cons (pe_c C_law_draw hr (by decide) rfl (pa_cons (pv 0) (pa_cons (pe_callB cLen (by rfl) B.len bt_len (pa_cons (pv 2) pa_nil)) pa_nil))) pa_nil))))))), ?_⟩
    try dsimp only [cxOf, Cx.nox, Cx.wish]
    walk_at "g"
    refine g_list st r fun lf H1 st => ?_
    walk_at "g"
    refine g_lenL st.ownRep (Same.refl _) ?_
    walk_at "g"
    refine lcR1 (B := _) (by omega) (by omega) st.sw (fun t acc Lc => ∃ rest, Lc = TrayR p (n + t) :: OwnL lf rest :: L ∧ (acc ++ rest).Perm xs ∧ acc.length = t) ⟨xs, rfl, .refl _, rfl⟩ ?_ ?_
    · rintro t D acc G' H' Lc ht ⟨rest, rfl, pm, hal⟩ u st
      rw [Int.toNat_natCast] at ht
      have hrl : rest.length = xs.length - t := by
        have := pm.length_eq
        rw [List.length_append] at this
        omega
      walk_at "g"
      refine g_tyO st.r3 ?_
      walk_at "g"
      refine g_lenL st.r3.ownRep (Same.refl _) ?_
      walk_at "g"
      refine draw_use st.sw (by omega) (by omega) (by omega) fun d H2 a1 b1 st => ?_
      obtain ⟨x, hx, hxm⟩ := pick (xs := rest) a1 b1
      refine g_popAt st.r3 a1 (by omega) hx fun w2 H3 r2 st => ?_
      refine put_of u st.l3.sw (by omega) r2 ⟨rest.eraseIdx d.toNat, rfl, ?_, by rw [List.length_append, List.length_singleton, hal]⟩
      have := perm_at hx
      refine List.Perm.trans ?_ pm
      rw [List.append_assoc, List.singleton_append]
      exact this.symm.append_left acc
    · rintro D acc G' H' Lc ⟨rest, rfl, pm, hal⟩ u st
      rw [Int.toNat_natCast] at hal st
      have : rest = [] := by
        have := pm.length_eq
        rw [List.length_append] at this
        exact List.length_eq_zero_iff.mp (by omega)
      subst this
      rw [List.append_nil] at pm
      exact k D acc G' H' u pm (TrayR.le st.r3.drop.sw (by omega))
abbrev s__law_ages : Stmt := topS 19
theorem sc__law_ages : FnScope ["tray", "many", "here", "far", "found", "k"] ["tray", "many"] (defScope s__law_ages) := ⟨rfl, rfl, rfl, by decide +kernel, rfl, by decide +kernel, by decide +kernel⟩
def spAges : Sp := fun vs H Q _ => ∃ (p : Addr) (m : Int) (n : Nat) (G : Hp) (L : List Res), vs = [.ref p, .int m] ∧ Sep G H (TrayR p n :: L) ∧ 0 ≤ m ∧ m ≤ 100 ∧ n + 3000 < 2 ^ 60 ∧
  ∀ D (ys : List Int) G' H', Same G G' → ys.Nodup → (ys.length : Int) = m → (∀ y ∈ ys, -10 ^ 30 < y ∧ y < 10 ^ 30) → Sep G' H' (TrayR p (n + 1200) :: OwnL D ys :: L) → Q (.ref D) H'
theorem ok__law_ages {f : Addr} {fd : FuncData} (F : Fun K "_law_ages" "_law_ages" s__law_ages f fd) (B : Bn mg) (C_law_draw : Cal P w K mg base 1 "_law_draw" spDraw) (C_law_shuffled : Cal P w K mg base 2 "_law_shuffled" (spShuffled Int)) : FnOk P w K mg base CX0 3 f fd ["tray", "many"] spAges := by
  have sc := sc__law_ages
  refine F.ok sc (fun vs H Q E h => ?_) (fun cdv A outer s H vs Q E hr h => ?_)
  · obtain ⟨p, m, n, G, L, rfl, _⟩ := h
    rfl
  · obtain ⟨p, m, n, G, L, rfl, st, m0, m1, hn, k⟩ := h
    have hu := hu_of hr
    refine ⟨_, (pss_cons (ps_set (i := 2) sc.nd rfl (.inl rfl) (pe_ix ix_seq (pe_lst (pa_cons (pe_op opSub (pe_c C_law_draw hr (by decide) rfl (pa_cons (pv 0) (pa_cons pe_int pa_nil))) pe_int) (pa_cons (pe_op opSub (pe_c C_law_draw hr (by decide) rfl (pa_cons (pv 0) (pa_cons (kPow (n := 100000000000000000000000000000) (by rfl) (by decide) (by decide) pe_int pe_int) pa_nil))) (kMul (n := 50000000000000000000000000000) (by rfl) (by decide) (by decide) pe_int (kPow (n := 10000000000000000000000000000) (by rfl) (by decide) (by decide) pe_int pe_int))) pa_nil))) (pe_c C_law_draw hr (by decide) rfl (pa_cons (pv 0) (pa_cons pe_int pa_nil))) (fun _ _ => rfl)))
  (pss_cons (ps_set (i := 3) sc.nd rfl (.inl rfl) (pe_ix ix_seq (pe_lst (pa_cons pe_int (pa_cons pe_int (pa_cons (kPow (n := 1000000000000000000000000000) (by rfl) (by decide) (by decide) pe_int pe_int) pa_nil)))) (pe_c C_law_draw hr (by decide) rfl (pa_cons (pv 0) (pa_cons pe_int pa_nil))) (fun _ _ => rfl)))
  (pss_cons (ps_set (i := 4) sc.nd rfl (.inl rfl) (pe_lst pa_nil))
  (pss_cons (ps_for PassesOwn.never rfl (pi_range1 (by rfl) B.range (pa_cons (pv 1) pa_nil)) (pg_name (i := 5) sc.nd rfl (.inl rfl))
  (pss_cons (ps_set (i := 2) sc.nd rfl (.inl rfl) (pe_op opAdd (pe_op opAdd (pv 2) pe_int) (pe_c C_law_draw hr (by decide) rfl (pa_cons (pv 0) (pa_cons (pv 3) pa_nil)))))
  (pss_one (ps_expr (pe_bm PySem.F.plainAttrs_list PySem.F.slot_list_append PySem.F.type_list_append mt_append (pv 4) (pa_cons (pv 2) pa_nil))))))
  (pss_one (ps_ret (pe_c C_law_shuffled hr (by decide) rfl (pa_cons (pv 0) (pa_cons (pv 4) pa_nil))))))))), ?_⟩
    try dsimp only [cxOf, Cx.nox, Cx.wish]
    walk_at "g"
    refine draw_use st (by omega) (by omega) (by omega) fun d1 H1 a1 b1 st => ?_
    walk_at "g"
    refine draw_use st (by omega) (by omega) (by omega) fun d2 H2 a2 b2 st => ?_
    walk_at "g"
    refine ⟨by show 2 ≤ sizeLine; decide, fun q hq => ?_⟩
    obtain ⟨G1, u1, st, hq1⟩ := st.raw hq
    walk_at "g"
    refine draw_use st (by omega) (by omega) (by omega) fun d3 H3 a3 b3 st => ?_
    refine g_ixLI (ns := [d1 - 15, d2 - 50000000000000000000000000000]) hq1 rfl (by walk_at "sm") a3 b3 fun here hh _ => ?_
    have hh0 : -10 ^ 29 ≤ here ∧ here ≤ 10 ^ 29 := by
      simp only [List.mem_cons, List.not_mem_nil, or_false] at hh
      omega
    walk_at "g"
    refine ⟨by show 3 ≤ sizeLine; decide, fun q2 hq2 => ?_⟩
    obtain ⟨G2, u2, st, hq3⟩ := st.raw hq2
    walk_at "g"
    refine draw_use st (by omega) (by omega) (by omega) fun d4 H4 a4 b4 st => ?_
    refine g_ixLI (ns := [1, 9, 1000000000000000000000000000]) hq3 rfl (by walk_at "sm") a4 b4 fun far hf _ => ?_
    have hf0 : 1 ≤ far ∧ far ≤ 10 ^ 27 := by
      simp only [List.mem_cons, List.not_mem_nil, or_false] at hf
      omega
    walk_at "g"
    refine ⟨Nat.zero_le _, fun fo hfo => ?_⟩
    have st := st.ownNew (vs := []) (xs := ([] : List Int)) hfo trivial
    walk_at "g"
    refine loopR1 (by omega) (by omega) (fun i σ H' => ∃ (y : Int) (ys : List Int) (c : Option V), σ = [some (.ref p), some (.int m), some (.int y), some (.int far), some (.ref fo), c] ∧ Sep G2 H' (TrayR p (n + 4 + i) :: OwnL fo ys :: L) ∧ ys.Nodup ∧ ys.length = i ∧ (∀ z ∈ ys, z ≤ y ∧ -10 ^ 29 ≤ z) ∧ -10 ^ 29 ≤ y ∧ y ≤ 10 ^ 29 + i * (10 ^ 27 + 1))
      ⟨_, [], _, rfl, st.sw, by simp, rfl, by simp, by omega, by omega⟩ ?_ ?_
    · rintro i σ H5 hi ⟨y, ys, c, rfl, st, nd, hl, hy, y0, y1⟩
      walk_at "g"
      refine draw_use st (by omega) (by omega) (by omega) fun d5 H6 a5 b5 st => ?_
      walk_at "g"
      refine g_tyO st.sw ?_
      walk_at "g"
      refine g_append st.sw rep_int (by omega) fun H7 st => ?_
      refine ⟨_, _, _, rfl, st.sw, ?_, by rw [List.length_append, List.length_singleton, hl], ?_, by omega, ?_⟩
      · rw [List.nodup_append]
        refine ⟨nd, by simp, fun a ha b hb => ?_⟩
        rw [List.mem_singleton.mp hb]
        have := hy a ha
        omega
      · intro z hz
        rcases List.mem_append.mp hz with hz | hz
        · have := hy z hz
          omega
        · rw [List.mem_singleton.mp hz]
          omega
      · have e : ((i + 1 : Nat) : Int) * (10 ^ 27 + 1) = i * (10 ^ 27 + 1) + (10 ^ 27 + 1) := by omega
        omega
    · rintro σ H5 ⟨y, ys, c, rfl, st, nd, hl, hy, y0, y1⟩
      walk_at "g"
      obtain ⟨G3, u3, st, r3⟩ := st.sw.ownFrz
      refine ⟨p, _, ys, _, G3, L, rfl, st, r3, by omega, by omega, fun D zs G4 H6 u4 pm st => ?_⟩
      refine k D zs G4 H6 ((u1.trans u2).trans (u3.trans u4)) (pm.nodup_iff.mpr nd) (by rw [pm.length_eq]; omega) (fun z hz => ?_) (TrayR.le st (by omega))
      have := hy z (pm.mem_iff.mp hz)
      omega
abbrev s__law_patience : Stmt := topS 20
theorem sc__law_patience : FnScope ["tray", "lot", "many", "some"] ["tray", "lot", "many"] (defScope s__law_patience) := ⟨rfl, rfl, rfl, by decide +kernel, rfl, by decide +kernel, by decide +kernel⟩
def spPatience : Sp := fun vs H Q _ => ∃ (p : Addr) (lot m : Int) (n : Nat) (G : Hp) (L : List Res), vs = [.ref p, .int lot, .int m] ∧ Sep G H (TrayR p n :: L) ∧ 0 ≤ lot ∧ lot ≤ 100 ∧ 0 ≤ m ∧ m ≤ 100 ∧ n + 20 < 2 ^ 60 ∧
  ∀ b G' H', 0 ≤ b → b < 10 ^ 30 → Same G G' → Sep G' H' (TrayR p (n + 10) :: L) → Q (.int b) H'
theorem ok__law_patience {f : Addr} {fd : FuncData} (F : Fun K "_law_patience" "_law_patience" s__law_patience f fd) (B : Bn mg) (C_law_draw : Cal P w K mg base 1 "_law_draw" spDraw) : FnOk P w K mg base CX0 2 f fd ["tray", "lot", "many"] spPatience := by
  have sc := sc__law_patience
  refine F.ok sc (fun vs H Q E h => ?_) (fun cdv A outer s H vs Q E hr h => ?_)
  · obtain ⟨p, lot, m, n, G, L, rfl, _⟩ := h
    rfl
  · obtain ⟨p, lot, m, n, G, L, rfl, st, l0, l1, m0, m1, hn, k⟩ := h
    have hu := hu_of hr
    refine ⟨_, (pss_cons (ps_set (i := 3) sc.nd rfl (.inl rfl) (pe_lst (pa_cons pe_int (pa_cons (pe_c C_law_draw hr (by decide) rfl (pa_cons (pv 0) (pa_cons pe_int pa_nil))) (pa_cons (pe_c C_law_draw hr (by decide) rfl (pa_cons (pv 0) (pa_cons pe_int pa_nil))) (pa_cons (pe_c C_law_draw hr (by decide) rfl (pa_cons (pv 0) (pa_cons (pe_op opAdd (pv 2) pe_int) pa_nil))) (pa_cons (pe_op opSub (kSub (n := 999999999999999999999999999999) (by rfl) (by decide) (by decide) (kPow (n := 1000000000000000000000000000000) (by rfl) (by decide) (by decide) pe_int pe_int) pe_int) (pe_c C_law_draw hr (by decide) rfl (pa_cons (pv 0) (pa_cons pe_int pa_nil)))) pa_nil)))))))
  (pss_one (ps_ret (pe_ix ix_seq (pv 3) (pe_ifExp (pt_cmpR op_lt (pv 1) pe_int (nomark _)) (pv 1) (pe_ix ix_seq (pe_lst (pa_cons pe_int (pa_cons pe_int (pa_cons pe_int (pa_cons pe_int (pa_cons pe_int (pa_cons pe_int pa_nil))))))) (pe_c C_law_draw hr (by decide) rfl (pa_cons (pv 0) (pa_cons pe_int pa_nil))) (fun _ _ => rfl))) (fun _ _ => rfl))))), ?_⟩
    try dsimp only [cxOf, Cx.nox, Cx.wish]
    walk_at "g"
    refine draw_use st (by omega) (by omega) (by omega) fun d1 H1 a1 b1 st => ?_
    walk_at "g"
    refine draw_use st (by omega) (by omega) (by omega) fun d2 H2 a2 b2 st => ?_
    walk_at "g"
    refine draw_use st (by omega) (by omega) (by omega) fun d3 H3 a3 b3 st => ?_
    walk_at "g"
    refine draw_use st (by omega) (by omega) (by omega) fun d4 H4 a4 b4 st => ?_
    walk_at "g"
    refine ⟨by show 5 ≤ sizeLine; decide, fun q hq => ?_⟩
    obtain ⟨G1, u1, st, hq1⟩ := st.raw hq
    walk_at "g"
    refine g_ite (fun c => ?_) (fun c => ?_)
    · walk_at "g"
      refine g_ixLI (ns := [0, d1, d2, d3, 999999999999999999999999999999 - d4]) hq1 rfl st.gh l0 (by show lot < 5; omega) fun b hb _ => ?_
      simp only [List.mem_cons, List.not_mem_nil, or_false] at hb
      exact k b G1 _ (by omega) (by omega) u1 (TrayR.le st (by omega))
    · walk_at "g"
      refine ⟨by show 6 ≤ sizeLine; decide, fun q2 hq2 => ?_⟩
      obtain ⟨G2, u2, st, hq3⟩ := st.raw hq2
      walk_at "g"
      refine draw_use st (by omega) (by omega) (by omega) fun d5 H5 a5 b5 st => ?_
      refine g_ixLI (ns := [1, 1, 2, 3, 4, 0]) hq3 rfl st.gh a5 b5 fun j hj _ => ?_
      have hj0 : 0 ≤ j ∧ j < 5 := by
        simp only [List.mem_cons, List.not_mem_nil, or_false] at hj
        omega
      refine g_ixLI (ns := [0, d1, d2, d3, 999999999999999999999999999999 - d4]) hq1 rfl (u2.trans st.gh) hj0.1 (by show j < 5; omega) fun b hb _ => ?_
      simp only [List.mem_cons, List.not_mem_nil, or_false] at hb
      exact k b G2 _ (by omega) (by omega) (u1.trans u2) (TrayR.le st (by omega))
abbrev s__law_guests : Stmt := topS 21
theorem sc__law_guests : FnScope ["tray", "most", "many", "lot", "age"] ["tray", "most"] (defScope s__law_guests) := ⟨rfl, rfl, rfl, by decide +kernel, rfl, by decide +kernel, by decide +kernel⟩
/-- guests as the law draws them -/
structure Folk (gs : Gs) : Prop where
  pos : ∀ g ∈ gs, 0 ≤ g.2 ∧ g.2 < 10 ^ 30
  nd : (gs.map (·.1)).Nodup
  bd : ∀ g ∈ gs, -10 ^ 30 < g.1 ∧ g.1 < 10 ^ 30
theorem Folk.good {gs : Gs} (h : Folk gs) (hl : gs.length ≤ 1000) : Good gs := ⟨fun g hg => (h.pos g hg).1, h.nd, hl⟩
def spGuests : Sp := fun vs H Q _ => ∃ (p : Addr) (most : Int) (n : Nat) (G : Hp) (L : List Res), vs = [.ref p, .int most] ∧ Sep G H (TrayR p n :: L) ∧ 0 ≤ most ∧ most ≤ 90 ∧ n + 10000 < 2 ^ 60 ∧
  ∀ v (gs : Gs) G' H', Same G G' → Sep G' H' (TrayR p (n + 3000) :: L) → Rep G' v gs → Folk gs → (gs.length : Int) ≤ most → Q v H'
theorem ok__law_guests {f : Addr} {fd : FuncData} (F : Fun K "_law_guests" "_law_guests" s__law_guests f fd) (B : Bn mg) (C_law_draw : Cal P w K mg base 1 "_law_draw" spDraw) (C_law_ages : Cal P w K mg base 3 "_law_ages" spAges) (C_law_patience : Cal P w K mg base 2 "_law_patience" spPatience) : FnOk P w K mg base CX0 4 f fd ["tray", "most"] spGuests := by
  have sc := sc__law_guests
  refine F.ok sc (fun vs H Q E h => ?_) (fun cdv A outer s H vs Q E hr h => ?_)
  · obtain ⟨p, m, n, G, L, rfl, _⟩ := h
    rfl
  · obtain ⟨p, m, n, G, L, rfl, st, m0, m1, hn, k⟩ := h
    have hu := hu_of hr
    refine ⟨_, (pss_cons (ps_set (i := 2) sc.nd rfl (.inr rfl) (pe_c C_law_draw hr (by decide) rfl (pa_cons (pv 0) (pa_cons (pe_op opAdd (pv 1) pe_int) pa_nil))))
  (pss_cons (ps_set (i := 3) sc.nd rfl (.inr rfl) (pe_ix ix_seq (pe_lst (pa_cons pe_int (pa_cons pe_int (pa_cons pe_int (pa_cons pe_int (pa_cons pe_int (pa_cons pe_int (pa_cons pe_int (pa_cons pe_int pa_nil))))))))) (pe_c C_law_draw hr (by decide) rfl (pa_cons (pv 0) (pa_cons pe_int pa_nil))) (fun _ _ => rfl)))
  (pss_one (ps_ret (pe_lc (own := [("age", 4)]) (g := (gName 4)) (tt := tYes) (te := (tTup (tCons (tVar 4) (tCons (tCall _ _ _ (tCons (tVar 0) (tCons (tVar 3) (tCons (tVar 2) tNil)))) tNil)))) rfl sc.nd (pi_list (pe_c C_law_ages hr (by decide) rfl (pa_cons (pv 0) (pa_cons (pv 2) pa_nil)))) (blkOk_by (own := [("age", 4)]) (N := ["tray", "most", "many", "lot", "age"]) (sc := defScope s__law_guests) (by decide +kernel)) (fun _ _ _ _ _ => (pg_name (i := 4) sc.nd rfl (by first | exact .inl rfl | exact .inr rfl))) (fun _ _ _ _ _ => pts_nil) (fun _ _ _ _ _ => (pe_tup (pa_cons (pv 4) (pa_cons (pe_c C_law_patience hr (by decide) rfl (pa_cons (pv 0) (pa_cons (pv 3) (pa_cons (pv 2) pa_nil)))) pa_nil))))))))), ?_⟩
    try dsimp only [cxOf, Cx.nox, Cx.wish]
    walk_at "g"
    refine draw_use st (by omega) (by omega) (by omega) fun many H1 a1 b1 st => ?_
    walk_at "g"
    refine ⟨by show 8 ≤ sizeLine; decide, fun q hq => ?_⟩
    obtain ⟨G1, u1, st, hq1⟩ := st.raw hq
    walk_at "g"
    refine draw_use st (by omega) (by omega) (by omega) fun d2 H2 a2 b2 st => ?_
    refine g_ixLI (ns := [0, 1, 2, 3, 4, 5, 5, 5]) hq1 rfl (by walk_at "sm") a2 b2 fun lot hlot _ => ?_
    have hlot0 : 0 ≤ lot ∧ lot ≤ 5 := by
      simp only [List.mem_cons, List.not_mem_nil, or_false] at hlot
      omega
    walk_at "g"
    refine ⟨p, many, _, G1, L, rfl, st, a1, by omega, by omega, fun D ys G2 H3 u2 nd hl hbd st => ?_⟩
    obtain ⟨G3, u3, st, r3⟩ := st.sw.ownFrz
    refine lcL (B := Int × Int) r3 st (fun t acc Lc => Lc = TrayR p (n + 1202 + 10 * t) :: L ∧ acc.map (·.1) = ys.take t ∧ ∀ g ∈ acc, 0 ≤ g.2 ∧ g.2 < 10 ^ 30) ⟨by rw [show n + 1202 + 10 * 0 = n + 1 + 1 + 1200 by omega], rfl, by simp⟩ ?_ ?_
    · rintro t v2 x D2 acc G' H' Lc hx rx ⟨rfl, hac, hbs⟩ u st
      have ht := (List.getElem?_eq_some_iff.mp hx).1
      obtain rfl := rx.int
      walk_at "g"
      refine ⟨p, lot, many, _, G', _, rfl, st.sw, by omega, by omega, by omega, by omega, by omega, fun b G4 H4 b0 b1 u4 st => ?_⟩
      walk_at "g"
      refine ⟨by show 2 ≤ sizeLine; decide, fun q hq => ?_⟩
      obtain ⟨G5, u5, st, r5⟩ := st.tupNew hq (rep_int (n := x)) (rep_int (n := b))
      refine put_of ((u.trans u4).trans u5) st.sw ?_ r5 ⟨by rw [show n + 1202 + 10 * t + 10 = n + 1202 + 10 * (t + 1) by omega], ?_, ?_⟩
      · have := congrArg List.length hac
        rw [List.length_map, List.length_take] at this
        omega
      · rw [List.map_append, hac, take_more hx]
        rfl
      · intro g hg
        rcases List.mem_append.mp hg with hg | hg
        · exact hbs g hg
        · rw [List.mem_singleton.mp hg]
          exact ⟨b0, b1⟩
    rintro D2 acc G4 H4 Lc ⟨rfl, hac, hbs⟩ u4 st
    rw [List.take_length] at hac
    obtain ⟨G5, u5, st, r5⟩ := st.ownFrz
    have hlen : acc.length = ys.length := by
      have := congrArg List.length hac
      rwa [List.length_map] at this
    refine k _ acc G5 H4 ((u1.trans u2).trans (u3.trans (u4.trans u5))) (TrayR.le st (by omega)) r5 ⟨hbs, by rw [hac]; exact nd, fun g hg => ?_⟩ (by omega)
    exact hbd g.1 (by rw [← hac]; exact List.mem_map.mpr ⟨g, hg, rfl⟩)
end
end El

namespace El
theorem lens_sum : ∀ ss : List (List Int), (lens ss).sum = ss.flatten.length
  | [] => rfl
  | r :: ss => by
    have := lens_sum ss
    unfold lens at *
    rw [List.map_cons, List.sum_cons, this, List.flatten_cons, List.length_append]
    omega
theorem byAge_sum (gs : Gs) : (lens (byAge gs)).sum = gs.length := by
  rw [lens_sum, (byAge_flat gs).length_eq, List.length_map]
end El

namespace El
/-! ### whoever is sent away, wherever they live in peace: none has more in its first rooms than the rooms by age -/
def over (t : Int) (xs : List Int) : Int := (xs.map fun x => max 0 (x - t)).sum
def atLeast (t : Int) (xs : List Int) : Int := (xs.map fun x => if t ≤ x then (1 : Int) else 0).sum
theorem over_cons {t x : Int} {xs : List Int} : over t (x :: xs) = max 0 (x - t) + over t xs := List.sum_cons ..
theorem atLeast_cons {t x : Int} {xs : List Int} : atLeast t (x :: xs) = (if t ≤ x then 1 else 0) + atLeast t xs := List.sum_cons ..
theorem over_app {t : Int} {xs ys : List Int} : over t (xs ++ ys) = over t xs + over t ys := by unfold over; rw [List.map_append, List.sum_append]
theorem sumI_perm {xs ys : List Int} (h : xs.Perm ys) : xs.sum = ys.sum := by
  induction h with
  | nil => rfl
  | cons x _ ih => rw [List.sum_cons, List.sum_cons, ih]
  | swap x y l => simp only [List.sum_cons]; omega
  | trans _ _ h1 h2 => exact h1.trans h2
theorem over_perm {t : Int} {xs ys : List Int} (h : xs.Perm ys) : over t xs = over t ys := sumI_perm (h.map _)
theorem over_nonneg {t : Int} : ∀ xs, 0 ≤ over t xs
  | [] => Int.le_refl _
  | x :: xs => by
    have := over_nonneg (t := t) xs
    rw [over_cons]
    omega
theorem over_step {t : Int} : ∀ xs, over t xs = over (t + 1) xs + atLeast (t + 1) xs
  | [] => rfl
  | x :: xs => by
    have := over_step (t := t) xs
    rw [over_cons, over_cons, atLeast_cons]
    split <;> omega
theorem atLeast_anti {t u : Int} (h : t ≤ u) : ∀ xs, atLeast u xs ≤ atLeast t xs
  | [] => Int.le_refl _
  | x :: xs => by
    have := atLeast_anti h xs
    rw [atLeast_cons, atLeast_cons]
    split <;> split <;> omega
theorem atLeast_mem {s : Int} : ∀ xs, s ∈ xs → atLeast (s + 1) xs + 1 ≤ atLeast s xs
  | [], h => by cases h
  | x :: xs, h => by
    have h1 := atLeast_anti (show s ≤ s + 1 by omega) xs
    rw [atLeast_cons, atLeast_cons]
    rcases List.mem_cons.mp h with rfl | h
    · rw [if_neg (by omega), if_pos (by omega)]
      omega
    · have := atLeast_mem xs h
      split <;> split <;> omega
theorem atLeast_gap {t u : Int} (h : t ≤ u) : ∀ xs : List Int, (∀ x ∈ xs, ¬ (t ≤ x ∧ x < u)) → atLeast u xs = atLeast t xs
  | [], _ => rfl
  | x :: xs, hx => by
    have h1 := atLeast_gap h xs fun y hy => hx y (List.mem_cons_of_mem _ hy)
    have h2 := hx x (List.mem_cons_self ..)
    rw [atLeast_cons, atLeast_cons, h1]
    split <;> split <;> omega
/-- the first rooms of o are no fuller than those of g -/
def WM (o g : List Int) : Prop := ∀ t, 0 ≤ t → over t o ≤ over t g
/-- one more in a room where s lived -/
structure Inc (o o' : List Int) (s : Int) : Prop where
  pl : s ∈ o ∨ s = 0
  ov : ∀ t, 0 ≤ t → over t o' = over t o + if t ≤ s then 1 else 0
theorem wm_step {g g' o o' : List Int} {p s z : Int} (h : WM o g) (hg : Inc g g' z) (z0 : 0 ≤ z) (gap : ∀ x ∈ g, ¬ (z < x ∧ x ≤ p)) (ho : Inc o o' s) (sp : s ≤ p) : WM o' g' := by
  intro t ht
  rw [ho.ov t ht, hg.ov t ht]
  have h1 := h t ht
  by_cases c1 : t ≤ s
  · by_cases c2 : t ≤ z
    · rw [if_pos c1, if_pos c2]
      omega
    · rw [if_pos c1, if_neg c2]
      refine Int.not_lt.mp fun bad => ?_
      have eq : over t o = over t g := by omega
      have hs : s ∈ o := ho.pl.resolve_right (by omega)
      have n0 : atLeast t o ≤ atLeast t g := by
        have a := over_step (t := t - 1) g
        have b := over_step (t := t - 1) o
        have c := h (t - 1) (by omega)
        rw [show t - 1 + 1 = t by omega] at a b
        omega
      have const : ∀ u, t ≤ u → u ≤ p + 1 → atLeast u g = atLeast t g := fun u h1 h2 => atLeast_gap h1 g fun x hx => by
        have := gap x hx
        omega
      have up : ∀ m : Nat, t + m ≤ s → over (t + m) g ≤ over (t + m) o := by
        intro m
        induction m with
        | zero =>
          intro _
          rw [show t + ((0 : Nat) : Int) = t by omega]
          omega
        | succ m ih =>
          intro hm
          have ih := ih (by omega)
          have a := over_step (t := t + m) g
          have b := over_step (t := t + m) o
          have c := const (t + m + 1) (by omega) (by omega)
          have d := atLeast_anti (show t ≤ t + m + 1 by omega) o
          rw [show t + ((m + 1 : Nat) : Int) = t + m + 1 by omega]
          omega
      have fin := up (s - t).toNat (by omega)
      rw [show t + (((s - t).toNat : Nat) : Int) = s by omega] at fin
      have a := over_step (t := s) g
      have b := over_step (t := s) o
      have c := const (s + 1) (by omega) (by omega)
      have d := atLeast_mem o hs
      have e := atLeast_anti c1 o
      have f := h (s + 1) (by omega)
      omega
  · rw [if_neg c1]
    split <;> omega
theorem over_set {t x : Int} : ∀ {xs : List Int} {i : Nat}, xs[i]? = some x → 0 ≤ t → over t (xs.set i (x + 1)) = over t xs + if t ≤ x then 1 else 0
  | [], i, h, _ => by cases h
  | y :: xs, 0, h, _ => by
    have h : y = x := Option.some.inj h
    subst h
    rw [List.set_cons_zero, over_cons, over_cons]
    split <;> omega
  | y :: xs, i + 1, h, ht => by
    have h : xs[i]? = some x := h
    rw [List.set_cons_succ, over_cons, over_cons, over_set h ht]
    omega
theorem inc_set {x : Int} {xs : List Int} {i : Nat} (h : xs[i]? = some x) : Inc xs (xs.set i (x + 1)) x := ⟨.inl (List.mem_of_getElem? h), fun _ ht => over_set h ht⟩
theorem inc_new {xs : List Int} : Inc xs (xs ++ [1]) 0 := ⟨.inr rfl, fun t ht => by
  rw [over_app, over_cons]
  show over t xs + (max 0 (1 - t) + 0) = _
  split <;> omega⟩
theorem inc_put {xs : List Int} {p : Int} (hp : 0 ≤ p) (fall : xs.Pairwise (· ≥ ·)) (pos : ∀ x ∈ xs, 0 ≤ x) : ∃ z, Inc xs (putN xs p) z ∧ 0 ≤ z ∧ z ≤ p ∧ ∀ x ∈ xs, ¬ (z < x ∧ x ≤ p) := by
  have ahead : ∀ (j : Nat) (x : Int), xs[j]? = some x → j < spotI xs p → p < x := fun j x hx hj => by
    have := List.not_of_lt_findIdx (p := fun n : Int => decide (n ≤ p)) (xs := xs) hj
    obtain ⟨hl, e⟩ := List.getElem?_eq_some_iff.mp hx
    rw [e] at this
    have := of_decide_eq_false (by simpa using this : decide (x ≤ p) = false)
    omega
  unfold putN bump
  by_cases c : spotI xs p < xs.length
  · rw [if_pos c]
    have e : xs[spotI xs p]? = some (xs.getD (spotI xs p) 0) := by rw [List.getD_eq_getElem?_getD, List.getElem?_eq_getElem c]; rfl
    refine ⟨_, inc_set e, pos _ (List.mem_of_getElem? e), ?_, fun x hx bad => ?_⟩
    · have := List.findIdx_getElem (p := fun n : Int => decide (n ≤ p)) (xs := xs) (w := c)
      have := of_decide_eq_true this
      rw [List.getD_eq_getElem?_getD, List.getElem?_eq_getElem c]
      exact this
    · obtain ⟨j, hj⟩ := List.mem_iff_getElem?.mp hx
      rcases Nat.lt_trichotomy j (spotI xs p) with h | h | h
      · have := ahead j x hj h
        omega
      · rw [h, e] at hj
        cases hj
        omega
      · obtain ⟨hl, ej⟩ := List.getElem?_eq_some_iff.mp hj
        have := List.pairwise_iff_getElem.mp fall (spotI xs p) j c hl h
        rw [List.getElem?_eq_getElem c] at e
        have e := Option.some.inj e
        rw [e, ej] at this
        omega
  · rw [if_neg c]
    refine ⟨0, inc_new, Int.le_refl _, hp, fun x hx bad => ?_⟩
    obtain ⟨j, hj⟩ := List.mem_iff_getElem?.mp hx
    have := ahead j x hj (by have := (List.getElem?_eq_some_iff.mp hj).1; omega)
    omega
/-- sizes that may be met: guests of such patience one by one, each somewhere where they bear it, or sent away -/
inductive Ways : List Int → List Int → Prop
  | nil : Ways [] []
  | sit {ps o o' : List Int} {p s : Int} : Ways ps o → Inc o o' s → s ≤ p → Ways (ps ++ [p]) o'
  | out {ps o : List Int} {p : Int} : Ways ps o → Ways (ps ++ [p]) o
theorem putN_pos {xs : List Int} {p : Int} (pos : ∀ x ∈ xs, 1 ≤ x) : ∀ x ∈ putN xs p, 1 ≤ x := by
  unfold putN bump
  intro x hx
  split at hx
  · next c =>
    rcases List.mem_or_eq_of_mem_set hx with hx | rfl
    · exact pos x hx
    · have e : xs.getD (spotI xs p) 0 = xs[spotI xs p] := by rw [List.getD_eq_getElem?_getD, List.getElem?_eq_getElem c]; rfl
      have := pos _ (List.getElem_mem c)
      rw [e]
      omega
  · rcases List.mem_append.mp hx with hx | hx
    · exact pos x hx
    · rw [List.mem_singleton.mp hx]
      decide
theorem foldN_pos : ∀ (ps : List Int) {xs : List Int}, (∀ x ∈ xs, 1 ≤ x) → ∀ x ∈ ps.foldl putN xs, 1 ≤ x
  | [], _, h => h
  | p :: ps, _, h => foldN_pos ps (putN_pos h)
theorem ways_wm {ps o : List Int} (h : Ways ps o) : (∀ p ∈ ps, 0 ≤ p) → WM o (ps.foldl putN []) := by
  induction h with
  | nil => exact fun _ t _ => Int.le_refl _
  | @sit ps o o' p s h hi sp ih =>
    intro hp
    have hp1 := hp p (by simp)
    have hps : ∀ q ∈ ps, 0 ≤ q := fun q hq => hp q (List.mem_append_left _ hq)
    rw [List.foldl_append]
    obtain ⟨z, hz, z0, zp, gap⟩ := inc_put hp1 (fold_desc ps hps [] List.Pairwise.nil) (fun x hx => by have := foldN_pos ps (xs := []) (by simp) x hx; omega)
    exact wm_step (ih hps) hz z0 gap hi sp
  | @out ps o p h ih =>
    intro hp
    have hp1 := hp p (by simp)
    have hps : ∀ q ∈ ps, 0 ≤ q := fun q hq => hp q (List.mem_append_left _ hq)
    rw [List.foldl_append]
    obtain ⟨z, hz, z0, zp, gap⟩ := inc_put hp1 (fold_desc ps hps [] List.Pairwise.nil) (fun x hx => by have := foldN_pos ps (xs := []) (by simp) x hx; omega)
    intro t ht
    have h1 := ih hps t ht
    have h2 := hz.ov t ht
    show _ ≤ over t (putN _ p)
    rw [h2]
    split <;> omega
/-! ### the first so many rooms; the number of rooms; worths that grow ever faster -/
theorem top_le {t : Int} (ht : 0 ≤ t) : ∀ (xs : List Int) (j : Nat), (xs.take j).sum ≤ over t xs + j * t
  | [], j => by
    rw [List.take_nil]
    show (0 : Int) ≤ 0 + (j : Int) * t
    have := Int.mul_nonneg (Int.natCast_nonneg j) ht
    omega
  | x :: xs, 0 => by
    have := over_nonneg (t := t) (x :: xs)
    rw [List.take_zero]
    show (0 : Int) ≤ over t (x :: xs) + ((0 : Nat) : Int) * t
    rw [show ((0 : Nat) : Int) * t = 0 from Int.zero_mul t]
    omega
  | x :: xs, j + 1 => by
    have := top_le ht xs j
    rw [List.take_succ_cons, List.sum_cons, over_cons, show ((j + 1 : Nat) : Int) * t = (j : Int) * t + t by rw [Int.natCast_succ, Int.add_mul, Int.one_mul]]
    omega
theorem over_below {t : Int} : ∀ xs : List Int, (∀ x ∈ xs, x ≤ t) → over t xs = 0
  | [], _ => rfl
  | x :: xs, h => by
    have := h x (List.mem_cons_self ..)
    rw [over_cons, over_below xs fun y hy => h y (List.mem_cons_of_mem _ hy)]
    omega
theorem over_zero : ∀ xs : List Int, (∀ x ∈ xs, 0 ≤ x) → over 0 xs = xs.sum
  | [], _ => rfl
  | x :: xs, h => by
    have := h x (List.mem_cons_self ..)
    rw [over_cons, over_zero xs fun y hy => h y (List.mem_cons_of_mem _ hy), List.sum_cons]
    omega
theorem top_at : ∀ (xs : List Int) (j : Nat) (M : Int), xs.Pairwise (· ≥ ·) → (∀ x ∈ xs, 0 ≤ x ∧ x ≤ M) → 0 ≤ M → ∃ t, 0 ≤ t ∧ t ≤ M ∧ (xs.take j).sum = over t xs + j * t
  | [], j, M, _, _, hM => ⟨0, Int.le_refl _, hM, by rw [List.take_nil, Int.mul_zero]; rfl⟩
  | x :: xs, 0, M, fall, h, hM => by
    have hx := h x (List.mem_cons_self ..)
    refine ⟨x, hx.1, hx.2, ?_⟩
    rw [List.take_zero, over_below (x :: xs) (fun y hy => ?_), show ((0 : Nat) : Int) * x = 0 from Int.zero_mul x]
    · rfl
    · rcases List.mem_cons.mp hy with rfl | hy
      · exact Int.le_refl _
      · exact (List.pairwise_cons.mp fall).1 y hy
  | x :: xs, j + 1, M, fall, h, hM => by
    have hx := h x (List.mem_cons_self ..)
    obtain ⟨f1, f2⟩ := List.pairwise_cons.mp fall
    obtain ⟨t, t0, tx, e⟩ := top_at xs j x f2 (fun y hy => ⟨(h y (List.mem_cons_of_mem _ hy)).1, f1 y hy⟩) hx.1
    refine ⟨t, t0, by omega, ?_⟩
    rw [List.take_succ_cons, List.sum_cons, over_cons, e, show ((j + 1 : Nat) : Int) * t = (j : Int) * t + t by rw [Int.natCast_succ, Int.add_mul, Int.one_mul]]
    omega
theorem le_sum : ∀ {xs : List Int}, (∀ x ∈ xs, 0 ≤ x) → 0 ≤ xs.sum ∧ ∀ x ∈ xs, x ≤ xs.sum
  | [], _ => ⟨Int.le_refl _, fun x hx => by cases hx⟩
  | y :: xs, h => by
    obtain ⟨h1, h2⟩ := le_sum (xs := xs) fun x hx => h x (List.mem_cons_of_mem _ hx)
    have hy := h y (List.mem_cons_self ..)
    rw [List.sum_cons]
    refine ⟨by omega, fun x hx => ?_⟩
    rcases List.mem_cons.mp hx with rfl | hx
    · omega
    · have := h2 x hx
      omega
theorem wm_top {o g : List Int} (h : WM o g) (fall : g.Pairwise (· ≥ ·)) (pos : ∀ x ∈ g, 0 ≤ x) (j : Nat) : (o.take j).sum ≤ (g.take j).sum := by
  obtain ⟨s0, sx⟩ := le_sum pos
  obtain ⟨t, t0, _, e⟩ := top_at g j g.sum fall (fun x hx => ⟨pos x hx, sx x hx⟩) s0
  have h1 := top_le t0 o j
  have h2 := h t t0
  omega
theorem atLeast_all : ∀ {xs : List Int}, (∀ x ∈ xs, 1 ≤ x) → atLeast 1 xs = xs.length
  | [], _ => rfl
  | x :: xs, h => by
    rw [atLeast_cons, if_pos (h x (List.mem_cons_self ..)), atLeast_all fun y hy => h y (List.mem_cons_of_mem _ hy), List.length_cons]
    omega
theorem wm_len {o g : List Int} (h : WM o g) (ho : ∀ x ∈ o, 1 ≤ x) (hg : ∀ x ∈ g, 1 ≤ x) (e : o.sum = g.sum) : g.length ≤ o.length := by
  have h1 := over_step (t := 0) o
  have h2 := over_step (t := 0) g
  rw [over_zero o fun x hx => by have := ho x hx; omega] at h1
  rw [over_zero g fun x hx => by have := hg x hx; omega] at h2
  have h3 := h (0 + 1) (by decide)
  rw [show (0 : Int) + 1 = 1 from rfl] at h1 h2 h3
  rw [atLeast_all ho] at h1
  rw [atLeast_all hg] at h2
  omega
/-- a worth's bends up to M + 1, straight on behind them -/
def bent (d : Nat → Int) : Nat → Int → Int
  | 0, x => x * d 0
  | M + 1, x => bent d M x + (d (M + 1) - d M) * max 0 (x - ((M + 1 : Nat) : Int))
def worth (d : Nat → Int) : Nat → Int
  | 0 => 0
  | k + 1 => worth d k + d k
theorem bent_at (d : Nat → Int) : ∀ (M : Nat) (x : Nat), (x ≤ M + 1 → bent d M (x : Int) = worth d x) ∧ (M + 1 ≤ x → bent d M (x : Int) = worth d (M + 1) + ((x : Int) - ((M + 1 : Nat) : Int)) * d M)
  | 0, x => by
    refine ⟨fun h => ?_, fun h => ?_⟩
    · rcases (by omega : x = 0 ∨ x = 1) with rfl | rfl
      · show ((0 : Nat) : Int) * d 0 = 0
        exact Int.zero_mul _
      · show ((1 : Nat) : Int) * d 0 = 0 + d 0
        rw [show ((1 : Nat) : Int) * d 0 = d 0 from Int.one_mul _]
        omega
    · show (x : Int) * d 0 = 0 + d 0 + ((x : Int) - ((1 : Nat) : Int)) * d 0
      rw [Int.sub_mul, show ((1 : Nat) : Int) * d 0 = d 0 from Int.one_mul _]
      omega
  | M + 1, x => by
    obtain ⟨h1, h2⟩ := bent_at d M x
    have e : bent d (M + 1) (x : Int) = bent d M (x : Int) + (d (M + 1) - d M) * max 0 ((x : Int) - ((M + 1 : Nat) : Int)) := rfl
    have w2 : worth d (M + 1 + 1) = worth d (M + 1) + d (M + 1) := rfl
    refine ⟨fun h => ?_, fun h => ?_⟩
    · rcases (by omega : x ≤ M + 1 ∨ x = M + 1 + 1) with c | c
      · rw [e, h1 c, show max 0 ((x : Int) - ((M + 1 : Nat) : Int)) = 0 by omega, Int.mul_zero]
        omega
      · rw [e, h2 (by omega), show max 0 ((x : Int) - ((M + 1 : Nat) : Int)) = 1 by omega, show (x : Int) - ((M + 1 : Nat) : Int) = 1 by omega, c, w2, Int.mul_one, Int.one_mul]
        omega
    · rw [e, h2 (by omega), w2, show max 0 ((x : Int) - ((M + 1 : Nat) : Int)) = (x : Int) - ((M + 1 + 1 : Nat) : Int) + 1 by omega, show (x : Int) - ((M + 1 : Nat) : Int) = (x : Int) - ((M + 1 + 1 : Nat) : Int) + 1 by omega]
      generalize (x : Int) - ((M + 1 + 1 : Nat) : Int) = y
      rw [Int.sub_mul, Int.add_mul, Int.one_mul, Int.mul_add, Int.mul_add, Int.mul_one, Int.mul_one, Int.mul_comm (d (M + 1)) y, Int.mul_comm (d M) y]
      generalize y * d (M + 1) = a
      generalize y * d M = b
      omega
theorem bent_sum (d : Nat → Int) {o g : List Int} (h : WM o g) (e : o.sum = g.sum) (grow : ∀ k, d k ≤ d (k + 1)) : ∀ M, (o.map (bent d M)).sum ≤ (g.map (bent d M)).sum
  | 0 => by
    have s : ∀ xs : List Int, (xs.map (bent d 0)).sum = xs.sum * d 0 := fun xs => by
      induction xs with
      | nil => exact (Int.zero_mul _).symm
      | cons x xs ih =>
        rw [List.map_cons, List.sum_cons, List.sum_cons, ih, Int.add_mul]
        rfl
    rw [s, s, e]
    exact Int.le_refl _
  | M + 1 => by
    have s : ∀ xs : List Int, (xs.map (bent d (M + 1))).sum = (xs.map (bent d M)).sum + (d (M + 1) - d M) * over ((M + 1 : Nat) : Int) xs := fun xs => by
      induction xs with
      | nil =>
        show (0 : Int) = 0 + (d (M + 1) - d M) * 0
        rw [Int.mul_zero]
        rfl
      | cons x xs ih =>
        rw [List.map_cons, List.sum_cons, List.map_cons, List.sum_cons, ih, over_cons, Int.mul_add]
        show bent d M x + _ + _ = _
        omega
    have ih := bent_sum d h e grow M
    have h1 := h ((M + 1 : Nat) : Int) (by omega)
    have h2 := grow M
    have h3 := Int.mul_le_mul_of_nonneg_left h1 (show 0 ≤ d (M + 1) - d M by omega)
    rw [s, s]
    omega
theorem worth_sum (d : Nat → Int) (grow : ∀ k, d k ≤ d (k + 1)) {o g : List Int} {w : Int → Int} {M : Nat} (h : WM o g) (e : o.sum = g.sum) (hw : ∀ x : Nat, x ≤ M + 1 → w (x : Int) = worth d x) (ho : ∀ x ∈ o, 0 ≤ x ∧ x ≤ M + 1) (hg : ∀ x ∈ g, 0 ≤ x ∧ x ≤ M + 1) : (o.map w).sum ≤ (g.map w).sum := by
  have key : ∀ xs : List Int, (∀ x ∈ xs, 0 ≤ x ∧ x ≤ M + 1) → xs.map w = xs.map (bent d M) := fun xs hx => List.map_congr_left fun x hm => by
    obtain ⟨h0, h1⟩ := hx x hm
    obtain ⟨n, rfl⟩ : ∃ n : Nat, x = n := ⟨x.toNat, by omega⟩
    rw [hw n (by omega), (bent_at d M n).1 (by omega)]
  rw [key o ho, key g hg]
  exact bent_sum d h e grow M
end El

namespace El
open PySem L2 EB
/-! ### a calm arrangement has no more in its first rooms than the rooms by age -/
def eld (room : List Int) (a : Int) : List Int := room.filter fun x => decide (a < x)
def Calm (gs : Gs) (line : List (List Int)) : Prop := ∀ room ∈ line, ∀ g ∈ gs, g.1 ∈ room → ((eld room g.1).length : Int) ≤ g.2
instance (gs : Gs) (line : List (List Int)) : Decidable (Calm gs line) := by unfold Calm; infer_instance
theorem eld_at {a : Int} : ∀ {l : List Int} {k : Nat}, l.Pairwise (· > ·) → l[k]? = some a → (eld l a).length = k
  | [], k, _, h => by cases h
  | x :: l, 0, hp, h => by
    have e : x = a := Option.some.inj h
    subst e
    obtain ⟨h1, _⟩ := List.pairwise_cons.mp hp
    unfold eld
    rw [List.filter_cons_of_neg (by simp), List.filter_eq_nil_iff.mpr fun y hy => by have := h1 y hy; simp; omega]
    rfl
  | x :: l, k + 1, hp, h => by
    obtain ⟨h1, h2⟩ := List.pairwise_cons.mp hp
    have h : l[k]? = some a := h
    have hx := h1 a (List.mem_of_getElem? h)
    have ih := eld_at h2 h
    unfold eld at *
    rw [List.filter_cons_of_pos (by simpa using hx), List.length_cons, ih]
theorem up1_iff {b : Int → Int} : ∀ {l : List Int} {n : Nat}, up1 b l n = none ↔ ∀ (k : Nat) (a : Int), l[k]? = some a → ((n + k : Nat) : Int) ≤ b a
  | [], n => ⟨fun _ k a h => (by cases h), fun _ => rfl⟩
  | a :: l, n => by
    unfold up1
    constructor
    · intro h k c hk
      by_cases d : b a < (n : Int)
      · rw [if_pos d] at h
        cases h
      · rw [if_neg d] at h
        cases k with
        | zero =>
          have e : a = c := Option.some.inj hk
          subst e
          show ((n + 0 : Nat) : Int) ≤ _
          omega
        | succ k =>
          have := up1_iff.mp h k c hk
          rw [show n + (k + 1) = n + 1 + k by omega]
          exact this
    · intro h
      have h0 := h 0 a rfl
      rw [if_neg (by simp at h0; omega)]
      exact up1_iff.mpr fun k c hk => by
        have := h (k + 1) c hk
        rw [show n + 1 + k = n + (k + 1) by omega]
        exact this
theorem dnI_strict {l : List Int} (h : l.Nodup) : (dnI l).Pairwise (· > ·) := by
  have h1 := dnI_pw l
  have h2 : (dnI l).Pairwise (· ≠ ·) := (dnI_perm l).nodup_iff.mpr h
  rw [List.pairwise_iff_getElem] at *
  intro i j hi hj hij
  have x : (dnI l)[i] ≥ (dnI l)[j] := h1 i j hi hj hij
  have y := h2 i j hi hj hij
  omega
theorem eld_perm {r s : List Int} (h : r.Perm s) (a : Int) : (eld r a).length = (eld s a).length := (h.filter _).length_eq
theorem up1_calm {b : Int → Int} {room : List Int} (h : room.Nodup) : up1 b (dnI room) 0 = none ↔ ∀ a ∈ room, ((eld room a).length : Int) ≤ b a := by
  have hs := dnI_strict h
  have hp := dnI_perm room
  rw [up1_iff]
  constructor
  · intro q a ha
    obtain ⟨k, hk⟩ := List.mem_iff_getElem?.mp (hp.mem_iff.mpr ha)
    have := q k a hk
    rw [Nat.zero_add] at this
    rw [eld_perm hp.symm, eld_at hs hk]
    exact this
  · intro q k a hk
    have := q a (hp.mem_iff.mp (List.mem_of_getElem? hk))
    rw [eld_perm hp.symm, eld_at hs hk] at this
    rw [Nat.zero_add]
    exact this
theorem upset_iff {gs : Gs} : ∀ {arr : List (List Int)} {n : Nat}, upset gs arr n = none ↔ ∀ r ∈ arr, up1 (bearsOf gs) (dnI r) 0 = none
  | [], _ => ⟨fun _ r h => (by cases h), fun _ => rfl⟩
  | r :: arr, n => by
    unfold upset
    cases e : up1 (bearsOf gs) (dnI r) 0 with
    | some a =>
      refine ⟨fun h => (by cases h), fun h => ?_⟩
      have := h r (List.mem_cons_self ..)
      rw [e] at this
      cases this
    | none =>
      show upset gs arr (n + 1) = none ↔ _
      rw [upset_iff]
      exact ⟨fun h x hx => (List.mem_cons.mp hx).elim (fun z => by rw [z]; exact e) (h x), fun h x hx => h x (List.mem_cons_of_mem _ hx)⟩
theorem flat_nodup : ∀ {line : List (List Int)}, line.flatten.Nodup → ∀ r ∈ line, r.Nodup
  | [], _, r, h => by cases h
  | x :: line, h, r, hr => by
    rw [List.flatten_cons, List.nodup_append] at h
    rcases List.mem_cons.mp hr with rfl | hr
    · exact h.1
    · exact flat_nodup h.2.1 r hr
theorem room_nodup {gs : Gs} {line : List (List Int)} (nd : (gs.map (·.1)).Nodup) (pm : line.flatten.Perm (gs.map (·.1))) : ∀ r ∈ line, r.Nodup := fun r hr => by
  exact flat_nodup (pm.nodup_iff.mpr nd) r hr
theorem calm_upset {gs : Gs} {line : List (List Int)} (nd : (gs.map (·.1)).Nodup) (pm : line.flatten.Perm (gs.map (·.1))) : upset gs line 0 = none ↔ Calm gs line := by
  rw [upset_iff]
  constructor
  · intro h room hr g hg hm
    have := (up1_calm (room_nodup nd pm room hr)).mp (h room hr) g.1 hm
    rwa [bears_at nd g hg] at this
  · intro h room hr
    refine (up1_calm (room_nodup nd pm room hr)).mpr fun a ha => ?_
    have hm : a ∈ gs.map (·.1) := pm.mem_iff.mp (List.mem_flatten.mpr ⟨room, hr, ha⟩)
    obtain ⟨g, hg, rfl⟩ := List.mem_map.mp hm
    rw [bears_at nd g hg]
    exact h room hr g hg ha
/-- those of some ages alone -/
def among (as : List Int) (line : List (List Int)) : List (List Int) := line.map fun r => r.filter fun x => decide (x ∈ as)
theorem over_zeros {t : Int} (ht : 0 ≤ t) : ∀ xs : List Int, (∀ x ∈ xs, x = 0) → over t xs = 0
  | [], _ => rfl
  | x :: xs, h => by
    have h0 := h x (List.mem_cons_self ..)
    rw [over_cons, over_zeros ht xs fun y hy => h y (List.mem_cons_of_mem _ hy)]
    omega
theorem calm_wm {gs : Gs} {line : List (List Int)} (hg : Good gs) (pm : line.flatten.Perm (gs.map (·.1))) (hc : Calm gs line) : ∀ k, k ≤ gs.length → WM (lens (among (((dnP gs).take k).map (·.1)) line)) ((((dnP gs).take k).map (·.2)).foldl putN []) := by
  have hl := dnP_len gs
  have hs := dnP_strict hg.nd
  have hp := dnP_perm gs
  intro k
  induction k with
  | zero =>
    intro _ t ht
    rw [over_zeros ht _ fun x hx => ?_]
    · exact over_nonneg _
    · unfold lens among at hx
      rw [List.map_map] at hx
      obtain ⟨r, _, rfl⟩ := List.mem_map.mp hx
      show ((r.filter fun x => decide (x ∈ [])).length : Int) = 0
      rw [List.filter_eq_nil_iff.mpr fun y _ => by simp]
      rfl
  | succ k ih =>
    intro hk
    have ih := ih (by omega)
    obtain ⟨g, hgk⟩ : ∃ g, (dnP gs)[k]? = some g := ⟨_, List.getElem?_eq_getElem (by omega)⟩
    have hgm : g ∈ gs := hp.mem_iff.mp (List.mem_of_getElem? hgk)
    have et : (dnP gs).take (k + 1) = (dnP gs).take k ++ [g] := take_more hgk
    have nd := pm.nodup_iff.mpr hg.nd
    have hin : g.1 ∈ line.flatten := pm.mem_iff.mpr (List.mem_map.mpr ⟨g, hgm, rfl⟩)
    obtain ⟨room, hroom, hmem⟩ := List.mem_flatten.mp hin
    obtain ⟨j, hj⟩ := List.mem_iff_getElem?.mp hroom
    have ps : ∀ q ∈ ((dnP gs).take k).map (·.2), 0 ≤ q := fun q hq => by
      obtain ⟨y, hy, rfl⟩ := List.mem_map.mp hq
      exact hg.pos y (hp.mem_iff.mp (List.mem_of_mem_take hy))
    have g0 := hg.pos g hgm
    obtain ⟨z, hz, z0, zp, gap⟩ := inc_put g0 (fold_desc _ ps [] List.Pairwise.nil) (fun x hx => by have := foldN_pos _ (xs := []) (by simp) x hx; omega)
    rw [et, List.map_append, List.map_append, List.foldl_append]
    -- who is elder than g are those ahead
    have ahead : ∀ x ∈ room, (x ∈ ((dnP gs).take k).map (·.1) ↔ g.1 < x) := fun x hx => by
      have hxg : x ∈ gs.map (·.1) := pm.mem_iff.mp (List.mem_flatten.mpr ⟨room, hroom, hx⟩)
      obtain ⟨y, hy, rfl⟩ := List.mem_map.mp hxg
      obtain ⟨i, hi⟩ := List.mem_iff_getElem?.mp (hp.mem_iff.mpr hy)
      obtain ⟨hil, ei⟩ := List.getElem?_eq_some_iff.mp hi
      obtain ⟨hkl, ek⟩ := List.getElem?_eq_some_iff.mp hgk
      constructor
      · intro hm
        obtain ⟨w, hw, ew⟩ := List.mem_map.mp hm
        obtain ⟨m, hm⟩ := List.mem_iff_getElem?.mp hw
        obtain ⟨hml, em⟩ := List.getElem?_eq_some_iff.mp hm
        rw [List.length_take] at hml
        rw [List.getElem_take] at em
        have := List.pairwise_iff_getElem.mp hs m k (by omega) hkl (by omega)
        rw [em, ek] at this
        omega
      · intro hlt
        rcases Nat.lt_trichotomy i k with c | c | c
        · refine List.mem_map.mpr ⟨y, ?_, rfl⟩
          exact List.mem_iff_getElem?.mpr ⟨i, by rw [List.getElem?_take, if_pos c]; exact hi⟩
        · subst c
          rw [hi] at hgk
          cases hgk
          omega
        · have := List.pairwise_iff_getElem.mp hs k i hkl hil c
          rw [ei, ek] at this
          omega
    have notin : g.1 ∉ ((dnP gs).take k).map (·.1) := fun h => by
      have := (ahead g.1 hmem).mp h
      omega
    have el : (room.filter fun x => decide (x ∈ ((dnP gs).take k).map (·.1))) = eld room g.1 := List.filter_congr fun x hx => by
      by_cases c : g.1 < x
      · rw [decide_eq_true c, decide_eq_true ((ahead x hx).mpr c)]
      · rw [decide_eq_false c, decide_eq_false (fun h => c ((ahead x hx).mp h))]
    have hrn := room_nodup hg.nd pm room hroom
    have e1 : ((room.filter fun x => decide (x ∈ ((dnP gs).take k).map (·.1) ++ [g.1])).length : Int) = ((eld room g.1).length : Int) + 1 := by
      rw [← el]
      have gen : ∀ (l : List Int), l.Nodup → ((l.filter fun x => decide (x ∈ ((dnP gs).take k).map (·.1) ++ [g.1])).length : Int) = ((l.filter fun x => decide (x ∈ ((dnP gs).take k).map (·.1))).length : Int) + if g.1 ∈ l then 1 else 0 := by
        intro l
        induction l with
        | nil => intro _; rfl
        | cons y l ihl =>
          intro hn
          obtain ⟨n1, n2⟩ := List.nodup_cons.mp hn
          have := ihl n2
          by_cases c : y = g.1
          · subst c
            rw [if_neg n1] at this
            rw [List.filter_cons_of_pos (by simp), List.filter_cons_of_neg (by simpa using notin), if_pos (List.mem_cons_self ..), List.length_cons]
            omega
          · have e3 : (g.1 ∈ y :: l) ↔ g.1 ∈ l := by simp [Ne.symm c]
            by_cases d : y ∈ ((dnP gs).take k).map (·.1)
            · rw [List.filter_cons_of_pos (by simp only [List.mem_append, d, true_or, decide_true]), List.filter_cons_of_pos (by simpa using d), List.length_cons, List.length_cons]
              simp only [e3]
              omega
            · rw [List.filter_cons_of_neg (by simp only [List.mem_append, List.mem_singleton, d, c, or_self, decide_false]; exact Bool.false_ne_true), List.filter_cons_of_neg (by simpa using d)]
              simp only [e3]
              exact this
      have := gen room hrn
      rw [if_pos hmem] at this
      exact this
    have hat : (lens (among (((dnP gs).take k).map (·.1)) line))[j]? = some ((eld room g.1).length : Int) := by
      unfold lens among
      rw [List.map_map, List.getElem?_map, hj, ← el]
      rfl
    have hset : lens (among (((dnP gs).take k).map (·.1) ++ [g.1]) line) = (lens (among (((dnP gs).take k).map (·.1)) line)).set j (((eld room g.1).length : Int) + 1) := by
      refine List.ext_getElem? fun i => ?_
      rw [List.getElem?_set]
      by_cases c : j = i
      · subst c
        rw [if_pos rfl, if_pos (List.getElem?_eq_some_iff.mp hat).1, ← e1]
        unfold lens among
        rw [List.map_map, List.getElem?_map, hj]
        rfl
      · rw [if_neg c]
        unfold lens among
        rw [List.map_map, List.getElem?_map, List.map_map, List.getElem?_map]
        cases e : line[i]? with
        | none => rfl
        | some r =>
          have hno : g.1 ∉ r := fun h => c (flat_one nd hj e hmem h)
          have : (r.filter fun x => decide (x ∈ ((dnP gs).take k).map (·.1) ++ [g.1])) = r.filter fun x => decide (x ∈ ((dnP gs).take k).map (·.1)) := List.filter_congr fun x hx => by
            have : x ≠ g.1 := fun z => hno (z ▸ hx)
            simp [this]
          show some (((r.filter fun x => decide (x ∈ ((dnP gs).take k).map (·.1) ++ [g.1])).length : Nat) : Int) = _
          rw [this]
          rfl
    show WM (lens (among (((dnP gs).take k).map (·.1) ++ [g.1]) line)) (putN _ g.2)
    rw [hset]
    exact wm_step ih hz z0 gap (inc_set hat) (hc room hroom g hgm hmem)
theorem Calm.wm {gs : Gs} {line : List (List Int)} (hg : Good gs) (pm : line.flatten.Perm (gs.map (·.1))) (hc : Calm gs line) : WM (lens line) (lens (byAge gs)) := by
  have h := calm_wm hg pm hc gs.length (Nat.le_refl _)
  rw [List.take_of_length_le (Nat.le_of_eq (dnP_len gs))] at h
  have e : among ((dnP gs).map (·.1)) line = line := by
    unfold among
    conv => rhs; rw [← List.map_id line]
    refine List.map_congr_left fun r hr => List.filter_eq_self.mpr fun x hx => decide_eq_true ?_
    exact ((dnP_perm gs).map (·.1)).mem_iff.mpr (pm.mem_iff.mp (List.mem_flatten.mpr ⟨r, hr, hx⟩))
  rw [e] at h
  have e2 : lens (byAge gs) = ((dnP gs).map (·.2)).foldl putN [] := lens_fold _ _
  rw [e2]
  exact h
end El

namespace El
open PySem L2 EB
/-! ### an arrangement: each guest into a drawn room -/
theorem owns_more {A : Type} [Rp A] {q : Addr} {ys : List A} : ∀ {as : List Addr} {xss : List (List A)}, as.length = xss.length → owns (as ++ [q]) (xss ++ [ys]) = owns as xss ++ [OwnL q ys]
  | [], [], _ => rfl
  | [], _ :: _, h => by cases h
  | _ :: _, [], h => by cases h
  | a :: as, x :: xss, h => by
    show OwnL a x :: owns (as ++ [q]) (xss ++ [ys]) = OwnL a x :: (owns as xss ++ [OwnL q ys])
    rw [owns_more (by simpa using h)]
theorem rooms_of {A : Type} [Rp A] {G H : Hp} {L : List Res} {D : Addr} {as : List Addr} {xss : List (List A)} (s : EB.Sep G H (OwnL D (as.map fun a => Raw.mk (.ref a)) :: (owns as xss ++ L))) (h : as.length = xss.length) : EB.Sep G H (Rooms D xss :: L) := by
  obtain ⟨vs, r, s⟩ := s.ownO
  have e : vs = as.map V.ref := by
    rw [Reps.raws r, List.map_map]
    rfl
  rw [e] at s
  exact Rooms.close h s
/-- where a guest may go -/
def spotsOf (rs : List (List Int)) (way b : Int) (n : Nat) : List Int := ((List.range n).filter fun k => decide (0 < way) || decide (((rs.getD k []).length : Int) ≤ b)).map fun k : Nat => (k : Int)
theorem spots_succ (rs : List (List Int)) (way b : Int) (n : Nat) : spotsOf rs way b (n + 1) = spotsOf rs way b n ++ if 0 < way ∨ ((rs.getD n []).length : Int) ≤ b then [(n : Int)] else [] := by
  unfold spotsOf
  rw [List.range_succ, List.filter_append, List.map_append, List.filter_cons]
  generalize ((rs.getD n []).length : Int) = z
  by_cases c : 0 < way <;> by_cases d : z ≤ b <;> simp [c, d]
theorem spots_mem {rs : List (List Int)} {way b x : Int} {n : Nat} (h : x ∈ spotsOf rs way b n) : ∃ k : Nat, x = k ∧ k < n ∧ (0 < way ∨ ((rs.getD k []).length : Int) ≤ b) := by
  unfold spotsOf at h
  obtain ⟨k, hk, rfl⟩ := List.mem_map.mp h
  obtain ⟨h1, h2⟩ := List.mem_filter.mp hk
  exact ⟨k, rfl, List.mem_range.mp h1, by simpa using h2⟩
/-- rooms from the eldest on, in peace where the way is 0 -/
structure Ord (b : Int → Int) (way : Int) (rs : List (List Int)) : Prop where
  dn : ∀ r ∈ rs, r.Pairwise (· > ·)
  ok : ¬ 0 < way → ∀ r ∈ rs, ∀ (k : Nat) (a : Int), r[k]? = some a → (k : Int) ≤ b a
theorem peace_snoc {b : Int → Int} {r : List Int} {y : Int} (h : ∀ (k : Nat) (a : Int), r[k]? = some a → (k : Int) ≤ b a) (hy : (r.length : Int) ≤ b y) : ∀ (k : Nat) (a : Int), (r ++ [y])[k]? = some a → (k : Int) ≤ b a := fun k a hk => by
  rcases Nat.lt_or_ge k r.length with c | c
  · rw [List.getElem?_append_left c] at hk
    exact h k a hk
  · rw [List.getElem?_append_right c] at hk
    have e : k - r.length = 0 := by
      have := (List.getElem?_eq_some_iff.mp hk).1
      simpa using this
    rw [e] at hk
    have e2 : y = a := Option.some.inj hk
    rw [← e2]
    omega
theorem Ord.put {b : Int → Int} {way y : Int} {rs : List (List Int)} {n : Nat} (h : Ord b way rs) (hn : n < rs.length) (hy : ∀ r ∈ rs, ∀ a ∈ r, y < a) (hb : 0 < way ∨ ((rs.getD n []).length : Int) ≤ b y) : Ord b way (rs.set n (rs.getD n [] ++ [y])) := by
  have hm : rs.getD n [] ∈ rs := by
    rw [List.getD_eq_getElem?_getD, List.getElem?_eq_getElem hn]
    exact List.getElem_mem hn
  refine ⟨fun r hr => ?_, fun hw r hr => ?_⟩
  · rcases List.mem_or_eq_of_mem_set hr with hr | rfl
    · exact h.dn r hr
    · rw [List.pairwise_append]
      refine ⟨h.dn _ hm, List.pairwise_singleton _ _, fun a ha c hc => ?_⟩
      rw [List.mem_singleton.mp hc]
      exact hy _ hm a ha
  · rcases List.mem_or_eq_of_mem_set hr with hr | rfl
    · exact h.ok hw r hr
    · exact peace_snoc (h.ok hw _ hm) (hb.resolve_left hw)
theorem Ord.new {b : Int → Int} {way : Int} {rs : List (List Int)} (h : Ord b way rs) : Ord b way (rs ++ [[]]) := by
  refine ⟨fun r hr => ?_, fun hw r hr => ?_⟩
  · rcases List.mem_append.mp hr with hr | hr
    · exact h.dn r hr
    · rw [List.mem_singleton.mp hr]
      exact List.Pairwise.nil
  · rcases List.mem_append.mp hr with hr | hr
    · exact h.ok hw r hr
    · rw [List.mem_singleton.mp hr]
      intro k a hk
      cases hk
theorem flat_put {rs : List (List Int)} {n : Nat} {y : Int} (hn : n < rs.length) : (rs.set n (rs.getD n [] ++ [y])).flatten.Perm (y :: rs.flatten) := by
  have hp : rs[n]? = some (rs.getD n []) := by rw [List.getD_eq_getElem?_getD, List.getElem?_eq_getElem hn]; rfl
  have q := flat_set (x := rs.getD n [] ++ [y]) hp
  rw [List.append_assoc] at q
  exact (List.perm_append_left_iff _).mp q
theorem ord_calm {gs : Gs} {rs : List (List Int)} {way : Int} (hg : Good gs) (pm : rs.flatten.Perm (gs.map (·.1))) (h : Ord (bearsOf gs) way rs) (hw : ¬ 0 < way) : Calm gs rs := fun room hr g hgm hm => by
  obtain ⟨k, hk⟩ := List.mem_iff_getElem?.mp hm
  rw [eld_at (h.dn room hr) hk]
  have := h.ok hw room hr k g.1 hk
  rwa [bears_at hg.nd g hgm] at this
theorem flat_pw : ∀ {acc ys : List (List Int)}, acc.length = ys.length → (∀ (k : Nat) (r : List Int), acc[k]? = some r → ∃ r2, ys[k]? = some r2 ∧ r.Perm r2) → acc.flatten.Perm ys.flatten
  | [], [], _, _ => .refl _
  | [], _ :: _, h, _ => by cases h
  | _ :: _, [], h, _ => by cases h
  | a :: acc, y :: ys, h, hp => by
    obtain ⟨r2, e, pm⟩ := hp 0 a rfl
    have e : y = r2 := Option.some.inj e
    subst e
    rw [List.flatten_cons, List.flatten_cons]
    exact pm.append (flat_pw (by simpa using h) fun k r hk => hp (k + 1) r hk)
section
variable {P : Program} {w : World} {K : PySem.W.Frag} {mg : Str → Option Value} {base : Heap}
theorem ok__law_shuffled {f : Addr} {fd : FuncData} (F : Fun K "_law_shuffled" "_law_shuffled" s__law_shuffled f fd) (B : Bn mg) (C_law_draw : Cal P w K mg base 1 "_law_draw" spDraw) : FnOk P w K mg base CX0 2 f fd ["tray", "things"] (spShuffled Int) :=
  ok_shuffled F B C_law_draw
theorem ok__law_shuffledL {f : Addr} {fd : FuncData} (F : Fun K "_law_shuffled" "_law_shuffled" s__law_shuffled f fd) (B : Bn mg) (C_law_draw : Cal P w K mg base 1 "_law_draw" spDraw) : FnOk P w K mg base CX0 2 f fd ["tray", "things"] (SpOr (spShuffled Int) (spShuffled (List Int))) :=
  let h1 := ok_shuffled (A := Int) F B C_law_draw
  let h2 := ok_shuffled (A := List Int) F B C_law_draw
  ⟨fun vs H Q E h => h.elim (h1.len vs H Q E) (h2.len vs H Q E), fun A outer s H args us vs Q E hr e b v h => h.elim (h1.run A outer s H args us vs Q E hr e b v) (h2.run A outer s H args us vs Q E hr e b v)⟩
abbrev s__law_parted : Stmt := topS 22
theorem sc__law_parted : FnScope ["tray", "some", "way", "found", "turn", "age", "bears", "spots", "at", "room"] ["tray", "some", "way"] (defScope s__law_parted) := ⟨rfl, rfl, rfl, by decide +kernel, rfl, by decide +kernel, by decide +kernel⟩
def spParted : Sp := fun vs H Q _ => ∃ (p : Addr) (v : V) (way : Int) (gs : Gs) (n : Nat) (G : Hp) (L : List Res), vs = [.ref p, v, .int way] ∧ Rep G v gs ∧ Good gs ∧ gs.length ≤ 60 ∧ Sep G H (TrayR p n :: L) ∧ n + 200000 < 2 ^ 60 ∧
  ∀ u (line : List (List Int)) G' H', Same G G' → Sep G' H' (TrayR p (n + 100000) :: L) → Rep G' u line → line.flatten.Perm (gs.map (·.1)) → line.length ≤ 62 → (¬ 0 < way → Calm gs line) → Q u H'
theorem ok__law_parted {f : Addr} {fd : FuncData} (F : Fun K "_law_parted" "_law_parted" s__law_parted f fd) (B : Bn mg) (C_law_draw : Cal P w K mg base 1 "_law_draw" spDraw) (C_law_shuffled : Cal P w K mg base 2 "_law_shuffled" (SpOr (spShuffled Int) (spShuffled (List Int)))) : FnOk P w K mg base CX0 3 f fd ["tray", "some", "way"] spParted := by
  have sc := sc__law_parted
  refine F.ok sc (fun vs H Q E h => ?_) (fun cdv A outer s H vs Q E hr h => ?_)
  · obtain ⟨p, v, way, gs, n, G, L, rfl, _⟩ := h
    rfl
  · obtain ⟨p, v, way, gs, n, G, L, rfl, rg, hg, hgl, st, hn, k⟩ := h
    have hu := hu_of hr
    refine ⟨_, (pss_cons (ps_set (i := 3) sc.nd rfl (.inr rfl) (pe_lc (own := [("turn", 4)]) (g := (gName 4)) (tt := tYes) (te := (tLst tNil)) rfl sc.nd (pi_range1 (by rfl) B.range (pa_cons (pe_c C_law_draw hr (by decide) rfl (pa_cons (pv 0) (pa_cons pe_int pa_nil))) pa_nil)) (blkOk_by (own := [("turn", 4)]) (N := ["tray", "some", "way", "found", "turn", "age", "bears", "spots", "at", "room"]) (sc := defScope s__law_parted) (by decide +kernel)) (fun _ _ _ _ _ => (pg_name (i := 4) sc.nd rfl (by first | exact .inl rfl | exact .inr rfl))) (fun _ _ _ _ _ => pts_nil) (fun _ _ _ _ _ => (pe_lst pa_nil))))
  (pss_cons (ps_for PassesOwn.never rfl (pi_list (pe_revL (pe_callB cSorted (by rfl) B.sorted bt_sorted (pa_cons (pv 1) pa_nil)))) (pg_tup rfl (pgs_cons (pg_name (i := 5) sc.nd rfl (.inl rfl)) (pgs_cons (pg_name (i := 6) sc.nd rfl (.inr rfl)) pgs_nil)))
  (pss_cons (ps_set (i := 7) sc.nd rfl (.inl rfl) (pe_op opAdd (pe_lc (own := [("at", 8)]) (g := (gName 8)) (tt := (tOr (tTest (tOp _ (tVar 2) (tC (V.int 0)))) (tTest (tOp _ (tCB (EB.rLen K) (tCons (tOp (rIx K) (tVar 3) (tVar 8)) tNil)) (tVar 6))))) (te := (tVar 8)) rfl sc.nd (pi_range1 (by rfl) B.range (pa_cons (pe_callB cLen (by rfl) B.len bt_len (pa_cons (pv 3) pa_nil)) pa_nil)) (blkOk_by (own := [("at", 8)]) (N := ["tray", "some", "way", "found", "turn", "age", "bears", "spots", "at", "room"]) (sc := defScope s__law_parted) (by decide +kernel)) (fun _ _ _ _ _ => (pg_name (i := 8) sc.nd rfl (by first | exact .inl rfl | exact .inr rfl))) (fun _ _ _ _ _ => (pts_one (PW.pt (pw_or (pt_cmpR op_gt (pv 2) pe_int (nomark _)) (pw_or1 (pt_cmpR op_le (pe_callB cLen (by rfl) B.len bt_len (pa_cons (pe_ix ix_seq (pv 3) (pv 8) (fun _ _ => rfl)) pa_nil)) (pv 6) (nomark _))))))) (fun _ _ _ _ _ => (pv 8))) (pe_lst (pa_cons (pe_callB cLen (by rfl) B.len bt_len (pa_cons (pv 3) pa_nil)) pa_nil))))
  (pss_cons (ps_set (i := 8) sc.nd rfl (.inl rfl) (pe_ix ix_seq (pv 7) (pe_ix ix_seq (pe_lst (pa_cons pe_int (pa_cons (pe_op opSub (pe_callB cLen (by rfl) B.len bt_len (pa_cons (pv 7) pa_nil)) pe_int) (pa_cons (pe_c C_law_draw hr (by decide) rfl (pa_cons (pv 0) (pa_cons (pe_callB cLen (by rfl) B.len bt_len (pa_cons (pv 7) pa_nil)) pa_nil))) pa_nil)))) (pe_c C_law_draw hr (by decide) rfl (pa_cons (pv 0) (pa_cons pe_int pa_nil))) (fun _ _ => rfl)) (fun _ _ => rfl)))
  (pss_cons (ps_if (pt_cmpR (opEq (units64 hr)) (pv 8) (pe_callB cLen (by rfl) B.len bt_len (pa_cons (pv 3) pa_nil)) (nomark _)) (pss_one (ps_expr (pe_bm PySem.F.plainAttrs_list PySem.F.slot_list_append PySem.F.type_list_append mt_append (pv 3) (pa_cons (pe_lst pa_nil) pa_nil)))) pss_nil)
  (pss_one (ps_expr (pe_bm PySem.F.plainAttrs_list PySem.F.slot_list_append PySem.F.type_list_append mt_append (pe_ix ix_seq (pv 3) (pv 8) (fun _ _ => rfl)) (pa_cons (pv 5) pa_nil))))))))
  (pss_one (ps_ret (pe_lc (own := [("room", 9)]) (g := (gName 9)) (tt := tYes) (te := (tCall _ _ _ (tCons (tVar 0) (tCons (tVar 9) tNil)))) rfl sc.nd (pi_list (pe_c C_law_shuffled hr (by decide) rfl (pa_cons (pv 0) (pa_cons (pv 3) pa_nil)))) (blkOk_by (own := [("room", 9)]) (N := ["tray", "some", "way", "found", "turn", "age", "bears", "spots", "at", "room"]) (sc := defScope s__law_parted) (by decide +kernel)) (fun _ _ _ _ _ => (pg_name (i := 9) sc.nd rfl (by first | exact .inl rfl | exact .inr rfl))) (fun _ _ _ _ _ => pts_nil) (fun _ _ _ _ _ => (pe_c C_law_shuffled hr (by decide) rfl (pa_cons (pv 0) (pa_cons (pv 9) pa_nil))))))))), ?_⟩
    try dsimp only [cxOf, Cx.nox, Cx.wish]
    walk_at "g"
    refine draw_use st (by decide) (by decide) (by omega) fun d1 H1 a1 b1 st => ?_
    walk_at "g"
    refine lcR1 (B := Raw) (by omega) (by omega) st (fun t acc Lc => ∃ as : List Addr, acc = as.map (fun a => Raw.mk (.ref a)) ∧ as.length = t ∧ Lc.Perm (owns as (List.replicate t ([] : List Int)) ++ TrayR p (n + 1) :: L)) ⟨[], rfl, rfl, .refl _⟩ ?_ ?_
    · rintro t D acc G' H' Lc ht ⟨as, rfl, hal, pm⟩ u st
      have ht : t < 3 := by omega
      walk_at "g"
      refine ⟨Nat.zero_le _, fun q hq => ?_⟩
      have st := (st.ownNew (vs := []) (xs := ([] : List Int)) hq trivial).sw
      refine put_of u st (by rw [List.length_map]; omega) (z := Raw.mk (.ref q)) rfl ⟨as ++ [q], by rw [List.map_append]; rfl, by rw [List.length_append, hal]; rfl, ?_⟩
      rw [List.replicate_succ', owns_more (by rw [List.length_replicate]; exact hal)]
      refine (pm.cons _).trans ?_
      rw [List.append_assoc]
      exact List.perm_middle.symm
    rintro fo acc G2 H2 Lc ⟨as, rfl, hal, pm⟩ u2 st
    have st := rooms_of (xss := List.replicate d1.toNat ([] : List Int)) (L := TrayR p (n + 1) :: L) (st.perm (pm.cons _)) (by rw [List.length_replicate]; exact hal)
    have rg := rg.up u2
    walk_at "g"
    refine g_srtP st rg fun q3 H3 st => ?_
    obtain ⟨G3, u3, st, r3⟩ := st.ownFrz
    walk_at "g"
    refine g_rvL st r3 fun q4 H4 st => ?_
    rw [upP_rev] at st
    obtain ⟨G4, u4, st, r4⟩ := st.ownFrz
    have hdl := dnP_len gs
    have hds := dnP_strict hg.nd
    have hdp := dnP_perm gs
    refine loopL r4 st.gh (fun i σ H' => ∃ (rs : List (List Int)) (x4 x5 x6 x7 x8 x9 : Option V) (G' : Hp), σ = [some (.ref p), some v, some (.int way), some (.ref fo), x4, x5, x6, x7, x8, x9] ∧ Same G4 G' ∧ rs.flatten.Perm (((dnP gs).take i).map (·.1)) ∧ rs.length ≤ 2 + i ∧ Ord (bearsOf gs) way rs ∧ EB.Sep G' H' (Rooms fo rs :: TrayR p (n + 1 + 2 * i) :: L))
      ⟨List.replicate d1.toNat [], _, _, _, _, _, _, G4, rfl, Same.refl _, by rw [List.take_zero]; simp, by rw [List.length_replicate]; omega, ⟨fun r hr => by rw [List.eq_of_mem_replicate hr]; exact List.Pairwise.nil, fun _ r hr k a hk => by rw [List.eq_of_mem_replicate hr] at hk; cases hk⟩, st⟩ (fun i σ H' _ ⟨_, _, _, _, _, _, _, _, _, u, _, _, _, st⟩ => u.trans st.gh) ?_ ?_
    · rintro i v5 x σ H5 hi rx ⟨rs, x4, x5, x6, x7, x8, x9, G5, rfl, u5, pm5, rl5, ord, st⟩
      have hil := (List.getElem?_eq_some_iff.mp hi).1
      have hxm : x ∈ gs := hdp.mem_iff.mp (List.mem_of_getElem? hi)
      have bx := bears_at hg.nd x hxm
      have young : ∀ r ∈ rs, ∀ a ∈ r, x.1 < a := fun r hr a ha => by
        have hm := pm5.mem_iff.mp (List.mem_flatten.mpr ⟨r, hr, ha⟩)
        obtain ⟨y, hy, rfl⟩ := List.mem_map.mp hm
        obtain ⟨m, hm⟩ := List.mem_iff_getElem?.mp hy
        obtain ⟨hml, em⟩ := List.getElem?_eq_some_iff.mp hm
        rw [List.length_take] at hml
        rw [List.getElem_take] at em
        obtain ⟨hil2, ei⟩ := List.getElem?_eq_some_iff.mp hi
        have := List.pairwise_iff_getElem.mp hds m i (by omega) hil2 (by omega)
        rw [em, ei] at this
        exact this
      have rlen : ∀ r ∈ rs, r.length ≤ 60 := fun r hr => by
        have h1 := le_flat hr
        have h2 := pm5.length_eq
        rw [List.length_map, List.length_take] at h2
        omega
      refine g_tgII rx (u5.trans st.gh) rfl ?_
      walk_at "g"
      refine g_lenRooms st ?_
      walk_at "g"
      refine lcR1 (B := Int) (by omega) (by omega) st (fun t acc Lc => acc = spotsOf rs way x.2 t ∧ acc.length ≤ t ∧ Lc = Rooms fo rs :: TrayR p (n + 1 + 2 * i) :: L) ⟨rfl, Nat.le_refl _, rfl⟩ ?_ ?_
      · rintro t D acc G' H' Lc ht ⟨rfl, hal, rfl⟩ u st
        have ht : t < rs.length := by omega
        have e1 := spots_succ rs way x.2 t
        have go : (0 < way ∨ ((rs.getD t []).length : Int) ≤ x.2) → Put G5 D (fun acc Lc => acc = spotsOf rs way x.2 (t + 1) ∧ acc.length ≤ t + 1 ∧ Lc = Rooms fo rs :: TrayR p (n + 1 + 2 * i) :: L) (.int (t : Int)) H' := fun c => by
          refine put_of u st (by omega) (rep_int (n := (t : Int))) ⟨?_, by rw [List.length_append, List.length_singleton]; omega, rfl⟩
          rw [e1, if_pos c]
        walk_at "g"
        refine g_ite (fun c => ?_) (fun c => ?_)
        · walk_at "g"
          exact go (.inl c)
        walk_at "g"
        refine g_ixL (Rooms.rep st.sw) (Same.refl _) (by omega) (a := rs.getD t []) (by rw [Int.toNat_natCast, List.getD_eq_getElem?_getD, List.getElem?_eq_getElem ht]; rfl) fun w6 r6 => ?_
        walk_at "g"
        refine g_lenL r6 (Same.refl _) ?_
        walk_at "g"
        refine g_ite (fun c2 => ?_) (fun c2 => ?_)
        · walk_at "g"
          exact go (.inr c2)
        · refine skip_of u st ⟨?_, by omega, rfl⟩
          rw [e1, if_neg (fun z => z.elim c c2), List.append_nil]
      rintro D acc G6 H6 Lc ⟨rfl, hal, rfl⟩ u6 st
      rw [Int.toNat_natCast] at hal st
      obtain ⟨G7, u7, st, r7⟩ := st.ownFrz
      walk_at "g"
      refine g_lenRooms st ?_
      walk_at "g"
      refine ⟨by show 1 ≤ sizeLine; decide, fun q8 hq8 => ?_⟩
      obtain ⟨G8, u8, st, r8⟩ := st.lstNew hq8 (reps1 (rep_int (n := (rs.length : Int))))
      refine g_cat st (r7.up u8) r8 (by show _ + 1 ≤ _; omega) fun q9 H9 st => ?_
      obtain ⟨G9, u9, st, rS⟩ := st.ownFrz
      have hsm : ∀ z ∈ spotsOf rs way x.2 rs.length ++ [(rs.length : Int)], ∃ m : Nat, z = m ∧ (m = rs.length ∨ (m < rs.length ∧ (0 < way ∨ ((rs.getD m []).length : Int) ≤ x.2))) := fun z hz => by
        rcases List.mem_append.mp hz with hz | hz
        · obtain ⟨m, e, h1, h2⟩ := spots_mem hz
          exact ⟨m, e, .inr ⟨h1, h2⟩⟩
        · exact ⟨rs.length, List.mem_singleton.mp hz, .inl rfl⟩
      have hSl : 1 ≤ (spotsOf rs way x.2 rs.length ++ [(rs.length : Int)]).length ∧ (spotsOf rs way x.2 rs.length ++ [(rs.length : Int)]).length ≤ 100 := by
        rw [List.length_append, List.length_singleton]
        omega
      generalize spotsOf rs way x.2 rs.length ++ [(rs.length : Int)] = S at rS hsm hSl
      have u69 := u6.trans (u7.trans (u8.trans u9))
      walk_at "g"
      refine g_lenL rS st.gh ?_
      walk_at "g"
      refine g_lenL rS st.gh ?_
      walk_at "g"
      refine draw_use st.sw (by omega) (by omega) (by omega) fun d2 H10 a10 b10 st => ?_
      walk_at "g"
      refine ⟨by show 3 ≤ sizeLine; decide, fun q11 hq11 => ?_⟩
      obtain ⟨G11, u11, st, h11⟩ := st.raw hq11
      have rS := rS.up u11
      walk_at "g"
      refine draw_use st (by decide) (by decide) (by omega) fun d3 H12 a12 b12 st => ?_
      refine g_ixLI (ns := [0, (S.length : Int) - 1, d2]) h11 rfl (by walk_at "sm") a12 b12 fun e he _ => ?_
      have he0 : 0 ≤ e ∧ e < S.length := by
        simp only [List.mem_cons, List.not_mem_nil, or_false] at he
        omega
      obtain ⟨z, hz, hzm⟩ := pick (xs := S) he0.1 he0.2
      obtain ⟨m, rfl, hm⟩ := hsm z hzm
      refine g_ixL rS st.gh he0.1 hz fun w13 r13 => ?_
      obtain rfl := r13.int
      have st := st.sw
      have fin : ∀ (rs2 : List (List Int)) (y4 y5 y6 y7 y8 y9 : Option V) H', rs2.flatten.Perm (x.1 :: rs.flatten) → rs2.length ≤ 2 + (i + 1) → Ord (bearsOf gs) way rs2 → EB.Sep G11 H' (Rooms fo rs2 :: TrayR p (n + 1 + 2 * i + 1 + 1) :: L) → ∃ (rs : List (List Int)) (x4 x5 x6 x7 x8 x9 : Option V) (G' : Hp), [some (.ref p), some v, some (.int way), some (.ref fo), y4, y5, y6, y7, y8, y9] = [some (.ref p), some v, some (.int way), some (.ref fo), x4, x5, x6, x7, x8, x9] ∧ Same G4 G' ∧ rs.flatten.Perm (((dnP gs).take (i + 1)).map (·.1)) ∧ rs.length ≤ 2 + (i + 1) ∧ Ord (bearsOf gs) way rs ∧ EB.Sep G' H' (Rooms fo rs :: TrayR p (n + 1 + 2 * (i + 1)) :: L) := fun rs2 y4 y5 y6 y7 y8 y9 H' h1 h2 h3 h4 =>
        ⟨rs2, _, _, _, _, _, _, G11, rfl, u5.trans (u69.trans u11), by
          rw [take_more hi, List.map_append]
          exact h1.trans ((pm5.cons _).trans (List.perm_append_comm (l₁ := [x.1]))), h2, h3, h4⟩
      walk_at "g"
      refine g_lenRooms st ?_
      walk_at "g"
      refine g_ite (fun c => ?_) (fun c => ?_)
      · have e : m = rs.length := by omega
        subst e
        walk_at "g"
        refine g_tyRooms st ?_
        walk_at "g"
        refine ⟨Nat.zero_le _, fun q14 hq14 => ?_⟩
        have st := st.ownNew (vs := []) (xs := ([] : List Int)) hq14 trivial
        walk_at "g"
        refine g_appRooms st (by omega) fun H14 st => ?_
        walk_at "g"
        have hn2 : rs.length < (rs ++ [[]]).length := by rw [List.length_append, List.length_singleton]; omega
        have hat : (rs ++ [[]])[((rs.length : Nat) : Int).toNat]? = some [] := by rw [Int.toNat_natCast, List.getElem?_append_right (Nat.le_refl _), Nat.sub_self]; rfl
        refine g_ixRooms st (by omega) hat fun b0 st => ?_
        refine g_tyO st ?_
        walk_at "g"
        refine g_append st rep_int (by show 0 < 1000000; decide) fun H15 st => ?_
        rw [Int.toNat_natCast] at st
        have st := Rooms.put hn2 st
        have ge : (rs ++ [[]]).getD rs.length [] = [] := by rw [List.getD_eq_getElem?_getD, List.getElem?_append_right (Nat.le_refl _), Nat.sub_self]; rfl
        have hord := (ord.new).put hn2 (y := x.1) (fun r hr a ha => by
          rcases List.mem_append.mp hr with hr | hr
          · exact young r hr a ha
          · rw [List.mem_singleton.mp hr] at ha
            cases ha) (by
          rw [ge, bx]
          by_cases q : 0 < way
          · exact .inl q
          · exact .inr (hg.pos x hxm))
        have hfl := flat_put (y := x.1) hn2
        rw [ge] at hord hfl
        refine fin _ _ _ _ _ _ _ _ (hfl.trans ?_) (by rw [List.length_set, List.length_append, List.length_singleton]; omega) hord st
        rw [List.flatten_append]
        simp
      · have hm2 := hm.resolve_left (by omega)
        have hat : rs[((m : Nat) : Int).toNat]? = some (rs.getD m []) := by rw [Int.toNat_natCast, List.getD_eq_getElem?_getD, List.getElem?_eq_getElem hm2.1]; rfl
        have hrm := rlen _ (List.mem_of_getElem? hat)
        walk_at "g"
        refine g_ixRooms st (by omega) hat fun b0 st => ?_
        refine g_tyO st ?_
        walk_at "g"
        refine g_append st rep_int (by omega) fun H15 st => ?_
        rw [Int.toNat_natCast] at st
        exact fin _ _ _ _ _ _ _ _ (flat_put hm2.1) (by rw [List.length_set]; omega) (ord.put hm2.1 young (by rw [bx]; exact hm2.2)) (Rooms.put hm2.1 st)
    rintro σ H5 ⟨rs, x4, x5, x6, x7, x8, x9, G5, rfl, u5, pm5, rl5, ord, st⟩
    rw [List.take_of_length_le (Nat.le_refl _)] at pm5
    obtain ⟨G6, u6, st, rr⟩ := Rooms.frz st
    walk_at "g"
    have rl62 : rs.length ≤ 62 := by omega
    have rlen : ∀ r ∈ rs, r.length ≤ 60 := fun r hr => by
      have h1 := le_flat hr
      have h2 := pm5.length_eq
      rw [List.length_map] at h2
      omega
    refine .inr ⟨p, _, rs, _, _, _, rfl, st, rr, by omega, by omega, fun D7 ys G7 H7 u7 pmy st => ?_⟩
    obtain ⟨G8, u8, st, ry⟩ := st.sw.ownFrz
    have yl := pmy.length_eq
    refine lcL (B := List Int) ry st (fun t acc Lc => acc.length = t ∧ (∀ (k : Nat) (r : List Int), acc[k]? = some r → ∃ r2, ys[k]? = some r2 ∧ r.Perm r2) ∧ Lc = TrayR p (n + 1 + 2 * (dnP gs).length + 1000 + 1000 * t) :: L) ⟨rfl, fun k r h => (by cases h), rfl⟩ ?_ ?_
    · rintro t v9 x D acc G' H' Lc hx rx ⟨hal, hap, rfl⟩ u st
      have hxl := (List.getElem?_eq_some_iff.mp hx).1
      have hxr := rlen x (pmy.mem_iff.mp (List.mem_of_getElem? hx))
      walk_at "g"
      refine .inl ⟨p, _, x, _, _, _, rfl, st.sw, rx, by omega, by omega, fun D2 zs G9 H9 u9 pmz st => ?_⟩
      obtain ⟨G10, u10, st, rz⟩ := st.sw.ownFrz
      refine put_of (u.trans (u9.trans u10)) st.sw (by omega) rz ⟨by rw [List.length_append, hal]; rfl, fun k r hk => ?_, rfl⟩
      rcases Nat.lt_or_ge k acc.length with c | c
      · rw [List.getElem?_append_left c] at hk
        exact hap k r hk
      · rw [List.getElem?_append_right c] at hk
        have e : k - acc.length = 0 := by
          have := (List.getElem?_eq_some_iff.mp hk).1
          simpa using this
        rw [e] at hk
        have e2 : zs = r := Option.some.inj hk
        have e3 : k = t := by omega
        subst e2 e3
        exact ⟨x, hx, pmz⟩
    rintro D11 line G11 H11 Lc ⟨hal, hap, rfl⟩ u11 st
    obtain ⟨G12, u12, st, rl⟩ := st.ownFrz
    have pmf : line.flatten.Perm rs.flatten := (flat_pw hal hap).trans pmy.flatten
    have pma : line.flatten.Perm (gs.map (·.1)) := pmf.trans (pm5.trans ((dnP_perm gs).map _))
    refine k _ line _ _ (u2.trans (u3.trans (u4.trans (u5.trans (u6.trans (u7.trans (u8.trans (u11.trans u12)))))))) (TrayR.le st (by omega)) rl pma (by omega) fun hw => ?_
    have calm := ord_calm hg (pm5.trans ((dnP_perm gs).map _)) ord hw
    intro room hr g hgm hm
    obtain ⟨k, hk⟩ := List.mem_iff_getElem?.mp hr
    obtain ⟨r2, e, pr⟩ := hap k room hk
    rw [eld_perm pr]
    exact calm r2 (pmy.mem_iff.mp (List.mem_of_getElem? e)) g hgm (pr.mem_iff.mp hm)
end
end El

namespace El
open PySem L2 EB
theorem lens_byAge (gs : Gs) : lens (byAge gs) = ((dnP gs).map (·.2)).foldl putN [] := lens_fold _ _
theorem snd_pos {gs : Gs} (h : ∀ g ∈ gs, 0 ≤ g.2) : ∀ p ∈ (dnP gs).map (·.2), 0 ≤ p := fun p hp => by
  obtain ⟨g, hg, rfl⟩ := List.mem_map.mp hp
  exact h g ((dnP_perm gs).mem_iff.mp hg)
theorem byAge_pos (gs : Gs) : ∀ x ∈ lens (byAge gs), 1 ≤ x := by
  rw [lens_byAge]
  exact foldN_pos _ (by simp)
theorem wm_sub {ps qs : List Int} (h : ps.Sublist qs) : ∀ {s t : List Int}, WM s t → (∀ p ∈ qs, 0 ≤ p) → s.Pairwise (· ≥ ·) → t.Pairwise (· ≥ ·) → (∀ x ∈ s, 1 ≤ x) → (∀ x ∈ t, 1 ≤ x) → WM (ps.foldl putN s) (qs.foldl putN t) := by
  induction h with
  | slnil => exact fun h _ _ _ _ _ => h
  | @cons ps qs q hs ih =>
    intro s t h hp fs ft ps' pt
    have hq := hp q (List.mem_cons_self ..)
    obtain ⟨z, hz, z0, zp, gap⟩ := inc_put hq ft (fun x hx => by have := pt x hx; omega)
    refine ih (fun u hu => ?_) (fun x hx => hp x (List.mem_cons_of_mem _ hx)) fs (put_desc hq ft) ps' (putN_pos pt)
    have h1 := h u hu
    have h2 := hz.ov u hu
    rw [h2]
    split <;> omega
  | @cons_cons ps qs q hs ih =>
    intro s t h hp fs ft ps' pt
    have hq := hp q (List.mem_cons_self ..)
    obtain ⟨z, hz, z0, zp, gap⟩ := inc_put hq ft (fun x hx => by have := pt x hx; omega)
    obtain ⟨y, hy, y0, yp, _⟩ := inc_put hq fs (fun x hx => by have := ps' x hx; omega)
    exact ih (wm_step h hz z0 gap hy yp) (fun x hx => hp x (List.mem_cons_of_mem _ hx)) (put_desc hq fs) (put_desc hq ft) (putN_pos ps') (putN_pos pt)
theorem sub_of_sorted {A : Type} {R : A → A → Prop} (ir : ∀ a, ¬ R a a) (asy : ∀ a b, R a b → ¬ R b a) : ∀ {l m : List A}, l.Pairwise R → m.Pairwise R → (∀ x ∈ l, x ∈ m) → l.Sublist m
  | [], m, _, _, _ => List.nil_sublist m
  | a :: l, [], _, _, h => by cases h a (List.mem_cons_self ..)
  | a :: l, b :: m, hl, hm, h => by
    obtain ⟨l1, l2⟩ := List.pairwise_cons.mp hl
    obtain ⟨m1, m2⟩ := List.pairwise_cons.mp hm
    rcases List.mem_cons.mp (h a (List.mem_cons_self ..)) with rfl | ha
    · refine .cons₂ a (sub_of_sorted ir asy l2 m2 fun x hx => ?_)
      rcases List.mem_cons.mp (h x (List.mem_cons_of_mem _ hx)) with rfl | hx2
      · exact absurd (l1 x hx) (ir x)
      · exact hx2
    · refine .cons b (sub_of_sorted ir asy hl m2 fun x hx => ?_)
      rcases List.mem_cons.mp (h x hx) with rfl | hx2
      · have ba := m1 a ha
        rcases List.mem_cons.mp hx with rfl | hx3
        · exact absurd ba (ir x)
        · exact absurd ba (asy _ _ (l1 x hx3))
      · exact hx2
theorem wm_few {some gs : Gs} (h : Good gs) (hs : some.Sublist gs) : WM (lens (byAge some)) (lens (byAge gs)) := by
  have nd : (some.map (·.1)).Nodup := List.Sublist.nodup (hs.map _) h.nd
  rw [lens_byAge, lens_byAge]
  refine wm_sub (List.Sublist.map _ (sub_of_sorted (R := fun x y => y.1 < x.1) (fun a => Int.lt_irrefl _) (fun a b h1 h2 => by omega) (dnP_strict nd) (dnP_strict h.nd) fun x hx => ?_)) (fun _ _ => Int.le_refl _) (snd_pos h.pos) List.Pairwise.nil List.Pairwise.nil (by simp) (by simp)
  exact (dnP_perm gs).mem_iff.mpr (hs.subset ((dnP_perm some).mem_iff.mp hx))
theorem good_filter {gs : Gs} (h : Good gs) (p : Int × Int → Bool) : Good (gs.filter p) :=
  ⟨fun g hg => h.pos g (List.mem_filter.mp hg).1, h.nd.sublist (List.filter_sublist.map _), Nat.le_trans (List.length_filter_le _ _) h.len⟩
/-- no fuller in the fullest rooms -/
theorem no_fuller {gs : Gs} {line : List (List Int)} (h : Good gs) (w : WM (lens line) (lens (byAge gs))) (j : Nat) : ((dnI (lens line)).take j).sum ≤ ((lens (byAge gs)).take j).sum := by
  refine wm_top (fun t ht => ?_) (sizes_desc h.pos) (fun x hx => by have := byAge_pos gs x hx; omega) j
  rw [over_perm (dnI_perm (lens line))]
  exact w t ht
/-- those of the first rooms by themselves -/
theorem alone_byAge {gs : Gs} (h : Good gs) (j : Nat) : byAge (gs.filter fun g => decide (g.1 ∈ ((byAge gs).take j).flatten)) = (byAge gs).take j := by
  refine Eq.trans (congrArg byAge (List.filter_congr fun g hg => ?_)) (byAge_keep h.nd j)
  have hm : g.1 ∈ (byAge gs).flatten := (byAge_flat gs).mem_iff.mpr (List.mem_map.mpr ⟨g, hg, rfl⟩)
  have nd : (byAge gs).flatten.Nodup := (byAge_flat gs).nodup_iff.mpr h.nd
  have e : (byAge gs).flatten = ((byAge gs).take j).flatten ++ ((byAge gs).drop j).flatten := by rw [← List.flatten_append, List.take_append_drop]
  rw [e] at hm nd
  rw [List.nodup_append] at nd
  have := nd.2.2
  rw [decide_eq_decide]
  constructor
  · exact fun h1 h2 => this g.1 h1 g.1 h2 rfl
  · exact fun h1 => (List.mem_append.mp hm).resolve_right h1
/-! ### called otherwise -/
def callR (f : Int → Int) (rs : List (List Int)) : List (List Int) := rs.map (List.map f)
theorem putR_map {f : Int → Int} {n : Int} {g : Int × Int} : ∀ {ss : List (List Int)}, (∀ r ∈ ss, (r.length : Int) ≤ n) → putR (callR f ss) (f g.1, min g.2 n) = callR f (putR ss g)
  | [], _ => by
    unfold callR
    rw [List.map_nil, putR_nil, putR_nil]
    rfl
  | r :: ss, h => by
    have ih := putR_map (f := f) (n := n) (g := g) (ss := ss) fun x hx => h x (List.mem_cons_of_mem _ hx)
    have hr := h r (List.mem_cons_self ..)
    have ef : fit (min g.2 n) (r.map f) = fit g.2 r := by
      unfold fit
      rw [List.length_map, decide_eq_decide]
      omega
    show putR (r.map f :: callR f ss) _ = _
    rw [putR_cons, putR_cons, ef]
    cases fit g.2 r with
    | true =>
      rw [if_pos rfl, if_pos rfl]
      unfold callR
      rw [List.map_cons, List.map_append]
      rfl
    | false =>
      rw [if_neg (by simp), if_neg (by simp), ih]
      rfl
theorem fold_map {f : Int → Int} {n : Nat} : ∀ (l : Gs) (ss : List (List Int)), (∀ r ∈ ss, r.length + l.length ≤ n) → (l.length ≤ n) → (l.map fun g => (f g.1, min g.2 (n : Int))).foldl putR (callR f ss) = callR f (l.foldl putR ss)
  | [], _, _, _ => rfl
  | g :: l, ss, h, hl => by
    rw [List.map_cons, List.foldl_cons, List.foldl_cons, putR_map (fun r hr => by have := h r hr; omega)]
    refine fold_map l (putR ss g) (fun r hr => ?_) (by rw [List.length_cons] at hl; omega)
    rcases putR_mem g ss r hr with hr | ⟨y, h1, rfl, _⟩
    · have := h r hr
      rw [List.length_cons] at this
      omega
    · rw [List.length_append, List.length_singleton]
      rcases h1 with h1 | rfl
      · have := h y h1
        rw [List.length_cons] at this
        omega
      · rw [List.length_cons] at hl
        simp
        omega
theorem byAge_map {f : Int → Int} {gs : Gs} (nd : (gs.map (·.1)).Nodup) (up : ∀ a ∈ gs.map (·.1), ∀ b ∈ gs.map (·.1), a < b → f a < f b) : byAge (gs.map fun g => (f g.1, min g.2 (gs.length : Int))) = callR f (byAge gs) := by
  have hs := dnP_strict nd
  have hp := dnP_perm gs
  have e : (dnP gs).map (fun g => (f g.1, min g.2 (gs.length : Int))) = dnP (gs.map fun g => (f g.1, min g.2 (gs.length : Int))) := by
    refine dnP_uniq (hp.map _) ?_
    refine List.pairwise_map.mpr (List.Pairwise.imp_of_mem (fun {x y} hx hy hxy => ?_) hs)
    have := up y.1 (List.mem_map.mpr ⟨y, hp.mem_iff.mp hy, rfl⟩) x.1 (List.mem_map.mpr ⟨x, hp.mem_iff.mp hx, rfl⟩) hxy
    unfold leP
    rw [decide_eq_true_eq]
    exact .inl this
  unfold byAge
  rw [← e]
  have := fold_map (f := f) (n := gs.length) (dnP gs) [] (by simp) (by rw [dnP_len]; exact Nat.le_refl _)
  exact this
/-! ### the names -/
def nameOf (as fs : List Int) (a : Int) : Int := ((as.zip fs).lookup a).getD 0
theorem lookup_zip : ∀ {as fs : List Int} {i : Nat} {a : Int}, as.Nodup → as.length = fs.length → as[i]? = some a → (as.zip fs).lookup a = fs[i]?
  | [], _, _, _, _, _, h => by cases h
  | _ :: _, [], _, _, _, h, _ => by cases h
  | x :: as, y :: fs, 0, a, nd, hl, h => by
    have e : x = a := Option.some.inj h
    subst e
    show ((x, y) :: as.zip fs).lookup x = _
    rw [List.lookup_cons, beq_self_eq_true]
    rfl
  | x :: as, y :: fs, i + 1, a, nd, hl, h => by
    have h : as[i]? = some a := h
    obtain ⟨n1, n2⟩ := List.nodup_cons.mp nd
    have ne : (a == x) = false := by
      rw [beq_eq_false_iff_ne]
      exact fun e => n1 (e ▸ List.mem_of_getElem? h)
    show ((x, y) :: as.zip fs).lookup a = _
    rw [List.lookup_cons, ne]
    exact lookup_zip n2 (Nat.succ.inj hl) h
theorem name_at {as fs : List Int} (nd : as.Nodup) (hl : as.length = fs.length) {i : Nat} {a : Int} (h : as[i]? = some a) : ∃ b, fs[i]? = some b ∧ (as.zip fs).lookup a = some b ∧ nameOf as fs a = b := by
  have hi := (List.getElem?_eq_some_iff.mp h).1
  have hb : fs[i]? = some (fs[i]'(by omega)) := List.getElem?_eq_getElem _
  have e := lookup_zip nd hl h
  rw [hb] at e
  exact ⟨_, hb, e, by unfold nameOf; rw [e]; rfl⟩
theorem name_look {as fs : List Int} (nd : as.Nodup) (hl : as.length = fs.length) {a : Int} (h : a ∈ as) : (as.zip fs).lookup a = some (nameOf as fs a) := by
  obtain ⟨i, hi⟩ := List.mem_iff_getElem?.mp h
  obtain ⟨b, _, e1, e2⟩ := name_at nd hl hi
  rw [e1, e2]
theorem name_up {as fs : List Int} (ra : as.Pairwise (· < ·)) (rf : fs.Pairwise (· < ·)) (hl : as.length = fs.length) {a b : Int} (ha : a ∈ as) (hb : b ∈ as) (h : a < b) : nameOf as fs a < nameOf as fs b := by
  have nd : as.Nodup := ra.imp fun {x y} h => by omega
  obtain ⟨i, hi⟩ := List.mem_iff_getElem?.mp ha
  obtain ⟨j, hj⟩ := List.mem_iff_getElem?.mp hb
  obtain ⟨x, x1, _, x2⟩ := name_at nd hl hi
  obtain ⟨y, y1, _, y2⟩ := name_at nd hl hj
  rw [x2, y2]
  obtain ⟨hil, ei⟩ := List.getElem?_eq_some_iff.mp hi
  obtain ⟨hjl, ej⟩ := List.getElem?_eq_some_iff.mp hj
  obtain ⟨xil, ex⟩ := List.getElem?_eq_some_iff.mp x1
  obtain ⟨yjl, ey⟩ := List.getElem?_eq_some_iff.mp y1
  have lt : i < j := by
    rcases Nat.lt_trichotomy i j with c | c | c
    · exact c
    · subst c
      rw [ei] at ej
      omega
    · have := List.pairwise_iff_getElem.mp ra j i hjl hil c
      rw [ei, ej] at this
      omega
  have := List.pairwise_iff_getElem.mp rf i j xil yjl lt
  rw [ex, ey] at this
  exact this
theorem upI_strict {l : List Int} (h : l.Nodup) : (upI l).Pairwise (· < ·) := by
  have h1 := upI_pw l
  have h2 : (upI l).Nodup := (upI_perm l).nodup_iff.mpr h
  exact (h1.and h2).imp fun {x y} h => by
    have := h.1
    have := h.2
    omega
end El

namespace El
open PySem L2 EB
section
variable {P : Program} {w : World} {K : PySem.W.Frag} {mg : Str → Option Value} {base : Heap}
abbrev s__law_no_fuller : Stmt := topS 23
theorem sc__law_no_fuller : FnScope ["line", "told", "fullest", "room", "many"] ["line", "told"] (defScope s__law_no_fuller) := ⟨rfl, rfl, rfl, by decide +kernel, rfl, by decide +kernel, by decide +kernel⟩
def spNoFuller : Sp := fun vs H Q _ => ∃ (v u : V) (line : List (List Int)) (most : List Int) (G : Hp) (L : List Res), vs = [v, u] ∧ Rep G v line ∧ Rep G u most ∧ line.length ≤ 1000 ∧ most.length ≤ 1000 ∧ (∀ m : Nat, ((dnI (lens line)).take m).sum ≤ (most.take m).sum) ∧ Sep G H L ∧ ∀ G' H', Same G G' → Sep G' H' L → Q (.bl true) H'
theorem ok__law_no_fuller {f : Addr} {fd : FuncData} (F : Fun K "_law_no_fuller" "_law_no_fuller" s__law_no_fuller f fd) (B : Bn mg) : FnOk P w K mg base CX0 1 f fd ["line", "told"] spNoFuller := by
  have sc := sc__law_no_fuller
  refine F.ok sc (fun vs H Q E h => ?_) (fun cdv A outer s H vs Q E hr h => ?_)
  · obtain ⟨v, u, line, most, G, L, rfl, _⟩ := h
    rfl
  · obtain ⟨v, u, line, most, G, L, rfl, rl, rm, hl1, hl2, hle, st, k⟩ := h
    have hu := hu_of hr
    refine ⟨_, (pss_cons (ps_set (i := 2) sc.nd rfl (.inr rfl) (pe_revL (pe_callB cSorted (by rfl) B.sorted bt_sorted (pa_cons (pe_lc (own := [("room", 3)]) (g := (gName 3)) (tt := tYes) (te := (tCB (EB.rLen K) (tCons (tVar 3) tNil))) rfl sc.nd (pi_list (pv 0)) (blkOk_by (own := [("room", 3)]) (N := ["line", "told", "fullest", "room", "many"]) (sc := defScope s__law_no_fuller) (by decide +kernel)) (fun _ _ _ _ _ => (pg_name (i := 3) sc.nd rfl (by first | exact .inl rfl | exact .inr rfl))) (fun _ _ _ _ _ => pts_nil) (fun _ _ _ _ _ => (pe_callB cLen (by rfl) B.len bt_len (pa_cons (pv 3) pa_nil)))) pa_nil))))
  (pss_one (ps_ret (pe_cmpR (opEq (units64 hr)) (pe_lc (own := [("many", 4)]) (g := (gName 4)) (tt := (tTest (tOp _ (tCB (EB.rSum K) (tCons (tSl (rSlA K) (tVar 2) tNoPart (tPart (tVar 4))) tNil)) (tCB (EB.rSum K) (tCons (tSl (rSlA K) (tVar 1) tNoPart (tPart (tVar 4))) tNil))))) (te := (tC (V.int 1))) rfl sc.nd (pi_range1 (by rfl) B.range (pa_cons (pe_op opAdd (pe_callB cLen (by rfl) B.len bt_len (pa_cons (pv 1) pa_nil)) pe_int) pa_nil)) (blkOk_by (own := [("many", 4)]) (N := ["line", "told", "fullest", "room", "many"]) (sc := defScope s__law_no_fuller) (by decide +kernel)) (fun _ _ _ _ _ => (pg_name (i := 4) sc.nd rfl (by first | exact .inl rfl | exact .inr rfl))) (fun _ _ _ _ _ => (pts_one (pt_cmpR op_gt (pe_callB (cSum rfl) (by rfl) B.sum bt_sum (pa_cons (pe_slice slA (pv 2) po_none (po_some (pv 4))) pa_nil)) (pe_callB (cSum rfl) (by rfl) B.sum bt_sum (pa_cons (pe_slice slA (pv 1) po_none (po_some (pv 4))) pa_nil)) (nomark _)))) (fun _ _ _ _ _ => pe_int)) (pe_lst pa_nil) (nomark _))))), ?_⟩
    try dsimp only [cxOf, Cx.nox, Cx.wish]
    walk_at "g"
    refine lcL (B := Int) rl st (fun t acc Lc => acc = lens (line.take t) ∧ Lc = L) ⟨rfl, rfl⟩ ?_ ?_
    · rintro t v2 x D acc G' H' Lc hx rx ⟨rfl, eL⟩ u st
      walk_at "g"
      refine g_lenL rx st.gh ?_
      refine put_of u st (by unfold lens; rw [List.length_map, List.length_take]; omega) rep_int ⟨?_, eL⟩
      rw [take_more hx]
      unfold lens
      rw [List.map_append]
      rfl
    rintro D acc G1 H1 Lc ⟨rfl, eL⟩ u1 st
    rw [List.take_length, eL] at st
    obtain ⟨G2, u2, st, r2⟩ := st.ownFrz
    walk_at "g"
    refine g_srtI st r2 fun q3 H3 st => ?_
    obtain ⟨G3, u3, st, r3⟩ := st.ownFrz
    walk_at "g"
    refine g_rvL st r3 fun q4 H4 st => ?_
    rw [upI_rev] at st
    obtain ⟨G4, u4, st, r4⟩ := st.ownFrz
    have u14 := u1.trans (u2.trans (u3.trans u4))
    have rm := rm.up u14
    walk_at "g"
    refine g_lenL rm st.gh ?_
    walk_at "g"
    refine lcR1 (B := Int) (by omega) (by omega) st (fun t acc Lc => acc = [] ∧ Lc = L) ⟨rfl, rfl⟩ ?_ ?_
    · rintro m D acc G' H' Lc hm ⟨rfl, eL⟩ u st
      have h1 := hle m
      walk_at "g"
      refine g_slL st (r4.up u) fun q5 H5 st => ?_
      rw [cut_to (by omega), Int.toNat_natCast] at st
      obtain ⟨G5, u5, st, r5⟩ := st.ownFrz
      walk_at "g"
      refine g_sum r5 st.gh ?_
      walk_at "g"
      refine g_slL st ((rm.up u).up u5) fun q6 H6 st => ?_
      rw [cut_to (by omega), Int.toNat_natCast] at st
      obtain ⟨G6, u6, st, r6⟩ := st.ownFrz
      walk_at "g"
      refine g_sum r6 st.gh ?_
      walk_at "g"
      refine g_ite (fun c => absurd c (by omega)) (fun _ => ?_)
      exact skip_of (u.trans (u5.trans u6)) st ⟨rfl, eL⟩
    rintro D acc G6 H6 Lc ⟨rfl, eL⟩ u6 st
    rw [eL] at st
    obtain ⟨G7, u7, st, r7⟩ := st.ownFrz
    walk_at "g"
    refine ⟨Nat.zero_le _, fun q hq => ?_⟩
    have st := st.trash (o := .lst []) hq
    refine g_eqT (y := ([] : List Int)) r7 rep_nil_new st.gh (Same.refl _) ?_
    rw [decide_eq_true rfl]
    exact k _ _ (u14.trans (u6.trans u7)) st
abbrev s__law_called : Stmt := topS 24
theorem sc__law_called : FnScope ["line", "names", "age", "room"] ["line", "names"] (defScope s__law_called) := ⟨rfl, rfl, rfl, by decide +kernel, rfl, by decide +kernel, by decide +kernel⟩
def spCalled : Sp := fun vs H Q _ => ∃ (v : V) (kn : Addr) (line : List (List Int)) (f : Int → Int) (ps : Gs) (G : Hp) (L : List Res), vs = [v, .ref kn] ∧ Sep G H (cell kn (.dK (kvI (intD ps))) :: L) ∧ Rep G v line ∧ (∀ a ∈ line.flatten, (intD ps).lookup a = some (V.int (f a))) ∧ line.length ≤ 1000 ∧ line.flatten.length ≤ 1000 ∧
  ∀ u G' H', Same G G' → Sep G' H' (cell kn (.dK (kvI (intD ps))) :: L) → Rep G' u (callR f line) → Q u H'
theorem ok__law_called {f : Addr} {fd : FuncData} (F : Fun K "_law_called" "_law_called" s__law_called f fd) (B : Bn mg) : FnOk P w K mg base CX0 1 f fd ["line", "names"] spCalled := by
  have sc := sc__law_called
  refine F.ok sc (fun vs H Q E h => ?_) (fun cdv A outer s H vs Q E hr h => ?_)
  · obtain ⟨v, kn, line, f, ps, G, L, rfl, _⟩ := h
    rfl
  · obtain ⟨v, kn, line, g, ps, G, L, rfl, st, rl, look, hl, hfl, k⟩ := h
    have hu := hu_of hr
    refine ⟨_, (pss_one (ps_ret (pe_lc (own := [("room", 3)]) (g := (gName 3)) (tt := tYes) (te := (tLc (iList K (tVar 3)) (gName 2) tYes (tDGet (tVar 1) (tVar 2)) [2])) rfl sc.nd (pi_list (pv 0)) (blkOk_by (own := [("room", 3)]) (N := ["line", "names", "age", "room"]) (sc := defScope s__law_called) (by decide +kernel)) (fun _ _ _ _ _ => (pg_name (i := 3) sc.nd rfl (by first | exact .inl rfl | exact .inr rfl))) (fun _ _ _ _ _ => pts_nil) (fun _ _ _ _ _ => (pe_lc (own := [("age", 2)]) (g := (gName 2)) (tt := tYes) (te := (tDGet (tVar 1) (tVar 2))) rfl sc.nd (pi_list (pv 3)) (blkOk_by (own := [("age", 2)]) (N := ["line", "names", "age", "room"]) (by kernel_rfl)) (fun _ _ _ _ _ => (pg_name (i := 2) sc.nd rfl (by first | exact .inl rfl | exact .inr rfl))) (fun _ _ _ _ _ => pts_nil) (fun _ _ _ _ _ => (pe_dget hu (pv 1) (pv 2) (fun _ _ => rfl)))))))), ?_⟩
    try dsimp only [cxOf, Cx.nox, Cx.wish]
    walk_at "g"
    refine lcL (B := List Int) rl st (fun t acc Lc => acc = callR g (line.take t) ∧ Lc = cell kn (.dK (kvI (intD ps))) :: L) ⟨rfl, rfl⟩ ?_ ?_
    · rintro t v2 room D acc G' H' Lc hx rx ⟨rfl, eL⟩ u st
      have hm := List.mem_of_getElem? hx
      have hrl := le_flat hm
      walk_at "g"
      refine lcL (B := Int) rx st (fun t2 acc2 Lc2 => acc2 = (room.take t2).map g ∧ Lc2 = OwnL D (callR g (line.take t)) :: Lc) ⟨rfl, rfl⟩ ?_ ?_
      · rintro t2 v3 x D2 acc2 G2 H2 Lc2 hx2 rx2 ⟨rfl, eL2⟩ u2 st2
        obtain rfl := rx2.int
        have hxm := List.mem_of_getElem? hx2
        walk_at "g"
        have st3 := st2
        rw [eL2, eL] at st3
        refine dI_at st3.r3.cellAt (look x (List.mem_flatten.mpr ⟨room, hm, hxm⟩)) ?_
        refine put_of u2 st2 (by rw [List.length_map, List.length_take]; omega) rep_int ⟨?_, eL2⟩
        rw [take_more hx2, List.map_append]
        rfl
      rintro D2 acc2 G2 H2 Lc2 ⟨rfl, eL2⟩ u2 st2
      rw [List.take_length, eL2] at st2
      obtain ⟨G3, u3, st3, r3⟩ := st2.ownFrz
      refine put_of (u.trans (u2.trans u3)) st3 (by unfold callR; rw [List.length_map, List.length_take]; omega) r3 ⟨?_, eL⟩
      rw [take_more hx]
      unfold callR
      rw [List.map_append]
      rfl
    rintro D acc G1 H1 Lc ⟨rfl, eL⟩ u1 st
    rw [List.take_length, eL] at st
    obtain ⟨G2, u2, st, r2⟩ := st.ownFrz
    exact k _ G2 _ (u1.trans u2) st r2
end
end El

namespace El
open PySem L2 EB
section
variable {P : Program} {w : World} {K : PySem.W.Frag} {mg : Str → Option Value} {base : Heap}
abbrev s_law : Stmt := topS 25
theorem sc_law : FnScope ["script", "tray", "k", "some", "told", "turn", "line", "few", "one", "number", "first", "alone", "fresh", "names", "age", "bears", "other"] ["script"] (defScope s_law) := ⟨rfl, rfl, rfl, by decide +kernel, rfl, by decide +kernel, by decide +kernel⟩
def spLaw (K : PySem.W.Frag) : Sp := fun vs H Q _ => ∃ (a : Addr) (ns : List Int), vs = [.ref a] ∧ SqL K H a (ns.map V.int) ∧ ns.length ≤ 63 ∧ ∀ H', Q (.bl true) H'
theorem ok_law {f : Addr} {fd : FuncData} (F : Fun K "law" "law" s_law f fd) (B : Bn mg) (C_law_tray : Cal P w K mg base 1 "_law_tray" (spTray K)) (C_law_draw : Cal P w K mg base 1 "_law_draw" spDraw) (C_law_guests : Cal P w K mg base 4 "_law_guests" spGuests)
    (C_law_ages : Cal P w K mg base 3 "_law_ages" spAges) (C_law_parted : Cal P w K mg base 3 "_law_parted" spParted) (C_law_no_fuller : Cal P w K mg base 1 "_law_no_fuller" spNoFuller) (C_law_called : Cal P w K mg base 1 "_law_called" spCalled)
    (Csizes : Cal P w K mg base 4 "sizes" spSizes) (Cupset : Cal P w K mg base 3 "upset" spUpset) (Crooms : Cal P w K mg base 3 "rooms" spRooms) (Cin_first : Cal P w K mg base 5 "in_first" spInFirst) :
    FnOk P w K mg base CX0 6 f fd ["script"] (spLaw K) := by
  have sc := sc_law
  refine F.ok sc (fun vs H Q E h => ?_) (fun cdv A outer s H vs Q E hr h => ?_)
  · obtain ⟨v, ns, rfl, _⟩ := h
    rfl
  · obtain ⟨a, ns, rfl, hS, hlen, k⟩ := h
    have hu := hu_of hr
    refine ⟨_, (pss_cons (ps_set (i := 1) sc.nd rfl (.inr rfl) (pe_c C_law_tray hr (by decide) rfl (pa_cons (pv 0) pa_nil)))
  (pss_cons (ps_for PassesOwn.never rfl (pi_range1 (by rfl) B.range (pa_cons (pe_op opAdd pe_int (pe_callB (cMin2 rfl) (by rfl) B.min bt_min (pa_cons pe_int (pa_cons (pe_callB cLen (by rfl) B.len bt_len (pa_cons (pv 0) pa_nil)) pa_nil)))) pa_nil)) (pg_name (i := 2) sc.nd rfl (.inl rfl))
  (pss_cons (ps_set (i := 3) sc.nd rfl (.inr rfl) (pe_c C_law_guests hr (by decide) rfl (pa_cons (pv 1) (pa_cons (pe_ix ix_seq (pe_lst (pa_cons pe_int (pa_cons pe_int pa_nil))) (pe_c C_law_draw hr (by decide) rfl (pa_cons (pv 1) (pa_cons pe_int pa_nil))) (fun _ _ => rfl)) pa_nil))))
  (pss_cons (ps_set (i := 4) sc.nd rfl (.inl rfl) (pe_c Csizes hr (by decide) rfl (pa_cons (pv 3) pa_nil)))
  (pss_cons (ps_for PassesOwn.never rfl (pi_range1 (by rfl) B.range (pa_cons pe_int pa_nil)) (pg_name (i := 5) sc.nd rfl (.inl rfl))
  (pss_cons (ps_set (i := 6) sc.nd rfl (.inl rfl) (pe_c C_law_parted hr (by decide) rfl (pa_cons (pv 1) (pa_cons (pv 3) (pa_cons pe_int pa_nil)))))
  (pss_one (ps_if (PW.pt (pw_or (pt_cmpR op_notN1 (pe_c Cupset hr (by decide) rfl (pa_cons (pv 3) (pa_cons (pv 6) pa_nil))) pe_non (nomark _)) (pw_or1 (pt_not (pt_val (pe_c C_law_no_fuller hr (by decide) rfl (pa_cons (pv 6) (pa_cons (pv 4) pa_nil)))))))) (pss_one (ps_ret pe_bl)) pss_nil))))
  (pss_cons (ps_setLc (i := 7) (own := [("one", 8)]) (g := (gName 8)) (tt := (tTest (tOp _ (tCall _ _ _ (tCons (tVar 1) (tCons (tC (V.int 3)) tNil))) (tC (V.int 0))))) (te := (tVar 8)) rfl sc.nd rfl rfl (sw_true rfl rfl rfl (by decide +kernel)) (pi_list (pv 3)) (blkOk_by (own := [("one", 8)]) (N := ["script", "tray", "k", "some", "told", "turn", "line", "few", "one", "number", "first", "alone", "fresh", "names", "age", "bears", "other"]) (sc := defScope s_law) (by decide +kernel)) (fun _ _ _ _ _ => (pg_name (i := 8) sc.nd rfl (by first | exact .inl rfl | exact .inr rfl))) (fun _ _ _ _ _ => (pts_one (pt_cmpR op_gt (pe_c C_law_draw hr (by decide) rfl (pa_cons (pv 1) (pa_cons pe_int pa_nil))) pe_int (nomark _)))) (fun _ _ _ _ _ => (pv 8)))
  (pss_cons (ps_if (pt_not (pt_val (pe_c C_law_no_fuller hr (by decide) rfl (pa_cons (pe_c Crooms hr (by decide) rfl (pa_cons (pv 7) pa_nil)) (pa_cons (pv 4) pa_nil))))) (pss_one (ps_ret pe_bl)) pss_nil)
  (pss_cons (ps_set (i := 9) sc.nd rfl (.inl rfl) (pe_c C_law_draw hr (by decide) rfl (pa_cons (pv 1) (pa_cons (pe_op opAdd (pe_callB cLen (by rfl) B.len bt_len (pa_cons (pv 4) pa_nil)) pe_int) pa_nil))))
  (pss_cons (ps_set (i := 10) sc.nd rfl (.inr rfl) (pe_callB (cSumL rfl) (by rfl) B.sum bt_sum (pa_cons (pe_slice slA (pe_c Crooms hr (by decide) rfl (pa_cons (pv 3) pa_nil)) po_none (po_some (pv 9))) (pa_cons (pe_lst pa_nil) pa_nil))))
  (pss_cons (ps_setLc (i := 11) (own := [("one", 8)]) (g := (gName 8)) (tt := (tTest (tOp (rInA K) (tOp (rIx K) (tVar 8) (tC (V.int 0))) (tVar 10)))) (te := (tVar 8)) rfl sc.nd rfl rfl (sw_true rfl rfl rfl (by decide +kernel)) (pi_list (pv 3)) (blkOk_by (own := [("one", 8)]) (N := ["script", "tray", "k", "some", "told", "turn", "line", "few", "one", "number", "first", "alone", "fresh", "names", "age", "bears", "other"]) (sc := defScope s_law) (by decide +kernel)) (fun _ _ _ _ _ => (pg_name (i := 8) sc.nd rfl (by first | exact .inl rfl | exact .inr rfl))) (fun _ _ _ _ _ => (pts_one (pt_cmpR (opIn (units65 hr)) (pe_ix ix_seq (pv 8) pe_int (fun _ _ => rfl)) (pv 10) (by rfl)))) (fun _ _ _ _ _ => (pv 8)))
  (pss_cons (ps_if (PW.pt (pw_or (pt_cmpR op_gt (pe_callB cLen (by rfl) B.len bt_len (pa_cons (pe_c Csizes hr (by decide) rfl (pa_cons (pv 11) pa_nil)) pa_nil)) (pv 9) (nomark _)) (pw_or1 (pt_cmpR (opNe (units64 hr)) (pe_callB cLen (by rfl) B.len bt_len (pa_cons (pv 11) pa_nil)) (pe_c Cin_first hr (by decide) rfl (pa_cons (pv 3) (pa_cons (pv 9) pa_nil))) (nomark _))))) (pss_one (ps_ret pe_bl)) pss_nil)
  (pss_cons (ps_set (i := 12) sc.nd rfl (.inl rfl) (pe_callB cSorted (by rfl) B.sorted bt_sorted (pa_cons (pe_c C_law_ages hr (by decide) rfl (pa_cons (pv 1) (pa_cons (pe_callB cLen (by rfl) B.len bt_len (pa_cons (pv 3) pa_nil)) pa_nil))) pa_nil)))
  (pss_cons (ps_set (i := 13) sc.nd rfl (.inr rfl) (pe_callTy (cDict rfl) (by rfl) B.dict bt_dict (pa_cons (pe_listZip rfl rfl B.list rfl B.zip (pa_cons (pe_callB cSorted (by rfl) B.sorted bt_sorted (pa_cons (pe_lc (own := [("age", 14), ("bears", 15)]) (g := (gTup K 2 (gCons (gName 14) (gCons (gName 15) gNil)))) (tt := tYes) (te := (tVar 14)) rfl sc.nd (pi_list (pv 3)) (blkOk_by (own := [("age", 14), ("bears", 15)]) (N := ["script", "tray", "k", "some", "told", "turn", "line", "few", "one", "number", "first", "alone", "fresh", "names", "age", "bears", "other"]) (sc := defScope s_law) (by decide +kernel)) (fun _ _ _ _ _ => (pg_tup rfl (pgs_cons (pg_name (i := 14) sc.nd rfl (by first | exact .inl rfl | exact .inr rfl)) (pgs_cons (pg_name (i := 15) sc.nd rfl (by first | exact .inl rfl | exact .inr rfl)) pgs_nil)))) (fun _ _ _ _ _ => pts_nil) (fun _ _ _ _ _ => (pv 14))) pa_nil)) (pa_cons (pv 12) pa_nil))) pa_nil)))
  (pss_cons (ps_setLc (i := 16) (own := [("age", 14), ("bears", 15)]) (g := (gTup K 2 (gCons (gName 14) (gCons (gName 15) gNil)))) (tt := tYes) (te := (tTup (tCons (tDGet (tVar 13) (tVar 14)) (tCons (tCB _ (tCons (tVar 15) (tCons (tCB (EB.rLen K) (tCons (tVar 3) tNil)) tNil))) tNil)))) rfl sc.nd rfl rfl (sw_true rfl rfl rfl (by decide +kernel)) (pi_list (pv 3)) (blkOk_by (own := [("age", 14), ("bears", 15)]) (N := ["script", "tray", "k", "some", "told", "turn", "line", "few", "one", "number", "first", "alone", "fresh", "names", "age", "bears", "other"]) (sc := defScope s_law) (by decide +kernel)) (fun _ _ _ _ _ => (pg_tup rfl (pgs_cons (pg_name (i := 14) sc.nd rfl (by first | exact .inl rfl | exact .inr rfl)) (pgs_cons (pg_name (i := 15) sc.nd rfl (by first | exact .inl rfl | exact .inr rfl)) pgs_nil)))) (fun _ _ _ _ _ => pts_nil) (fun _ _ _ _ _ => (pe_tup (pa_cons (pe_dget hu (pv 13) (pv 14) (fun _ _ => rfl)) (pa_cons (pe_callB (cMin2 rfl) (by rfl) B.min bt_min (pa_cons (pv 15) (pa_cons (pe_callB cLen (by rfl) B.len bt_len (pa_cons (pv 3) pa_nil)) pa_nil))) pa_nil)))))
  (pss_one (ps_if (pt_cmpR (opNe (units64 hr)) (pe_c Crooms hr (by decide) rfl (pa_cons (pv 16) pa_nil)) (pe_c C_law_called hr (by decide) rfl (pa_cons (pe_c Crooms hr (by decide) rfl (pa_cons (pv 3) pa_nil)) (pa_cons (pv 13) pa_nil))) (nomark _)) (pss_one (ps_ret pe_bl)) pss_nil)))))))))))))))
  (pss_one (ps_ret pe_bl)))), ?_⟩
    try dsimp only [cxOf, Cx.nox, Cx.wish]
    walk_at "g"
    refine ⟨a, ns, H, [], rfl, hS, hlen, Sep.all H, fun H1 p st => ?_⟩
    walk_at "g"
    refine g_lenI (st.gh.seq hS) ?_
    walk_at "g"
    refine loopR1 (by omega) (by omega) (fun i σ H' => ∃ (x2 x3 x4 x5 x6 x7 x8 x9 x10 x11 x12 x13 x14 x15 x16 : Option V) (G' : Hp), σ = [some (.ref a), some (.ref p), x2, x3, x4, x5, x6, x7, x8, x9, x10, x11, x12, x13, x14, x15, x16] ∧ EB.Sep G' H' [TrayR p (400000 * i)]) ⟨_, _, _, _, _, _, _, _, _, _, _, _, _, _, _, H, rfl, st⟩ ?_ (fun σ H' _ => ?_)
    · rintro i σ H' hi ⟨x2, x3, x4, x5, x6, x7, x8, x9, x10, x11, x12, x13, x14, x15, x16, G0, rfl, st⟩
      have hi : i < 11 := by omega
      generalize hm0 : 400000 * i = m0 at st
      walk_at "g"
      refine ⟨by show 2 ≤ sizeLine; decide, fun q1 hq1 => ?_⟩
      obtain ⟨G1, u1, st, hq1'⟩ := st.raw hq1
      walk_at "g"
      refine draw_use st (by decide) (by decide) (by omega) fun d2 H2 a2 b2 st => ?_
      refine g_ixLI (ns := [10, 60]) hq1' rfl (by walk_at "sm") a2 b2 fun most hmost _ => ?_
      have hmost : most = 10 ∨ most = 60 := by simpa using hmost
      walk_at "g"
      refine ⟨p, most, _, _, _, rfl, st, by omega, by omega, by omega, fun v gs G3 H3 u3 st r hf hl => ?_⟩
      have g60 : gs.length ≤ 60 := by omega
      have hg := hf.good (by omega)
      have bl := byAge_len gs
      have bfl : (byAge gs).flatten.length ≤ 60 := by rw [(byAge_flat gs).length_eq, List.length_map]; exact g60
      walk_at "g"
      refine ⟨v, gs, _, _, rfl, st, r, hg, fun p4 G4 H4 u4 st => ?_⟩
      obtain ⟨G5, u5, st, r5⟩ := st.ownFrz
      have r := r.up (u4.trans u5)
      walk_at "g"
      refine loopR1 (by omega) (by omega) (fun j σ H' => ∃ (x5 x6 : Option V) (G' : Hp), σ = [some (.ref a), some (.ref p), some (.int i), some v, some (.ref p4), x5, x6, x7, x8, x9, x10, x11, x12, x13, x14, x15, x16] ∧ Same G5 G' ∧ EB.Sep G' H' [TrayR p (m0 + 4000 + 100000 * j)])
        ⟨_, _, G5, rfl, Same.refl _, TrayR.le st (by omega)⟩ ?_ ?_
      · rintro j σ H6 hj ⟨x5, x6, G6, rfl, u6, st⟩
        have hj : j < 3 := by omega
        walk_at "g"
        refine ⟨p, v, 0, gs, _, _, _, rfl, r.up u6, hg, g60, st, by omega, fun u line G7 H7 u7 st rl pm ll calm => ?_⟩
        have calm := calm (by omega)
        have ha : Arr gs line := ⟨pm, by omega⟩
        have up := (calm_upset hg.nd pm).mpr calm
        walk_at "g"
        refine ⟨v, u, gs, line, rfl, (r.up (u6.trans u7)).up st.gh, hg, rl.up st.gh, ha, fun x G8 H8 u8 u8' rx => ?_⟩
        rw [up] at rx
        obtain rfl : x = .non := rx
        have st := st.keep (u8.trans u8')
        walk_at "g"
        refine g_iteN (fun c => absurd rfl c) (fun _ => ?_)
        walk_at "g"
        refine ⟨u, _, line, lens (byAge gs), _, _, rfl, rl, r5.up (u6.trans u7), by omega, by unfold lens; rw [List.length_map]; omega, no_fuller hg (calm.wm hg pm), st, fun G9 H9 u9 st => ?_⟩
        walk_at "g"
        exact ⟨_, _, G9, rfl, u6.trans (u7.trans u9), TrayR.le st (by omega)⟩
      rintro σ H6 ⟨x5, x6, G6, rfl, u6, st⟩
      have r6 := r.up u6
      have r56 := r5.up u6
      have st := TrayR.le st (m := m0 + 310000) (by have : (3 : Int).toNat = 3 := rfl; omega)
      walk_at "g"
      refine lcL (B := Int × Int) r6 st (fun t acc Lc => acc.Sublist (gs.take t) ∧ Lc = [TrayR p (m0 + 310000 + t)]) ⟨List.nil_sublist _, rfl⟩ ?_ ?_
      · rintro t v2 x D acc G' H' Lc hx rx ⟨hs, rfl⟩ u st
        have al := hs.length_le
        rw [List.length_take] at al
        have htl := (List.getElem?_eq_some_iff.mp hx).1
        walk_at "g"
        refine draw_use st.sw (by decide) (by decide) (by omega) fun d9 H9 a9 b9 st => ?_
        walk_at "g"
        refine g_ite (fun c => ?_) (fun c => ?_)
        · walk_at "g"
          refine put_of u st.sw (by omega) rx ⟨?_, rfl⟩
          rw [take_more hx]
          exact hs.append (List.Sublist.refl _)
        · refine skip_of u st.sw ⟨?_, rfl⟩
          rw [take_more hx]
          exact hs.trans (List.sublist_append_left _ _)
      rintro D7 few G7 H7 Lc ⟨hs, rfl⟩ u7 st
      rw [List.take_length] at hs
      have gfew : Good few := ⟨fun g hm => hg.pos g (hs.subset hm), hg.nd.sublist (hs.map _), Nat.le_trans hs.length_le hg.len⟩
      have fl60 : few.length ≤ 60 := Nat.le_trans hs.length_le g60
      have bl7 := byAge_len few
      obtain ⟨G8, u8, st, r8⟩ := st.ownFrz
      walk_at "g"
      refine ⟨_, few, _, _, rfl, st, r8, gfew, fun p9 G9 H9 u9 st => ?_⟩
      obtain ⟨G10, u10, st, r10⟩ := Rooms.frz st
      walk_at "g"
      refine ⟨_, _, byAge few, lens (byAge gs), _, _, rfl, r10, r56.up (u7.trans (u8.trans (u9.trans u10))), by omega, by unfold lens; rw [List.length_map]; omega, no_fuller hg (wm_few hg hs), st, fun G11 H11 u11 st => ?_⟩
      have e11 := u7.trans (u8.trans (u9.trans (u10.trans u11)))
      have r11 := r6.up e11
      have r511 := r56.up e11
      clear r10 r8
      walk_at "g"
      refine g_lenL r511 st.gh ?_
      walk_at "g"
      have ll : (lens (byAge gs)).length ≤ 60 := by unfold lens; rw [List.length_map]; omega
      refine draw_use st (by omega) (by omega) (by omega) fun number H12 a12 b12 st => ?_
      obtain ⟨nm, rfl⟩ : ∃ k : Nat, number = k := ⟨number.toNat, by omega⟩
      walk_at "g"
      refine ⟨v, gs, _, _, rfl, st, r11, hg, fun p13 G13 H13 u13 st => ?_⟩
      obtain ⟨G14, u14, st, r14⟩ := Rooms.frz st
      walk_at "g"
      refine g_slL st r14 fun q15 H15 st => ?_
      rw [cut_to (by omega), Int.toNat_natCast] at st
      obtain ⟨G16, u16, st, r16⟩ := st.ownFrz
      walk_at "g"
      refine ⟨Nat.zero_le _, fun q17 hq17 => ?_⟩
      have st := st.ownNew (vs := []) (xs := ([] : List Int)) hq17 trivial
      have tfl : ((byAge gs).take nm).flatten.length ≤ 60 := by
        have e : (byAge gs).flatten = ((byAge gs).take nm).flatten ++ ((byAge gs).drop nm).flatten := by rw [← List.flatten_append, List.take_append_drop]
        rw [e, List.length_append] at bfl
        omega
      walk_at "g"
      refine g_sumL st r16 (by omega) fun p18 H18 st => ?_
      obtain ⟨G18, u18, st, r18⟩ := st.ownFrz
      have r19 := r11.up (u13.trans (u14.trans (u16.trans u18)))
      walk_at "g"
      refine lcL (B := Int × Int) r19 st (fun t acc Lc => acc = (gs.take t).filter (fun g => decide (g.1 ∈ ((byAge gs).take nm).flatten)) ∧ Lc = [TrayR p (m0 + 310000 + gs.length + 1)]) ⟨rfl, rfl⟩ ?_ ?_
      · rintro t v2 x D acc G' H' Lc hx rx ⟨rfl, eL⟩ u st
        have fl : ((gs.take t).filter (fun g => decide (g.1 ∈ ((byAge gs).take nm).flatten))).length ≤ 60 := Nat.le_trans (List.length_filter_le _ _) (by rw [List.length_take]; omega)
        walk_at "g"
        refine g_ixP0 rx st.gh fun w9 r9 => ?_
        obtain rfl := r9.int
        walk_at "g"
        refine g_inI (r18.up u) st.gh ?_
        walk_at "g"
        refine g_ite (fun c => ?_) (fun c => ?_)
        · walk_at "g"
          refine put_of u st (by omega) rx ⟨?_, eL⟩
          rw [take_more hx, List.filter_append, List.filter_cons_of_pos (by simpa using c)]
          rfl
        · refine skip_of u st ⟨?_, eL⟩
          rw [take_more hx, List.filter_append, List.filter_cons_of_neg (by simpa using c)]
          simp
      rintro D20 acc G20 H20 Lc ⟨rfl, eL⟩ u20 st
      rw [List.take_length, eL] at st
      have gal := good_filter hg (fun g => decide (g.1 ∈ ((byAge gs).take nm).flatten))
      have eal := alone_byAge hg nm
      have lal : (gs.filter (fun g => decide (g.1 ∈ ((byAge gs).take nm).flatten))).length ≤ 60 := Nat.le_trans (List.length_filter_le _ _) g60
      generalize gs.filter (fun g => decide (g.1 ∈ ((byAge gs).take nm).flatten)) = alone at st gal eal lal
      obtain ⟨G21, u21, st, r21⟩ := st.ownFrz
      walk_at "g"
      refine ⟨_, alone, _, _, rfl, st, r21, gal, fun p22 G22 H22 u22 st => ?_⟩
      rw [eal] at st
      walk_at "g"
      refine g_lenO st ?_
      have st := st.drop
      have ln : (lens ((byAge gs).take nm)).length ≤ nm := by unfold lens; rw [List.length_map, List.length_take]; exact Nat.min_le_left _ _
      have efn : (alone.length : Int) = firstN gs (nm : Int) := by
        have h := byAge_sum alone
        rw [eal] at h
        rw [← h]
        unfold firstN lens
        rw [Int.toNat_natCast, List.map_take]
      walk_at "g"
      refine g_ite (fun c => absurd c (by omega)) (fun _ => ?_)
      walk_at "g"
      refine g_lenL (r21.up u22) st.gh ?_
      have r22 := r19.up (u20.trans (u21.trans u22))
      walk_at "g"
      refine ⟨v, gs, nm, rfl, r22.up st.gh, hg, by omega, fun H23 u23 => ?_⟩
      have st := st.keep u23
      rw [← efn]
      walk_at "g"
      refine g_ite (fun c => absurd c (by simp)) (fun _ => ?_)
      walk_at "g"
      refine g_lenL r22 st.gh ?_
      walk_at "g"
      refine ⟨p, gs.length, _, _, _, rfl, st, by omega, by omega, by omega, fun D24 ys G24 H24 u24 nd24 hl24 _ st => ?_⟩
      obtain ⟨G25, u25, st, r25⟩ := st.sw.ownFrz
      walk_at "g"
      refine g_srtI st r25 fun p26 H26 st => ?_
      obtain ⟨G26, u26, st, r26⟩ := st.ownFrz
      have r27 := r22.up (u24.trans (u25.trans u26))
      walk_at "g"
      refine g_lz ?_
      walk_at "g"
      refine lcL (B := Int) r27 st (fun t acc Lc => acc = (gs.take t).map (·.1) ∧ Lc = [TrayR p (m0 + 310000 + gs.length + 1 + 1200)]) ⟨rfl, rfl⟩ ?_ ?_
      · rintro t v2 x D acc G' H' Lc hx rx ⟨rfl, eL⟩ u st
        refine g_tgII rx st.gh rfl ?_
        walk_at "g"
        refine put_of u st (by rw [List.length_map, List.length_take]; omega) rep_int ⟨?_, eL⟩
        rw [take_more hx, List.map_append]
        rfl
      rintro D28 acc G28 H28 Lc ⟨rfl, eL⟩ u28 st
      rw [List.take_length, eL] at st
      obtain ⟨G29, u29, st, r29⟩ := st.ownFrz
      walk_at "g"
      refine g_srtI st r29 fun p30 H30 st => ?_
      obtain ⟨G30, u30, st, r30⟩ := st.ownFrz
      have as1 := upI_strict hg.nd
      have fs1 := upI_strict nd24
      have asl : (upI (gs.map (·.1))).length = gs.length := by rw [(upI_perm _).length_eq, List.length_map]
      have fsl : (upI ys).length = gs.length := by rw [(upI_perm _).length_eq]; omega
      have asm : ∀ x, x ∈ gs.map (·.1) → x ∈ upI (gs.map (·.1)) := fun x hx => (upI_perm _).mem_iff.mpr hx
      generalize upI (gs.map (·.1)) = as at r30 as1 asl asm
      generalize upI ys = fs at r26 fs1 fsl
      have has : as.Nodup := as1.imp fun {x y} h => by omega
      have hlf : as.length = fs.length := by omega
      walk_at "g"
      refine g_listZip r30 (r26.up (u28.trans (u29.trans u30))) st hlf (Nat.le_trans (show as.length ≤ 60 by omega) (by decide)) fun p31 G31 H31 u31 st => ?_
      obtain ⟨G32, u32, st, r32⟩ := st.ownFrz
      have hzf : (as.zip fs).map (·.1) = as := List.map_fst_zip (by omega)
      walk_at "g"
      refine g_dictP st r32 (by rw [hzf]; exact has) fun kn H33 st => ?_
      have look : ∀ x, x ∈ gs.map (·.1) → (intD (as.zip fs)).lookup x = some (V.int (nameOf as fs x)) := fun x hx => by
        rw [intD_get, name_look has hlf (asm x hx)]
        rfl
      have r33 := r27.up (u28.trans (u29.trans (u30.trans (u31.trans u32))))
      walk_at "g"
      refine lcL (B := Int × Int) r33 st (fun t acc Lc => acc = (gs.take t).map (fun g => (nameOf as fs g.1, min g.2 (gs.length : Int))) ∧ Lc = [cell kn (.dK (kvI (intD (as.zip fs)))), TrayR p (m0 + 310000 + gs.length + 1 + 1200)]) ⟨rfl, rfl⟩ ?_ ?_
      · rintro t v2 x D acc G' H' Lc hx rx ⟨rfl, eL⟩ u st
        have hxm := List.mem_of_getElem? hx
        refine g_tgII rx st.gh rfl ?_
        walk_at "g"
        have st2 := st
        rw [eL] at st2
        refine dI_at st2.sw.cellAt (look x.1 (List.mem_map.mpr ⟨x, hxm, rfl⟩)) ?_
        walk_at "g"
        refine g_lenL (r33.up u) st.gh ?_
        walk_at "g"
        refine ⟨by show 2 ≤ sizeLine; decide, fun q34 hq34 => ?_⟩
        obtain ⟨G2, u2, st, r2⟩ := st.tupNew hq34 (rep_int (n := nameOf as fs x.1)) (rep_int (n := min x.2 (gs.length : Int)))
        refine put_of (u.trans u2) st (by rw [List.length_map, List.length_take]; omega) r2 ⟨?_, eL⟩
        rw [take_more hx, List.map_append]
        rfl
      rintro D34 acc G34 H34 Lc ⟨rfl, eL⟩ u34 st
      rw [List.take_length, eL] at st
      have up : ∀ x ∈ gs.map (·.1), ∀ y ∈ gs.map (·.1), x < y → nameOf as fs x < nameOf as fs y := fun x hx y hy h => name_up as1 fs1 hlf (asm x hx) (asm y hy) h
      have eby := byAge_map hg.nd up
      have gother : Good (gs.map fun g => (nameOf as fs g.1, min g.2 (gs.length : Int))) := by
        refine ⟨fun g hm => ?_, ?_, by rw [List.length_map]; exact hg.len⟩
        · obtain ⟨x, hx, rfl⟩ := List.mem_map.mp hm
          have := hg.pos x hx
          show 0 ≤ min x.2 (gs.length : Int)
          omega
        · rw [List.map_map]
          refine List.pairwise_map.mpr ?_
          have hp := List.pairwise_map.mp hg.nd
          refine List.Pairwise.imp_of_mem (fun {x y} hx hy hxy => ?_) hp
          have hx : x.1 ∈ gs.map (·.1) := List.mem_map.mpr ⟨x, hx, rfl⟩
          have hy : y.1 ∈ gs.map (·.1) := List.mem_map.mpr ⟨y, hy, rfl⟩
          show nameOf as fs x.1 ≠ nameOf as fs y.1
          rcases Int.lt_or_gt_of_ne hxy with c | c
          · have := up _ hx _ hy c
            omega
          · have := up _ hy _ hx c
            omega
      obtain ⟨G35, u35, st, r35⟩ := st.ownFrz
      walk_at "g"
      refine ⟨_, _, _, _, rfl, st, r35, gother, fun p36 G36 H36 u36 st => ?_⟩
      obtain ⟨G37, u37, st, r37⟩ := Rooms.frz st
      rw [eby] at r37
      have r38 := r33.up (u34.trans (u35.trans (u36.trans u37)))
      walk_at "g"
      refine ⟨v, gs, _, _, rfl, st, r38, hg, fun p39 G39 H39 u39 st => ?_⟩
      obtain ⟨G40, u40, st, r40⟩ := Rooms.frz st
      walk_at "g"
      refine ⟨_, kn, byAge gs, nameOf as fs, as.zip fs, _, _, rfl, st, r40, fun x hx => look x ((byAge_flat gs).mem_iff.mp hx), by omega, by omega, fun u G41 H41 u41 st r41 => ?_⟩
      refine g_neT (r37.up (u39.trans (u40.trans u41))) r41 st.gh st.gh ?_
      walk_at "g"
      refine g_ite (fun c => absurd rfl c) (fun _ => ?_)
      walk_at "g"
      exact ⟨_, _, _, _, _, _, _, _, _, _, _, _, _, _, _, G41, rfl, TrayR.le st.drop (by omega)⟩
    · walk_at "g"
      exact k _
end
end El

namespace El
open PySem L2 EB PyProof.Rows
theorem all_mk {l : PySem.W.OpenLaw} {w : World} {K : PySem.W.Frag} {h : Heap} {mg : Str → Option Value} {fa f1 f2 f3 f4 f5 f6 f7 f8 f9 f10 f11 f12 f13 f14 f15 f16 f17 f18 f19 : Addr} (X : K.In h) (G : h.Ns mainGlobals mg) (hfa : mg "law" = some (.ref fa))
    {od1 od2 od3 od4 od5 od6 od7 od8 od9 od10 od11 od12 od13 od14 od15 od16 od17 od18 od19 an1 an2 an3 an4 an5 an6 an7 an8 an9 an10 an11 an12 an13 an14 an15 an16 an17 an18 an19 : Option Addr} {sl1 sl2 sl3 sl4 sl5 sl6 sl7 sl8 sl9 sl10 sl11 sl12 sl13 sl14 sl15 sl16 sl17 sl18 sl19 : Array (Option Value)} {oc1 oc2 oc3 oc4 oc5 oc6 oc7 oc8 oc9 oc10 oc11 oc12 oc13 oc14 oc15 oc16 oc17 oc18 oc19 kV1 kV2 kV3 kV4 kV5 kV6 kV7 kV8 kV9 kV10 kV11 kV12 kV13 kV14 kV15 kV16 kV17 kV18 kV19 dc1 dc2 dc3 dc4 dc5 dc6 dc7 dc8 dc9 dc10 dc11 dc12 dc13 dc14 dc15 dc16 dc17 dc18 dc19 pm1 pm2 pm3 pm4 pm5 pm6 pm7 pm8 pm9 pm10 pm11 pm12 pm13 pm14 pm15 pm16 pm17 pm18 pm19 cd1 cd2 cd3 cd4 cd5 cd6 cd7 cd8 cd9 cd10 cd11 cd12 cd13 cd14 cd15 cd16 cd17 cd18 cd19 ct1 ct2 ct3 ct4 ct5 ct6 ct7 ct8 ct9 ct10 ct11 ct12 ct13 ct14 ct15 ct16 ct17 ct18 ct19 : Value}
    (a1 : PySem.W.nsIn K mainGlobals "_law_tray" = some (some (.ref f1))) (l1 : K.lookup f1 = some ⟨oc1, od1, .func (PySem.W.fnOf "_law_tray" "_law_tray" (defArgs s__law_tray) (defBody s__law_tray) (defScope s__law_tray) .none kV1 dc1 pm1 an1 cd1 ct1), sl1⟩) (c1 : PySem.W.codeIn K cd1 "_law_tray" = true) (k1 : PySem.W.keepIn K (.ref f1) = true)
    (a2 : PySem.W.nsIn K mainGlobals "_law_draw" = some (some (.ref f2))) (l2 : K.lookup f2 = some ⟨oc2, od2, .func (PySem.W.fnOf "_law_draw" "_law_draw" (defArgs s__law_draw) (defBody s__law_draw) (defScope s__law_draw) .none kV2 dc2 pm2 an2 cd2 ct2), sl2⟩) (c2 : PySem.W.codeIn K cd2 "_law_draw" = true) (k2 : PySem.W.keepIn K (.ref f2) = true)
    (a3 : PySem.W.nsIn K mainGlobals "need_guests" = some (some (.ref f3))) (l3 : K.lookup f3 = some ⟨oc3, od3, .func (PySem.W.fnOf "need_guests" "need_guests" (defArgs s_need_guests) (defBody s_need_guests) (defScope s_need_guests) .none kV3 dc3 pm3 an3 cd3 ct3), sl3⟩) (c3 : PySem.W.codeIn K cd3 "need_guests" = true) (k3 : PySem.W.keepIn K (.ref f3) = true)
    (a4 : PySem.W.nsIn K mainGlobals "by_age" = some (some (.ref f4))) (l4 : K.lookup f4 = some ⟨oc4, od4, .func (PySem.W.fnOf "by_age" "by_age" (defArgs s_by_age) (defBody s_by_age) (defScope s_by_age) .none kV4 dc4 pm4 an4 cd4 ct4), sl4⟩) (c4 : PySem.W.codeIn K cd4 "by_age" = true) (k4 : PySem.W.keepIn K (.ref f4) = true)
    (a5 : PySem.W.nsIn K mainGlobals "settled" = some (some (.ref f5))) (l5 : K.lookup f5 = some ⟨oc5, od5, .func (PySem.W.fnOf "settled" "settled" (defArgs s_settled) (defBody s_settled) (defScope s_settled) .none kV5 dc5 pm5 an5 cd5 ct5), sl5⟩) (c5 : PySem.W.codeIn K cd5 "settled" = true) (k5 : PySem.W.keepIn K (.ref f5) = true)
    (a6 : PySem.W.nsIn K mainGlobals "rooms" = some (some (.ref f6))) (l6 : K.lookup f6 = some ⟨oc6, od6, .func (PySem.W.fnOf "rooms" "rooms" (defArgs s_rooms) (defBody s_rooms) (defScope s_rooms) .none kV6 dc6 pm6 an6 cd6 ct6), sl6⟩) (c6 : PySem.W.codeIn K cd6 "rooms" = true) (k6 : PySem.W.keepIn K (.ref f6) = true)
    (a7 : PySem.W.nsIn K mainGlobals "sizes" = some (some (.ref f7))) (l7 : K.lookup f7 = some ⟨oc7, od7, .func (PySem.W.fnOf "sizes" "sizes" (defArgs s_sizes) (defBody s_sizes) (defScope s_sizes) .none kV7 dc7 pm7 an7 cd7 ct7), sl7⟩) (c7 : PySem.W.codeIn K cd7 "sizes" = true) (k7 : PySem.W.keepIn K (.ref f7) = true)
    (a8 : PySem.W.nsIn K mainGlobals "need_number" = some (some (.ref f8))) (l8 : K.lookup f8 = some ⟨oc8, od8, .func (PySem.W.fnOf "need_number" "need_number" (defArgs s_need_number) (defBody s_need_number) (defScope s_need_number) .none kV8 dc8 pm8 an8 cd8 ct8), sl8⟩) (c8 : PySem.W.codeIn K cd8 "need_number" = true) (k8 : PySem.W.keepIn K (.ref f8) = true)
    (a9 : PySem.W.nsIn K mainGlobals "in_first" = some (some (.ref f9))) (l9 : K.lookup f9 = some ⟨oc9, od9, .func (PySem.W.fnOf "in_first" "in_first" (defArgs s_in_first) (defBody s_in_first) (defScope s_in_first) .none kV9 dc9 pm9 an9 cd9 ct9), sl9⟩) (c9 : PySem.W.codeIn K cd9 "in_first" = true) (k9 : PySem.W.keepIn K (.ref f9) = true)
    (a10 : PySem.W.nsIn K mainGlobals "need_arrangement" = some (some (.ref f10))) (l10 : K.lookup f10 = some ⟨oc10, od10, .func (PySem.W.fnOf "need_arrangement" "need_arrangement" (defArgs s_need_arrangement) (defBody s_need_arrangement) (defScope s_need_arrangement) .none kV10 dc10 pm10 an10 cd10 ct10), sl10⟩) (c10 : PySem.W.codeIn K cd10 "need_arrangement" = true) (k10 : PySem.W.keepIn K (.ref f10) = true)
    (a11 : PySem.W.nsIn K mainGlobals "upset" = some (some (.ref f11))) (l11 : K.lookup f11 = some ⟨oc11, od11, .func (PySem.W.fnOf "upset" "upset" (defArgs s_upset) (defBody s_upset) (defScope s_upset) .none kV11 dc11 pm11 an11 cd11 ct11), sl11⟩) (c11 : PySem.W.codeIn K cd11 "upset" = true) (k11 : PySem.W.keepIn K (.ref f11) = true)
    (a12 : PySem.W.nsIn K mainGlobals "_law_shuffled" = some (some (.ref f12))) (l12 : K.lookup f12 = some ⟨oc12, od12, .func (PySem.W.fnOf "_law_shuffled" "_law_shuffled" (defArgs s__law_shuffled) (defBody s__law_shuffled) (defScope s__law_shuffled) .none kV12 dc12 pm12 an12 cd12 ct12), sl12⟩) (c12 : PySem.W.codeIn K cd12 "_law_shuffled" = true) (k12 : PySem.W.keepIn K (.ref f12) = true)
    (a13 : PySem.W.nsIn K mainGlobals "_law_ages" = some (some (.ref f13))) (l13 : K.lookup f13 = some ⟨oc13, od13, .func (PySem.W.fnOf "_law_ages" "_law_ages" (defArgs s__law_ages) (defBody s__law_ages) (defScope s__law_ages) .none kV13 dc13 pm13 an13 cd13 ct13), sl13⟩) (c13 : PySem.W.codeIn K cd13 "_law_ages" = true) (k13 : PySem.W.keepIn K (.ref f13) = true)
    (a14 : PySem.W.nsIn K mainGlobals "_law_patience" = some (some (.ref f14))) (l14 : K.lookup f14 = some ⟨oc14, od14, .func (PySem.W.fnOf "_law_patience" "_law_patience" (defArgs s__law_patience) (defBody s__law_patience) (defScope s__law_patience) .none kV14 dc14 pm14 an14 cd14 ct14), sl14⟩) (c14 : PySem.W.codeIn K cd14 "_law_patience" = true) (k14 : PySem.W.keepIn K (.ref f14) = true)
    (a15 : PySem.W.nsIn K mainGlobals "_law_guests" = some (some (.ref f15))) (l15 : K.lookup f15 = some ⟨oc15, od15, .func (PySem.W.fnOf "_law_guests" "_law_guests" (defArgs s__law_guests) (defBody s__law_guests) (defScope s__law_guests) .none kV15 dc15 pm15 an15 cd15 ct15), sl15⟩) (c15 : PySem.W.codeIn K cd15 "_law_guests" = true) (k15 : PySem.W.keepIn K (.ref f15) = true)
    (a16 : PySem.W.nsIn K mainGlobals "_law_parted" = some (some (.ref f16))) (l16 : K.lookup f16 = some ⟨oc16, od16, .func (PySem.W.fnOf "_law_parted" "_law_parted" (defArgs s__law_parted) (defBody s__law_parted) (defScope s__law_parted) .none kV16 dc16 pm16 an16 cd16 ct16), sl16⟩) (c16 : PySem.W.codeIn K cd16 "_law_parted" = true) (k16 : PySem.W.keepIn K (.ref f16) = true)
    (a17 : PySem.W.nsIn K mainGlobals "_law_no_fuller" = some (some (.ref f17))) (l17 : K.lookup f17 = some ⟨oc17, od17, .func (PySem.W.fnOf "_law_no_fuller" "_law_no_fuller" (defArgs s__law_no_fuller) (defBody s__law_no_fuller) (defScope s__law_no_fuller) .none kV17 dc17 pm17 an17 cd17 ct17), sl17⟩) (c17 : PySem.W.codeIn K cd17 "_law_no_fuller" = true) (k17 : PySem.W.keepIn K (.ref f17) = true)
    (a18 : PySem.W.nsIn K mainGlobals "_law_called" = some (some (.ref f18))) (l18 : K.lookup f18 = some ⟨oc18, od18, .func (PySem.W.fnOf "_law_called" "_law_called" (defArgs s__law_called) (defBody s__law_called) (defScope s__law_called) .none kV18 dc18 pm18 an18 cd18 ct18), sl18⟩) (c18 : PySem.W.codeIn K cd18 "_law_called" = true) (k18 : PySem.W.keepIn K (.ref f18) = true)
    (a19 : PySem.W.nsIn K mainGlobals "law" = some (some (.ref f19))) (l19 : K.lookup f19 = some ⟨oc19, od19, .func (PySem.W.fnOf "law" "law" (defArgs s_law) (defBody s_law) (defScope s_law) .none kV19 dc19 pm19 an19 cd19 ct19), sl19⟩) (c19 : PySem.W.codeIn K cd19 "law" = true) (k19 : PySem.W.keepIn K (.ref f19) = true)
    (z1 : PySem.W.nsIn K mainGlobals "len" = some none) (z2 : PySem.W.nsIn K mainGlobals "range" = some none) (z3 : PySem.W.nsIn K mainGlobals "sorted" = some none) (z4 : PySem.W.nsIn K mainGlobals "list" = some none) (z5 : PySem.W.nsIn K mainGlobals "dict" = some none) (z6 : PySem.W.nsIn K mainGlobals "set" = some none) (z7 : PySem.W.nsIn K mainGlobals "sum" = some none) (z8 : PySem.W.nsIn K mainGlobals "max" = some none) (z9 : PySem.W.nsIn K mainGlobals "min" = some none) (z10 : PySem.W.nsIn K mainGlobals "abs" = some none) (z11 : PySem.W.nsIn K mainGlobals "int" = some none) (z12 : PySem.W.nsIn K mainGlobals "str" = some none) (z13 : PySem.W.nsIn K mainGlobals "repr" = some none) (z14 : PySem.W.nsIn K mainGlobals "zip" = some none) (z15 : PySem.W.nsIn K mainGlobals "enumerate" = some none) (z16 : PySem.W.nsIn K mainGlobals "reversed" = some none) (z17 : PySem.W.nsIn K mainGlobals "any" = some none) (z18 : PySem.W.nsIn K mainGlobals "all" = some none) (z19 : PySem.W.nsIn K mainGlobals "isinstance" = some none) (z20 : PySem.W.nsIn K mainGlobals "tuple" = some none) (z21 : PySem.W.nsIn K mainGlobals "bool" = some none) (z22 : PySem.W.nsIn K mainGlobals "ValueError" = some none) :
    ∃ fd : FuncData, (∀ (s : Shared) (v : Value), BindsTo s fd ⟨[v], []⟩ [("script", v)]) ∧ ∀ base : Heap, K.In base → base.Ns mainGlobals mg → FnOk l.prog w K mg base CX0 6 fa fd ["script"] (spLaw K) := by
  have e := hfa.symm.trans (PySem.W.mg_of X G a19)
  cases e
  have B : Bn mg := bn_mk X G fun x hx => by
    simp only [List.mem_cons, List.not_mem_nil, or_false] at hx
    rcases hx with rfl | rfl | rfl | rfl | rfl | rfl | rfl | rfl | rfl | rfl | rfl | rfl | rfl | rfl | rfl | rfl | rfl | rfl | rfl | rfl | rfl | rfl
    · exact z1
    · exact z2
    · exact z3
    · exact z4
    · exact z5
    · exact z6
    · exact z7
    · exact z8
    · exact z9
    · exact z10
    · exact z11
    · exact z12
    · exact z13
    · exact z14
    · exact z15
    · exact z16
    · exact z17
    · exact z18
    · exact z19
    · exact z20
    · exact z21
    · exact z22
  have F1 := fun_mk (st := s__law_tray) l1 c1 k1
  have m1 := PySem.W.mg_of X G a1
  have b1 := F1.binds (ps := ["script"]) fun _ _ _ _ _ _ us hl => match us, hl with | [_], _ => rfl
  have F2 := fun_mk (st := s__law_draw) l2 c2 k2
  have m2 := PySem.W.mg_of X G a2
  have b2 := F2.binds (ps := ["tray", "many"]) fun _ _ _ _ _ _ us hl => match us, hl with | [_, _], _ => rfl
  have F3 := fun_mk (st := s_need_guests) l3 c3 k3
  have m3 := PySem.W.mg_of X G a3
  have b3 := F3.binds (ps := ["guests"]) fun _ _ _ _ _ _ us hl => match us, hl with | [_], _ => rfl
  have F4 := fun_mk (st := s_by_age) l4 c4 k4
  have m4 := PySem.W.mg_of X G a4
  have b4 := F4.binds (ps := ["guests"]) fun _ _ _ _ _ _ us hl => match us, hl with | [_], _ => rfl
  have F5 := fun_mk (st := s_settled) l5 c5 k5
  have m5 := PySem.W.mg_of X G a5
  have b5 := F5.binds (ps := ["guests"]) fun _ _ _ _ _ _ us hl => match us, hl with | [_], _ => rfl
  have F6 := fun_mk (st := s_rooms) l6 c6 k6
  have m6 := PySem.W.mg_of X G a6
  have b6 := F6.binds (ps := ["guests"]) fun _ _ _ _ _ _ us hl => match us, hl with | [_], _ => rfl
  have F7 := fun_mk (st := s_sizes) l7 c7 k7
  have m7 := PySem.W.mg_of X G a7
  have b7 := F7.binds (ps := ["guests"]) fun _ _ _ _ _ _ us hl => match us, hl with | [_], _ => rfl
  have F8 := fun_mk (st := s_need_number) l8 c8 k8
  have m8 := PySem.W.mg_of X G a8
  have b8 := F8.binds (ps := ["j"]) fun _ _ _ _ _ _ us hl => match us, hl with | [_], _ => rfl
  have F9 := fun_mk (st := s_in_first) l9 c9 k9
  have m9 := PySem.W.mg_of X G a9
  have b9 := F9.binds (ps := ["guests", "j"]) fun _ _ _ _ _ _ us hl => match us, hl with | [_, _], _ => rfl
  have F10 := fun_mk (st := s_need_arrangement) l10 c10 k10
  have m10 := PySem.W.mg_of X G a10
  have b10 := F10.binds (ps := ["guests", "arrangement"]) fun _ _ _ _ _ _ us hl => match us, hl with | [_, _], _ => rfl
  have F11 := fun_mk (st := s_upset) l11 c11 k11
  have m11 := PySem.W.mg_of X G a11
  have b11 := F11.binds (ps := ["guests", "arrangement"]) fun _ _ _ _ _ _ us hl => match us, hl with | [_, _], _ => rfl
  have F12 := fun_mk (st := s__law_shuffled) l12 c12 k12
  have m12 := PySem.W.mg_of X G a12
  have b12 := F12.binds (ps := ["tray", "things"]) fun _ _ _ _ _ _ us hl => match us, hl with | [_, _], _ => rfl
  have F13 := fun_mk (st := s__law_ages) l13 c13 k13
  have m13 := PySem.W.mg_of X G a13
  have b13 := F13.binds (ps := ["tray", "many"]) fun _ _ _ _ _ _ us hl => match us, hl with | [_, _], _ => rfl
  have F14 := fun_mk (st := s__law_patience) l14 c14 k14
  have m14 := PySem.W.mg_of X G a14
  have b14 := F14.binds (ps := ["tray", "lot", "many"]) fun _ _ _ _ _ _ us hl => match us, hl with | [_, _, _], _ => rfl
  have F15 := fun_mk (st := s__law_guests) l15 c15 k15
  have m15 := PySem.W.mg_of X G a15
  have b15 := F15.binds (ps := ["tray", "most"]) fun _ _ _ _ _ _ us hl => match us, hl with | [_, _], _ => rfl
  have F16 := fun_mk (st := s__law_parted) l16 c16 k16
  have m16 := PySem.W.mg_of X G a16
  have b16 := F16.binds (ps := ["tray", "some", "way"]) fun _ _ _ _ _ _ us hl => match us, hl with | [_, _, _], _ => rfl
  have F17 := fun_mk (st := s__law_no_fuller) l17 c17 k17
  have m17 := PySem.W.mg_of X G a17
  have b17 := F17.binds (ps := ["line", "told"]) fun _ _ _ _ _ _ us hl => match us, hl with | [_, _], _ => rfl
  have F18 := fun_mk (st := s__law_called) l18 c18 k18
  have m18 := PySem.W.mg_of X G a18
  have b18 := F18.binds (ps := ["line", "names"]) fun _ _ _ _ _ _ us hl => match us, hl with | [_, _], _ => rfl
  have F19 := fun_mk (st := s_law) l19 c19 k19
  have m19 := PySem.W.mg_of X G a19
  have b19 := F19.binds (ps := ["script"]) fun _ _ _ _ _ _ us hl => match us, hl with | [_], _ => rfl
  refine ⟨PySem.W.fnOf "law" "law" (defArgs s_law) (defBody s_law) (defScope s_law) .none kV19 dc19 pm19 an19 cd19 ct19, fun s v => .of_eq rfl, fun base _ _ => ?_⟩
  have G_ok__law_tray := ok__law_tray (P := l.prog) (w := w) (base := base) (F := F1) (B := B)
  have G_ok__law_draw := ok__law_draw (P := l.prog) (w := w) (base := base) (F := F2) (B := B)
  have G_ok_need_guests := ok_need_guests (P := l.prog) (w := w) (base := base) (F := F3) (B := B)
  have G_ok_by_age := ok_by_age (P := l.prog) (w := w) (base := base) (F := F4) (B := B)
  have G_ok_settled := ok_settled (P := l.prog) (w := w) (base := base) (F := F5) (B := B) (Cby_age := (cal_of F4 m4 b4 G_ok_by_age))
  have G_ok_rooms := ok_rooms (P := l.prog) (w := w) (base := base) (F := F6) (B := B) (Cneed_guests := (cal_of F3 m3 b3 G_ok_need_guests)) (Csettled := (cal_of F5 m5 b5 G_ok_settled))
  have G_ok_sizes := ok_sizes (P := l.prog) (w := w) (base := base) (F := F7) (B := B) (Crooms := (cal_of F6 m6 b6 G_ok_rooms))
  have G_ok_need_number := ok_need_number (P := l.prog) (w := w) (base := base) (F := F8) (B := B)
  have G_ok_in_first := ok_in_first (P := l.prog) (w := w) (base := base) (F := F9) (B := B) (Csizes := (cal_of F7 m7 b7 G_ok_sizes)) (Cneed_number := (cal_of F8 m8 b8 G_ok_need_number))
  have G_ok_need_arrangement := ok_need_arrangement (P := l.prog) (w := w) (base := base) (F := F10) (B := B) (Cneed_guests := (cal_of F3 m3 b3 G_ok_need_guests))
  have G_ok_upset := ok_upset (P := l.prog) (w := w) (base := base) (F := F11) (B := B) (Cneed_arrangement := (cal_of F10 m10 b10 G_ok_need_arrangement))
  have G_ok__law_ages := ok__law_ages (P := l.prog) (w := w) (base := base) (F := F13) (B := B) (C_law_draw := (cal_of F2 m2 b2 G_ok__law_draw)) (C_law_shuffled := (cal_of F12 m12 b12 (ok_shuffled (P := l.prog) (w := w) (base := base) (F := F12) (B := B) (C_law_draw := (cal_of F2 m2 b2 G_ok__law_draw)))))
  have G_ok__law_patience := ok__law_patience (P := l.prog) (w := w) (base := base) (F := F14) (B := B) (C_law_draw := (cal_of F2 m2 b2 G_ok__law_draw))
  have G_ok__law_guests := ok__law_guests (P := l.prog) (w := w) (base := base) (F := F15) (B := B) (C_law_draw := (cal_of F2 m2 b2 G_ok__law_draw)) (C_law_ages := (cal_of F13 m13 b13 G_ok__law_ages)) (C_law_patience := (cal_of F14 m14 b14 G_ok__law_patience))
  have G_ok__law_shuffled := ok__law_shuffled (P := l.prog) (w := w) (base := base) (F := F12) (B := B) (C_law_draw := (cal_of F2 m2 b2 G_ok__law_draw))
  have G_ok__law_shuffledL := ok__law_shuffledL (P := l.prog) (w := w) (base := base) (F := F12) (B := B) (C_law_draw := (cal_of F2 m2 b2 G_ok__law_draw))
  have G_ok__law_parted := ok__law_parted (P := l.prog) (w := w) (base := base) (F := F16) (B := B) (C_law_draw := (cal_of F2 m2 b2 G_ok__law_draw)) (C_law_shuffled := (cal_of F12 m12 b12 G_ok__law_shuffledL))
  have G_ok__law_no_fuller := ok__law_no_fuller (P := l.prog) (w := w) (base := base) (F := F17) (B := B)
  have G_ok__law_called := ok__law_called (P := l.prog) (w := w) (base := base) (F := F18) (B := B)
  have G_ok_law := ok_law (P := l.prog) (w := w) (base := base) (F := F19) (B := B) (C_law_tray := (cal_of F1 m1 b1 G_ok__law_tray)) (C_law_draw := (cal_of F2 m2 b2 G_ok__law_draw)) (C_law_guests := (cal_of F15 m15 b15 G_ok__law_guests)) (C_law_ages := (cal_of F13 m13 b13 G_ok__law_ages)) (C_law_parted := (cal_of F16 m16 b16 G_ok__law_parted)) (C_law_no_fuller := (cal_of F17 m17 b17 G_ok__law_no_fuller)) (C_law_called := (cal_of F18 m18 b18 G_ok__law_called)) (Csizes := (cal_of F7 m7 b7 G_ok_sizes)) (Cupset := (cal_of F11 m11 b11 G_ok_upset)) (Crooms := (cal_of F6 m6 b6 G_ok_rooms)) (Cin_first := (cal_of F9 m9 b9 G_ok_in_first))
  exact G_ok_law
end El
open PySem PySem.W PyProof.Rows
set_option maxHeartbeats 0 in
theorem PySem.Challenge.cw_elderinn_k08_whole_any_arrangement_holds : PySem.Challenge.rw_elderinn_k08_whole_any_arrangement.Holds := by
  w_on; o_law; k_head; (case hw => w_witness2)
  k_fill
  refine L2.walk_of (l := PySem.Challenge.rw_elderinn_k08_whole_any_arrangement) (n := 63) (k := 6) (x := "script") (CX := fun _ => L2.CX0) (sp := fun w => El.spLaw _) rfl (by decide) rfl ⟨rfl, by decide, by decide⟩ (fun w h Y => PySem.W.kIn_of Y) ?F (fun _ _ a ns hl _ hS => ⟨a, ns, rfl, hS, hl, fun _ => rfl⟩) (fun _ _ _ _ _ h => h)
  case F =>
    intro w mg fa h KX G hmg
    refine' El.all_mk KX G hmg ?a1 ?l1 ?c1 ?k1 ?a2 ?l2 ?c2 ?k2 ?a3 ?l3 ?c3 ?k3 ?a4 ?l4 ?c4 ?k4 ?a5 ?l5 ?c5 ?k5 ?a6 ?l6 ?c6 ?k6 ?a7 ?l7 ?c7 ?k7 ?a8 ?l8 ?c8 ?k8 ?a9 ?l9 ?c9 ?k9 ?a10 ?l10 ?c10 ?k10 ?a11 ?l11 ?c11 ?k11 ?a12 ?l12 ?c12 ?k12 ?a13 ?l13 ?c13 ?k13 ?a14 ?l14 ?c14 ?k14 ?a15 ?l15 ?c15 ?k15 ?a16 ?l16 ?c16 ?k16 ?a17 ?l17 ?c17 ?k17 ?a18 ?l18 ?c18 ?k18 ?a19 ?l19 ?c19 ?k19 ?z1 ?z2 ?z3 ?z4 ?z5 ?z6 ?z7 ?z8 ?z9 ?z10 ?z11 ?z12 ?z13 ?z14 ?z15 ?z16 ?z17 ?z18 ?z19 ?z20 ?z21 ?z22
    (case a1 => k_is); (case l1 => k_is); (case c1 => k_is); (case k1 => k_is); (case a2 => k_is); (case l2 => k_is)
    (case c2 => k_is); (case k2 => k_is); (case a3 => k_is); (case l3 => k_is); (case c3 => k_is); (case k3 => k_is)
    (case a4 => k_is); (case l4 => k_is); (case c4 => k_is); (case k4 => k_is); (case a5 => k_is); (case l5 => k_is)
    (case c5 => k_is); (case k5 => k_is); (case a6 => k_is); (case l6 => k_is); (case c6 => k_is); (case k6 => k_is)
    (case a7 => k_is); (case l7 => k_is); (case c7 => k_is); (case k7 => k_is); (case a8 => k_is); (case l8 => k_is)
    (case c8 => k_is); (case k8 => k_is); (case a9 => k_is); (case l9 => k_is); (case c9 => k_is); (case k9 => k_is)
    (case a10 => k_is); (case l10 => k_is); (case c10 => k_is); (case k10 => k_is); (case a11 => k_is); (case l11 => k_is)
    (case c11 => k_is); (case k11 => k_is); (case a12 => k_is); (case l12 => k_is); (case c12 => k_is); (case k12 => k_is)
    (case a13 => k_is); (case l13 => k_is); (case c13 => k_is); (case k13 => k_is); (case a14 => k_is); (case l14 => k_is)
    (case c14 => k_is); (case k14 => k_is); (case a15 => k_is); (case l15 => k_is); (case c15 => k_is); (case k15 => k_is)
    (case a16 => k_is); (case l16 => k_is); (case c16 => k_is); (case k16 => k_is); (case a17 => k_is); (case l17 => k_is)
    (case c17 => k_is); (case k17 => k_is); (case a18 => k_is); (case l18 => k_is); (case c18 => k_is); (case k18 => k_is)
    (case a19 => k_is); (case l19 => k_is); (case c19 => k_is); (case k19 => k_is); (case z1 => k_is); (case z2 => k_is)
    (case z3 => k_is); (case z4 => k_is); (case z5 => k_is); (case z6 => k_is); (case z7 => k_is); (case z8 => k_is)
    (case z9 => k_is); (case z10 => k_is); (case z11 => k_is); (case z12 => k_is); (case z13 => k_is); (case z14 => k_is)
    (case z15 => k_is); (case z16 => k_is); (case z17 => k_is); (case z18 => k_is); (case z19 => k_is); (case z20 => k_is)
    (case z21 => k_is); (case z22 => k_is)
