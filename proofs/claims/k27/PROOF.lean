import PyProof.Rows.All
import Wide.All
import OpenK.AllK
import Wide.FinOn
import HandS.ForMost
import HandS.Walk
import HandS.More
import HandS.IsInst
import HandS.Conv
import HandS.DictComp
import HandS.Wide
import HandS.WideMore
import HandS.SortKw
import HandS.SortRule
import HandS.SortInts
import HandS.Codes
import HandS.Deep
import HandS.RaiseMore
import HandS.Style
import HandS.Zip
import HandS.Defaults
import HandS.Flow
import HandS.Steps
import KE.SortData
import PySem.Challenge.RW_elderinn_k27_sent_away_told
set_option Elab.async false
set_option linter.all false
set_option maxRecDepth 100000
set_option maxHeartbeats 4000000
namespace EB
open PySem L2

/-! ### lists that go together -/
def All2 {A B : Type} (R : A → B → Prop) : List A → List B → Prop
  | [], [] => True
  | a :: as, b :: bs => R a b ∧ All2 R as bs
  | [], _ :: _ => False
  | _ :: _, [] => False
section
variable {A B : Type} {R S : A → B → Prop}
theorem All2.mono (h : ∀ a b, R a b → S a b) : ∀ {as : List A} {bs : List B}, All2 R as bs → All2 S as bs
  | [], [], _ => trivial
  | _ :: _, _ :: _, ⟨x, y⟩ => ⟨h _ _ x, All2.mono h y⟩
theorem All2.len : ∀ {as : List A} {bs : List B}, All2 R as bs → as.length = bs.length
  | [], [], _ => rfl
  | _ :: _, _ :: _, ⟨_, y⟩ => congrArg (· + 1) (All2.len y)
theorem All2.get : ∀ {as : List A} {bs : List B} {i : Nat} {b : B}, All2 R as bs → bs[i]? = some b → ∃ a, as[i]? = some a ∧ R a b
  | [], [], _, _, _, h => by simp at h
  | a :: _, b :: _, 0, _, ⟨x, _⟩, h => ⟨a, rfl, (Option.some.inj h) ▸ x⟩
  | _ :: _, _ :: _, i + 1, _, ⟨_, y⟩, h => All2.get (i := i) y h
theorem All2.get' : ∀ {as : List A} {bs : List B} {i : Nat} {a : A}, All2 R as bs → as[i]? = some a → ∃ b, bs[i]? = some b ∧ R a b
  | [], [], _, _, _, h => by simp at h
  | _ :: _, b :: _, 0, _, ⟨x, _⟩, h => ⟨b, rfl, (Option.some.inj h) ▸ x⟩
  | _ :: _, _ :: _, i + 1, _, ⟨_, y⟩, h => All2.get' (i := i) y h
theorem All2.app : ∀ {as : List A} {bs : List B} {cs : List A} {ds : List B}, All2 R as bs → All2 R cs ds → All2 R (as ++ cs) (bs ++ ds)
  | [], [], _, _, _, h => h
  | _ :: _, _ :: _, _, _, ⟨x, y⟩, h => ⟨x, All2.app y h⟩
theorem All2.take : ∀ {as : List A} {bs : List B} (n : Nat), All2 R as bs → All2 R (as.take n) (bs.take n)
  | [], [], n, _ => by simp [All2]
  | _ :: _, _ :: _, 0, _ => trivial
  | _ :: _, _ :: _, n + 1, ⟨x, y⟩ => ⟨x, All2.take n y⟩
theorem All2.drop : ∀ {as : List A} {bs : List B} (n : Nat), All2 R as bs → All2 R (as.drop n) (bs.drop n)
  | [], [], n, _ => by simp [All2]
  | _ :: _, _ :: _, 0, h => h
  | _ :: _, _ :: _, n + 1, ⟨_, y⟩ => All2.drop n y
theorem All2.rev : ∀ {as : List A} {bs : List B}, All2 R as bs → All2 R as.reverse bs.reverse
  | [], [], _ => trivial
  | a :: as, b :: bs, ⟨x, y⟩ => by
    rw [List.reverse_cons, List.reverse_cons]
    exact All2.app (All2.rev y) ⟨x, trivial⟩
theorem All2.set : ∀ {as : List A} {bs : List B} (n : Nat) {a : A} {b : B}, All2 R as bs → R a b → All2 R (as.set n a) (bs.set n b)
  | [], [], _, _, _, _, _ => trivial
  | _ :: _, _ :: _, 0, _, _, ⟨_, y⟩, h => ⟨h, y⟩
  | _ :: _, _ :: _, n + 1, _, _, ⟨x, y⟩, h => ⟨x, All2.set n y h⟩
theorem All2.erase : ∀ {as : List A} {bs : List B} (n : Nat), All2 R as bs → All2 R (as.eraseIdx n) (bs.eraseIdx n)
  | [], [], _, _ => trivial
  | _ :: _, _ :: _, 0, ⟨_, y⟩ => y
  | _ :: _, _ :: _, n + 1, ⟨x, y⟩ => ⟨x, All2.erase n y⟩
theorem All2.one {a : A} {b : B} (h : R a b) : All2 R [a] [b] := ⟨h, trivial⟩
theorem All2.dropLast : ∀ {as : List A} {bs : List B}, All2 R as bs → All2 R as.dropLast bs.dropLast
  | [], [], _ => trivial
  | [_], [_], _ => trivial
  | [_], _ :: _ :: _, ⟨_, h⟩ => h.elim
  | _ :: _ :: _, [_], ⟨_, h⟩ => h.elim
  | _ :: a :: as, _ :: b :: bs, ⟨x, y⟩ => ⟨x, All2.dropLast (as := a :: as) (bs := b :: bs) y⟩
theorem All2.ofMap {f : B → A} (h : ∀ b, R (f b) b) : ∀ bs : List B, All2 R (bs.map f) bs
  | [] => trivial
  | b :: bs => ⟨h b, All2.ofMap h bs⟩
theorem All2.toMap {f : B → A} (h : ∀ a b, R a b → a = f b) : ∀ {as : List A} {bs : List B}, All2 R as bs → as = bs.map f
  | [], [], _ => rfl
  | _ :: _, _ :: _, ⟨x, y⟩ => by rw [List.map_cons, h _ _ x, All2.toMap h y]
theorem All2.mem {as : List A} {bs : List B} {b : B} (h : All2 R as bs) (hb : b ∈ bs) : ∃ a ∈ as, R a b := by
  obtain ⟨i, hi⟩ := List.mem_iff_getElem?.mp hb
  obtain ⟨a, h1, h2⟩ := h.get hi
  exact ⟨a, List.mem_of_getElem? h1, h2⟩
end

/-! ### what a value stands for, over a heap part that is not written any more -/
class Rp (A : Type) where
  rep : Hp → V → A → Prop
  up : ∀ {G G' : Hp} {v : V} {x : A}, Same G G' → rep G v x → rep G' v x
def Rep {A : Type} [Rp A] (G : Hp) (v : V) (x : A) : Prop := Rp.rep G v x
theorem Rep.up {A : Type} [Rp A] {G G' : Hp} {v : V} {x : A} (h : Rep G v x) (s : Same G G') : Rep G' v x := Rp.up s h
instance : Rp Int := ⟨fun _ v x => v = .int x, fun _ h => h⟩
instance : Rp Bool := ⟨fun _ v x => v = .bl x, fun _ h => h⟩
instance : Rp Str := ⟨fun _ v x => v = .str x, fun _ h => h⟩
instance : Rp Unit := ⟨fun _ v _ => v = .non, fun _ h => h⟩
instance {A : Type} [Rp A] : Rp (Option A) := ⟨fun G v x => match x with
  | none => v = .non
  | some a => Rep G v a, fun {G G' v x} s h => match x, h with
  | none, h => h
  | some _, h => Rep.up h s⟩
instance {A B : Type} [Rp A] [Rp B] : Rp (A × B) := ⟨fun G v x => ∃ p a b, v = .ref p ∧ G p = some (.tup [a, b]) ∧ Rep G a x.1 ∧ Rep G b x.2,
  fun s ⟨p, a, b, e, h, x, y⟩ => ⟨p, a, b, e, s _ _ h, x.up s, y.up s⟩⟩
instance {A : Type} [Rp A] : Rp (List A) := ⟨fun G v x => ∃ p vs, v = .ref p ∧ G p = some (.lst vs) ∧ All2 (Rep G) vs x,
  fun s ⟨p, vs, e, h, x⟩ => ⟨p, vs, e, s _ _ h, x.mono fun _ _ r => r.up s⟩⟩
abbrev Reps {A : Type} [Rp A] (G : Hp) (vs : List V) (xs : List A) : Prop := All2 (Rep G) vs xs
theorem Reps.up {A : Type} [Rp A] {G G' : Hp} {vs : List V} {xs : List A} (h : Reps G vs xs) (s : Same G G') : Reps G' vs xs := h.mono fun _ _ r => r.up s
theorem rep_int {G : Hp} {n : Int} : Rep G (.int n) n := rfl
theorem rep_bl {G : Hp} {n : Bool} : Rep G (.bl n) n := rfl
theorem rep_str {G : Hp} {n : Str} : Rep G (.str n) n := rfl
theorem rep_none {A : Type} [Rp A] {G : Hp} : Rep G .non (none : Option A) := rfl
theorem rep_some {A : Type} [Rp A] {G : Hp} {v : V} {a : A} (h : Rep G v a) : Rep G v (some a) := h
theorem Rep.int {G : Hp} {v : V} {n : Int} (h : Rep G v n) : v = .int n := h
theorem Rep.bl {G : Hp} {v : V} {n : Bool} (h : Rep G v n) : v = .bl n := h
theorem Rep.str {G : Hp} {v : V} {n : Str} (h : Rep G v n) : v = .str n := h
theorem reps_ints {G : Hp} (ns : List Int) : Reps G (ns.map V.int) ns := All2.ofMap (f := V.int) (fun _ => rfl) ns
theorem Reps.ints {G : Hp} {vs : List V} {ns : List Int} (h : Reps G vs ns) : vs = ns.map V.int := All2.toMap (fun _ _ e => e) h
theorem Reps.strs {G : Hp} {vs : List V} {ns : List Str} (h : Reps G vs ns) : vs = ns.map V.str := All2.toMap (fun _ _ e => e) h
theorem reps_strs {G : Hp} (ns : List Str) : Reps G (ns.map V.str) ns := All2.ofMap (f := V.str) (fun _ => rfl) ns
theorem Reps.bls {G : Hp} {vs : List V} {ns : List Bool} (h : Reps G vs ns) : vs = ns.map V.bl := All2.toMap (fun _ _ e => e) h
theorem reps_bls {G : Hp} (ns : List Bool) : Reps G (ns.map V.bl) ns := All2.ofMap (f := V.bl) (fun _ => rfl) ns

/-! ### resources: what stands in cells of its own -/
structure Res where
  P : Hp → Hp → Prop
  up : ∀ {G G' h : Hp}, Same G G' → P G h → P G' h
def Join (h1 h2 h : Hp) : Prop := ∀ a, (h1 a = none ∧ h a = h2 a) ∨ (h2 a = none ∧ h a = h1 a)
def Star : List Res → Hp → Hp → Prop
  | [], _, h => ∀ a, h a = none
  | R :: L, G, h => ∃ h1 h2, Join h1 h2 h ∧ R.P G h1 ∧ Star L G h2
theorem Star.up {G G' : Hp} (s : Same G G') : ∀ {L : List Res} {h : Hp}, Star L G h → Star L G' h
  | [], _, x => x
  | R :: _, _, ⟨h1, h2, j, p, q⟩ => ⟨h1, h2, j, R.up s p, Star.up s q⟩
theorem Join.comm {h1 h2 h : Hp} (j : Join h1 h2 h) : Join h2 h1 h := fun a => (j a).symm
theorem Join.assoc {a b bc c h : Hp} (j : Join a bc h) (k : Join b c bc) : ∃ ac, Join b ac h ∧ Join a c ac := by
  refine ⟨fun x => if a x = none then c x else a x, fun x => ?_, fun x => ?_⟩
  · show (b x = none ∧ h x = if a x = none then c x else a x) ∨ ((if a x = none then c x else a x) = none ∧ h x = b x)
    rcases j x with ⟨e1, e2⟩ | ⟨e1, e2⟩ <;> rcases k x with ⟨e3, e4⟩ | ⟨e3, e4⟩
    · exact .inl ⟨e3, by rw [e2, e4, if_pos e1]⟩
    · exact .inr ⟨by rw [if_pos e1]; exact e3, by rw [e2, e4]⟩
    · refine .inl ⟨e3, ?_⟩
      rw [e2]
      by_cases z : a x = none
      · rw [if_pos z, z, ← e4, e1]
      · rw [if_neg z]
    · refine .inl ⟨by rw [← e4]; exact e1, ?_⟩
      rw [e2]
      by_cases z : a x = none
      · rw [if_pos z, z, e3]
      · rw [if_neg z]
  · show (a x = none ∧ (if a x = none then c x else a x) = c x) ∨ (c x = none ∧ (if a x = none then c x else a x) = a x)
    by_cases z : a x = none
    · exact .inl ⟨z, by rw [if_pos z]⟩
    · rcases j x with ⟨e1, _⟩ | ⟨e1, _⟩
      · exact absurd e1 z
      · rcases k x with ⟨e3, e4⟩ | ⟨e3, e4⟩
        · exact .inr ⟨by rw [← e4]; exact e1, by rw [if_neg z]⟩
        · exact .inr ⟨e3, by rw [if_neg z]⟩
theorem Star.swap {A B : Res} {L : List Res} {G h : Hp} : Star (A :: B :: L) G h → Star (B :: A :: L) G h := by
  rintro ⟨h1, h2, j, p, h3, h4, k, q, r⟩
  obtain ⟨ac, m, n⟩ := j.assoc k
  exact ⟨h3, ac, m, q, h1, h4, n, p, r⟩
theorem Star.perm {L L' : List Res} (p : L.Perm L') : ∀ {G h : Hp}, Star L G h → Star L' G h := by
  induction p with
  | nil => exact fun x => x
  | cons x _ ih => exact fun ⟨h1, h2, j, p, q⟩ => ⟨h1, h2, j, p, ih q⟩
  | swap x y l => exact Star.swap
  | trans _ _ ih1 ih2 => exact fun x => ih2 (ih1 x)

/-- G the part that is not written any more, L what stands in cells of its own, both within H -/
structure Sep (G H : Hp) (L : List Res) : Prop where
  gh : Same G H
  ex : ∃ h, Star L G h ∧ Same h H ∧ ∀ a, h a ≠ none → G a = none
section
variable {G H : Hp} {L L' : List Res} {A B C D : Res}
theorem Sep.perm (s : Sep G H L) (p : L.Perm L') : Sep G H L' :=
  let ⟨h, x, y, z⟩ := s.ex
  ⟨s.gh, h, x.perm p, y, z⟩
theorem Sep.sw (s : Sep G H (A :: B :: L)) : Sep G H (B :: A :: L) := s.perm (.swap _ _ _)
theorem Sep.r3 (s : Sep G H (A :: B :: C :: L)) : Sep G H (C :: A :: B :: L) := s.perm ((List.Perm.cons _ (.swap _ _ _)).trans (.swap _ _ _))
theorem Sep.l3 (s : Sep G H (C :: A :: B :: L)) : Sep G H (A :: B :: C :: L) := s.perm ((List.Perm.swap _ _ _).trans (.cons _ (.swap _ _ _)))
theorem Sep.sw2 (s : Sep G H (A :: B :: C :: L)) : Sep G H (A :: C :: B :: L) := s.perm (.cons _ (.swap _ _ _))
theorem Sep.r4 (s : Sep G H (A :: B :: C :: D :: L)) : Sep G H (D :: A :: B :: C :: L) :=
  s.perm ((List.Perm.cons _ (.cons _ (.swap _ _ _))).trans ((List.Perm.cons _ (.swap _ _ _)).trans (.swap _ _ _)))
/-- all is kept -/
theorem Sep.keep {H' : Hp} (s : Sep G H L) (k : Same H H') : Sep G H' L :=
  let ⟨h, x, y, z⟩ := s.ex
  ⟨s.gh.trans k, h, x, y.trans k, z⟩
theorem same_upd {H : Hp} {p : Addr} {o : HO} (h : H p = none) : Same H (upd H p o) := fun b x e => by
  rw [upd_ne (ne_of_none e h)]
  exact e
theorem same_upd_upd {G H : Hp} {p : Addr} {o : HO} (s : Same G H) : Same (upd G p o) (upd H p o) := fun b x e => by
  by_cases z : b = p
  · subst z
    rw [upd_same] at e ⊢
    exact e
  · rw [upd_ne z] at e ⊢
    exact s _ _ e
/-- a new thing that is not written any more -/
theorem Sep.imm {p : Addr} {o : HO} (s : Sep G H L) (hp : H p = none) : Same G (upd G p o) ∧ Sep (upd G p o) (upd H p o) L := by
  have hg : G p = none := s.gh.free hp
  obtain ⟨h, x, y, z⟩ := s.ex
  refine ⟨same_upd hg, same_upd_upd s.gh, h, x.up (same_upd hg), y.trans (same_upd hp), fun a ha => ?_⟩
  have q : a ≠ p := fun e => ha (by rw [e]; exact y.free hp)
  rw [upd_ne q]
  exact z a ha
/-- a new thing of its own -/
theorem Sep.own {p : Addr} {o : HO} {R : Res} (s : Sep G H L) (hp : H p = none) (r : R.P G (upd (fun _ => none) p o)) : Sep G (upd H p o) (R :: L) := by
  obtain ⟨h, x, y, z⟩ := s.ex
  have hh : h p = none := y.free hp
  refine ⟨s.gh.trans (same_upd hp), upd h p o, ⟨_, h, fun a => ?_, r, x⟩, same_upd_upd y, fun a ha => ?_⟩
  · by_cases e : a = p
    · subst e
      exact .inr ⟨hh, by rw [upd_same, upd_same]⟩
    · exact .inl ⟨by rw [upd_ne e], by rw [upd_ne e]⟩
  · by_cases e : a = p
    · subst e
      exact s.gh.free hp
    · rw [upd_ne e] at ha
      exact z a ha
/-- what is there is there -/
theorem Sep.get (s : Sep G H (A :: L)) : ∃ h, A.P G h ∧ Same h H ∧ ∀ a, h a ≠ none → G a = none := by
  obtain ⟨h, ⟨h1, h2, j, p, q⟩, y, z⟩ := s.ex
  have k : Same h1 h := fun a o e => by
    rcases j a with ⟨e1, _⟩ | ⟨_, e2⟩
    · rw [e1] at e
      cases e
    · rw [e2]
      exact e
  exact ⟨h1, p, k.trans y, fun a ha => z a (by
    cases e : h1 a with
    | none => exact absurd e ha
    | some o => rw [k a o e]; simp)⟩
/-- a resource is written: what else stands, stands -/
theorem Sep.chg {H' : Hp} {B : Res} (s : Sep G H (A :: L)) (w : ∀ h, A.P G h → Same h H → ∃ h', B.P G h' ∧ (∀ a, h' a ≠ none → h a ≠ none ∨ H a = none) ∧ Same h' H' ∧ ∀ a o, h a = none → H a = some o → H' a = some o) : Sep G H' (B :: L) := by
  obtain ⟨h, ⟨h1, h2, j, p, q⟩, y, z⟩ := s.ex
  have k : Same h1 h := fun a o e => by
    rcases j a with ⟨e1, _⟩ | ⟨_, e2⟩
    · rw [e1] at e
      cases e
    · rw [e2]
      exact e
  have k2 : Same h2 h := fun a o e => by
    rcases j a with ⟨_, e2⟩ | ⟨e1, _⟩
    · rw [e2]
      exact e
    · rw [e1] at e
      cases e
  have ap : ∀ a o, h2 a = some o → h1 a = none := fun a o e => by
    rcases j a with ⟨e1, _⟩ | ⟨e1, _⟩
    · exact e1
    · rw [e1] at e
      cases e
  have gn : ∀ a, h1 a ≠ none → G a = none := fun a ha => z a (by
    cases e : h1 a with
    | none => exact absurd e ha
    | some o => rw [k a o e]; simp)
  obtain ⟨h', b, n, sm, fr⟩ := w h1 p (k.trans y)
  have h2n : ∀ a, h' a ≠ none → h2 a = none := fun a ha => by
    cases e : h2 a with
    | none => rfl
    | some o =>
      rcases n a ha with n | n
      · exact absurd (ap a o e) n
      · exact absurd (y _ _ (k2 _ _ e)) (by rw [n]; simp)
  refine ⟨fun a o e => fr a o ?_ (s.gh _ _ e), fun a => if h' a = none then h2 a else h' a, ⟨h', h2, fun a => ?_, b, q⟩, fun a o e => ?_, fun a ha => ?_⟩
  · cases e2 : h1 a with
    | none => rfl
    | some u =>
      have := gn a (by rw [e2]; simp)
      rw [this] at e
      cases e
  · by_cases e : h' a = none
    · exact .inl ⟨e, by simp [e]⟩
    · exact .inr ⟨h2n a e, by simp [e]⟩
  · by_cases e2 : h' a = none
    · simp only [e2, if_true] at e
      exact fr a o (ap a o e) (y _ _ (k2 _ _ e))
    · simp only [e2, if_false] at e
      exact sm _ _ e
  · by_cases e2 : h' a = none
    · simp only [e2, if_true] at ha
      cases e3 : h2 a with
      | none => exact absurd e3 ha
      | some o => exact z a (by rw [k2 _ _ e3]; simp)
    · rcases n a e2 with n | n
      · exact gn a n
      · exact s.gh.free n
/-- a resource is written no more -/
theorem Sep.frz (s : Sep G H (A :: L)) : ∃ G', Same G G' ∧ Sep G' H L ∧ ∃ h, A.P G h ∧ Same h G' := by
  obtain ⟨h, ⟨h1, h2, j, p, q⟩, y, z⟩ := s.ex
  have k : Same h1 h := fun a o e => by
    rcases j a with ⟨e1, _⟩ | ⟨_, e2⟩
    · rw [e1] at e
      cases e
    · rw [e2]
      exact e
  have k2 : Same h2 h := fun a o e => by
    rcases j a with ⟨_, e2⟩ | ⟨e1, _⟩
    · rw [e2]
      exact e
    · rw [e1] at e
      cases e
  have gn : ∀ a, h1 a ≠ none → G a = none := fun a ha => z a (by
    cases e : h1 a with
    | none => exact absurd e ha
    | some o => rw [k a o e]; simp)
  have g1 : Same G (fun a => if h1 a = none then G a else h1 a) := fun a o e => by
    by_cases e2 : h1 a = none
    · simp only [e2, if_true]
      exact e
    · rw [gn a e2] at e
      cases e
  refine ⟨fun a => if h1 a = none then G a else h1 a, g1, ⟨fun a o e => ?_, h2, q.up g1, k2.trans y, fun a ha => ?_⟩, h1, p, fun a o e => ?_⟩
  · by_cases e2 : h1 a = none
    · simp only [e2, if_true] at e
      exact s.gh _ _ e
    · simp only [e2, if_false] at e
      exact y _ _ (k _ _ e)
  · have e1 : h1 a = none := by
      rcases j a with ⟨e1, _⟩ | ⟨e1, _⟩
      · exact e1
      · exact absurd e1 ha
    simp only [e1, if_true]
    cases e3 : h2 a with
    | none => exact absurd e3 ha
    | some o => exact z a (by rw [k2 _ _ e3]; simp)
  · have e2 : h1 a ≠ none := by rw [e]; simp
    simp only [e2, if_false]
    exact e
/-- all that is tracked, taken as not written any more -/
theorem Sep.all (H : Hp) : Sep H H [] := ⟨Same.refl H, (fun _ => none), (fun _ => rfl), (fun _ _ (e : (none : Option HO) = some _) => by cases e), fun _ h => absurd rfl h⟩
end
end EB

namespace EB
open PySem L2 PyProof.Rows

/-! ### a stronger reading -/
section
variable {X : Cx} {e : Expr} {pos : Pos}
theorem PEimp {t t' : TE} (h : PE X e t) (w : ∀ σ H Q, t' σ H Q → t σ H Q) : PE X e t' := ⟨fun pins s σ H Q I q => h.run pins s σ H Q I (w σ H Q q)⟩
theorem PTimp {t t' : TT} (h : PT X e t) (w : ∀ σ H Q, t' σ H Q → t σ H Q) : PT X e t' := ⟨fun pins s σ H Q I q => h.run pins s σ H Q I (w σ H Q q)⟩
theorem OpR.imp {f : Value → Value → Sem Value} {r r' : R2} (h : OpR X f r) (w : ∀ x y H Q, r' x y H Q → r x y H Q) : OpR X f r' := fun pins s σ H x y v u Q I rx ry q => h pins s σ H x y v u Q I rx ry (w x y H Q q)
end

/-! ### operators, by what the values are -/
def rAdd : R2 := fun x y H Q => match x, y with
  | .int i, .int j => Q (.int (i + j)) H
  | .int i, .bl k => Q (.int (i + b2i k)) H
  | .str a, .str b => a.length + b.length ≤ sizeLine ∧ Q (.str (a ++ b)) H
  | .ref l, .ref b => ∃ xs zs, H l = some (.lst xs) ∧ H b = some (.lst zs) ∧ xs.length + zs.length ≤ sizeLine ∧ ∀ p, H p = none → Q (.ref p) (upd H p (.lst (xs ++ zs)))
  | _, _ => False
def rSub : R2 := fun x y H Q => match x, y with
  | .int i, .int j => Q (.int (i - j)) H
  | _, _ => False
/-- what a product asks -/
def CM (i j : Int) : Prop := i.natAbs < 2 ^ 250 ∧ j.natAbs < 2 ^ 250
def rMul : R2 := fun x y H Q => match x, y with
  | .int i, .int j => CM i j ∧ Q (.int (i * j)) H
  | .ref l, .int k => ∃ xs, H l = some (.lst xs) ∧ k < 2 ^ 63 ∧ -(2 ^ 63) ≤ k ∧ xs.length * k.toNat ≤ sizeLine ∧ ∀ p, H p = none → Q (.ref p) (upd H p (.lst ((List.replicate k.toNat xs).flatten)))
  | _, _ => False
def rDiv : R2 := fun x y H Q => match x, y with
  | .int i, .int j => 0 < j ∧ j.natAbs < 2 ^ 250 ∧ Q (.int (i / j)) H
  | _, _ => False
def rMod : R2 := fun x y H Q => match x, y with
  | .int i, .int j => 0 < j ∧ Q (.int (i % j)) H
  | _, _ => False
def rPow : R2 := fun x y H Q => match x, y with
  | .int i, .int j => (0 ≤ j ∧ j ≤ 64 ∧ i.natAbs < 2 ^ 250) ∧ Q (.int (i ^ j.toNat)) H
  | _, _ => False
section
variable {X : Cx}
theorem opAdd : OpR X (binaryOp .Add) rAdd := by
  intro pins s σ H x y v u Q I rx ry h
  cases x <;> cases y <;> first
    | exact (show False from h).elim
    | exact op_add pins s σ H _ _ v u Q I rx ry ⟨_, _, rfl, rfl, h⟩
    | exact op_add_ib pins s σ H _ _ v u Q I rx ry ⟨_, _, rfl, rfl, h⟩
    | exact op_add_str pins s σ H _ _ v u Q I rx ry ⟨_, _, rfl, rfl, h.1, h.2⟩
    | exact op_cat pins s σ H _ _ v u Q I rx ry (let ⟨xs, zs, a, b, c, d⟩ := h; ⟨_, _, xs, zs, rfl, rfl, a, b, c, d⟩)
theorem opSub : OpR X (binaryOp .Sub) rSub := by
  intro pins s σ H x y v u Q I rx ry h
  cases x <;> cases y <;> first
    | exact (show False from h).elim
    | exact op_sub pins s σ H _ _ v u Q I rx ry ⟨_, _, rfl, rfl, h⟩
theorem CM.w {i j : Int} (h : CM i j) : CMulW i j := wide_mul h.1 h.2 (by decide) (by decide) (by decide)
theorem opMul : OpR X (binaryOp .Mult) rMul := by
  intro pins s σ H x y v u Q I rx ry h
  cases x <;> cases y <;> first
    | exact (show False from h).elim
    | exact op_mulW pins s σ H _ _ v u Q I rx ry ⟨_, _, rfl, rfl, CM.w h.1, h.2⟩
    | exact op_rep pins s σ H _ _ v u Q I rx ry (let ⟨xs, a, b, c, d, e⟩ := h; ⟨_, _, xs, rfl, rfl, a, c, b, d, e⟩)
theorem opDiv : OpR X (binaryOp .FloorDiv) rDiv := by
  intro pins s σ H x y v u Q I rx ry h
  cases x <;> cases y <;> first
    | exact (show False from h).elim
    | exact op_fdivW pins s σ H _ _ v u Q I rx ry ⟨_, _, rfl, rfl, wide_div h.1 h.2.1 (by decide) (by decide), h.2.2⟩
theorem opMod : OpR X (binaryOp .Mod) rMod := by
  intro pins s σ H x y v u Q I rx ry h
  cases x <;> cases y <;> first
    | exact (show False from h).elim
    | exact op_mod pins s σ H _ _ v u Q I rx ry ⟨_, _, rfl, rfl, h.1, h.2⟩
theorem bits_lt {x : Int} {n : Nat} (h : x.natAbs < 2 ^ n) (h0 : 0 < n) : Builtin.Int.intBits x ≤ n := by
  have b : Builtin.Int.intBits x ≤ x.natAbs.log2 + 1 := by
    unfold Builtin.Int.intBits
    split <;> omega
  have := PySem.Flt.log2_lt_of h0 h
  omega
theorem opPow : OpR X (binaryOp .Pow) rPow := by
  intro pins s σ H x y v u Q I rx ry h
  cases x <;> cases y <;> first
    | exact (show False from h).elim
    | (rename_i i j
       obtain ⟨⟨a, b, c⟩, d⟩ := h
       obtain ⟨t, rfl⟩ := rx
       obtain ⟨t', rfl⟩ := ry
       refine pow_int a ?_ ⟨.int _, H, I.tok _, ⟨_, rfl⟩, d⟩
       have := bits_lt c (by decide)
       have e : (Builtin.Int.intBits i : Int) * j ≤ 1000 * 64 := Int.mul_le_mul (by omega) b a (by decide)
       exact Int.le_trans e (by decide))
/-- a power of written numbers -/
theorem pe_k {e : Expr} {t : TE} {n : Int} (h : PE X e t) (w : ∀ σ H Q, Q (.int n) H → t σ H Q) : PE X e (tC (.int n)) := PEimp h w
def rEqA (K : PySem.W.Frag) : R2 := fun x y H Q => rEq x y H Q ∨ rEqD K x y H Q
def rNeA (K : PySem.W.Frag) : R2 := fun x y H Q => rNe x y H Q ∨ rNeD K x y H Q
theorem opEq (hu : X.A.units + 64 < cLine) : OpR X (compareOp .Eq) (rEqA X.K) := op_eq.or (op_eqD hu)
theorem opNe (hu : X.A.units + 64 < cLine) : OpR X (compareOp .NotEq) (rNeA X.K) := op_ne.or (op_neD hu)
/-- in: a flat thing in a list or tuple of flat things; any data in a list; a sign in a text -/
def rInS : R2 := fun x y H Q => ∃ (c : Nat) (z : Str), x = .str ⟨#[c]⟩ ∧ y = .str z ∧ Q (.bl (decide (c ∈ z.cps.toList))) H
def rNiS : R2 := fun x y H Q => ∃ (c : Nat) (z : Str), x = .str ⟨#[c]⟩ ∧ y = .str z ∧ Q (.bl (!decide (c ∈ z.cps.toList))) H
def rInA (K : PySem.W.Frag) : R2 := fun x y H Q => rIn K false x y H Q ∨ (rInD K x y H Q ∨ rInS x y H Q)
def rNiA (K : PySem.W.Frag) : R2 := fun x y H Q => rIn K true x y H Q ∨ (rNotInD K x y H Q ∨ rNiS x y H Q)
theorem opIn (hu : X.A.units + 65 < cLine) : OpR X (compareOp .In) (rInA X.K) := op_in_seq.or ((op_inD hu).or op_in_sign)
theorem opNi (hu : X.A.units + 65 < cLine) : OpR X (compareOp .NotIn) (rNiA X.K) := op_notIn_seq.or ((op_notInD hu).or op_notIn_sign)
def rSlA (K : PySem.W.Frag) : V → Option Int → Option Int → Hp → VK → Prop := fun x lo hi H Q => rSlL K x lo hi H Q ∨ (∃ z, x = .str z ∧ z.length ≤ sizeLine ∧ Q (.str (cutS z lo hi)) H)
theorem slA : SlR X (rSlA X.K) := sl_list.or sl_str
end
theorem units64 {A : Around} {k : Nat} (hr : Room k A) : A.units + 64 < cLine := hr.units
theorem units65 {A : Around} {k : Nat} (hr : Room k A) : A.units + 65 < cLine := by
  have := hr.un
  omega
end EB

namespace EB
open PySem L2 PyProof.Rows

/-! ### the names that no text stores -/
structure Bn (mg : Str → Option Value) : Prop where
  len : mg "len" = none
  range : mg "range" = none
  sorted : mg "sorted" = none
  list : mg "list" = none
  dict : mg "dict" = none
  set : mg "set" = none
  sum : mg "sum" = none
  max : mg "max" = none
  min : mg "min" = none
  abs : mg "abs" = none
  int : mg "int" = none
  str : mg "str" = none
  repr : mg "repr" = none
  zip : mg "zip" = none
  enumerate : mg "enumerate" = none
  reversed : mg "reversed" = none
  any : mg "any" = none
  all : mg "all" = none
  isinstance : mg "isinstance" = none
  tuple : mg "tuple" = none
  bool : mg "bool" = none
  vErr : mg "ValueError" = none

/-! ### defs called by name: by place, by keyword -/
structure Cal (P : Program) (w : World) (K : PySem.W.Frag) (mg : Str → Option Value) (base : Heap) (k : Nat) (x : Str) (sp : Sp) : Prop where
  ex : ∃ (f : Addr) (fd : FuncData) (ps : List Str), FnOk P w K mg base CX0 k f fd ps sp ∧ mg x = some (.ref f) ∧ PySem.W.keepIn K (.ref f) = true ∧ Binds K fd ps []
structure CalKw (P : Program) (w : World) (K : PySem.W.Frag) (mg : Str → Option Value) (base : Heap) (k : Nat) (x : Str) (ks : List Str) (gV : List V → List V → List V) (sp : Sp) : Prop where
  ex : ∃ (f : Addr) (fd : FuncData) (ps : List Str) (g : List Value → List Value → List Value), FnOk P w K mg base CX0 k f fd ps sp ∧ mg x = some (.ref f) ∧ PySem.W.keepIn K (.ref f) = true ∧ KBinds K fd ps ks g gV
section
variable {X : Cx} {k j : Nat} {x : Str} {p pos apos : Pos} {e o : Expr} {es : List Expr} {kws : List Keyword} {t tk : TA} {ks : List Str} {gV : List V → List V → List V} {sp : Sp}
theorem pe_c (c : Cal X.prog X.w X.K X.mg X.base k x sp) (hr : Room j X.A) (hk : k ≤ j) (hg : Gl X x) (ha : PA X (e :: es) t)
    (hdb : (x == ("__debug__" : Str)) = false := by decide) (he : starEach (e :: es) X.env = (false, eval e X.env) :: starEach es X.env := by rfl) (hpl : (backTo pos (starEach es X.env)).any (·.1) = false := by rfl) :
    PE X (.Call (.Name x p) (e :: es) [] pos) (tCall sp [] E0 t) := by
  obtain ⟨f, fd, ps, F, hm, kp, b⟩ := c.ex
  exact pe_call F (hr.mono hk) hg hm kp b .nil pass0 ha hdb he hpl
theorem pe_kw0 (c : CalKw X.prog X.w X.K X.mg X.base k x ks gV sp) (hr : Room j X.A) (hk : k ≤ j) (hg : Gl X x) (ha : PA X [] tNil) (hkw : PK X kws tk)
    (hall : (backToKw pos (keywordEach kws X.env)).all (·.1.isSome) = true := by rfl) (hks : (backToKw pos (keywordEach kws X.env)).filterMap (·.1) = ks := by rfl) (hdb : (x == ("__debug__" : Str)) = false := by decide)
    (hpl : ((backTo pos (starEach [] X.env)).any (·.1) || (backToKw pos (keywordEach kws X.env)).any (·.1.isNone)) = false := by rfl) :
    PE X (.Call (.Name x p) [] kws pos) (tCallK sp gV E0 tNil tk) := by
  obtain ⟨f, fd, ps, g, F, hm, kp, hb⟩ := c.ex
  refine ⟨fun pins s σ H Q I h => ?_⟩
  refine wpAny_Call_Name_kw (ld_glob I hg hm ?_ hdb)
  refine PySem.W.callWith_KW0 (h₀ := X.base) I.ok.mod.kin kp hall ?_ hpl
  refine thn (hkw.run pos pins s σ H _ I h) fun ws s2 ⟨zs, H2, I2, rz, q2⟩ => ⟨I2.kIn, ?_⟩
  rw [hks]
  exact run_fnk (us := []) (vs := []) F (hr.mono hk) hb pass0 I2 .nil rz q2
end
section
variable {P : Program} {w : World} {K : PySem.W.Frag} {mg : Str → Option Value} {base : Heap} {x qual : Str} {st : Stmt} {f : Addr} {fd : FuncData} {ps ks : List Str} {k : Nat} {sp : Sp} {gV : List V → List V → List V}
theorem cal_of (F : Fun K x qual st f fd) (hm : mg x = some (.ref f)) (hb : Binds K fd ps []) (G : FnOk P w K mg base CX0 k f fd ps sp) : Cal P w K mg base k x sp := ⟨f, fd, ps, G, hm, F.kp, hb⟩
theorem calkw_of {g : List Value → List Value → List Value} (F : Fun K x qual st f fd) (hm : mg x = some (.ref f)) (hb : KBinds K fd ps ks g gV) (G : FnOk P w K mg base CX0 k f fd ps sp) : CalKw P w K mg base k x ks gV sp := ⟨f, fd, ps, g, G, hm, F.kp, hb⟩
end

/-! ### built-in names -/
def rLen (K : PySem.W.Frag) : List V → Hp → VK → Prop := fun xs H Q => match xs with
  | [.str z] => z.length ≤ sizeLine ∧ Q (.int z.length) H
  | [.ref p] => (∃ ys, (SqL K H p ys ∨ SqT K H p ys) ∧ Q (.int ys.length) H) ∨ ∃ kvs, H p = some (.dK kvs) ∧ Q (.int kvs.length) H
  | _ => False
def rAbs : List V → Hp → VK → Prop := fun xs H Q => match xs with
  | [.int i] => Q (.int (if i < 0 then -i else i)) H
  | _ => False
def rMx2 : List V → Hp → VK → Prop := fun xs H Q => match xs with
  | [.int i, .int j] => Q (.int (max i j)) H
  | _ => False
def rMn2 : List V → Hp → VK → Prop := fun xs H Q => match xs with
  | [.int i, .int j] => Q (.int (min i j)) H
  | _ => False
def rInt : List V → Hp → VK → Prop := fun xs H Q => match xs with
  | [.int i] => Q (.int i) H
  | [.bl k] => Q (.int (if k then 1 else 0)) H
  | [.str a] => ∃ n, PySem.intText? a = some n ∧ a.length ≤ 640 ∧ Q (.int n) H
  | _ => False
/-- what a number's text asks -/
def CS (i : Int) : Prop := i.natAbs < 2 ^ 250
def rStr : List V → Hp → VK → Prop := fun xs H Q => match xs with
  | [.int i] => CS i ∧ Q (.str (toString i)) H
  | _ => False
def rSum (K : PySem.W.Frag) : List V → Hp → VK → Prop := fun xs H Q => match xs with
  | [.ref a] => ∃ ns : List Int, SqL K H a (ns.map V.int) ∧ Q (.int ns.sum) H
  | _ => False
def rLst (K : PySem.W.Frag) : List V → Hp → VK → Prop := fun xs H Q => match xs with
  | [.ref p] => ∃ ys, (SqL K H p ys ∨ SqT K H p ys) ∧ ∀ l, H l = none → Q (.ref l) (upd H l (.lst ys))
  | _ => False
section
variable {X : Cx}
theorem cLen : CallR X (.builtin "len") (rLen X.K) := by
  intro pins s σ H xs us Q I r h
  match xs, r, h with
  | [.str z], r, h => exact call_len_str pins s σ H _ us Q I r ⟨z, rfl, h.1, h.2⟩
  | [.ref p], r, h =>
    rcases h with ⟨ys, h, q⟩ | ⟨kvs, h, q⟩
    · exact call_len_seq pins s σ H _ us Q I r ⟨p, ys, rfl, h, q⟩
    · exact call_lenD pins s σ H _ us Q I r ⟨p, kvs, rfl, h, q⟩
theorem cAbs : CallR X (.builtin "abs") rAbs := by
  intro pins s σ H xs us Q I r h
  match xs, r, h with
  | [.int i], r, h => exact call_abs pins s σ H _ us Q I r ⟨i, rfl, h⟩
theorem cMax2 (hc : X.calm = true) : CallR X (.builtin "max") rMx2 := by
  intro pins s σ H xs us Q I r h
  match xs, r, h with
  | [.int i, .int j], r, h => exact call_max2 hc pins s σ H _ us Q I r ⟨i, j, rfl, by
      have e : (if j > i then j else i) = max i j := by
        rw [Int.max_def]
        split <;> split <;> omega
      rw [e]
      exact h⟩
theorem cMin2 (hc : X.calm = true) : CallR X (.builtin "min") rMn2 := by
  intro pins s σ H xs us Q I r h
  match xs, r, h with
  | [.int i, .int j], r, h => exact call_min2 hc pins s σ H _ us Q I r ⟨i, j, rfl, by
      have e : (if j < i then j else i) = min i j := by
        rw [Int.min_def]
        split <;> split <;> omega
      rw [e]
      exact h⟩
theorem cInt : CallR X (.type "int") rInt := by
  intro pins s σ H xs us Q I r h
  match xs, r, h with
  | [.int i], r, h => exact call_int1 pins s σ H _ us Q I r (.inl ⟨i, rfl, h⟩)
  | [.bl k], r, h => exact call_int1 pins s σ H _ us Q I r (.inr ⟨k, rfl, h⟩)
  | [.str a], r, h => exact call_int_str pins s σ H _ us Q I r (let ⟨n, x, y, z⟩ := h; ⟨a, n, rfl, x, y, z⟩)
theorem CS.w {i : Int} (h : CS i) : i.natAbs.log2 < 1920 := Nat.lt_of_lt_of_le (PySem.Flt.log2_lt_of (by decide) h) (by decide)
theorem cStr : CallR X (.type "str") rStr := by
  intro pins s σ H xs us Q I r h
  match xs, r, h with
  | [.int i], r, h => exact call_str_int pins s σ H _ us Q I r ⟨i, rfl, h.1.w, h.2⟩
theorem cRepr : CallR X (.builtin "repr") rStr := by
  intro pins s σ H xs us Q I r h
  match xs, r, h with
  | [.int i], r, h => exact SkE.call_repr_int pins s σ H _ us Q I r ⟨i, rfl, h.1.w, h.2⟩
theorem cSum (hc : X.calm = true) : CallR X (.builtin "sum") (rSum X.K) := by
  intro pins s σ H xs us Q I r h
  match xs, r, h with
  | [.ref a], r, h => exact cr_sum hc pins s σ H _ us Q I r (let ⟨ns, x, y⟩ := h; ⟨a, ns, rfl, x, y⟩)
theorem cList : CallR X (.type "list") (rLst X.K) := by
  intro pins s σ H xs us Q I r h
  match xs, r, h with
  | [.ref p], r, h => exact call_list_of pins s σ H _ us Q I r (let ⟨ys, x, y⟩ := h; ⟨p, ys, rfl, x, y⟩)
end
/-! ### what the names hold -/
theorem bt_len : bootBuiltins "len" = some (.builtin "len") := by decide +kernel
theorem bt_abs : bootBuiltins "abs" = some (.builtin "abs") := by decide +kernel
theorem bt_max : bootBuiltins "max" = some (.builtin "max") := by decide +kernel
theorem bt_min : bootBuiltins "min" = some (.builtin "min") := by decide +kernel
theorem bt_sum : bootBuiltins "sum" = some (.builtin "sum") := by decide +kernel
theorem bt_sorted : bootBuiltins "sorted" = some (.builtin "sorted") := by decide +kernel
theorem bt_repr : bootBuiltins "repr" = some (.builtin "repr") := by decide +kernel
theorem bt_any : bootBuiltins "any" = some (.builtin "any") := by decide +kernel
theorem bt_all : bootBuiltins "all" = some (.builtin "all") := by decide +kernel
theorem bt_isinstance : bootBuiltins "isinstance" = some (.builtin "isinstance") := by decide +kernel
theorem bt_int : bootBuiltins "int" = some (.type "int") := by decide +kernel
theorem bt_str : bootBuiltins "str" = some (.type "str") := by decide +kernel
theorem bt_bool : bootBuiltins "bool" = some (.type "bool") := by decide +kernel
theorem bt_list : bootBuiltins "list" = some (.type "list") := by decide +kernel
theorem bt_dict : bootBuiltins "dict" = some (.type "dict") := by decide +kernel
theorem bt_set : bootBuiltins "set" = some (.type "set") := by decide +kernel
theorem bt_tuple : bootBuiltins "tuple" = some (.type "tuple") := by decide +kernel
theorem bt_zip : bootBuiltins "zip" = some (.type "zip") := by decide +kernel
theorem bt_enumerate : bootBuiltins "enumerate" = some (.type "enumerate") := by decide +kernel
theorem bt_reversed : bootBuiltins "reversed" = some (.type "reversed") := by decide +kernel
theorem bt_range : bootBuiltins "range" = some (.type "range") := by decide +kernel
/-! ### written numbers -/
section
variable {X : Cx} {a b : Expr} {pos : Pos} {i j n : Int}
theorem pc_of (v : Int) {k : Nat} : PE X (.Constant (.int v) k pos) (tC (.int v)) := pe_int
theorem kPow (e : i ^ j.toNat = n) (h : 0 ≤ j ∧ j ≤ 64 ∧ i.natAbs < 2 ^ 250) (h' : True) (ha : PE X a (tC (.int i))) (hb : PE X b (tC (.int j))) : PE X (.BinOp a .Pow b pos) (tC (.int n)) :=
  PEimp (pe_op opPow ha hb) fun _ _ _ q => ⟨h, by rw [e]; exact q⟩
theorem kMul (e : i * j = n) (h : CM i j) (h' : True) (ha : PE X a (tC (.int i))) (hb : PE X b (tC (.int j))) : PE X (.BinOp a .Mult b pos) (tC (.int n)) :=
  PEimp (pe_op opMul ha hb) fun _ _ _ q => ⟨h, by rw [e]; exact q⟩
theorem kAdd (e : i + j = n) (h h' : True) (ha : PE X a (tC (.int i))) (hb : PE X b (tC (.int j))) : PE X (.BinOp a .Add b pos) (tC (.int n)) :=
  PEimp (pe_op opAdd ha hb) fun _ _ _ q => by
    subst e
    exact q
theorem kSub (e : i - j = n) (h h' : True) (ha : PE X a (tC (.int i))) (hb : PE X b (tC (.int j))) : PE X (.BinOp a .Sub b pos) (tC (.int n)) :=
  PEimp (pe_op opSub ha hb) fun _ _ _ q => by
    subst e
    exact q
end
end EB

namespace EB
open PySem L2

/-! ### readings, step by step -/
section
variable {σ : St} {H : Hp} {Q : VK} {D : Ends} {ta tb te : TE} {t u : TS} {c : TT} {i j : Nat} {v w x y : V} {r : R2} {tr : TA} {K : PySem.W.Frag}
theorem g_seq (h : t { D with nx := u D } σ H) : tSeq t u D σ H := h
theorem g_asg (h : te σ H fun x H1 => D.nx (σ.set i (some x)) H1) : tAsg te (gName i) D σ H := h
theorem g_asgT {n : Nat} {g : TGs} (h : te σ H fun x H1 => gTup K n g x σ H1 D.nx) : tAsg te (gTup K n g) D σ H := h
theorem g_asgS {s : TSet} (h : te σ H fun x H1 => ta σ H1 fun o H2 => tb σ H2 fun k H3 => s o k x H3 fun H4 => D.nx σ H4) : tAsg te (gSub ta tb s) D σ H := h
theorem g_name {P : St → Hp → Prop} (h : P (σ.set i (some v)) H) : gName i v σ H P := h
theorem g_par (h : tr σ H fun vs H1 => ∃ v w, vs = [v, w] ∧ D.nx ((σ.set i (some v)).set j (some w)) H1) : tPar i j tr D σ H := h
theorem g_par2 {P : V → V → Prop} (h : P v w) : ∃ a b, [v, w] = [a, b] ∧ P a b := ⟨v, w, rfl, h⟩
theorem g_ret (h : te σ H D.rt) : tRet te D σ H := h
theorem g_drop (h : te σ H fun _ H1 => D.nx σ H1) : tDrop te D σ H := h
theorem g_next (h : D.nx σ H) : tNext D σ H := h
theorem g_brk (h : D.bk σ H) : tBreak D σ H := h
theorem g_if (h : c σ H fun b H1 => if b = true then t D σ H1 else u D σ H1) : tIfS c t u D σ H := h
theorem g_test {P : Bool → Hp → Prop} (h : te σ H fun x H' => ∃ k, x = .bl k ∧ P k H') : tTest te σ H P := h
theorem g_B {P : Bool → Hp → Prop} (h : te σ H fun x H' => ∃ k, x = .bl k ∧ P k H') : tB te σ H P := h
theorem g_bl {b : Bool} {P : Bool → Prop} (h : P b) : ∃ k, V.bl b = .bl k ∧ P k := ⟨b, rfl, h⟩
theorem g_and {c d : TT} {P : Bool → Hp → Prop} (h : c σ H fun b H1 => if b = true then d σ H1 P else P false H1) : tAnd c d σ H P := h
theorem g_or {c d : TT} {P : Bool → Hp → Prop} (h : c σ H fun b H1 => if b = true then P true H1 else d σ H1 P) : tOr c d σ H P := h
theorem g_not {c : TT} {P : Bool → Hp → Prop} (h : c σ H fun b H1 => P (!b) H1) : tNot c σ H P := h
theorem g_ifE {c : TT} (h : c σ H fun b H1 => if b = true then ta σ H1 Q else tb σ H1 Q) : tIf c ta tb σ H Q := h
theorem g_var (hv : σ[i]? = some (some v)) (h : Q v H) : tVar i σ H Q := ⟨v, hv, h⟩
theorem g_c (h : Q v H) : tC v σ H Q := h
theorem g_op (h : ta σ H fun x H1 => tb σ H1 fun y H2 => r x y H2 Q) : tOp r ta tb σ H Q := h
theorem g_un {f : V → Hp → VK → Prop} (h : ta σ H fun x H1 => f x H1 Q) : tUn f ta σ H Q := h
theorem g_cb {f : List V → Hp → VK → Prop} (h : tr σ H fun vs H1 => f vs H1 Q) : tCB f tr σ H Q := h
theorem g_nil {P : List V → Hp → Prop} (h : P [] H) : tNil σ H P := h
theorem g_cons {P : List V → Hp → Prop} (h : ta σ H fun x H1 => tr σ H1 fun xs H2 => P (x :: xs) H2) : tCons ta tr σ H P := h
theorem g_tup (h : tr σ H fun xs H1 => xs.length ≤ sizeLine ∧ ∀ p, H1 p = none → Q (.ref p) (upd H1 p (.tup xs))) : tTup tr σ H Q := h
theorem g_lst (h : tr σ H fun xs H1 => xs.length ≤ sizeLine ∧ ∀ p, H1 p = none → Q (.ref p) (upd H1 p (.lst xs))) : tLst tr σ H Q := h
theorem g_call {sp : Sp} {E : XK} (h : tr σ H fun vs H1 => sp vs H1 Q E) : tCall sp [] E tr σ H Q := by
  show tr σ H fun vs H1 => sp (vs ++ []) H1 Q E
  have e : (fun (vs : List V) (H1 : Hp) => sp (vs ++ []) H1 Q E) = fun vs H1 => sp vs H1 Q E := by
    funext vs H1
    rw [List.append_nil]
  rw [e]
  exact h
theorem g_callK {sp : Sp} {E : XK} {g : List V → List V → List V} {tk : TA} (h : tr σ H fun vs H1 => tk σ H1 fun zs H2 => sp (g vs zs) H2 Q E) : tCallK sp g E tr tk σ H Q := h
theorem g_aug {ti : TIp} (hv : σ[i]? = some (some x)) (h : te σ H fun y H1 => ti x y H1 fun z H2 => D.nx (σ.set i (some z)) H2) : tAug i te ti D σ H := ⟨x, hv, h⟩
theorem g_ipI {f : Int → Int → Int} {a b : Int} (h : Q (.int (f a b)) H) : ipI f (.int a) (.int b) H Q := ⟨a, b, rfl, rfl, h⟩
/-! the values' own steps -/
theorem g_rI0 {g : Int → Int → V} {a b : Int} (h : Q (g a b) H) : rI0 g (.int a) (.int b) H Q := ⟨a, b, rfl, rfl, h⟩
theorem g_rU {g : Int → V} {a : Int} (h : Q (g a) H) : rU g (.int a) H Q := ⟨a, rfl, h⟩
theorem g_add {a b : Int} (h : Q (.int (a + b)) H) : rAdd (.int a) (.int b) H Q := h
theorem g_addb {a : Int} {b : Bool} (h : Q (.int (a + PyProof.Rows.b2i b)) H) : rAdd (.int a) (.bl b) H Q := h
theorem g_sub {a b : Int} (h : Q (.int (a - b)) H) : rSub (.int a) (.int b) H Q := h
theorem g_mul {a b : Int} (hc : CM a b) (h : Q (.int (a * b)) H) : rMul (.int a) (.int b) H Q := ⟨hc, h⟩
theorem g_div {a b : Int} (h0 : 0 < b) (h1 : b.natAbs < 2 ^ 250) (h : Q (.int (a / b)) H) : rDiv (.int a) (.int b) H Q := ⟨h0, h1, h⟩
theorem g_mod {a b : Int} (h0 : 0 < b) (h : Q (.int (a % b)) H) : rMod (.int a) (.int b) H Q := ⟨h0, h⟩
theorem g_pow {a b : Int} (h0 : 0 ≤ b ∧ b ≤ 64 ∧ a.natAbs < 2 ^ 250) (h : Q (.int (a ^ b.toNat)) H) : rPow (.int a) (.int b) H Q := ⟨h0, h⟩
theorem g_abs {a : Int} (h : Q (.int (if a < 0 then -a else a)) H) : rAbs [.int a] H Q := h
theorem g_max {a b : Int} (h : Q (.int (max a b)) H) : rMx2 [.int a, .int b] H Q := h
theorem g_min {a b : Int} (h : Q (.int (min a b)) H) : rMn2 [.int a, .int b] H Q := h
theorem g_intI {a : Int} (h : Q (.int a) H) : rInt [.int a] H Q := h
theorem g_intB {a : Bool} (h : Q (.int (if a then 1 else 0)) H) : rInt [.bl a] H Q := h
theorem g_str {a : Int} (hc : CS a) (h : Q (.str (toString a)) H) : rStr [.int a] H Q := ⟨hc, h⟩
theorem g_eqI {a b : Int} (h : Q (.bl (decide (a = b))) H) : rEqA K (.int a) (.int b) H Q := .inl ⟨rfl, by
  have e : decide (V.int a = V.int b) = decide (a = b) := by simp
  rw [e]; exact h⟩
theorem g_neI {a b : Int} (h : Q (.bl (decide (a ≠ b))) H) : rNeA K (.int a) (.int b) H Q := .inl ⟨rfl, by
  have e : (!decide (V.int a = V.int b)) = decide (a ≠ b) := by simp
  rw [e]; exact h⟩
theorem g_eqS {a b : Str} (h : Q (.bl (decide (a = b))) H) : rEqA K (.str a) (.str b) H Q := .inl ⟨rfl, by
  have e : decide (V.str a = V.str b) = decide (a = b) := by simp
  rw [e]; exact h⟩
theorem g_neS {a b : Str} (h : Q (.bl (decide (a ≠ b))) H) : rNeA K (.str a) (.str b) H Q := .inl ⟨rfl, by
  have e : (!decide (V.str a = V.str b)) = decide (a ≠ b) := by simp
  rw [e]; exact h⟩
theorem g_isN (h : Q (.bl (decide (x = .non))) H) : rIsN x .non H Q := ⟨rfl, h⟩
theorem g_notN (h : Q (.bl (!decide (x = .non))) H) : rNotN x .non H Q := ⟨rfl, h⟩
theorem g_ite {p A B : Prop} [Decidable p] (h1 : p → A) (h2 : ¬ p → B) : if decide p = true then A else B := by
  by_cases h : p
  · rw [decide_eq_true h, if_pos rfl]
    exact h1 h
  · rw [decide_eq_false h, if_neg Bool.false_ne_true]
    exact h2 h
theorem g_iteT {A B : Prop} (h : A) : if true = true then A else B := by
  rw [if_pos rfl]
  exact h
theorem g_iteF {A B : Prop} (h : B) : if false = true then A else B := by
  rw [if_neg Bool.false_ne_true]
  exact h
theorem g_iteN {p A B : Prop} [Decidable p] (h1 : ¬ p → A) (h2 : p → B) : if (!decide p) = true then A else B := by
  by_cases h : p
  · rw [decide_eq_true h]
    exact g_iteF (h2 h)
  · rw [decide_eq_false h]
    exact g_iteT (h1 h)
theorem g_iteb {b : Bool} {A B : Prop} (h1 : b = true → A) (h2 : b = false → B) : if b = true then A else B := by
  cases b
  · exact g_iteF (h2 rfl)
  · exact g_iteT (h1 rfl)
/-! targets that are tuples -/
theorem g_tg2 {g1 g2 : TG} {P : St → Hp → Prop} {a : Addr} (h : SqT K H a [v, w]) (q : g1 v σ H fun σ1 H1 => g2 w σ1 H1 P) : gTup K 2 (gCons g1 (gCons g2 gNil)) (.ref a) σ H P :=
  ⟨a, [v, w], rfl, h, rfl, v, [w], rfl, by
    have e : (fun σ' H' => gCons g2 gNil [w] σ' H' P) = fun σ1 H1 => g2 w σ1 H1 P := by
      funext σ' H'
      apply propext
      constructor
      · rintro ⟨a, b, e, z⟩
        cases e
        have e2 : (fun σ2 H2 => gNil [] σ2 H2 P) = P := by
          funext σ2 H2
          apply propext
          exact ⟨fun z => z.2, fun z => ⟨rfl, z⟩⟩
        rw [e2] at z
        exact z
      · intro z
        refine ⟨w, [], rfl, ?_⟩
        have e2 : (fun σ2 H2 => gNil [] σ2 H2 P) = P := by
          funext σ2 H2
          apply propext
          exact ⟨fun z => z.2, fun z => ⟨rfl, z⟩⟩
        rw [e2]
        exact z
    rw [e]
    exact q⟩
theorem Rep.pair {A B : Type} [Rp A] [Rp B] {G H : Hp} {v : V} {x : A × B} (h : Rep G v x) (s : Same G H) : ∃ p a b, v = .ref p ∧ SqT K H p [a, b] ∧ Rep G a x.1 ∧ Rep G b x.2 :=
  let ⟨p, a, b, e, h, x, y⟩ := h
  ⟨p, a, b, e, .inl (.inl (s _ _ h)), x, y⟩
theorem Rep.list {A : Type} [Rp A] {G H : Hp} {v : V} {x : List A} (h : Rep G v x) (s : Same G H) : ∃ p vs, v = .ref p ∧ SqL K H p vs ∧ Reps G vs x :=
  let ⟨p, vs, e, h, x⟩ := h
  ⟨p, vs, e, .inl (.inl (s _ _ h)), x⟩
end

/-! ### loops -/
/-- a for over a list that stands for xs in a part G that is not written while the loop goes -/
theorem for_rep {A : Type} [Rp A] {K : PySem.W.Frag} {G : Hp} {p : Addr} {vs : List V} {xs : List A} {g : TG} {tb : TS} {D : Ends} {σ : St} {H : Hp} (rs : Reps G vs xs) (Pv : Nat → St → Hp → Prop) (h0 : Pv 0 σ H) (hl : ∀ i σ H, i ≤ xs.length → Pv i σ H → SqL K H p vs)
    (hs : ∀ i v x σ H, xs[i]? = some x → Rep G v x → Pv i σ H → g v σ H fun σ2 H2 => tb { D with nx := Pv (i + 1), ct := Pv (i + 1), bk := D.nx } σ2 H2) (hd : ∀ σ H, Pv xs.length σ H → D.nx σ H) :
    ∃ W : Nat → Nat → St → Hp → Prop, (∃ m, W 0 m σ H) ∧ ∀ i m σ H, W i m σ H →
      ((Itl K p).stop i H ∧ D.nx σ H) ∨ ((Itl K p).go i H ∧ ∃ N : St → Hp → Prop, (∀ σ' H', N σ' H' → ∃ m', m' < m ∧ W (i + 1) m' σ' H') ∧ ∀ x H', (Itl K p).yld i H x H' → g x σ H' fun σ2 H2 => tb { D with nx := N, ct := N, bk := D.nx } σ2 H2) := by
  refine for_list (K := K) (a := p) (xs := vs) Pv h0 (fun i σ H hi => hl i σ H (by rw [← rs.len]; exact hi)) (fun i v σ H hi pv => ?_) (fun σ H pv => hd σ H (by rw [← rs.len]; exact pv))
  obtain ⟨x, hx, r⟩ := rs.get' hi
  exact hs i v x σ H hx r pv
end EB

namespace EB
open PySem L2

section
variable {σ : St} {H : Hp} {Q : VK} {D : Ends} {ta tb te tl : TE} {t u : TS} {c : TT} {i j : Nat} {v w x y : V} {r : R2} {tr : TA} {K : PySem.W.Frag} {g g1 g2 : TG} {tbd : TS}

/-! ### targets -/
theorem g_tgP {A B : Type} [Rp A] [Rp B] {x : A × B} {G : Hp} {n : Nat} {P : St → Hp → Prop} (r : Rep G v x) (s : Same G H) (hn : n = 2) (q : ∀ a b, Rep G a x.1 → Rep G b x.2 → g1 a σ H fun σ1 H1 => g2 b σ1 H1 P) :
    gTup K n (gCons g1 (gCons g2 gNil)) v σ H P := by
  obtain ⟨p, a, b, rfl, hs, ra, rb⟩ := r.pair (K := K) s
  subst hn
  exact g_tg2 hs (q a b ra rb)
theorem g_tgII {x : Int × Int} {G : Hp} {n : Nat} {P : St → Hp → Prop} (r : Rep G v x) (s : Same G H) (hn : n = 2) (q : g1 (.int x.1) σ H fun σ1 H1 => g2 (.int x.2) σ1 H1 P) :
    gTup K n (gCons g1 (gCons g2 gNil)) v σ H P := g_tgP r s hn fun a b ra rb => by
  obtain rfl := ra.int
  obtain rfl := rb.int
  exact q
/-- the pair of an enumerate or a zip -/
theorem g_tgN {n : Nat} {P : St → Hp → Prop} {T : Addr} {a b : V} (hT : H T = none) (hn : n = 2) (q : g1 a σ (upd H T (.tup [a, b])) fun σ1 H1 => g2 b σ1 H1 P) :
    gTup K n (gCons g1 (gCons g2 gNil)) (.ref T) σ (upd H T (.tup [a, b])) P := by
  subst hn
  exact g_tg2 (.inl (.inl upd_same)) q

/-! ### for -/
/-- what a for asks of an iterator -/
def Loop (J : It) (g : TG) (tbd : TS) (D : Ends) (σ : St) (H : Hp) : Prop := ∃ W : Nat → Nat → St → Hp → Prop, (∃ m, W 0 m σ H) ∧ ∀ i m σ H, W i m σ H →
      (J.stop i H ∧ D.nx σ H) ∨ (J.go i H ∧ ∃ N : St → Hp → Prop, (∀ σ' H', N σ' H' → ∃ m', m' < m ∧ W (i + 1) m' σ' H') ∧ ∀ x H', J.yld i H x H' → g x σ H' fun σ2 H2 => tbd { D with nx := N, ct := N, bk := D.nx } σ2 H2)
theorem g_for {wi : TI} (h : wi σ H fun J H1 => Loop J g tbd D σ H1) : tFor wi g tbd D σ H := h
theorem g_iL {R : It → Hp → Prop} (h : tl σ H fun x H1 => ∃ a, x = .ref a ∧ (∃ xs, SqL K H1 a xs) ∧ R (Itl K a) H1) : iList K tl σ H R := h
theorem g_iT {R : It → Hp → Prop} (h : tl σ H fun x H1 => ∃ a, x = .ref a ∧ (∃ xs, SqT K H1 a xs) ∧ R (Itt K a) H1) : iTup K tl σ H R := h
theorem g_iR1 {R : It → Hp → Prop} (h : tr σ H fun vs H1 => ∃ j : Int, vs = [.int j] ∧ -(2 ^ 62) ≤ j ∧ j < 2 ^ 62 ∧ R (Itr 0 j.toNat) H1) : iRng1 tr σ H R := h
theorem g_iR2 {R : It → Hp → Prop} (h : tr σ H fun vs H1 => ∃ i j : Int, vs = [.int i, .int j] ∧ (-(2 ^ 62) ≤ i ∧ i < 2 ^ 62 ∧ -(2 ^ 62) ≤ j ∧ j < 2 ^ 62) ∧ R (Itr i (j - i).toNat) H1) : iRng2 tr σ H R := h
theorem g_iE {R : It → Hp → Prop} (h : tr σ H fun vs H1 => ∃ a xs, vs = [.ref a] ∧ SqL K H1 a xs ∧ R (Ite K a) H1) : iEnum K tr σ H R := h
theorem g_iZ {R : It → Hp → Prop} (h : tr σ H fun vs H1 => ∃ a b xs ys, vs = [.ref a, .ref b] ∧ SqL K H1 a xs ∧ SqL K H1 b ys ∧ R (Itz K a b) H1) : iZip K tr σ H R := h
theorem g_iV {R : It → Hp → Prop} (h : tr σ H fun vs H1 => ∃ (a : Addr) (xs : List V), vs = [.ref a] ∧ SqL K H1 a xs ∧ R (Itv K a xs.length) H1) : iRev K tr σ H R := h
/-- over a list that stands for xs -/
theorem loopL {A : Type} [Rp A] {G : Hp} {xs : List A} (r : Rep G v xs) (s : Same G H) (Pv : Nat → St → Hp → Prop) (h0 : Pv 0 σ H) (hl : ∀ i σ H, i ≤ xs.length → Pv i σ H → Same G H)
    (hs : ∀ i v x σ H, xs[i]? = some x → Rep G v x → Pv i σ H → g v σ H fun σ2 H2 => tbd { D with nx := Pv (i + 1), ct := Pv (i + 1), bk := D.nx } σ2 H2) (hd : ∀ σ H, Pv xs.length σ H → D.nx σ H) :
    ∃ a, v = .ref a ∧ (∃ xs, SqL K H a xs) ∧ Loop (Itl K a) g tbd D σ H := by
  obtain ⟨p, vs, rfl, h, rs⟩ := id r
  have sq : ∀ {H}, Same G H → SqL K H p vs := fun s => .inl (.inl (s _ _ h))
  exact ⟨p, rfl, ⟨vs, sq s⟩, for_rep rs Pv h0 (fun i σ H hi pv => sq (hl i σ H hi pv)) hs hd⟩
/-- over a list of ints, read off the heap (the script) -/
theorem loopI {a : Addr} {ns : List Int} (s : SqL K H a (ns.map V.int)) (Pv : Nat → St → Hp → Prop) (h0 : Pv 0 σ H) (hl : ∀ i σ H, i ≤ ns.length → Pv i σ H → SqL K H a (ns.map V.int))
    (hs : ∀ i n σ H, ns[i]? = some n → Pv i σ H → g (.int n) σ H fun σ2 H2 => tbd { D with nx := Pv (i + 1), ct := Pv (i + 1), bk := D.nx } σ2 H2) (hd : ∀ σ H, Pv ns.length σ H → D.nx σ H) :
    ∃ p, V.ref a = .ref p ∧ (∃ xs, SqL K H p xs) ∧ Loop (Itl K p) g tbd D σ H :=
  ⟨a, rfl, ⟨_, s⟩, for_list (K := K) (a := a) (xs := ns.map V.int) Pv h0 (fun i σ H hi pv => hl i σ H (by simpa using hi) pv) (fun i x σ H hi pv => by
    rw [List.getElem?_map] at hi
    cases e : ns[i]? with
    | none => rw [e] at hi; cases hi
    | some n =>
      rw [e] at hi
      cases hi
      exact hs i n σ H e pv) (fun σ H pv => hd σ H (by simpa using pv))⟩
/-- over a range -/
theorem loopR1 {n : Int} (b : n < 2 ^ 62) (b' : -(2 ^ 62) ≤ n) (Pv : Nat → St → Hp → Prop) (h0 : Pv 0 σ H)
    (hs : ∀ i σ H, i < n.toNat → Pv i σ H → g (.int i) σ H fun σ2 H2 => tbd { D with nx := Pv (i + 1), ct := Pv (i + 1), bk := D.nx } σ2 H2) (hd : ∀ σ H, Pv n.toNat σ H → D.nx σ H) :
    ∃ j : Int, [V.int n] = [.int j] ∧ -(2 ^ 62) ≤ j ∧ j < 2 ^ 62 ∧ Loop (Itr 0 j.toNat) g tbd D σ H :=
  ⟨n, rfl, b', b, for_range Pv h0 (fun i σ H hi pv => by
    rw [Int.zero_add]
    exact hs i σ H hi pv) hd⟩
theorem loopR2 {m n : Int} (b : -(2 ^ 62) ≤ m ∧ m < 2 ^ 62 ∧ -(2 ^ 62) ≤ n ∧ n < 2 ^ 62) (Pv : Nat → St → Hp → Prop) (h0 : Pv 0 σ H)
    (hs : ∀ i σ H, i < (n - m).toNat → Pv i σ H → g (.int (m + i)) σ H fun σ2 H2 => tbd { D with nx := Pv (i + 1), ct := Pv (i + 1), bk := D.nx } σ2 H2) (hd : ∀ σ H, Pv (n - m).toNat σ H → D.nx σ H) :
    ∃ i j : Int, [V.int m, V.int n] = [.int i, .int j] ∧ (-(2 ^ 62) ≤ i ∧ i < 2 ^ 62 ∧ -(2 ^ 62) ≤ j ∧ j < 2 ^ 62) ∧ Loop (Itr i (j - i).toNat) g tbd D σ H :=
  ⟨m, n, rfl, b, for_range Pv h0 hs hd⟩
/-- enumerate of a list that stands for xs: the turn's pair is unpacked -/
theorem loopE {A : Type} [Rp A] {G : Hp} {xs : List A} {n : Nat} (r : Rep G v xs) (s : Same G H) (hn : n = 2) (Pv : Nat → St → Hp → Prop) (h0 : Pv 0 σ H) (hl : ∀ i σ H, i ≤ xs.length → Pv i σ H → Same G H)
    (hs : ∀ i v x σ H H', xs[i]? = some x → Rep G v x → Pv i σ H → Same H H' → g1 (.int i) σ H' fun σ1 H1 => g2 v σ1 H1 fun σ2 H2 => tbd { D with nx := Pv (i + 1), ct := Pv (i + 1), bk := D.nx } σ2 H2) (hd : ∀ σ H, Pv xs.length σ H → D.nx σ H) :
    ∃ a xs, [v] = [V.ref a] ∧ SqL K H a xs ∧ Loop (Ite K a) (gTup K n (gCons g1 (gCons g2 gNil))) tbd D σ H := by
  obtain ⟨p, vs, rfl, h, rs⟩ := id r
  have sq : ∀ {H}, Same G H → SqL K H p vs := fun s => .inl (.inl (s _ _ h))
  refine ⟨p, vs, rfl, sq s, for_it (walk_enum (xs := vs)) Pv h0 (fun i σ H hi pv => sq (hl i σ H (by rw [← rs.len]; exact hi) pv)) (fun i x σ H H' hi pv y => ?_) (fun σ H pv => hd σ H (by rw [← rs.len]; exact pv))⟩
  obtain ⟨T, a, b, rfl, hT, rfl, ea, eb⟩ := y
  cases ea
  obtain ⟨z, hz, rz⟩ := rs.get' eb
  refine g_tgN hT hn ?_
  exact hs i b z σ H _ hz rz pv (same_upd hT)
/-- zip of two lists -/
theorem loopZ {A B : Type} [Rp A] [Rp B] {G : Hp} {xs : List A} {ys : List B} {n : Nat} (r : Rep G v xs) (r' : Rep G w ys) (s : Same G H) (hn : n = 2) (Pv : Nat → St → Hp → Prop) (h0 : Pv 0 σ H) (hl : ∀ i σ H, i ≤ min xs.length ys.length → Pv i σ H → Same G H)
    (hs : ∀ i a b x y σ H H', xs[i]? = some x → ys[i]? = some y → Rep G a x → Rep G b y → Pv i σ H → Same H H' → g1 a σ H' fun σ1 H1 => g2 b σ1 H1 fun σ2 H2 => tbd { D with nx := Pv (i + 1), ct := Pv (i + 1), bk := D.nx } σ2 H2)
    (hd : ∀ σ H, Pv (min xs.length ys.length) σ H → D.nx σ H) :
    ∃ a b xs ys, [v, w] = [V.ref a, V.ref b] ∧ SqL K H a xs ∧ SqL K H b ys ∧ Loop (Itz K a b) (gTup K n (gCons g1 (gCons g2 gNil))) tbd D σ H := by
  obtain ⟨p, vs, rfl, h, rs⟩ := id r
  obtain ⟨q, ws, rfl, h', rs'⟩ := id r'
  have sq : ∀ {H}, Same G H → SqL K H p vs := fun s => .inl (.inl (s _ _ h))
  have sq' : ∀ {H}, Same G H → SqL K H q ws := fun s => .inl (.inl (s _ _ h'))
  have e : min xs.length ys.length = min vs.length ws.length := by rw [rs.len, rs'.len]
  refine ⟨p, q, vs, ws, rfl, sq s, sq' s, for_it (walk_zip (xs := vs) (ys := ws) e) Pv h0 (fun i σ H hi pv => ⟨sq (hl i σ H hi pv), sq' (hl i σ H hi pv)⟩) (fun i x σ H H' hi pv y => ?_) hd⟩
  obtain ⟨T, a, b, rfl, hT, rfl, ea, eb⟩ := y
  obtain ⟨z, hz, rz⟩ := rs.get' ea
  obtain ⟨z', hz', rz'⟩ := rs'.get' eb
  refine g_tgN hT hn ?_
  exact hs i a b z z' σ H _ hz hz' rz rz' pv (same_upd hT)
/-- reversed of a list -/
theorem loopV {A : Type} [Rp A] {G : Hp} {xs : List A} (r : Rep G v xs) (s : Same G H) (Pv : Nat → St → Hp → Prop) (h0 : Pv 0 σ H) (hl : ∀ i σ H, i ≤ xs.length → Pv i σ H → Same G H)
    (hs : ∀ i v x σ H, i < xs.length → xs[xs.length - 1 - i]? = some x → Rep G v x → Pv i σ H → g v σ H fun σ2 H2 => tbd { D with nx := Pv (i + 1), ct := Pv (i + 1), bk := D.nx } σ2 H2) (hd : ∀ σ H, Pv xs.length σ H → D.nx σ H) :
    ∃ (a : Addr) (xs : List V), [v] = [V.ref a] ∧ SqL K H a xs ∧ Loop (Itv K a xs.length) g tbd D σ H := by
  obtain ⟨p, vs, rfl, h, rs⟩ := id r
  have sq : ∀ {H}, Same G H → SqL K H p vs := fun s => .inl (.inl (s _ _ h))
  refine ⟨p, vs, rfl, sq s, for_it (walk_rev (xs := vs)) Pv h0 (fun i σ H hi pv => sq (hl i σ H (by rw [← rs.len]; exact hi) pv)) (fun i x σ H H' hi pv y => ?_) (fun σ H pv => hd σ H (by rw [← rs.len]; exact pv))⟩
  obtain ⟨rfl, e⟩ := y
  obtain ⟨z, hz, rz⟩ := rs.get' e
  rw [rs.len] at hz hi
  exact hs i x z σ H' hi hz rz pv
end
theorem take_more {A : Type} {l : List A} {i : Nat} {x : A} (h : l[i]? = some x) : l.take (i + 1) = l.take i ++ [x] := by
  rw [List.take_add_one, h]
  rfl
theorem foldl_more {A B : Type} {l : List A} {i : Nat} {x : A} {f : B → A → B} {b : B} (h : l[i]? = some x) : (l.take (i + 1)).foldl f b = f ((l.take i).foldl f b) x := by
  rw [take_more h, List.foldl_append]
  rfl
end EB

namespace EB
open PySem L2

/-! ### resources by their cells -/
def emp : Hp := fun _ => none
theorem Join.left {h : Hp} : Join h emp h := fun a => by
  cases e : h a with
  | none => exact .inl ⟨rfl, rfl⟩
  | some o => exact .inr ⟨rfl, rfl⟩
theorem star_one {A : Res} {G h : Hp} (p : A.P G h) : Star [A] G h := ⟨h, emp, Join.left, p, fun _ => rfl⟩
theorem join_emp {h1 h2 h : Hp} (j : Join h1 h2 h) (e : ∀ a, h2 a = none) : h = h1 := by
  funext a
  rcases j a with ⟨e1, e2⟩ | ⟨_, e2⟩
  · rw [e1, e2, e a]
  · exact e2
theorem star_app : ∀ {L L' : List Res} {G h : Hp}, Star (L ++ L') G h ↔ ∃ h1 h2, Join h1 h2 h ∧ Star L G h1 ∧ Star L' G h2
  | [], L', G, h => by
    constructor
    · intro x
      exact ⟨emp, h, Join.left.comm, fun _ => rfl, x⟩
    · rintro ⟨h1, h2, j, e, x⟩
      have : h = h2 := join_emp j.comm e
      rw [this]
      exact x
  | A :: L, L', G, h => by
    constructor
    · rintro ⟨h1, h2, j, p, q⟩
      obtain ⟨h3, h4, k, x, y⟩ := star_app.mp q
      -- h = h1 + (h3 + h4)
      obtain ⟨ac, m, n⟩ := j.assoc k.comm
      -- h = h4 + ac, ac = h1 + h3
      exact ⟨ac, h4, m.comm, ⟨h1, h3, n, p, x⟩, y⟩
    · rintro ⟨h1, h2, j, ⟨h3, h4, k, p, q⟩, y⟩
      obtain ⟨ac, m, n⟩ := j.comm.assoc k
      exact ⟨h3, ac, m, p, star_app.mpr ⟨h4, h2, n.comm, q, y⟩⟩
def cell (p : Addr) (o : HO) : Res := ⟨fun _ h => h = upd emp p o, fun _ x => x⟩
def Res.ex {A : Type} (f : A → Res) : Res := ⟨fun G h => ∃ a, (f a).P G h, fun s ⟨a, x⟩ => ⟨a, (f a).up s x⟩⟩
def Res.if (c : Prop) (R : Res) : Res := ⟨fun G h => c ∧ R.P G h, fun s ⟨c, x⟩ => ⟨c, R.up s x⟩⟩
def Res.all (L : List Res) : Res := ⟨fun G h => Star L G h, fun s x => x.up s⟩
/-- a list of its own that stands for xs -/
def OwnL {A : Type} [Rp A] (p : Addr) (xs : List A) : Res := ⟨fun G h => ∃ vs, h = upd emp p (.lst vs) ∧ Reps G vs xs, fun s ⟨vs, e, r⟩ => ⟨vs, e, r.up s⟩⟩
section
variable {G H : Hp} {L : List Res} {A : Res} {p : Addr} {o o' : HO}
theorem Sep.imp {A B : Res} (s : Sep G H (A :: L)) (f : ∀ h, A.P G h → B.P G h) : Sep G H (B :: L) :=
  let ⟨h, ⟨h1, h2, j, p, q⟩, y, z⟩ := s.ex
  ⟨s.gh, h, ⟨h1, h2, j, f _ p, q⟩, y, z⟩
theorem Sep.exO {B : Type} {f : B → Res} (s : Sep G H (Res.ex f :: L)) : ∃ a, Sep G H (f a :: L) :=
  let ⟨h, ⟨h1, h2, j, ⟨a, p⟩, q⟩, y, z⟩ := s.ex
  ⟨a, s.gh, h, ⟨h1, h2, j, p, q⟩, y, z⟩
theorem Sep.exI {B : Type} {f : B → Res} (a : B) (s : Sep G H (f a :: L)) : Sep G H (Res.ex f :: L) := s.imp fun _ x => ⟨a, x⟩
theorem Sep.ifO {c : Prop} (s : Sep G H (Res.if c A :: L)) : c ∧ Sep G H (A :: L) :=
  let ⟨h, ⟨h1, h2, j, ⟨a, p⟩, q⟩, y, z⟩ := s.ex
  ⟨a, s.gh, h, ⟨h1, h2, j, p, q⟩, y, z⟩
theorem Sep.ifI {c : Prop} (hc : c) (s : Sep G H (A :: L)) : Sep G H (Res.if c A :: L) := s.imp fun _ x => ⟨hc, x⟩
theorem Sep.allO {M : List Res} (s : Sep G H (Res.all M :: L)) : Sep G H (M ++ L) :=
  let ⟨h, ⟨h1, h2, j, p, q⟩, y, z⟩ := s.ex
  ⟨s.gh, h, star_app.mpr ⟨h1, h2, j, p, q⟩, y, z⟩
theorem Sep.allI {M : List Res} (s : Sep G H (M ++ L)) : Sep G H (Res.all M :: L) :=
  let ⟨h, x, y, z⟩ := s.ex
  let ⟨h1, h2, j, p, q⟩ := star_app.mp x
  ⟨s.gh, h, ⟨h1, h2, j, p, q⟩, y, z⟩
theorem Sep.cellAt (s : Sep G H (cell p o :: L)) : H p = some o := by
  obtain ⟨h, e, y, _⟩ := s.get
  have e' : h = upd emp p o := e
  subst e'
  exact y p o upd_same
theorem Sep.cellG (s : Sep G H (cell p o :: L)) : G p = none := by
  obtain ⟨h, e, _, z⟩ := s.get
  have e' : h = upd emp p o := e
  subst e'
  exact z p (by rw [upd_same]; simp)
theorem Sep.cellSet (s : Sep G H (cell p o :: L)) : Sep G (upd H p o') (cell p o' :: L) := by
  refine s.chg (B := cell p o') fun h e y => ?_
  have e' : h = upd emp p o := e
  subst e'
  refine ⟨upd emp p o', rfl, fun a ha => ?_, fun a u e => ?_, fun a u e1 e2 => ?_⟩
  · by_cases z : a = p
    · subst z
      exact .inl (by rw [upd_same]; simp)
    · rw [upd_ne z] at ha
      exact absurd rfl ha
  · by_cases z : a = p
    · subst z
      rw [upd_same] at e ⊢
      exact e
    · rw [upd_ne z] at e
      cases e
  · have z : a ≠ p := fun z => by
      subst z
      rw [upd_same] at e1
      cases e1
    rw [upd_ne z]
    exact e2
theorem Sep.cellNew (s : Sep G H L) (hp : H p = none) : Sep G (upd H p o) (cell p o :: L) := s.own hp rfl
theorem Sep.cellNe {q : Addr} {u : HO} (s : Sep G H (cell p o :: cell q u :: L)) : p ≠ q := fun z => by
  subst z
  obtain ⟨h, ⟨h1, h2, j, e1, h3, h4, k, e2, _⟩, _, _⟩ := s.ex
  have e1' : h1 = upd emp p o := e1
  have e2' : h3 = upd emp p u := e2
  subst e1' e2'
  rcases j p with ⟨e, _⟩ | ⟨e, _⟩
  · rw [upd_same] at e; cases e
  · rcases k p with ⟨e', _⟩ | ⟨_, e'⟩
    · rw [upd_same] at e'; cases e'
    · rw [e', upd_same] at e; cases e
/-! lists of their own -/
section
variable {B : Type} [Rp B] {xs ys : List B} {x : B} {v : V} {vs : List V}
theorem Sep.ownO (s : Sep G H (OwnL p xs :: L)) : ∃ vs, Reps G vs xs ∧ Sep G H (cell p (.lst vs) :: L) :=
  let ⟨h, ⟨h1, h2, j, ⟨vs, e, r⟩, q⟩, y, z⟩ := s.ex
  ⟨vs, r, s.gh, h, ⟨h1, h2, j, e, q⟩, y, z⟩
theorem Sep.ownI (r : Reps G vs xs) (s : Sep G H (cell p (.lst vs) :: L)) : Sep G H (OwnL p xs :: L) := s.imp fun _ e => ⟨vs, e, r⟩
theorem Sep.ownNew (s : Sep G H L) (hp : H p = none) (r : Reps G vs xs) : Sep G (upd H p (.lst vs)) (OwnL p xs :: L) := (s.cellNew hp).ownI r
/-- it is read at the heap as it stands -/
theorem Sep.ownRep (s : Sep G H (OwnL p xs :: L)) : Rep H (.ref p) xs :=
  let ⟨vs, r, s'⟩ := s.ownO
  ⟨p, vs, rfl, s'.cellAt, r.up s.gh⟩
/-- it is written no more -/
theorem Sep.ownFrz (s : Sep G H (OwnL p xs :: L)) : ∃ G', Same G G' ∧ Sep G' H L ∧ Rep G' (.ref p) xs := by
  obtain ⟨G', a, b, h, ⟨vs, e, r⟩, d⟩ := s.frz
  subst e
  exact ⟨G', a, b, p, vs, rfl, d _ _ upd_same, r.up a⟩
end
/-- a new pair, a new list that are not written any more -/
theorem Sep.tupNew {B C : Type} [Rp B] [Rp C] {a b : V} {x : B} {y : C} (s : Sep G H L) (hp : H p = none) (ra : Rep G a x) (rb : Rep G b y) :
    ∃ G', Same G G' ∧ Sep G' (upd H p (.tup [a, b])) L ∧ Rep G' (.ref p) (x, y) :=
  let ⟨u, t⟩ := s.imm (o := .tup [a, b]) hp
  ⟨_, u, t, p, a, b, rfl, upd_same, ra.up u, rb.up u⟩
theorem Sep.lstNew {B : Type} [Rp B] {vs : List V} {xs : List B} (s : Sep G H L) (hp : H p = none) (r : Reps G vs xs) :
    ∃ G', Same G G' ∧ Sep G' (upd H p (.lst vs)) L ∧ Rep G' (.ref p) xs :=
  let ⟨u, t⟩ := s.imm (o := .lst vs) hp
  ⟨_, u, t, p, vs, rfl, upd_same, r.up u⟩
/-- a thing that is forgotten -/
theorem Sep.trash (s : Sep G H L) (hp : H p = none) : Sep G (upd H p o) L := s.keep (same_upd hp)
theorem Sep.drop (s : Sep G H (A :: L)) : Sep G H L := by
  obtain ⟨h, ⟨h1, h2, j, p, q⟩, y, z⟩ := s.ex
  have k2 : Same h2 h := fun a o e => by
    rcases j a with ⟨_, e2⟩ | ⟨e1, _⟩
    · rw [e2]
      exact e
    · rw [e1] at e
      cases e
  exact ⟨s.gh, h2, q, k2.trans y, fun a ha => z a (by
    cases e : h2 a with
    | none => exact absurd e ha
    | some o => rw [k2 a o e]; simp)⟩
end
end EB

namespace EB
open PySem L2

/-! ### readings of what stands for data -/
theorem small_le {n : Nat} (h : n ≤ 1000000) : n ≤ sizeLine := Nat.le_trans h (by decide)
theorem small_lt {n : Nat} (h : n < 1000000) : n < sizeLine := Nat.lt_of_lt_of_le h (by decide)
theorem Rep.sql {A : Type} [Rp A] {G H : Hp} {K : PySem.W.Frag} {p : Addr} {xs : List A} (r : Rep G (.ref p) xs) (s : Same G H) : ∃ vs, SqL K H p vs ∧ Reps G vs xs := by
  obtain ⟨q, vs, e, h, rs⟩ := r
  cases e
  exact ⟨vs, .inl (.inl (s _ _ h)), rs⟩
def rInsert : V → List V → Hp → VK → Prop := fun x vs H Q => ∃ (l : Addr) (xs : List V) (i : Int) (y : V), x = .ref l ∧ vs = [.int i, y] ∧ H l = some (.lst xs) ∧ xs.length < sizeLine ∧ 0 ≤ i ∧ i < 2 ^ 63 ∧ Q V.non (upd H l (.lst (xs.take i.toNat ++ [y] ++ xs.drop i.toNat)))
theorem mt_insertA {X : Cx} : MtR X "list.insert" rInsert := mt_insert
section
variable {σ : St} {G H : Hp} {Q : VK} {D : Ends} {ta tb te tl : TE} {i j : Nat} {v w x y : V} {tr : TA} {K : PySem.W.Frag} {L : List Res} {p : Addr}
variable {A : Type} [Rp A] {xs ys : List A} {a : A}
theorem g_lenL (r : Rep G v xs) (s : Same G H) (q : Q (.int (xs.length : Int)) H) : rLen K [v] H Q := by
  obtain ⟨p, vs, rfl, h, rs⟩ := r
  exact .inl ⟨vs, .inl (.inl (.inl (s _ _ h))), by rw [rs.len]; exact q⟩
theorem g_lenI {ns : List Int} (h : SqL K H p (ns.map V.int)) (q : Q (.int (ns.length : Int)) H) : rLen K [.ref p] H Q :=
  .inl ⟨_, .inl h, by rw [List.length_map]; exact q⟩
theorem g_lenS {z : Str} (h : z.length ≤ 1000000) (q : Q (.int (z.length : Int)) H) : rLen K [.str z] H Q := ⟨small_le h, q⟩
theorem at_pos {B : Type} {xs : List B} {i : Int} {b : B} (h0 : 0 ≤ i) (h : xs[i.toNat]? = some b) : atI xs i = some b := by
  have e : i = ((i.toNat : Nat) : Int) := (Int.toNat_of_nonneg h0).symm
  rw [e]
  exact atI_nat h
theorem g_ixL {k : Int} (r : Rep G v xs) (s : Same G H) (h0 : 0 ≤ k) (h1 : xs[k.toNat]? = some a) (q : ∀ w, Rep G w a → Q w H) : rIx K v (.int k) H Q := by
  obtain ⟨p, vs, rfl, h, rs⟩ := r
  obtain ⟨w, hw, rw'⟩ := rs.get h1
  exact .inl ⟨p, vs, k, w, rfl, rfl, .inl (.inl (s _ _ h)), at_pos h0 hw, q w rw'⟩
theorem g_ixLast {ys : List A} (r : Rep G v (ys ++ [a])) (s : Same G H) (q : ∀ w, Rep G w a → Q w H) : rIx K v (.int (-1)) H Q := by
  obtain ⟨p, vs, rfl, h, rs⟩ := r
  have hl := rs.len
  obtain ⟨w, hw, rw'⟩ := rs.get (i := ys.length) (b := a) (by simp)
  have e : vs = vs.dropLast ++ [w] := by
    have hne : vs ≠ [] := by
      intro z
      subst z
      simp at hl
    have hg : vs.getLast hne = w := by
      rw [List.getLast_eq_getElem]
      have h2 : vs.length - 1 = ys.length := by
        rw [hl]
        simp
      have h3 := (List.getElem?_eq_some_iff.mp hw).2
      simp only [h2]
      exact h3
    rw [← hg]
    exact (List.dropLast_concat_getLast hne).symm
  refine .inl ⟨p, vs, -1, w, rfl, rfl, .inl (.inl (s _ _ h)), ?_, q w rw'⟩
  rw [e]
  exact atI_last _ _
/-- an item of a tuple (a list) of values that were just laid -/
theorem g_ixT {vs : List V} {k : Int} (h : G p = some (.tup vs)) (s : Same G H) (h0 : 0 ≤ k) (h1 : vs[k.toNat]? = some w) (q : Q w H) : rIx K (.ref p) (.int k) H Q :=
  .inr (.inl ⟨p, vs, k, w, rfl, rfl, .inl (.inl (s _ _ h)), at_pos h0 h1, q⟩)
theorem pick {B : Type} {xs : List B} {k : Int} (h0 : 0 ≤ k) (h1 : k < xs.length) : ∃ b, xs[k.toNat]? = some b ∧ b ∈ xs := by
  have h : k.toNat < xs.length := by omega
  exact ⟨xs[k.toNat], by simp [h], List.getElem_mem h⟩
theorem g_ixTI {vs : List V} {ns : List Int} {k : Int} (h : G p = some (.tup vs)) (e : vs = ns.map V.int) (s : Same G H) (h0 : 0 ≤ k) (h1 : k < ns.length) (q : ∀ n, n ∈ ns → ns[k.toNat]? = some n → Q (.int n) H) : rIx K (.ref p) (.int k) H Q := by
  obtain ⟨b, hb, hm⟩ := pick h0 h1
  exact g_ixT h s h0 (by rw [e, List.getElem?_map, hb]; rfl) (q b hm hb)
theorem g_ixLI {vs : List V} {ns : List Int} {k : Int} (h : G p = some (.lst vs)) (e : vs = ns.map V.int) (s : Same G H) (h0 : 0 ≤ k) (h1 : k < ns.length) (q : ∀ n, n ∈ ns → ns[k.toNat]? = some n → Q (.int n) H) : rIx K (.ref p) (.int k) H Q := by
  obtain ⟨b, hb, hm⟩ := pick h0 h1
  exact .inl ⟨p, vs, k, .int b, rfl, rfl, .inl (.inl (s _ _ h)), at_pos h0 (by rw [e, List.getElem?_map, hb]; rfl), q b hm hb⟩
/-- a place of a pair -/
theorem g_ixP0 {B C : Type} [Rp B] [Rp C] {z : B × C} (r : Rep G v z) (s : Same G H) (q : ∀ w, Rep G w z.1 → Q w H) : rIx K v (.int 0) H Q := by
  obtain ⟨p, a, b, rfl, h, ra, rb⟩ := r
  exact g_ixT h s (by decide) rfl (q a ra)
theorem g_ixP1 {B C : Type} [Rp B] [Rp C] {z : B × C} (r : Rep G v z) (s : Same G H) (q : ∀ w, Rep G w z.2 → Q w H) : rIx K v (.int 1) H Q := by
  obtain ⟨p, a, b, rfl, h, ra, rb⟩ := r
  exact g_ixT h s (by decide) rfl (q b rb)
theorem Sep.raw {o : HO} (s : Sep G H L) (hp : H p = none) : ∃ G', Same G G' ∧ Sep G' (upd H p o) L ∧ G' p = some o :=
  let ⟨u, t⟩ := s.imm (o := o) hp
  ⟨_, u, t, upd_same⟩
/-! ### methods of lists -/
theorem g_bm {T : String} {r : V → List V → Hp → VK → Prop} (h : te σ H fun x H1 => tyV K T x H1 ∧ tr σ H1 fun xs H2 => r x xs H2 Q) : tBM K T r te tr σ H Q := h
theorem g_bm0 {T : String} {r : V → List V → Hp → VK → Prop} (h : te σ H fun x H1 => tyV K T x H1 ∧ r x [] H1 Q) : tBM0 K T r te σ H Q := h
theorem g_tyL {R : Prop} (r : Rep G v xs) (s : Same G H) (q : R) : tyV K "list" v H ∧ R := by
  obtain ⟨p, vs, rfl, h, rs⟩ := r
  exact ⟨.inl ⟨rfl, vs, .inl (.inl (s _ _ h))⟩, q⟩
theorem g_tyO {R : Prop} (s : Sep G H (OwnL p xs :: L)) (q : R) : tyV K "list" (.ref p) H ∧ R := g_tyL s.ownRep (Same.refl _) q
theorem g_append (s : Sep G H (OwnL p xs :: L)) (r : Rep G v a) (hl : xs.length < 1000000) (k : ∀ H', Sep G H' (OwnL p (xs ++ [a]) :: L) → Q .non H') : rAppend (.ref p) [v] H Q := by
  obtain ⟨vs, rs, s⟩ := s.ownO
  exact ⟨p, vs, v, rfl, rfl, s.cellAt, by rw [rs.len]; exact small_lt hl, k _ (s.cellSet.ownI (rs.app (.one r)))⟩
theorem g_popAt {k : Int} (s : Sep G H (OwnL p xs :: L)) (h0 : 0 ≤ k) (hk : k < 1000000) (h1 : xs[k.toNat]? = some a) (q : ∀ w H', Rep G w a → Sep G H' (OwnL p (xs.eraseIdx k.toNat) :: L) → Q w H') : rPopAt (.ref p) [.int k] H Q := by
  obtain ⟨vs, rs, s⟩ := s.ownO
  obtain ⟨w, hw, rw'⟩ := rs.get h1
  have hlt := (List.getElem?_eq_some_iff.mp hw).1
  refine ⟨p, vs, k, k.toNat, w, rfl, rfl, s.cellAt, by omega, by omega, ?_, hw, q w _ rw' (s.cellSet.ownI (rs.erase _))⟩
  have e : k = ((k.toNat : Nat) : Int) := (Int.toNat_of_nonneg h0).symm
  have := (ixN_seq (n := vs.length) (i := k) (j := k.toNat) (by unfold ixN; rw [if_pos h0, if_pos (by omega)])).1
  exact this
theorem g_popEnd {ys : List A} (s : Sep G H (OwnL p (ys ++ [a]) :: L)) (q : ∀ w H', Rep G w a → Sep G H' (OwnL p ys :: L) → Q w H') : rPop (.ref p) [] H Q := by
  obtain ⟨vs, rs, s⟩ := s.ownO
  have hl := rs.len
  obtain ⟨w, hw, rw'⟩ := rs.get (i := ys.length) (b := a) (by simp)
  have e : vs.length - 1 = ys.length := by
    rw [hl]
    simp
  refine ⟨p, vs, w, rfl, rfl, s.cellAt, by rw [e]; exact hw, q w _ rw' (s.cellSet.ownI ?_)⟩
  have := rs.dropLast
  rw [List.dropLast_concat] at this
  exact this
theorem g_insert {k : Int} (s : Sep G H (OwnL p xs :: L)) (r : Rep G v a) (h0 : 0 ≤ k) (hk : k < 1000000) (hl : xs.length < 1000000) (q : ∀ H', Sep G H' (OwnL p (xs.take k.toNat ++ [a] ++ xs.drop k.toNat) :: L) → Q .non H') :
    rInsert (.ref p) [.int k, v] H Q := by
  obtain ⟨vs, rs, s⟩ := s.ownO
  exact ⟨p, vs, k, v, rfl, rfl, s.cellAt, by rw [rs.len]; exact small_lt hl, h0, by omega, q _ (s.cellSet.ownI (((rs.take _).app (.one r)).app (rs.drop _)))⟩
theorem g_reverse (s : Sep G H (OwnL p xs :: L)) (q : ∀ H', Sep G H' (OwnL p xs.reverse :: L) → Q .non H') : rReverse (.ref p) [] H Q := by
  obtain ⟨vs, rs, s⟩ := s.ownO
  exact ⟨p, vs, rfl, rfl, s.cellAt, q _ (s.cellSet.ownI rs.rev)⟩
theorem g_clear (s : Sep G H (OwnL p xs :: L)) (q : ∀ H', Sep G H' (OwnL p ([] : List A) :: L) → Q .non H') : rClear (.ref p) [] H Q := by
  obtain ⟨vs, rs, s⟩ := s.ownO
  exact ⟨p, vs, rfl, rfl, s.cellAt, q _ (s.cellSet.ownI (vs := []) (xs := ([] : List A)) trivial)⟩
theorem g_extend (s : Sep G H (OwnL p xs :: L)) (r : Rep G v ys) (hl : xs.length + ys.length ≤ 1000000) (q : ∀ H', Sep G H' (OwnL p (xs ++ ys) :: L) → Q .non H') : rExtend (.ref p) [v] H Q := by
  obtain ⟨b, ws, rfl, h, rs'⟩ := r
  obtain ⟨vs, rs, s⟩ := s.ownO
  exact ⟨p, b, vs, ws, rfl, rfl, s.cellAt, s.gh _ _ h, by rw [rs.len, rs'.len]; exact small_le hl, q _ (s.cellSet.ownI (rs.app rs'))⟩
/-- xs[k] = e -/
theorem g_setL {k : Int} {P : Hp → Prop} (s : Sep G H (OwnL p xs :: L)) (r : Rep G v a) (h0 : 0 ≤ k) (h1 : k < xs.length) (q : ∀ H', Sep G H' (OwnL p (xs.set k.toNat a) :: L) → P H') : rSetL (.ref p) (.int k) v H P := by
  obtain ⟨vs, rs, s⟩ := s.ownO
  have hl := rs.len
  exact ⟨p, vs, k, k.toNat, rfl, rfl, s.cellAt, by unfold ixN; rw [if_pos h0, if_pos (by omega)], q _ (s.cellSet.ownI (rs.set _ r))⟩
/-! ### new lists out of lists -/
theorem g_list (s : Sep G H L) (r : Rep G v xs) (q : ∀ p H', Sep G H' (OwnL p xs :: L) → Q (.ref p) H') : rLst K [v] H Q := by
  obtain ⟨b, vs, rfl, h, rs⟩ := r
  exact ⟨vs, .inl (.inl (.inl (s.gh _ _ h))), fun l hl => q l _ (s.ownNew hl rs)⟩
theorem g_cat (s : Sep G H L) (r : Rep G v xs) (r' : Rep G w ys) (hl : xs.length + ys.length ≤ 1000000) (q : ∀ p H', Sep G H' (OwnL p (xs ++ ys) :: L) → Q (.ref p) H') : rAdd v w H Q := by
  obtain ⟨b, vs, rfl, h, rs⟩ := r
  obtain ⟨c, ws, rfl, h', rs'⟩ := r'
  exact ⟨vs, ws, s.gh _ _ h, s.gh _ _ h', by rw [rs.len, rs'.len]; exact small_le hl, fun l hl => q l _ (s.ownNew hl (rs.app rs'))⟩
end
end EB

namespace EB
open PySem L2

/-! ### list comprehensions -/
/-- what a comprehension asks of an iterator -/
def LcLoop (J : It) (g : TG) (tt : TT) (te : TE) (σ : St) (vs : List Nat) (Q : VK) (H1 : Hp) : Prop := ∀ D, H1 D = none → ∃ W : Nat → Nat → Hp → Prop, (∃ m, W 0 m (upd H1 D (.lst []))) ∧ ∀ i m H, W i m H →
  (J.stop i H ∧ Q (.ref D) H) ∨ (J.go i H ∧ ∃ Nx : Hp → Prop, (∀ H', Nx H' → ∃ m', m' < m ∧ W (i + 1) m' H') ∧ ∀ x H', J.yld i H x H' → g x (wipe σ vs) H' fun σ2 H2 => wipe σ2 vs = wipe σ vs ∧ tt σ2 H2 fun b H3 =>
    if b = true then te σ2 H3 fun y H4 => ∃ acc, H4 D = some (.lst acc) ∧ acc.length < sizeLine ∧ Nx (upd H4 D (.lst (acc ++ [y]))) else Nx H3)
section
variable {σ : St} {G H : Hp} {Q : VK} {ta tb te tl : TE} {tt : TT} {v w x y : V} {tr : TA} {K : PySem.W.Frag} {L : List Res} {g g1 g2 : TG} {vs : List Nat}
theorem g_lc {wi : TI} (h : wi σ H fun J H1 => LcLoop J g tt te σ vs Q H1) : tLc wi g tt te vs σ H Q := h
theorem g_yes {P : Bool → Hp → Prop} (h : P true H) : tYes σ H P := h
theorem g_wipe {P : Prop} {s s' : St} (e : s = s') (h : P) : s = s' ∧ P := ⟨e, h⟩
/-- what a turn of a comprehension is to leave: the list so far (one item longer, or as it was) and what else there is -/
def Nxt {B : Type} [Rp B] (G : Hp) (D : Addr) (I : List B → List Res → Prop) : Hp → Prop := fun H' => ∃ acc G' Lc, I acc Lc ∧ Same G G' ∧ Sep G' H' (OwnL D acc :: Lc)
def Put {B : Type} [Rp B] (G : Hp) (D : Addr) (I : List B → List Res → Prop) : VK := fun y H4 => ∃ acc, H4 D = some (.lst acc) ∧ acc.length < sizeLine ∧ Nxt G D I (upd H4 D (.lst (acc ++ [y])))
variable {B : Type} [Rp B]
theorem put_of {I : List B → List Res → Prop} {G4 H4 : Hp} {D : Addr} {acc : List B} {Lc : List Res} {z : B} (u : Same G G4) (t : Sep G4 H4 (OwnL D acc :: Lc)) (hl : acc.length < 1000000) (r : Rep G4 y z) (h : I (acc ++ [z]) Lc) : Put G D I y H4 := by
  obtain ⟨ws, rs, t⟩ := t.ownO
  exact ⟨ws, t.cellAt, by rw [rs.len]; exact small_lt hl, acc ++ [z], G4, Lc, h, u, t.cellSet.ownI (rs.app (.one r))⟩
theorem skip_of {I : List B → List Res → Prop} {G4 H4 : Hp} {D : Addr} {acc : List B} {Lc : List Res} (u : Same G G4) (t : Sep G4 H4 (OwnL D acc :: Lc)) (h : I acc Lc) : Nxt G D I H4 := ⟨acc, G4, Lc, h, u, t⟩
/-- the core: over any walk that stands while the part G stands -/
theorem lcW {J : It} {n : Nat} {GP : Hp → Prop} {Y : Nat → Hp → V → Hp → Prop} (wk : Walk J n GP Y) (s : Sep G H L) (hGP : ∀ G' H', Same G G' → Same G' H' → GP H')
    (I : Nat → List B → List Res → Prop) (h0 : I 0 [] L)
    (hs : ∀ i v D acc G' H' H2 Lc, i < n → I i acc Lc → Same G G' → Sep G' H' (OwnL D acc :: Lc) → Y i H' v H2 →
      g v (wipe σ vs) H2 fun σ2 H3 => wipe σ2 vs = wipe σ vs ∧ tt σ2 H3 fun b H4 => if b = true then te σ2 H4 (Put G D (I (i + 1))) else Nxt G D (I (i + 1)) H4)
    (hd : ∀ D acc G' H' Lc, I n acc Lc → Same G G' → Sep G' H' (OwnL D acc :: Lc) → Q (.ref D) H') : LcLoop J g tt te σ vs Q H := by
  intro D hD
  refine lc_it wk (fun i H' => Nxt G D (I i) H') ⟨[], G, L, h0, Same.refl _, s.ownNew (vs := []) (xs := ([] : List B)) hD trivial⟩ (fun i H' _ ⟨_, G', _, _, u, t⟩ => hGP G' H' u t.gh) ?_ ?_
  · rintro i v H' H2 hi ⟨acc, G', Lc, pI, u, t⟩ hy
    exact hs i v D acc G' H' H2 Lc hi pI u t hy
  · rintro H' ⟨acc, G', Lc, pI, u, t⟩
    exact hd D acc G' H' Lc pI u t
/-- over a list -/
theorem lcL {A : Type} [Rp A] {xs : List A} (r : Rep G v xs) (s : Sep G H L) (I : Nat → List B → List Res → Prop) (h0 : I 0 [] L)
    (hs : ∀ i v x D acc G' H' Lc, xs[i]? = some x → Rep G' v x → I i acc Lc → Same G G' → Sep G' H' (OwnL D acc :: Lc) →
      g v (wipe σ vs) H' fun σ2 H3 => wipe σ2 vs = wipe σ vs ∧ tt σ2 H3 fun b H4 => if b = true then te σ2 H4 (Put G D (I (i + 1))) else Nxt G D (I (i + 1)) H4)
    (hd : ∀ D acc G' H' Lc, I xs.length acc Lc → Same G G' → Sep G' H' (OwnL D acc :: Lc) → Q (.ref D) H') :
    ∃ a, v = .ref a ∧ (∃ xs, SqL K H a xs) ∧ LcLoop (Itl K a) g tt te σ vs Q H := by
  obtain ⟨p, ws, rfl, h, rs⟩ := id r
  have sq : ∀ {H'}, Same G H' → SqL K H' p ws := fun s => .inl (.inl (s _ _ h))
  refine ⟨p, rfl, ⟨ws, sq s.gh⟩, lcW (walk_list (xs := ws)) s (fun G' H' u t => sq (u.trans t)) I h0 (fun i v D acc G' H' H2 Lc hi pI u t hy => ?_) (fun D acc G' H' Lc pI => hd D acc G' H' Lc (by rw [← rs.len]; exact pI))⟩
  obtain ⟨rfl, e⟩ := hy
  obtain ⟨x, hx, rx⟩ := rs.get' e
  exact hs i v x D acc G' H2 Lc hx (rx.up u) pI u t
/-- over a range -/
theorem lcR1 {n : Int} (b : n < 2 ^ 62) (b' : -(2 ^ 62) ≤ n) (s : Sep G H L) (I : Nat → List B → List Res → Prop) (h0 : I 0 [] L)
    (hs : ∀ i D acc G' H' Lc, i < n.toNat → I i acc Lc → Same G G' → Sep G' H' (OwnL D acc :: Lc) →
      g (.int i) (wipe σ vs) H' fun σ2 H3 => wipe σ2 vs = wipe σ vs ∧ tt σ2 H3 fun b H4 => if b = true then te σ2 H4 (Put G D (I (i + 1))) else Nxt G D (I (i + 1)) H4)
    (hd : ∀ D acc G' H' Lc, I n.toNat acc Lc → Same G G' → Sep G' H' (OwnL D acc :: Lc) → Q (.ref D) H') :
    ∃ j : Int, [V.int n] = [.int j] ∧ -(2 ^ 62) ≤ j ∧ j < 2 ^ 62 ∧ LcLoop (Itr 0 j.toNat) g tt te σ vs Q H := by
  refine ⟨n, rfl, b', b, lcW walk_range s (fun _ _ _ _ => trivial) I h0 (fun i v D acc G' H' H2 Lc hi pI u t hy => ?_) hd⟩
  obtain ⟨rfl, rfl⟩ := hy
  show g (.int (0 + (i : Int))) _ _ _
  rw [Int.zero_add]
  exact hs i D acc G' H2 Lc hi pI u t
/-- over enumerate of a list -/
theorem lcE {A : Type} [Rp A] {xs : List A} {n : Nat} (r : Rep G v xs) (s : Sep G H L) (hn : n = 2) (I : Nat → List B → List Res → Prop) (h0 : I 0 [] L)
    (hs : ∀ i v x D acc G' H' Lc, xs[i]? = some x → Rep G' v x → I i acc Lc → Same G G' → Sep G' H' (OwnL D acc :: Lc) →
      g1 (.int i) (wipe σ vs) H' fun σ1 H1 => g2 v σ1 H1 fun σ2 H3 => wipe σ2 vs = wipe σ vs ∧ tt σ2 H3 fun b H4 => if b = true then te σ2 H4 (Put G D (I (i + 1))) else Nxt G D (I (i + 1)) H4)
    (hd : ∀ D acc G' H' Lc, I xs.length acc Lc → Same G G' → Sep G' H' (OwnL D acc :: Lc) → Q (.ref D) H') :
    ∃ a xs, [v] = [V.ref a] ∧ SqL K H a xs ∧ LcLoop (Ite K a) (gTup K n (gCons g1 (gCons g2 gNil))) tt te σ vs Q H := by
  obtain ⟨p, ws, rfl, h, rs⟩ := id r
  have sq : ∀ {H'}, Same G H' → SqL K H' p ws := fun s => .inl (.inl (s _ _ h))
  refine ⟨p, ws, rfl, sq s.gh, lcW (walk_enum (xs := ws)) s (fun G' H' u t => sq (u.trans t)) I h0 (fun i v D acc G' H' H2 Lc hi pI u t hy => ?_) (fun D acc G' H' Lc pI => hd D acc G' H' Lc (by rw [← rs.len]; exact pI))⟩
  obtain ⟨T, a, b, rfl, hT, rfl, ea, eb⟩ := hy
  cases ea
  obtain ⟨z, hz, rz⟩ := rs.get' eb
  exact g_tgN hT hn (hs i b z D acc G' _ Lc hz (rz.up u) pI u (t.trash hT))
/-- over zip of two lists -/
theorem lcZ {A C : Type} [Rp A] [Rp C] {xs : List A} {ys : List C} {n : Nat} (r : Rep G v xs) (r' : Rep G w ys) (s : Sep G H L) (hn : n = 2) (I : Nat → List B → List Res → Prop) (h0 : I 0 [] L)
    (hs : ∀ i a b x y D acc G' H' Lc, xs[i]? = some x → ys[i]? = some y → Rep G' a x → Rep G' b y → I i acc Lc → Same G G' → Sep G' H' (OwnL D acc :: Lc) →
      g1 a (wipe σ vs) H' fun σ1 H1 => g2 b σ1 H1 fun σ2 H3 => wipe σ2 vs = wipe σ vs ∧ tt σ2 H3 fun b H4 => if b = true then te σ2 H4 (Put G D (I (i + 1))) else Nxt G D (I (i + 1)) H4)
    (hd : ∀ D acc G' H' Lc, I (min xs.length ys.length) acc Lc → Same G G' → Sep G' H' (OwnL D acc :: Lc) → Q (.ref D) H') :
    ∃ a b xs ys, [v, w] = [V.ref a, V.ref b] ∧ SqL K H a xs ∧ SqL K H b ys ∧ LcLoop (Itz K a b) (gTup K n (gCons g1 (gCons g2 gNil))) tt te σ vs Q H := by
  obtain ⟨p, us, rfl, h, rs⟩ := id r
  obtain ⟨q, ws, rfl, h', rs'⟩ := id r'
  have sq : ∀ {H'}, Same G H' → SqL K H' p us := fun s => .inl (.inl (s _ _ h))
  have sq' : ∀ {H'}, Same G H' → SqL K H' q ws := fun s => .inl (.inl (s _ _ h'))
  have e : min xs.length ys.length = min us.length ws.length := by rw [rs.len, rs'.len]
  refine ⟨p, q, us, ws, rfl, sq s.gh, sq' s.gh, lcW (walk_zip (xs := us) (ys := ws) e) s (fun G' H' u t => ⟨sq (u.trans t), sq' (u.trans t)⟩) I h0 (fun i v D acc G' H' H2 Lc hi pI u t hy => ?_) hd⟩
  obtain ⟨T, a, b, rfl, hT, rfl, ea, eb⟩ := hy
  obtain ⟨z, hz, rz⟩ := rs.get' ea
  obtain ⟨z', hz', rz'⟩ := rs'.get' eb
  exact g_tgN hT hn (hs i a b z z' D acc G' _ Lc hz hz' (rz.up u) (rz'.up u) pI u (t.trash hT))
end
end EB

namespace EB
open PySem L2

/-! ### == of data -/
class Dt (A : Type) extends Rp A where
  d : A → PyData
  dp : ∀ {K : PySem.W.Frag} {G H : Hp} {v : V} {x : A}, Same G H → Rep G v x → Dp K H v (d x)
  eqv : ∀ x y : A, PyData.eqv (d x) (d y) = true ↔ x = y
  dep : Nat
  depth : ∀ x : A, (d x).depth ≤ dep
  lay : ∀ x : A, (d x).canLay0 = true
class NN (A : Type) [Dt A] : Prop where
  nn : ∀ x : A, Dt.d x ≠ .none
instance : Dt Int := { d := .int, dp := fun _ h => by have h : _ = V.int _ := h; subst h; exact .int _, eqv := fun x y => by simp [PyData.eqv], dep := 0, depth := fun _ => by simp [PyData.depth], lay := fun _ => by simp [PyData.canLay0] }
instance : Dt Bool := { d := .bool, dp := fun _ h => by have h : _ = V.bl _ := h; subst h; exact .bl _, eqv := fun x y => by simp [PyData.eqv], dep := 0, depth := fun _ => by simp [PyData.depth], lay := fun _ => by simp [PyData.canLay0] }
instance : Dt Unit := { d := fun _ => .none, dp := fun _ h => by have h : _ = V.non := h; subst h; exact .non, eqv := fun x y => by simp [PyData.eqv], dep := 0, depth := fun _ => by simp [PyData.depth], lay := fun _ => by simp [PyData.canLay0] }
instance : NN Int := ⟨fun x h => by have h : PyData.int x = .none := h; cases h⟩
instance : NN Bool := ⟨fun x h => by have h : PyData.bool x = .none := h; cases h⟩
theorem eqvN (d : PyData) (h : d ≠ .none) : PyData.eqv .none d = false ∧ PyData.eqv d .none = false := by
  cases d <;> first
    | exact absurd rfl h
    | simp [PyData.eqv]
def optD {A : Type} [Dt A] : Option A → PyData
  | none => .none
  | some a => Dt.d a
instance {A : Type} [Dt A] [NN A] : Dt (Option A) where
  d := optD
  dp := fun {K G H v x} s h => match x, h with
    | none, h => by have h : v = V.non := h; subst h; exact .non
    | some a, h => Dt.dp (x := a) s h
  eqv := fun x y => by
    cases x with
    | none => cases y with
      | none => simp [optD, PyData.eqv]
      | some b => simp [optD, (eqvN _ (NN.nn b)).1]
    | some a => cases y with
      | none => simp [optD, (eqvN _ (NN.nn a)).2]
      | some b => simp [optD, Dt.eqv a b]
  dep := Dt.dep A
  depth := fun x => by
    cases x with
    | none => simp [optD, PyData.depth]
    | some a => exact Dt.depth a
  lay := fun x => by
    cases x with
    | none => simp [optD, PyData.canLay0]
    | some a => exact Dt.lay a
instance {A B : Type} [Dt A] [Dt B] : Dt (A × B) where
  d := fun x => .tuple [Dt.d x.1, Dt.d x.2]
  dp := fun {K G H v x} s h => by
    obtain ⟨p, a, b, rfl, h, ra, rb⟩ := h
    exact .tup (.inl (.inl (s _ _ h))) (.cons (Dt.dp s ra) (.cons (Dt.dp s rb) .nil))
  eqv := fun x y => by
    obtain ⟨a, b⟩ := x
    obtain ⟨c, d⟩ := y
    simp only [PyData.eqv, PyData.eqvAll, Bool.and_true, Bool.and_eq_true, Dt.eqv, Prod.mk.injEq]
  dep := max (Dt.dep A) (Dt.dep B) + 1
  depth := fun x => by
    have h1 := Dt.depth x.1
    have h2 := Dt.depth x.2
    simp only [PyData.depth, PyData.depthAll]
    omega
  lay := fun x => by simp [PyData.canLay0, PyData.canLayAll0, Dt.lay]
instance {A B : Type} [Dt A] [Dt B] : NN (A × B) := ⟨fun x h => by have h : PyData.tuple _ = .none := h; cases h⟩
theorem dpAll {A : Type} [Dt A] {K : PySem.W.Frag} {G H : Hp} (s : Same G H) : ∀ {vs : List V} {xs : List A}, Reps G vs xs → DpAll K H vs (xs.map Dt.d)
  | [], [], _ => .nil
  | _ :: _, _ :: _, ⟨r, h⟩ => .cons (Dt.dp s r) (dpAll s h)
theorem eqvAll_map {A : Type} [Dt A] : ∀ xs ys : List A, PyData.eqvAll (xs.map Dt.d) (ys.map Dt.d) = true ↔ xs = ys
  | [], [] => by simp [PyData.eqvAll]
  | [], _ :: _ => by simp [PyData.eqvAll]
  | _ :: _, [] => by simp [PyData.eqvAll]
  | x :: xs, y :: ys => by
    simp only [List.map_cons, PyData.eqvAll, Bool.and_eq_true, Dt.eqv, eqvAll_map xs ys, List.cons.injEq]
theorem depthAll_map {A : Type} [Dt A] : ∀ xs : List A, PyData.depthAll (xs.map Dt.d) ≤ Dt.dep A
  | [] => by simp [PyData.depthAll]
  | x :: xs => by
    simp only [List.map_cons, PyData.depthAll]
    have h1 := Dt.depth x
    have h2 := depthAll_map xs
    omega
theorem layAll_map {A : Type} [Dt A] : ∀ xs : List A, PyData.canLayAll0 (xs.map Dt.d) = true
  | [] => by simp [PyData.canLayAll0]
  | x :: xs => by simp [PyData.canLayAll0, Dt.lay, layAll_map xs]
instance {A : Type} [Dt A] : Dt (List A) where
  d := fun x => .list (x.map Dt.d)
  dp := fun {K G H v x} s h => by
    obtain ⟨p, vs, rfl, h, rs⟩ := h
    exact .lst (.inl (.inl (s _ _ h))) (dpAll s rs)
  eqv := fun x y => by simp only [PyData.eqv, eqvAll_map]
  dep := Dt.dep A + 1
  depth := fun x => by
    have h1 := depthAll_map x
    simp only [PyData.depth]
    omega
  lay := fun x => by simp [PyData.canLay0, layAll_map]
instance {A : Type} [Dt A] : NN (List A) := ⟨fun x h => by have h : PyData.list _ = .none := h; cases h⟩
theorem shaped_of {A : Type} [Dt A] (x : A) (h : Dt.dep A ≤ 64 := by decide) : SeqAt.shaped (Dt.d x) = true := by
  unfold SeqAt.shaped
  have := Dt.depth x
  simp [Dt.lay, Nat.le_trans this h]
section
variable {H G G' : Hp} {Q : VK} {v w : V} {K : PySem.W.Frag} {A : Type} [Dt A] [DecidableEq A] {x y : A}
theorem dec_eqv (x y : A) : PyData.eqv (Dt.d x) (Dt.d y) = decide (x = y) := by
  rw [Bool.eq_iff_iff, Dt.eqv, decide_eq_true_iff]
theorem g_eqT (r : Rep G v x) (r' : Rep G' w y) (s : Same G H) (s' : Same G' H) (q : Q (.bl (decide (x = y))) H) (h : Dt.dep A ≤ 64 := by decide) : rEqA K v w H Q :=
  .inr ⟨_, _, Dt.dp s r, Dt.dp s' r', shaped_of x h, shaped_of y h, by rw [dec_eqv]; exact q⟩
theorem g_neT (r : Rep G v x) (r' : Rep G' w y) (s : Same G H) (s' : Same G' H) (q : Q (.bl (decide (x ≠ y))) H) (h : Dt.dep A ≤ 64 := by decide) : rNeA K v w H Q :=
  .inr ⟨_, _, Dt.dp s r, Dt.dp s' r', shaped_of x h, shaped_of y h, by
    rw [dec_eqv]
    have e : (!decide (x = y)) = decide (x ≠ y) := by simp
    rw [e]
    exact q⟩
end
/-! ### in -/
section
variable {H G : Hp} {Q : VK} {v : V} {K : PySem.W.Frag}
theorem inV_ints (n : Int) : ∀ ns : List Int, inV (.int n) (ns.map V.int) = decide (n ∈ ns)
  | [] => by simp [inV]
  | m :: ns => by
    have ih := inV_ints n ns
    unfold inV at ih ⊢
    rw [List.map_cons, List.any_cons, ih]
    have e : eqV (.int m) (.int n) = decide (m = n) := by simp only [eqV]; rw [Bool.eq_iff_iff]; simp
    rw [e, ← Bool.decide_or]
    apply decide_eq_decide.mpr
    rw [List.mem_cons]
    constructor
    · rintro (h | h)
      · exact .inl h.symm
      · exact .inr h
    · rintro (h | h)
      · exact .inl h.symm
      · exact .inr h
theorem flat_ints (ns : List Int) : (ns.map V.int).all flatV = true := by simp [flatV]
theorem g_inI {n : Int} {ns : List Int} (r : Rep G v ns) (s : Same G H) (q : Q (.bl (decide (n ∈ ns))) H) : rInA K (.int n) v H Q := by
  obtain ⟨p, vs, rfl, h, rs⟩ := r
  obtain rfl := Reps.ints rs
  exact .inl ⟨p, _, rfl, .inl (.inl (.inl (s _ _ h))), rfl, flat_ints ns, by rw [if_neg Bool.false_ne_true, inV_ints]; exact q⟩
theorem g_niI {n : Int} {ns : List Int} (r : Rep G v ns) (s : Same G H) (q : Q (.bl (decide (n ∉ ns))) H) : rNiA K (.int n) v H Q := by
  obtain ⟨p, vs, rfl, h, rs⟩ := r
  obtain rfl := Reps.ints rs
  refine .inl ⟨p, _, rfl, .inl (.inl (.inl (s _ _ h))), rfl, flat_ints ns, ?_⟩
  rw [if_pos rfl, inV_ints]
  have e : (!decide (n ∈ ns)) = decide (n ∉ ns) := by simp
  rw [e]
  exact q
end
end EB
namespace EB
open PySem L2
section
variable {σ : St} {H : Hp} {Q : VK} {D : Ends} {td ty tv : TE} {p : Addr} {kvs : List (Key × V)} {k : Key} {v : V}
/-! ### dicts -/
theorem g_dget (h : td σ H fun x H1 => ty σ H1 fun y H2 => ∃ a v, x = .ref a ∧ DGet H2 a y (some v) ∧ Q v H2) : tDGet td ty σ H Q := h
theorem g_din (h : ty σ H fun y H1 => td σ H1 fun x H2 => ∃ a o, x = .ref a ∧ DGet H2 a y o ∧ Q (.bl o.isSome) H2) : tDIn ty td σ H Q := h
theorem g_dni (h : ty σ H fun y H1 => td σ H1 fun x H2 => ∃ a o, x = .ref a ∧ DGet H2 a y o ∧ Q (.bl (!o.isSome)) H2) : tDNotIn ty td σ H Q := h
theorem g_dput (h : tv σ H fun v H1 => td σ H1 fun x H2 => ty σ H2 fun y H3 => ∃ a H4, x = .ref a ∧ DPut H3 a y v H4 ∧ D.nx σ H4) : sDPut td ty tv D σ H := h
theorem g_daug {rd : V → V → Hp → VK → Prop} (h : td σ H fun x H1 => ty σ H1 fun y H2 => ∃ a v, x = .ref a ∧ DGet H2 a y (some v) ∧ tv σ H2 fun y2 H3 => rd v y2 H3 fun z H4 => ∃ H5, DPut H4 a y z H5 ∧ D.nx σ H5) : sDAug td ty tv rd D σ H := h
theorem g_ddel (h : td σ H fun x H1 => ty σ H1 fun y H2 => ∃ a kvs k, x = .ref a ∧ H2 a = some (.dK kvs) ∧ y = kV k ∧ (valV kvs k).isSome = true ∧ D.nx σ (upd H2 a (.dK (dropK kvs k)))) : sDDel td ty D σ H := h
theorem d_get {P : Addr → V → Prop} (h : H p = some (.dK kvs)) (e : valV kvs k = some v) (q : P p v) : ∃ a v, V.ref p = .ref a ∧ DGet H a (kV k) (some v) ∧ P a v := ⟨p, v, rfl, e ▸ DGet.k h, q⟩
theorem d_put {P : Hp → Prop} (h : H p = some (.dK kvs)) (hl : kvs.length < 1000000) (q : P (upd H p (.dK (putK kvs k v)))) : ∃ a H4, V.ref p = .ref a ∧ DPut H a (kV k) v H4 ∧ P H4 := ⟨p, _, rfl, DPut.k h (Nat.lt_of_lt_of_le hl (by decide)), q⟩
theorem d_put' {P : Hp → Prop} (h : H p = some (.dK kvs)) (hl : kvs.length < 1000000) (q : P (upd H p (.dK (putK kvs k v)))) : ∃ H5, DPut H p (kV k) v H5 ∧ P H5 := ⟨_, DPut.k h (Nat.lt_of_lt_of_le hl (by decide)), q⟩
theorem g_rAddL {a b : Int} (h : Q (.int (a + b)) H) : L2.rAdd (.int a) (.int b) H Q := ⟨a, b, rfl, rfl, h⟩
theorem g_rGt {a b : Int} (h : Q (.bl (decide (b < a))) H) : L2.rGt (.int a) (.int b) H Q := ⟨a, b, rfl, rfl, h⟩
end
end EB
namespace EB
open PySem L2
/-- the ways of a statement meet behind it -/
theorem g_cut {t u : TS} {D : Ends} {σ : St} {H : Hp} (M : St → Hp → Prop) (h1 : ∀ N : St → Hp → Prop, (∀ σ H, M σ H → N σ H) → t { D with nx := N } σ H) (h2 : ∀ σ H, M σ H → u D σ H) : tSeq t u D σ H := h1 (u D) h2
end EB
namespace EB
theorem pow_lt' {x : Int} {n a : Nat} (h : x.natAbs < 2 ^ a) (h0 : 0 < n) : (x ^ n).natAbs < 2 ^ (a * n) := by
  rw [Int.natAbs_pow, Nat.pow_mul]
  exact Nat.pow_lt_pow_left h (by omega)
end EB
namespace EB
open PySem L2
theorem g_sum {G H : Hp} {Q : VK} {v : V} {ns : List Int} {K : PySem.W.Frag} (r : Rep G v ns) (s : Same G H) (q : Q (.int ns.sum) H) : EB.rSum K [v] H Q := by
  obtain ⟨p, vs, rfl, h, rs⟩ := r
  obtain rfl := Reps.ints rs
  exact ⟨ns, .inl (.inl (s _ _ h)), q⟩
end EB

namespace EB
open PySem L2
/-! ### calls by keyword alone: p tells where each parameter's value stands among the keywords' -/
def kwp {A : Type} (p : List Nat) (us ws : List A) : List A := match us with
  | [] => if ws.length = p.length then p.filterMap fun i => ws[i]? else []
  | _ :: _ => []
theorem vals_get : ∀ {vs : List V} {us : List Value} (i : Nat), Vals vs us → (vs[i]? = none ∧ us[i]? = none) ∨ ∃ v u, vs[i]? = some v ∧ us[i]? = some u ∧ RelV v u
  | _, _, i, .nil => .inl ⟨by simp, by simp⟩
  | _, _, 0, .cons r _ => .inr ⟨_, _, rfl, rfl, r⟩
  | _, _, i + 1, .cons _ t => vals_get i t
theorem vals_filter {vs : List V} {us : List Value} (r : Vals vs us) : ∀ p : List Nat, Vals (p.filterMap fun i => vs[i]?) (p.filterMap fun i => us[i]?)
  | [] => .nil
  | i :: p => by
    rcases vals_get i r with ⟨e1, e2⟩ | ⟨v, u, e1, e2, e3⟩
    · simp only [List.filterMap_cons, e1, e2]
      exact vals_filter r p
    · simp only [List.filterMap_cons, e1, e2]
      exact .cons e3 (vals_filter r p)
theorem kwp_rel {p : List Nat} {vs : List V} {us : List Value} {zs : List V} {ws : List Value} (r : Vals vs us) (rz : Vals zs ws) : Vals (kwp p vs zs) (kwp p us ws) := by
  cases r with
  | cons _ _ => exact .nil
  | nil =>
    show Vals (if zs.length = p.length then _ else _) (if ws.length = p.length then _ else _)
    rw [rz.length]
    split
    · exact vals_filter rz p
    · exact .nil
theorem kbinds_of {K : PySem.W.Frag} {x qual : Str} {st : Stmt} {f : Addr} {fd : FuncData} {ps ks : List Str} {p : List Nat} (F : Fun K x qual st f fd) (h0 : ps ≠ [])
    (h : ∀ (kV doc pm : Value) (an : Option Addr) (cdv ct : Value) (ws : List Value), ws.length = p.length → bindArgs (PySem.W.fnOf x qual (defArgs st) (defBody st) (defScope st) .none kV doc pm an cdv ct) ⟨[], ks.zip ws⟩ = pure (ps.zip (kwp p [] ws))) :
    KBinds K fd ps ks (kwp p) (kwp p) := by
  obtain ⟨oc, od, kV, doc, pm, an, cdv, ct, osl, rfl, lk, hcd⟩ := F.ex
  refine ⟨fun s us ws _ hl => ?_, kwp_rel⟩
  cases us with
  | cons u us =>
    have hl : ([] : List Value).length = ps.length := hl
    cases ps with
    | nil => exact absurd rfl h0
    | cons a b => cases hl
  | nil =>
    by_cases e : ws.length = p.length
    · exact .of_eq (h kV doc pm an cdv ct ws e)
    · have hl : (if ws.length = p.length then p.filterMap fun i => ws[i]? else []).length = ps.length := hl
      rw [if_neg e] at hl
      cases ps with
      | nil => exact absurd rfl h0
      | cons a b => cases hl
theorem bn_mk {K : PySem.W.Frag} {h : Heap} {mg : Str → Option Value} (X : K.In h) (G : h.Ns mainGlobals mg)
    (z : ∀ x ∈ (["len", "range", "sorted", "list", "dict", "set", "sum", "max", "min", "abs", "int", "str", "repr", "zip", "enumerate", "reversed", "any", "all", "isinstance", "tuple", "bool", "ValueError"] : List Str), PySem.W.nsIn K mainGlobals x = some none) : Bn mg := by
  have q : ∀ x ∈ (["len", "range", "sorted", "list", "dict", "set", "sum", "max", "min", "abs", "int", "str", "repr", "zip", "enumerate", "reversed", "any", "all", "isinstance", "tuple", "bool", "ValueError"] : List Str), mg x = none := fun x hx => PySem.W.mg_none_of X G (z x hx)
  exact ⟨q _ (by simp), q _ (by simp), q _ (by simp), q _ (by simp), q _ (by simp), q _ (by simp), q _ (by simp), q _ (by simp), q _ (by simp), q _ (by simp), q _ (by simp), q _ (by simp), q _ (by simp), q _ (by simp), q _ (by simp), q _ (by simp), q _ (by simp), q _ (by simp), q _ (by simp), q _ (by simp), q _ (by simp), q _ (by simp)⟩
end EB

namespace EB
open PySem L2
/-! ### parts of lists -/
def cut {A : Type} (xs : List A) (lo hi : Option Int) : List A := (xs.drop (HT.sIx xs.length 0 lo)).take (HT.sIx xs.length xs.length hi - HT.sIx xs.length 0 lo)
section
variable {A : Type} {xs : List A} {k l : Int}
theorem six_pos {n d : Nat} (h : 0 ≤ k) : HT.sIx n d (some k) = min k.toNat n := by
  show (if k < 0 then _ else _) = _
  rw [if_neg (by omega)]
theorem cut_to (h : 0 ≤ k) : cut xs none (some k) = xs.take k.toNat := by
  unfold cut
  rw [six_pos h, HT.sIx_none, List.drop_zero, Nat.sub_zero]
  by_cases c : k.toNat ≤ xs.length
  · rw [Nat.min_eq_left c]
  · rw [Nat.min_eq_right (by omega), List.take_length, List.take_of_length_le (by omega)]
theorem cut_from (h : 0 ≤ k) : cut xs (some k) none = xs.drop k.toNat := by
  unfold cut
  rw [six_pos h, HT.sIx_none]
  by_cases c : k.toNat ≤ xs.length
  · rw [Nat.min_eq_left c, ← List.length_drop, List.take_length]
  · rw [Nat.min_eq_right (by omega), Nat.sub_self, List.take_zero, List.drop_of_length_le (by omega)]
theorem cut_of (h : 0 ≤ k) (h2 : 0 ≤ l) : cut xs (some k) (some l) = (xs.take l.toNat).drop k.toNat := by
  unfold cut
  rw [six_pos h, six_pos h2, List.drop_take]
  by_cases c : k.toNat ≤ xs.length
  · rw [Nat.min_eq_left c]
    by_cases c2 : l.toNat ≤ xs.length
    · rw [Nat.min_eq_left c2]
    · rw [Nat.min_eq_right (by omega), ← List.length_drop, List.take_length, List.take_of_length_le]
      rw [List.length_drop]
      omega
  · rw [Nat.min_eq_right (a := k.toNat) (by omega), List.drop_length, List.drop_of_length_le (by omega), List.take_nil, List.take_nil]
theorem cut_all : cut xs none none = xs := by
  unfold cut
  rw [HT.sIx_none, HT.sIx_none, List.drop_zero, Nat.sub_zero, List.take_length]
end
section
variable {σ : St} {G H : Hp} {Q : VK} {D : Ends} {ta tb te tl : TE} {to th : TO} {i j : Nat} {v w x y : V} {tr : TA} {K : PySem.W.Frag} {L : List Res} {p : Addr}
variable {A : Type} [Rp A] {xs ys : List A} {a : A}
theorem g_sl {r : V → Option Int → Option Int → Hp → VK → Prop} (h : te σ H fun x H1 => to σ H1 fun l H2 => th σ H2 fun u H3 => r x l u H3 Q) : tSl r te to th σ H Q := h
theorem g_noPart {Q : Option Int → Hp → Prop} (h : Q none H) : tNoPart σ H Q := h
theorem g_part {Q : Option Int → Hp → Prop} (h : te σ H fun x H1 => ∃ i, x = .int i ∧ Q (some i) H1) : tPart te σ H Q := h
theorem g_someI {P : Int → Prop} {n : Int} (h : P n) : ∃ i, V.int n = .int i ∧ P i := ⟨n, rfl, h⟩
theorem reps_cut {vs : List V} {lo hi : Option Int} (r : Reps G vs xs) : Reps G (cutV vs lo hi) (cut xs lo hi) := by
  unfold cutV cut
  rw [r.len]
  exact (r.drop _).take _
theorem g_slL {lo hi : Option Int} (s : Sep G H L) (r : Rep G v xs) (q : ∀ p H', Sep G H' (OwnL p (cut xs lo hi) :: L) → Q (.ref p) H') : rSlA K v lo hi H Q := by
  obtain ⟨b, vs, rfl, h, rs⟩ := r
  exact .inl ⟨b, vs, rfl, .inl (.inl (s.gh _ _ h)), fun l hl => q l _ (s.ownNew hl (reps_cut rs))⟩
def rRev (K : PySem.W.Frag) (x : V) (H1 : Hp) (Q : VK) : Prop := ∃ a xs, x = .ref a ∧ SqL K H1 a xs ∧ ∀ p, H1 p = none → Q (.ref p) (upd H1 p (.lst xs.reverse))
theorem g_revL (h : te σ H fun x H1 => rRev K x H1 Q) : tRevL K te σ H Q := h
theorem g_rvL (s : Sep G H L) (r : Rep G v xs) (q : ∀ p H', Sep G H' (OwnL p xs.reverse :: L) → Q (.ref p) H') : rRev K v H Q := by
  obtain ⟨b, vs, rfl, h, rs⟩ := r
  exact ⟨b, vs, rfl, .inl (.inl (s.gh _ _ h)), fun l hl => q l _ (s.ownNew hl rs.rev)⟩
theorem reps0 : Reps G [] ([] : List A) := trivial
theorem reps1 (r : Rep G v a) : Reps G [v] [a] := ⟨r, trivial⟩
theorem reps2 {b : A} (r : Rep G v a) (r' : Rep G w b) : Reps G [v, w] [a, b] := ⟨r, r', trivial⟩
theorem reps3 {b c : A} (r : Rep G v a) (r' : Rep G w b) (r'' : Rep G x c) : Reps G [v, w, x] [a, b, c] := ⟨r, r', r'', trivial⟩
/-- `n in (a, b)`, a tuple that was just laid -/
theorem g_inT {n : Int} {ns : List Int} {vs : List V} (h : G p = some (.tup vs)) (e : vs = ns.map V.int) (s : Same G H) (q : Q (.bl (decide (n ∈ ns))) H) : rInA K (.int n) (.ref p) H Q := by
  subst e
  refine .inl ⟨p, _, rfl, .inr (.inl (.inl (s _ _ h))), rfl, flat_ints ns, ?_⟩
  rw [inV_ints]
  exact q
theorem g_niT {n : Int} {ns : List Int} {vs : List V} (h : G p = some (.tup vs)) (e : vs = ns.map V.int) (s : Same G H) (q : Q (.bl (decide (n ∉ ns))) H) : rNiA K (.int n) (.ref p) H Q := by
  subst e
  refine .inl ⟨p, _, rfl, .inr (.inl (.inl (s _ _ h))), rfl, flat_ints ns, ?_⟩
  rw [inV_ints]
  have e : (!decide (n ∈ ns)) = decide (n ∉ ns) := by simp
  rw [e]
  exact q
end
end EB

namespace EB
open PySem L2 PyProof.Rows
/-! ### sorted: ints and pairs of ints, either way round -/
/-- the order of pairs, as a bool: x not behind y -/
def leP (x y : Int × Int) : Bool := decide (x.1 < y.1 ∨ (x.1 = y.1 ∧ x.2 ≤ y.2))
def geP (x y : Int × Int) : Bool := leP y x
def leI (x y : Int) : Bool := decide (x ≤ y)
def geI (x y : Int) : Bool := decide (y ≤ x)
def upP (xs : List (Int × Int)) : List (Int × Int) := xs.mergeSort leP
def dnP (xs : List (Int × Int)) : List (Int × Int) := xs.mergeSort geP
def upI (xs : List Int) : List Int := xs.mergeSort leI
def dnI (xs : List Int) : List Int := xs.mergeSort geI
theorem leP_trans (a b c : Int × Int) (h : leP a b = true) (h2 : leP b c = true) : leP a c = true := by
  simp only [leP, decide_eq_true_eq] at *
  omega
theorem leP_total (a b : Int × Int) : (leP a b || leP b a) = true := by
  simp only [leP, Bool.or_eq_true, decide_eq_true_eq]
  omega
theorem leP_anti {a b : Int × Int} (h : leP a b = true) (h2 : leP b a = true) : a = b := by
  simp only [leP, decide_eq_true_eq] at *
  ext <;> omega
theorem upP_perm (xs : List (Int × Int)) : (upP xs).Perm xs := List.mergeSort_perm _ _
theorem dnP_perm (xs : List (Int × Int)) : (dnP xs).Perm xs := List.mergeSort_perm _ _
theorem upI_perm (xs : List Int) : (upI xs).Perm xs := List.mergeSort_perm _ _
theorem dnI_perm (xs : List Int) : (dnI xs).Perm xs := List.mergeSort_perm _ _
theorem upP_pw (xs : List (Int × Int)) : (upP xs).Pairwise fun a b => leP a b = true := List.pairwise_mergeSort leP_trans leP_total _
theorem dnP_pw (xs : List (Int × Int)) : (dnP xs).Pairwise fun a b => leP b a = true := List.pairwise_mergeSort (le := geP) (fun a b c h h2 => leP_trans c b a h2 h) (fun a b => leP_total b a) _
theorem upI_pw (xs : List Int) : (upI xs).Pairwise (· ≤ ·) := (List.pairwise_mergeSort (le := leI) (fun a b c h h2 => by simp only [leI, decide_eq_true_eq] at *; omega) (fun a b => by simp only [leI, Bool.or_eq_true, decide_eq_true_eq]; omega) xs).imp fun h => by simpa [leI] using h
theorem dnI_pw (xs : List Int) : (dnI xs).Pairwise (· ≥ ·) := (List.pairwise_mergeSort (le := geI) (fun a b c h h2 => by simp only [geI, decide_eq_true_eq] at *; omega) (fun a b => by simp only [geI, Bool.or_eq_true, decide_eq_true_eq]; omega) xs).imp fun h => by simpa [geI] using h
theorem upP_uniq {xs ys : List (Int × Int)} (p : ys.Perm xs) (h : ys.Pairwise fun a b => leP a b = true) : ys = upP xs :=
  List.Perm.eq_of_pairwise (fun _ _ _ _ => leP_anti) h (upP_pw xs) (p.trans (upP_perm xs).symm)
theorem dnP_uniq {xs ys : List (Int × Int)} (p : ys.Perm xs) (h : ys.Pairwise fun a b => leP b a = true) : ys = dnP xs :=
  List.Perm.eq_of_pairwise (le := fun a b => leP b a = true) (fun _ _ _ _ x y => leP_anti y x) h (dnP_pw xs) (p.trans (dnP_perm xs).symm)
theorem upI_uniq {xs ys : List Int} (p : ys.Perm xs) (h : ys.Pairwise (· ≤ ·)) : ys = upI xs :=
  List.Perm.eq_of_pairwise (fun _ _ _ _ => Int.le_antisymm) h (upI_pw xs) (p.trans (upI_perm xs).symm)
theorem dnI_uniq {xs ys : List Int} (p : ys.Perm xs) (h : ys.Pairwise (· ≥ ·)) : ys = dnI xs :=
  List.Perm.eq_of_pairwise (le := (· ≥ ·)) (fun _ _ _ _ x y => Int.le_antisymm y x) h (dnI_pw xs) (p.trans (dnI_perm xs).symm)
theorem upP_rev (xs : List (Int × Int)) : (upP xs).reverse = dnP xs := dnP_uniq ((List.reverse_perm _).trans (upP_perm xs)) (List.pairwise_reverse.mpr (upP_pw xs))
theorem upI_rev (xs : List Int) : (upI xs).reverse = dnI xs := dnI_uniq ((List.reverse_perm _).trans (upI_perm xs)) (List.pairwise_reverse.mpr (upI_pw xs))
theorem dnP_of_perm {xs ys : List (Int × Int)} (p : ys.Perm xs) : dnP ys = dnP xs := dnP_uniq ((dnP_perm ys).trans p) (dnP_pw ys)
theorem dnI_of_perm {xs ys : List Int} (p : ys.Perm xs) : dnI ys = dnI xs := dnI_uniq ((dnI_perm ys).trans p) (dnI_pw ys)

/-- a pair of ints that stands at v -/
def kOf (H : Hp) (v : V) : Int × Int := match v with
  | .ref t => match H t with
    | some (.tup [.int a, .int b]) => (a, b)
    | _ => (0, 0)
  | _ => (0, 0)
theorem kOf_at {H : Hp} {v : V} {x : Int × Int} (r : Rep H v x) : kOf H v = x ∧ ∃ t, v = .ref t ∧ H t = some (.tup [.int x.1, .int x.2]) := by
  obtain ⟨p, a, b, rfl, h, ra, rb⟩ := r
  obtain rfl := Rep.int ra
  obtain rfl := Rep.int rb
  exact ⟨by show (match H p with | some (.tup [.int a, .int b]) => (a, b) | _ => (0, 0)) = _; rw [h], p, rfl, h⟩
theorem kOf_all {H : Hp} : ∀ {vs : List V} {xs : List (Int × Int)}, Reps H vs xs → vs.map (kOf H) = xs ∧ ∀ v ∈ vs, ∃ t, v = .ref t ∧ H t = some (.tup [.int (kOf H v).1, .int (kOf H v).2])
  | [], [], _ => ⟨rfl, fun _ h => by cases h⟩
  | v :: vs, x :: xs, ⟨r, rs⟩ => by
    obtain ⟨e, t, ev, ht⟩ := kOf_at r
    obtain ⟨e2, h2⟩ := kOf_all rs
    refine ⟨by rw [List.map_cons, e, e2], fun u hu => ?_⟩
    rcases List.mem_cons.mp hu with rfl | hu
    · exact ⟨t, ev, by rw [e]; exact ht⟩
    · exact h2 u hu
theorem kOf_reps {H : Hp} : ∀ {ys : List V}, (∀ v ∈ ys, ∃ t, v = .ref t ∧ H t = some (.tup [.int (kOf H v).1, .int (kOf H v).2])) → Reps H ys (ys.map (kOf H))
  | [], _ => trivial
  | y :: ys, h => by
    obtain ⟨t, e, ht⟩ := h y (List.mem_cons_self ..)
    exact ⟨⟨t, _, _, e, ht, rfl, rfl⟩, kOf_reps fun v hv => h v (List.mem_cons_of_mem _ hv)⟩
theorem srtd_leP {k : V → Int × Int} {ys : List V} (h : SrtO.Srtd (ltP k) ys) : (ys.map k).Pairwise fun a b => leP a b = true := by
  rw [List.pairwise_map]
  refine List.Pairwise.imp (fun {a b} h => ?_) h
  have h := SrtO.lexB_no.mp h
  simp only [leP, decide_eq_true_eq]
  omega
/-- sorted(xs), sorted(xs, reverse=b): xs a list of ints, or of pairs of ints -/
def rSrt (K : PySem.W.Frag) : List V → Hp → VK → Prop := fun vs H Q => rSortedI K vs H Q ∨ rSortedPO K vs H Q
theorem cSorted {X : Cx} : CallR X (.builtin "sorted") (rSrt X.K) := by
  intro pins s σ H vs us Q I r h
  rcases h with h | h
  · exact cr_sortedI pins s σ H vs us Q I r h
  · exact cr_sortedPO pins s σ H vs us Q I r h
def rSortedPOR (K : PySem.W.Frag) : List V → List V → Hp → VK → Prop := fun vs zs H Q => ∃ (a : Addr) (xs : List V) (k : V → Int × Int), vs = [V.ref a] ∧ zs = [.bl true] ∧ SqL K H a xs ∧ (∀ x ∈ xs, ∃ t, x = V.ref t ∧ H t = some (.tup [.int (k x).1, .int (k x).2])) ∧
  ∀ ys p, SrtO.Srtd (ltP k) ys → ys.Perm xs → H p = none → Q (.ref p) (upd H p (.lst ys.reverse))
theorem cr_sortedPOR {X : Cx} : CallRK X (.builtin "sorted") [Str.ofString "reverse"] (rSortedPOR X.K) := by
  intro pins s σ H vs zs us ws Q I r rz h
  obtain ⟨a, xs, k, rfl, rfl, hs, hx, q⟩ := h
  obtain rfl := Vals.ref1 r
  obtain ⟨w1, rfl, e1⟩ := vals1 rz
  obtain rfl : w1 = Value.bool true := e1
  obtain ⟨its, rv, hl, hz⟩ := I.list hs
  obtain ⟨e1, e2⟩ := refs_back rv fun x m => by
    obtain ⟨t, e, _⟩ := hx x m
    exact ⟨t, e⟩
  have hp : ∀ v ∈ its, Srt.IsPair s.heap v (k (backV v)).1 (k (backV v)).2 := fun v hv => by
    obtain ⟨t, rfl⟩ := e2 v hv
    have hm : V.ref t ∈ xs := by rw [e1]; exact List.mem_map.mpr ⟨_, hv, rfl⟩
    obtain ⟨t', e, ht⟩ := hx _ hm
    cases e
    obtain ⟨_, its2, r2, o, ho, hc, n, hd⟩ := I.hok _ _ ht
    obtain ⟨u1, u2, rfl, ri, rj⟩ := vals2 r2
    obtain ⟨t1, rfl⟩ := ri
    obtain ⟨t2, rfl⟩ := rj
    exact ⟨t, o, t1, t2, n, rfl, ho, hc, hd⟩
  refine SrtR.sorted_ordK (b := true) (fun _ => rfl) (PyProof.Rows.args_sorted_rev _ _) (fun _ => PyProof.Rows.args_list_sort_rev _ _) (SrtO.swo_lex fun u => k (backV u)) hl.isList (by rw [← rv.length]; exact hz) (fun h2 h₁ a' ha kk => ?_) fun out h1 h2 => ?_
  · refine SrtO.pairs_sortableO (s := { s with heap := h₁ }) (by omega) (fun v hm => (hp v hm).keeps fun b o e _ => (kk b o e).2) fun o e => ?_
    have e' : some o = some (seqObj "list" its.toArray 0) := e.symm.trans ha
    cases e'
    intro c
    exact absurd (Value.type.inj c) (by decide)
  · have h2p : out.Perm its := h2.perm.trans (List.reverse_perm _)
    have h3 : ∀ u ∈ out, ∃ a, u = Value.ref a := fun u hu => e2 u (h2p.mem_iff.mp hu)
    have hb : (out.map backV).Perm xs := by
      rw [e1]
      exact h2p.map backV
    have er : (out.map backV).reverse = out.reverse.map backV := by rw [List.map_reverse]
    have h4 : ∀ u ∈ out.reverse, ∃ a, u = Value.ref a := fun u hu => h3 u (List.mem_reverse.mp hu)
    have ea : out.reverse.toArray = out.toArray.reverse := by
      apply Array.ext'
      rw [Array.toList_reverse]
    obtain ⟨ep, he'⟩ := PyProof.Rows.sortedAll_at s.heap its (if true = true then out.toArray.reverse else out.toArray)
    have hlen : (out.map backV).reverse.length ≤ sizeLine := by
      rw [List.length_reverse, hb.length_eq]
      exact hz
    refine ⟨.ref _, upd H (s.heap.objs.size + 1) (.lst (out.map backV).reverse), I.laid (t' := s.toks) (fun _ _ => PyProof.Rows.sortedAll_old) (Nat.le_succ _) ⟨hlen, out.reverse, ep, by rw [er]; exact vals_back h4, by rw [ea]; exact he'⟩, rfl, q _ _ (SrtO.srtd_map h1) hb (I.hok.fresh (Nat.le_succ _))⟩
def rSrtRev (K : PySem.W.Frag) : List V → List V → Hp → VK → Prop := fun vs zs H Q => rSortedKw K true [.bl true] vs zs H Q ∨ rSortedPOR K vs zs H Q
theorem cSortedRev {X : Cx} : CallRK X (.builtin "sorted") [Str.ofString "reverse"] (rSrtRev X.K) := by
  intro pins s σ H vs zs us ws Q I r rz h
  rcases h with h | h
  · exact cr_sortedRev pins s σ H vs zs us ws Q I r rz h
  · exact cr_sortedPOR pins s σ H vs zs us ws Q I r rz h
section
variable {σ : L2.St} {G H : Hp} {Q : VK} {v w x y : V} {K : PySem.W.Frag} {L : List Res} {p : Addr}
theorem g_ckw {r : List V → List V → Hp → VK → Prop} {t tk : TA} (h : t σ H fun vs H1 => tk σ H1 fun zs H2 => r vs zs H2 Q) : tCKw r t tk σ H Q := h
theorem g_srtI {ns : List Int} (s : Sep G H L) (r : Rep G v ns) (q : ∀ p H', Sep G H' (OwnL p (upI ns) :: L) → Q (.ref p) H') : rSrt K [v] H Q := by
  obtain ⟨b, vs, rfl, h, rs⟩ := r
  obtain rfl := Reps.ints rs
  refine .inl ⟨b, ns, rfl, .inl (.inl (s.gh _ _ h)), fun ns' l h1 h2 hl => ?_⟩
  rw [upI_uniq h1 h2]
  exact q l _ (s.ownNew hl (reps_ints _))
theorem g_srtIR {ns : List Int} (s : Sep G H L) (r : Rep G v ns) (q : ∀ p H', Sep G H' (OwnL p (dnI ns) :: L) → Q (.ref p) H') : rSrtRev K [v] [.bl true] H Q := by
  obtain ⟨b, vs, rfl, h, rs⟩ := r
  obtain rfl := Reps.ints rs
  refine .inl ⟨b, ns, rfl, rfl, .inl (.inl (s.gh _ _ h)), fun ns' l h1 h2 hl => ?_⟩
  rw [dnI_uniq h1 h2]
  exact q l _ (s.ownNew hl (reps_ints _))
theorem g_srtP {ns : List (Int × Int)} (s : Sep G H L) (r : Rep G v ns) (q : ∀ p H', Sep G H' (OwnL p (upP ns) :: L) → Q (.ref p) H') : rSrt K [v] H Q := by
  obtain ⟨b, vs, rfl, h, rs⟩ := r
  obtain ⟨e, hx⟩ := kOf_all rs
  refine .inr ⟨b, vs, kOf G, rfl, .inl (.inl (s.gh _ _ h)), fun x m => ?_, fun ys l h1 h2 hl => ?_⟩
  · obtain ⟨t, e, ht⟩ := hx x m
    exact ⟨t, e, s.gh _ _ ht⟩
  · have h3 := upP_uniq (xs := ns) (ys := ys.map (kOf G)) (by rw [← e]; exact h2.perm.map _) (srtd_leP h1)
    rw [← h3] at q
    exact q l _ (s.ownNew hl (kOf_reps fun v hv => hx v (h2.perm.mem_iff.mp hv)))
theorem g_srtPR {ns : List (Int × Int)} (s : Sep G H L) (r : Rep G v ns) (q : ∀ p H', Sep G H' (OwnL p (dnP ns) :: L) → Q (.ref p) H') : rSrtRev K [v] [.bl true] H Q := by
  obtain ⟨b, vs, rfl, h, rs⟩ := r
  obtain ⟨e, hx⟩ := kOf_all rs
  refine .inr ⟨b, vs, kOf G, rfl, rfl, .inl (.inl (s.gh _ _ h)), fun x m => ?_, fun ys l h1 h2 hl => ?_⟩
  · obtain ⟨t, e, ht⟩ := hx x m
    exact ⟨t, e, s.gh _ _ ht⟩
  · have h3 := upP_uniq (xs := ns) (ys := ys.map (kOf G)) (by rw [← e]; exact h2.map _) (srtd_leP h1)
    rw [← upP_rev, ← h3, ← List.map_reverse] at q
    exact q l _ (s.ownNew hl (kOf_reps fun v hv => hx v (h2.mem_iff.mp (List.mem_reverse.mp hv))))
end
end EB

namespace EB
open PySem L2
/-! ### raw values as items -/
structure Raw where
  v : V
instance : Rp Raw := ⟨fun _ v w => v = w.v, fun _ h => h⟩
theorem reps_raw {G : Hp} : ∀ vs : List V, Reps G vs (vs.map Raw.mk)
  | [] => trivial
  | v :: vs => ⟨rfl, reps_raw vs⟩
theorem Reps.raws {G : Hp} : ∀ {vs : List V} {ws : List Raw}, Reps G vs ws → vs = ws.map (·.v)
  | [], [], _ => rfl
  | v :: vs, w :: ws, ⟨r, rs⟩ => by
    have r : v = w.v := r
    rw [List.map_cons, ← Reps.raws rs, r]
/-! ### a look at all that there is, with new things left behind -/
theorem Sep.later {G H H' : Hp} {L : List Res} {D : Addr} {o : HO} (s : Sep G H L) (k : Same H H') (hd : H D = none) (e : H' D = some o) : ∃ G', Same G G' ∧ Sep G' H' L ∧ G' D = some o := by
  have hg : G D = none := s.gh.free hd
  obtain ⟨h, x, y, z⟩ := s.ex
  refine ⟨upd G D o, same_upd hg, ⟨fun a u ea => ?_, h, x.up (same_upd hg), y.trans k, fun a ha => ?_⟩, upd_same⟩
  · by_cases q : a = D
    · subst q
      rw [upd_same] at ea
      cases ea
      exact e
    · rw [upd_ne q] at ea
      exact k _ _ (s.gh _ _ ea)
  · have q : a ≠ D := fun q => ha (by rw [q]; exact y.free hd)
    rw [upd_ne q]
    exact z a ha
/-- .. and owned -/
theorem Sep.laterO {G H H' : Hp} {L : List Res} {D : Addr} {o : HO} (s : Sep G H L) (k : Same H H') (hd : H D = none) (e : H' D = some o) : Sep G H' (cell D o :: L) := by
  have hg : G D = none := s.gh.free hd
  obtain ⟨h, x, y, z⟩ := s.ex
  have hh : h D = none := y.free hd
  refine ⟨s.gh.trans k, upd h D o, ⟨upd emp D o, h, fun a => ?_, rfl, x⟩, fun a u ea => ?_, fun a ha => ?_⟩
  · by_cases q : a = D
    · subst q
      exact .inr ⟨hh, by rw [upd_same, upd_same]⟩
    · exact .inl ⟨by rw [upd_ne q]; rfl, by rw [upd_ne q]⟩
  · by_cases q : a = D
    · subst q
      rw [upd_same] at ea
      cases ea
      exact e
    · rw [upd_ne q] at ea
      exact k _ _ (y _ _ ea)
  · by_cases q : a = D
    · subst q
      exact hg
    · rw [upd_ne q] at ha
      exact z a ha
/-- what a comprehension over a snapshot leaves: its list, raw -/
theorem Sep.snap {B : Type} [Rp B] {G H G' H' : Hp} {L : List Res} {D : Addr} {acc : List B} (s : Sep G H L) (u : Same H G') (t : Sep G' H' [OwnL D acc]) : ∃ vs G2, Reps G' vs acc ∧ Same G G2 ∧ Sep G2 H' L ∧ G2 D = some (.lst vs) := by
  obtain ⟨vs, rs, t⟩ := t.ownO
  have hd : H D = none := u.free t.cellG
  obtain ⟨G2, u2, s2, e⟩ := s.later (u.trans t.gh) hd t.cellAt
  exact ⟨vs, G2, rs, u2, s2, e⟩
theorem Sep.snapI {G H G' H' : Hp} {L : List Res} {D : Addr} {acc : List Int} (s : Sep G H L) (u : Same H G') (t : Sep G' H' [OwnL D acc]) : ∃ G2, Same G G2 ∧ Sep G2 H' L ∧ Rep G2 (.ref D) acc := by
  obtain ⟨vs, G2, rs, u2, s2, e⟩ := s.snap u t
  obtain rfl := Reps.ints rs
  exact ⟨G2, u2, s2, D, _, rfl, e, reps_ints acc⟩
/-! ### rooms: a list of its own of lists of their own -/
section
variable {A : Type} [Rp A]
def owns (as : List Addr) (xss : List (List A)) : List Res := (as.zip xss).map fun z => OwnL z.1 z.2
def Rooms (p : Addr) (xss : List (List A)) : Res := .ex fun as : List Addr => .if (as.length = xss.length) (.all (cell p (.lst (as.map V.ref)) :: owns as xss))
/-- all but the i-th, which stands at a -/
def RoomsBut (p : Addr) (i : Nat) (a : Addr) (xss : List (List A)) : Res := .ex fun as : List Addr => .if (as.length = xss.length ∧ as[i]? = some a) (.all (cell p (.lst (as.map V.ref)) :: (owns as xss).eraseIdx i))
variable {G H : Hp} {L : List Res} {p : Addr} {xss : List (List A)} {xs ys : List A} {i : Nat}
theorem Rooms.open (s : Sep G H (Rooms p xss :: L)) : ∃ as : List Addr, as.length = xss.length ∧ Sep G H (cell p (.lst (as.map V.ref)) :: (owns as xss ++ L)) := by
  obtain ⟨as, s⟩ := s.exO
  obtain ⟨h, s⟩ := s.ifO
  exact ⟨as, h, s.allO⟩
theorem Rooms.close {as : List Addr} (h : as.length = xss.length) (s : Sep G H (cell p (.lst (as.map V.ref)) :: (owns as xss ++ L))) : Sep G H (Rooms p xss :: L) := .exI as (.ifI h (.allI s))
theorem perm_at {B : Type} : ∀ {l : List B} {i : Nat} {x : B}, l[i]? = some x → l.Perm (x :: l.eraseIdx i)
  | [], _, _, h => by simp at h
  | y :: l, 0, x, h => by
    have e : y = x := Option.some.inj h
    subst e
    exact .refl _
  | y :: l, i + 1, x, h => by
    have h : l[i]? = some x := h
    exact ((perm_at h).cons y).trans (.swap _ _ _)
theorem owns_at {as : List Addr} {a : Addr} (h1 : as[i]? = some a) (h2 : xss[i]? = some xs) : (owns as xss)[i]? = some (OwnL a xs) := by
  simp only [owns, List.getElem?_map, Option.map_eq_some_iff, List.getElem?_zip_eq_some, Prod.exists]
  exact ⟨a, xs, ⟨h1, h2⟩, rfl⟩
theorem owns_set : ∀ {i : Nat} {as : List Addr} {xss : List (List A)}, (owns as (xss.set i xs)).eraseIdx i = (owns as xss).eraseIdx i
  | _, [], _ => by simp [owns]
  | _, _ :: _, [] => by simp [owns]
  | 0, _ :: _, _ :: _ => rfl
  | i + 1, a :: as, x :: xss => by
    show OwnL a x :: (owns as (xss.set i xs)).eraseIdx i = OwnL a x :: (owns as xss).eraseIdx i
    rw [owns_set]
theorem Rooms.at (s : Sep G H (Rooms p xss :: L)) (h : xss[i]? = some xs) : ∃ (a : Addr) (as : List Addr), as[i]? = some a ∧ H p = some (.lst (as.map V.ref)) ∧ Sep G H (OwnL a xs :: RoomsBut p i a xss :: L) := by
  obtain ⟨as, hl, s⟩ := Rooms.open s
  have hi : i < as.length := by
    have := (List.getElem?_eq_some_iff.mp h).1
    omega
  have ha : as[i]? = some as[i] := by simp [hi]
  have e := owns_at ha h
  refine ⟨as[i], as, ha, s.cellAt, ?_⟩
  have s2 : Sep G H (OwnL as[i] xs :: ((cell p (.lst (as.map V.ref)) :: (owns as xss).eraseIdx i) ++ L)) := s.perm ((((perm_at e).append_right L).cons _).trans (.swap _ _ _))
  have s3 := s2.perm (L' := ((cell p (.lst (as.map V.ref)) :: (owns as xss).eraseIdx i) ++ (OwnL as[i] xs :: L))) (List.perm_middle.symm)
  exact (Sep.exI (f := fun as : List Addr => .if (as.length = xss.length ∧ as[i]? = some _) (.all (cell p (.lst (as.map V.ref)) :: (owns as xss).eraseIdx i))) as (.ifI ⟨hl, ha⟩ (.allI s3))).sw
theorem Rooms.put {a : Addr} (hi : i < xss.length) (s : Sep G H (OwnL a ys :: RoomsBut p i a xss :: L)) : Sep G H (Rooms p (xss.set i ys) :: L) := by
  obtain ⟨as, s⟩ := s.sw.exO
  obtain ⟨⟨hl, ha⟩, s⟩ := s.ifO
  have s := s.allO
  have s2 := s.perm (L' := OwnL a ys :: ((cell p (.lst (as.map V.ref)) :: (owns as xss).eraseIdx i) ++ L)) List.perm_middle
  have h2 : (xss.set i ys)[i]? = some ys := by simp [hi]
  have e := owns_at ha h2
  refine Rooms.close (as := as) (by rw [List.length_set]; exact hl) ?_
  refine s2.perm ?_
  refine (List.Perm.swap _ _ _).trans (.cons _ ?_)
  rw [← owns_set (xs := ys)]
  exact ((perm_at e).append_right L).symm
theorem Rooms.new (s : Sep G H L) (hp : H p = none) : Sep G (upd H p (.lst [])) (Rooms p ([] : List (List A)) :: L) := Rooms.close (as := []) rfl (s.cellNew hp)
/-- one more at the end -/
theorem Rooms.more {a : Addr} (s : Sep G H (OwnL a ys :: Rooms p xss :: L)) : ∃ as : List Addr, as.length = xss.length ∧ H p = some (.lst (as.map V.ref)) ∧ Sep G (upd H p (.lst (as.map V.ref ++ [.ref a]))) (Rooms p (xss ++ [ys]) :: L) := by
  obtain ⟨as, hl, s⟩ := Rooms.open s.sw
  have hp := s.cellAt
  refine ⟨as, hl, hp, ?_⟩
  have s := s.cellSet (o' := .lst (as.map V.ref ++ [.ref a]))
  refine Rooms.close (as := as ++ [a]) (by simp [hl]) ?_
  have e : owns (as ++ [a]) (xss ++ [ys]) = owns as xss ++ [OwnL a ys] := by
    unfold owns
    rw [List.zip_append hl, List.map_append]
    rfl
  rw [e, List.map_append, List.append_assoc]
  exact s
/-- read at a heap that holds it -/
theorem star_owns : ∀ {as : List Addr} {xss : List (List A)} {h H : Hp}, as.length = xss.length → Star (owns as xss) G h → Same h H → Same G H → All2 (Rep H) (as.map V.ref) xss
  | [], [], _, _, _, _, _, _ => trivial
  | a :: as, x :: xss, h, H, hl, ⟨h1, h2, j, ⟨vs, e, r⟩, q⟩, k, g => by
    have k1 : Same h1 h := fun b o e => by
      rcases j b with ⟨e1, _⟩ | ⟨_, e2⟩
      · rw [e1] at e
        cases e
      · rw [e2]
        exact e
    have k2 : Same h2 h := fun b o e => by
      rcases j b with ⟨_, e2⟩ | ⟨e1, _⟩
      · rw [e2]
        exact e
      · rw [e1] at e
        cases e
    subst e
    exact ⟨⟨a, vs, rfl, k _ _ (k1 _ _ upd_same), r.up g⟩, star_owns (by simpa using hl) q (k2.trans k) g⟩
  | [], _ :: _, _, _, hl, _, _, _ => by cases hl
  | _ :: _, [], _, _, hl, _, _, _ => by cases hl
theorem Rooms.holds {h : Hp} (x : (Rooms p xss).P G h) (k : Same h H) (g : Same G H) : Rep H (.ref p) xss := by
  obtain ⟨as, hl, h1, h2, j, e, q⟩ := x
  have k1 : Same h1 h := fun b o e => by
    rcases j b with ⟨e1, _⟩ | ⟨_, e2⟩
    · rw [e1] at e
      cases e
    · rw [e2]
      exact e
  have k2 : Same h2 h := fun b o e => by
    rcases j b with ⟨_, e2⟩ | ⟨e1, _⟩
    · rw [e2]
      exact e
    · rw [e1] at e
      cases e
  have e : h1 = upd emp p (.lst (as.map V.ref)) := e
  subst e
  exact ⟨p, as.map V.ref, rfl, k _ _ (k1 _ _ upd_same), star_owns hl q (k2.trans k) g⟩
theorem Rooms.rep (s : Sep G H (Rooms p xss :: L)) : Rep H (.ref p) xss := by
  obtain ⟨h, x, k, _⟩ := s.get
  exact Rooms.holds x k s.gh
theorem Rooms.frz (s : Sep G H (Rooms p xss :: L)) : ∃ G', Same G G' ∧ Sep G' H L ∧ Rep G' (.ref p) xss := by
  obtain ⟨G', a, b, h, x, d⟩ := s.frz
  exact ⟨G', a, b, Rooms.holds x d a⟩
/-- the addresses -/
theorem Rooms.refs (s : Sep G H (Rooms p xss :: L)) : ∃ as : List Addr, as.length = xss.length ∧ H p = some (.lst (as.map V.ref)) ∧ ∀ (i : Nat) (xs : List A), xss[i]? = some xs → ∃ a : Addr, as[i]? = some a ∧ Rep H (.ref a) xs := by
  obtain ⟨q, vs, e, h, rs⟩ := Rooms.rep s
  cases e
  obtain ⟨as, hl, s⟩ := Rooms.open s
  have e2 := h.symm.trans s.cellAt
  cases e2
  refine ⟨as, hl, h, fun i xs hx => ?_⟩
  obtain ⟨w, hw, r⟩ := rs.get hx
  rw [List.getElem?_map] at hw
  cases e : as[i]? with
  | none =>
    rw [e] at hw
    cases hw
  | some a =>
    rw [e] at hw
    cases hw
    exact ⟨a, rfl, r⟩
end
section
variable {σ : St} {G H : Hp} {Q : VK} {D : Ends} {v w x y : V} {K : PySem.W.Frag} {L : List Res} {p : Addr}
variable {A : Type} [Rp A] {xss : List (List A)} {xs ys : List A} {a : A}
/-- found[i], to be written -/
theorem g_ixRooms {k : Int} (s : Sep G H (Rooms p xss :: L)) (h0 : 0 ≤ k) (h1 : xss[k.toNat]? = some xs) (q : ∀ b, Sep G H (OwnL b xs :: RoomsBut p k.toNat b xss :: L) → Q (.ref b) H) : rIx K (.ref p) (.int k) H Q := by
  obtain ⟨b, as, ha, hp, t⟩ := Rooms.at s h1
  exact .inl ⟨p, _, k, .ref b, rfl, rfl, .inl (.inl hp), at_pos h0 (by rw [List.getElem?_map, ha]; rfl), q b t⟩
/-- found.append(new list) -/
theorem g_appRooms {b : Addr} (s : Sep G H (OwnL b ys :: Rooms p xss :: L)) (hl : xss.length < 1000000) (k : ∀ H', Sep G H' (Rooms p (xss ++ [ys]) :: L) → Q .non H') : rAppend (.ref p) [.ref b] H Q := by
  obtain ⟨as, e, hp, t⟩ := Rooms.more s
  exact ⟨p, _, .ref b, rfl, rfl, hp, by rw [List.length_map, e]; exact small_lt hl, k _ t⟩
theorem g_lenRooms (s : Sep G H (Rooms p xss :: L)) (q : Q (.int (xss.length : Int)) H) : rLen K [.ref p] H Q := g_lenL (Rooms.rep s) (Same.refl _) q
theorem g_tyRooms {R : Prop} (s : Sep G H (Rooms p xss :: L)) (q : R) : tyV K "list" (.ref p) H ∧ R := g_tyL (Rooms.rep s) (Same.refl _) q
end
end EB

namespace EB
open PySem L2
/-! ### while -/
theorem g_turn {W : Nat → St → Hp → Prop} {m : Nat} {tb : TS} {D : Ends} {σ : St} {H : Hp} (h : tb { D with nx := fun σ' H' => ∃ m', m' < m ∧ W m' σ' H', ct := fun σ' H' => ∃ m', m' < m ∧ W m' σ' H', bk := D.nx } σ H) :
    ∃ N : St → Hp → Prop, (∀ σ' H', N σ' H' → ∃ m', m' < m ∧ W m' σ' H') ∧ tb { D with nx := N, ct := N, bk := D.nx } σ H := ⟨_, fun _ _ h => h, h⟩
/-! ### dicts with ints for keys -/
def kvI (xs : List (Int × V)) : List (Key × V) := xs.map fun z => (.inl z.1, z.2)
theorem kvI_get (k : Int) : ∀ xs : List (Int × V), valV (kvI xs) (.inl k) = xs.lookup k
  | [] => rfl
  | (a, v) :: xs => by
    show valV ((.inl a, v) :: kvI xs) (.inl k) = _
    by_cases e : a = k
    · subst e
      rw [valV_pos rfl, List.lookup_cons_self]
    · have e2 : (k == a) = false := by simpa using fun z => e z.symm
      rw [valV_neg (by simpa using e), kvI_get k xs]
      simp [List.lookup, e2]
theorem lookup_none {k : Int} : ∀ {xs : List (Int × V)}, xs.lookup k = none ↔ k ∉ xs.map (·.1)
  | [] => by simp
  | (a, v) :: xs => by
    by_cases e : k = a
    · subst e
      simp [List.lookup]
    · have e2 : (k == a) = false := by simpa using e
      simp only [List.lookup, e2, List.map_cons, List.mem_cons, not_or]
      rw [lookup_none]
      exact ⟨fun h => ⟨e, h⟩, fun h => h.2⟩
theorem kvI_put {k : Int} {v : V} {xs : List (Int × V)} (h : k ∉ xs.map (·.1)) : putK (kvI xs) (.inl k) v = kvI (xs ++ [(k, v)]) := by
  rw [putK_new v (by rw [kvI_get]; exact lookup_none.mpr h)]
  simp [kvI]
theorem kvI_drop {k : Int} {xs : List (Int × V)} : dropK (kvI xs) (.inl k) = kvI (xs.filter fun z => decide (z.1 ≠ k)) := by
  unfold dropK kvI
  rw [List.filter_map]
  congr 1
  apply List.filter_congr
  intro z _
  simp
section
variable {σ : St} {G H : Hp} {Q : VK} {D : Ends} {v w x y : V} {K : PySem.W.Frag} {L : List Res} {p : Addr}
theorem dI_get {P : Addr → Option V → Prop} {xs : List (Int × V)} {n : Int} (h : H p = some (.dK (kvI xs))) (q : P p (xs.lookup n)) : ∃ a o, V.ref p = .ref a ∧ DGet H a (.int n) o ∧ P a o := ⟨p, _, rfl, kvI_get n xs ▸ DGet.k (k := .inl n) h, q⟩
/-- a new key -/
theorem dI_put {P : Addr → Hp → Prop} {xs : List (Int × V)} {n : Int} (h : H p = some (.dK (kvI xs))) (hl : xs.length < 1000000) (hn : n ∉ xs.map (·.1)) (q : P p (upd H p (.dK (kvI (xs ++ [(n, v)]))))) : ∃ a H4, V.ref p = .ref a ∧ DPut H a (.int n) v H4 ∧ P a H4 :=
  ⟨p, _, rfl, DPut.k (k := .inl n) h (by unfold kvI; rw [List.length_map]; exact Nat.lt_of_lt_of_le hl (by decide)), by rw [kvI_put hn]; exact q⟩
/-- `{}` -/
theorem g_dnew (s : Sep G H L) (q : ∀ p H', Sep G H' (cell p (.dK []) :: L) → Q (.ref p) H') : tDNewK σ H Q := fun p hp => q p _ (s.cellNew hp)
end
end EB

namespace EB
open PySem L2
/-! ### isinstance -/
class TyN (A : Type) extends Rp A where
  nm : String
  ty : ∀ {K : PySem.W.Frag} {G H : Hp} {v : V} {x : A}, Rep G v x → Same G H → TyX K H v (.type nm)
instance : TyN Int where
  nm := "int"
  ty := fun {K G H v x} r s => by
    obtain rfl := r.int
    exact .base (.int _)
instance : TyN Bool where
  nm := "bool"
  ty := fun {K G H v x} r s => by
    obtain rfl := r.bl
    exact .base (.bl _)
instance : TyN Str where
  nm := "str"
  ty := fun {K G H v x} r s => by
    obtain rfl := r.str
    exact .base (.str _)
instance {A : Type} [Rp A] : TyN (List A) where
  nm := "list"
  ty := fun {K G H v x} r s => by
    obtain ⟨p, vs, rfl, h, rs⟩ := r
    exact .base (.lst (s _ _ h))
instance {A B : Type} [Rp A] [Rp B] : TyN (A × B) where
  nm := "tuple"
  ty := fun {K G H v x} r s => by
    obtain ⟨p, a, b, rfl, h, ra, rb⟩ := r
    exact .base (.tup (s _ _ h))
def rIsA (K : PySem.W.Frag) : List V → Hp → VK → Prop := fun xs H Q => rIsi K xs H Q ∨ rIsiT K xs H Q
theorem cIsi {X : Cx} : CallR X (.builtin "isinstance") (rIsA X.K) := by
  intro pins s σ H xs us Q I r h
  rcases h with h | h
  · exact call_isi pins s σ H xs us Q I r h
  · exact call_isiT pins s σ H xs us Q I r h
theorem kb1 : kitB "int" "bool" = some false := by decide +kernel
theorem kb2 : kitB "int" "int" = some true := by decide +kernel
theorem kb3 : kitB "int" "str" = some false := by decide +kernel
theorem kb4 : kitB "int" "list" = some false := by decide +kernel
theorem kb5 : kitB "int" "tuple" = some false := by decide +kernel
theorem kb6 : kitB "bool" "bool" = some true := by decide +kernel
theorem kb7 : kitB "bool" "int" = some true := by decide +kernel
theorem kb8 : kitB "str" "bool" = some false := by decide +kernel
theorem kb9 : kitB "str" "int" = some false := by decide +kernel
theorem kb10 : kitB "str" "str" = some true := by decide +kernel
theorem kb11 : kitB "list" "bool" = some false := by decide +kernel
theorem kb12 : kitB "list" "int" = some false := by decide +kernel
theorem kb13 : kitB "list" "str" = some false := by decide +kernel
theorem kb14 : kitB "list" "list" = some true := by decide +kernel
theorem kb15 : kitB "list" "tuple" = some false := by decide +kernel
theorem kb16 : kitB "tuple" "bool" = some false := by decide +kernel
theorem kb17 : kitB "tuple" "int" = some false := by decide +kernel
theorem kb18 : kitB "tuple" "str" = some false := by decide +kernel
theorem kb19 : kitB "tuple" "list" = some false := by decide +kernel
theorem kb20 : kitB "tuple" "tuple" = some true := by decide +kernel
theorem kb21 : kitB "NoneType" "bool" = some false := by decide +kernel
theorem kb22 : kitB "NoneType" "int" = some false := by decide +kernel
theorem kb23 : kitB "NoneType" "str" = some false := by decide +kernel
theorem kb24 : kitB "NoneType" "list" = some false := by decide +kernel
theorem kb25 : kitB "NoneType" "tuple" = some false := by decide +kernel
theorem kb26 : kitB "str" "list" = some false := by decide +kernel
theorem kb27 : kitB "str" "tuple" = some false := by decide +kernel
theorem kb28 : kitB "bool" "str" = some false := by decide +kernel
theorem kb29 : kitB "bool" "list" = some false := by decide +kernel
theorem kb30 : kitB "bool" "tuple" = some false := by decide +kernel
section
variable {σ : St} {G H : Hp} {Q : VK} {D : Ends} {v w x y : V} {K : PySem.W.Frag} {L : List Res} {p : Addr} {n : String} {b : Bool}
theorem g_isTy {A : Type} [TyN A] {z : A} (r : Rep G v z) (s : Same G H) (e : kitB (TyN.nm A) n = some b) (q : Q (.bl b) H) : rIsA K [v, .ty n] H Q := .inl ⟨v, .ty n, _, _, b, rfl, .ty n, TyN.ty r s, kit_ty e, q⟩
theorem g_isNo (e : kitB "NoneType" n = some b) (q : Q (.bl b) H) : rIsA K [.non, .ty n] H Q := .inl ⟨_, .ty n, _, _, b, rfl, .ty n, .base .non, kit_ty e, q⟩
/-- isinstance(x, (T1, T2)) -/
theorem g_isTy2 {A : Type} [TyN A] {z : A} {n1 n2 : String} {b1 b2 : Bool} (hp : H p = some (.tup [.ty n1, .ty n2])) (r : Rep G v z) (s : Same G H) (e1 : kitB (TyN.nm A) n1 = some b1) (e2 : kitB (TyN.nm A) n2 = some b2) (q : Q (.bl (b1 || b2)) H) : rIsA K [v, .ref p] H Q := by
  refine .inr ⟨v, p, _, _, [.type n1, .type n2], b1 || b2, rfl, hp, .cons (.ty n1) (.cons (.ty n2) .nil), TyN.ty r s, ?_, q⟩
  refine kitAny_cons (kit_ty e1) (fun h => ?_) (fun h => by rw [h]; rfl)
  subst h
  refine kitAny_cons (kit_ty e2) (fun h => ?_) (fun h => by rw [h]; rfl)
  subst h
  exact kitAny_nil
theorem g_isNo2 {n1 n2 : String} {b1 b2 : Bool} (hp : H p = some (.tup [.ty n1, .ty n2])) (e1 : kitB "NoneType" n1 = some b1) (e2 : kitB "NoneType" n2 = some b2) (q : Q (.bl (b1 || b2)) H) : rIsA K [.non, .ref p] H Q := by
  refine .inr ⟨.non, p, _, _, [.type n1, .type n2], b1 || b2, rfl, hp, .cons (.ty n1) (.cons (.ty n2) .nil), .base .non, ?_, q⟩
  refine kitAny_cons (kit_ty e1) (fun h => ?_) (fun h => by rw [h]; rfl)
  subst h
  refine kitAny_cons (kit_ty e2) (fun h => ?_) (fun h => by rw [h]; rfl)
  subst h
  exact kitAny_nil
/-! ### lists of fixed places -/
theorem g_ixC {vs : List V} {k : Int} (h : H p = some (.lst vs)) (hk : atI vs k = some w) (q : Q w H) : rIx K (.ref p) (.int k) H Q := .inl ⟨p, vs, k, w, rfl, rfl, .inl (.inl h), hk, q⟩
theorem g_setC {vs : List V} {k : Int} {j : Nat} {P : Hp → Prop} (s : Sep G H (cell p (.lst vs) :: L)) (hk : ixN vs.length k = some j) (q : ∀ H', Sep G H' (cell p (.lst (vs.set j v)) :: L) → P H') : rSetL (.ref p) (.int k) v H P := ⟨p, vs, k, j, rfl, rfl, s.cellAt, hk, q _ s.cellSet⟩
theorem g_eqB {a b : Bool} (h : Q (.bl (decide (a = b))) H) : rEqA K (.bl a) (.bl b) H Q := g_eqT (x := a) (y := b) (G := H) (G' := H) rfl rfl (Same.refl _) (Same.refl _) h
theorem g_neB {a b : Bool} (h : Q (.bl (decide (a ≠ b))) H) : rNeA K (.bl a) (.bl b) H Q := g_neT (x := a) (y := b) (G := H) (G' := H) rfl rfl (Same.refl _) (Same.refl _) h
end
theorem rep_nil_new {A : Type} [Rp A] {H : Hp} {q : Addr} : Rep (upd H q (.lst [])) (.ref q) ([] : List A) := ⟨q, [], rfl, upd_same, trivial⟩
section
variable {σ : St} {H : Hp} {Q : VK} {ta tb : TE}
theorem g_andV (h : ta σ H fun x H1 => ∃ c, x = .bl c ∧ if c = true then tb σ H1 Q else Q (.bl false) H1) : tAndV ta tb σ H Q := h
theorem g_orV (h : ta σ H fun x H1 => ∃ c, x = .bl c ∧ if c = true then Q (.bl true) H1 else tb σ H1 Q) : tOrV ta tb σ H Q := h
theorem g_notV (h : ta σ H fun x H1 => ∃ c, x = .bl c ∧ Q (.bl (!c)) H1) : tNotV ta σ H Q := h
theorem g_iteNT {A B : Prop} (h : B) : if (!true) = true then A else B := by
  rw [if_neg (by decide)]
  exact h
theorem g_iteNF {A B : Prop} (h : A) : if (!false) = true then A else B := by
  rw [if_pos (by decide)]
  exact h
end
instance {a b : Int} : Decidable (CM a b) := by
  unfold CM
  infer_instance
/-! ### promises put together -/
def SpOr (a b : Sp) : Sp := fun vs H Q E => a vs H Q E ∨ b vs H Q E
end EB

namespace EB
open PySem L2
section
variable {σ : St} {G H : Hp} {Q : VK} {D : Ends} {v w x y : V} {K : PySem.W.Frag} {L M : List Res} {C : Res} {p : Addr} {g : TG} {tbd : TS}
theorem Sep.dropL : ∀ {M : List Res}, Sep G H (M ++ L) → Sep G H L
  | [], s => s
  | _ :: _, s => Sep.dropL s.drop
/-- over a list that stands at p as it is, turn by turn -/
theorem loopC {vs : List V} (s : SqL K H p vs) (Pv : Nat → St → Hp → Prop) (h0 : Pv 0 σ H) (hl : ∀ i σ H, i ≤ vs.length → Pv i σ H → SqL K H p vs)
    (hs : ∀ i v σ H, vs[i]? = some v → Pv i σ H → g v σ H fun σ2 H2 => tbd { D with nx := Pv (i + 1), ct := Pv (i + 1), bk := D.nx } σ2 H2) (hd : ∀ σ H, Pv vs.length σ H → D.nx σ H) :
    ∃ a, V.ref p = .ref a ∧ (∃ xs, SqL K H a xs) ∧ Loop (Itl K a) g tbd D σ H := ⟨p, rfl, ⟨_, s⟩, for_list (K := K) (a := p) (xs := vs) Pv h0 hl hs hd⟩
theorem g_appC {vs : List V} (s : Sep G H (cell p (.lst vs) :: L)) (hl : vs.length < 1000000) (k : ∀ H', Sep G H' (cell p (.lst (vs ++ [v])) :: L) → Q .non H') : rAppend (.ref p) [v] H Q :=
  ⟨p, vs, v, rfl, rfl, s.cellAt, small_lt hl, k _ s.cellSet⟩
theorem g_tyC {R : Prop} {vs : List V} (h : H p = some (.lst vs)) (q : R) : tyV K "list" (.ref p) H ∧ R := ⟨.inl ⟨rfl, vs, .inl (.inl h)⟩, q⟩
theorem g_lenC {vs : List V} (h : H p = some (.lst vs)) (q : Q (.int (vs.length : Int)) H) : rLen K [.ref p] H Q := .inl ⟨vs, .inl (.inl (.inl h)), q⟩
variable {A : Type} [Rp A] {xss : List (List A)} {xs ys : List A} {i : Nat} {as : List Addr} {a : Addr}
theorem owns_focus (s : Sep G H (C :: (owns as xss ++ L))) (h1 : as[i]? = some a) (h2 : xss[i]? = some xs) : Sep G H (OwnL a xs :: C :: ((owns as xss).eraseIdx i ++ L)) :=
  s.perm ((((perm_at (owns_at h1 h2)).append_right L).cons _).trans (.swap _ _ _))
theorem owns_back (h1 : as[i]? = some a) (hi : i < xss.length) (s : Sep G H (OwnL a ys :: C :: ((owns as xss).eraseIdx i ++ L))) : Sep G H (C :: (owns as (xss.set i ys) ++ L)) := by
  have h2 : (xss.set i ys)[i]? = some ys := by simp [hi]
  refine s.perm ((List.Perm.swap _ _ _).trans (.cons _ ?_))
  rw [← owns_set (xs := ys)]
  exact ((perm_at (owns_at h1 h2)).append_right L).symm
end
end EB

namespace EB
open PySem L2
/-! ### items that hang on no heap -/
class Flat (A : Type) [Rp A] : Prop where
  flat : ∀ {G G' : Hp} {v : V} {x : A}, Rep G v x → Rep G' v x
instance : Flat Int := ⟨fun h => h⟩
instance : Flat Bool := ⟨fun h => h⟩
instance : Flat Str := ⟨fun h => h⟩
instance : Flat Raw := ⟨fun h => h⟩
theorem All2.flat {A : Type} [Rp A] [Flat A] {G G' : Hp} {vs : List V} {xs : List A} (h : All2 (Rep G) vs xs) : All2 (Rep G') vs xs := h.mono fun _ _ r => Flat.flat r
section
variable {σ : St} {G H : Hp} {Q : VK} {D : Ends} {v w x y : V} {K : PySem.W.Frag} {L : List Res} {p : Addr}
variable {A : Type} [Rp A] [Flat A] {xs ys : List A} {a : A}
theorem g_slF {lo hi : Option Int} (s : Sep G H L) (r : Rep H v xs) (q : ∀ p H', Sep G H' (OwnL p (cut xs lo hi) :: L) → Q (.ref p) H') : rSlA K v lo hi H Q := by
  obtain ⟨b, vs, rfl, h, rs⟩ := r
  exact .inl ⟨b, vs, rfl, .inl (.inl h), fun l hl => q l _ (s.ownNew hl (reps_cut rs).flat)⟩
theorem g_listF (s : Sep G H L) (r : Rep H v xs) (q : ∀ p H', Sep G H' (OwnL p xs :: L) → Q (.ref p) H') : rLst K [v] H Q := by
  obtain ⟨b, vs, rfl, h, rs⟩ := r
  exact ⟨vs, .inl (.inl (.inl h)), fun l hl => q l _ (s.ownNew hl rs.flat)⟩
theorem g_catF (s : Sep G H L) (r : Rep H v xs) (r' : Rep H w ys) (hl : xs.length + ys.length ≤ 1000000) (q : ∀ p H', Sep G H' (OwnL p (xs ++ ys) :: L) → Q (.ref p) H') : rAdd v w H Q := by
  obtain ⟨b, vs, rfl, h, rs⟩ := r
  obtain ⟨c, ws, rfl, h', rs'⟩ := r'
  exact ⟨vs, ws, h, h', by rw [rs.len, rs'.len]; exact small_le hl, fun l hl => q l _ (s.ownNew hl (rs.flat.app rs'.flat))⟩
theorem g_srtF {ns : List Int} (s : Sep G H L) (r : Rep H v ns) (q : ∀ p H', Sep G H' (OwnL p (upI ns) :: L) → Q (.ref p) H') : rSrt K [v] H Q := by
  obtain ⟨b, vs, rfl, h, rs⟩ := r
  obtain rfl := Reps.ints rs
  refine .inl ⟨b, ns, rfl, .inl (.inl h), fun ns' l h1 h2 hl => ?_⟩
  rw [upI_uniq h1 h2]
  exact q l _ (s.ownNew hl (reps_ints _))
theorem g_srtFR {ns : List Int} (s : Sep G H L) (r : Rep H v ns) (q : ∀ p H', Sep G H' (OwnL p (dnI ns) :: L) → Q (.ref p) H') : rSrtRev K [v] [.bl true] H Q := by
  obtain ⟨b, vs, rfl, h, rs⟩ := r
  obtain rfl := Reps.ints rs
  refine .inl ⟨b, ns, rfl, rfl, .inl (.inl h), fun ns' l h1 h2 hl => ?_⟩
  rw [dnI_uniq h1 h2]
  exact q l _ (s.ownNew hl (reps_ints _))
theorem g_rvF (s : Sep G H L) (r : Rep H v xs) (q : ∀ p H', Sep G H' (OwnL p xs.reverse :: L) → Q (.ref p) H') : rRev K v H Q := by
  obtain ⟨b, vs, rfl, h, rs⟩ := r
  exact ⟨b, vs, rfl, .inl (.inl h), fun l hl => q l _ (s.ownNew hl rs.rev.flat)⟩
end
/-! ### list(range(..)), max, min, any, all -/
def rng (a b : Int) : List Int := (List.range (b - a).toNat).map fun i : Nat => a + (i : Int)
def rMax1 (K : PySem.W.Frag) : List V → Hp → VK → Prop := rMax K
def rMin1 (K : PySem.W.Frag) : List V → Hp → VK → Prop := rMin K
theorem cMax {X : Cx} (hc : X.calm = true) : CallR X (.builtin "max") (rMax1 X.K) := cr_max hc
theorem cMin {X : Cx} (hc : X.calm = true) : CallR X (.builtin "min") (rMin1 X.K) := cr_min hc
def rAny1 (K : PySem.W.Frag) : List V → Hp → VK → Prop := L2.rAny K
def rAll1 (K : PySem.W.Frag) : List V → Hp → VK → Prop := L2.rAll K
theorem cAny {X : Cx} (hc : X.calm = true) : CallR X (.builtin "any") (rAny1 X.K) := cr_any hc
theorem cAll {X : Cx} (hc : X.calm = true) : CallR X (.builtin "all") (rAll1 X.K) := cr_all hc
section
variable {σ : St} {G H : Hp} {Q : VK} {D : Ends} {v w x y : V} {K : PySem.W.Frag} {L : List Res} {p : Addr} {te tb : TE}
def rRg1 (x : V) (H1 : Hp) (Q : VK) : Prop := ∃ n, x = .int n ∧ RgOk 0 n ∧ ∀ q, H1 q = none → Q (.ref q) (upd H1 q (.lst (rgV 0 n)))
theorem g_lstRg1 (h : te σ H fun x H1 => rRg1 x H1 Q) : tLstRg (tRg1 te) σ H Q := h
theorem rgV_eq (a b : Int) : rgV a b = (rng a b).map V.int := by
  simp [rgV, rng, List.map_map]
theorem g_rg1 {n : Int} (s : Sep G H L) (h0 : 0 ≤ n) (h1 : n < 1000000) (q : ∀ p H', Sep G H' (OwnL p (rng 0 n) :: L) → Q (.ref p) H') : rRg1 (.int n) H Q := by
  refine ⟨n, rfl, .of_le (by decide) (by omega) (by decide) h0, fun l hl => ?_⟩
  rw [rgV_eq]
  exact q l _ (s.ownNew hl (reps_ints _))
theorem g_max1 {ns : List Int} (r : Rep G v ns) (s : Same G H) (h : 0 < ns.length) (q : ∀ m, m ∈ ns → (∀ y, y ∈ ns → y ≤ m) → Q (.int m) H) : rMax1 K [v] H Q := by
  obtain ⟨b, vs, rfl, h', rs⟩ := r
  obtain rfl := Reps.ints rs
  exact ⟨b, ns, rfl, .inl (.inl (s _ _ h')), h, q⟩
theorem g_min1 {ns : List Int} (r : Rep G v ns) (s : Same G H) (h : 0 < ns.length) (q : ∀ m, m ∈ ns → (∀ y, y ∈ ns → m ≤ y) → Q (.int m) H) : rMin1 K [v] H Q := by
  obtain ⟨b, vs, rfl, h', rs⟩ := r
  obtain rfl := Reps.ints rs
  exact ⟨b, ns, rfl, .inl (.inl (s _ _ h')), h, q⟩
theorem g_any {bs : List Bool} (r : Rep G v bs) (s : Same G H) (q : Q (.bl (bs.any id)) H) : rAny1 K [v] H Q := by
  obtain ⟨b, vs, rfl, h', rs⟩ := r
  obtain rfl := Reps.bls rs
  exact ⟨b, bs, rfl, .inl (.inl (s _ _ h')), q⟩
theorem g_all {bs : List Bool} (r : Rep G v bs) (s : Same G H) (q : Q (.bl (bs.all id)) H) : rAll1 K [v] H Q := by
  obtain ⟨b, vs, rfl, h', rs⟩ := r
  obtain rfl := Reps.bls rs
  exact ⟨b, bs, rfl, .inl (.inl (s _ _ h')), q⟩
end
end EB

namespace EB
open PySem L2
/-! ### dict comprehensions over lists, keys ints -/
def DcLoop (J : It) (g : TG) (tt : TT) (tk tv : TE) (σ : St) (vs : List Nat) (Q : VK) (H1 : Hp) : Prop := ∀ D, H1 D = none → ∃ W : Nat → Nat → Hp → Prop, (∃ m, W 0 m (upd H1 D (.dK []))) ∧ ∀ i m H, W i m H →
  (J.stop i H ∧ Q (.ref D) H) ∨ (J.go i H ∧ ∃ Nx : Hp → Prop, (∀ H', Nx H' → ∃ m', m' < m ∧ W (i + 1) m' H') ∧ ∀ x H', J.yld i H x H' → g x (wipe σ vs) H' fun σ2 H2 => wipe σ2 vs = wipe σ vs ∧ tt σ2 H2 fun b H3 =>
    if b = true then tk σ2 H3 fun y H4 => tv σ2 H4 fun z H5 => ∃ kvs k, y = kV k ∧ H5 D = some (.dK kvs) ∧ kvs.length < sizeLine ∧ Nx (upd H5 D (.dK (putK kvs k z))) else Nx H3)
def DNxt (G : Hp) (D : Addr) (I : List (Int × V) → List Res → Prop) : Hp → Prop := fun H' => ∃ acc G' Lc, I acc Lc ∧ Same G G' ∧ Sep G' H' (cell D (.dK (kvI acc)) :: Lc)
def DPt (G : Hp) (D : Addr) (I : List (Int × V) → List Res → Prop) (y z : V) : Hp → Prop := fun H5 => ∃ kvs k, y = kV k ∧ H5 D = some (.dK kvs) ∧ kvs.length < sizeLine ∧ DNxt G D I (upd H5 D (.dK (putK kvs k z)))
section
variable {σ : St} {G H : Hp} {Q : VK} {E : Ends} {ta tb te tl tk tv : TE} {tt : TT} {v w x y z : V} {K : PySem.W.Frag} {L : List Res} {g : TG} {vs : List Nat} {p q : Addr}
theorem g_dc {wi : TI} (h : wi σ H fun J H1 => DcLoop J g tt tk tv σ vs Q H1) : tDc wi g tt tk tv vs σ H Q := h
theorem dput_of {I : List (Int × V) → List Res → Prop} {G4 H4 : Hp} {D : Addr} {acc : List (Int × V)} {Lc : List Res} {n : Int} (u : Same G G4) (t : Sep G4 H4 (cell D (.dK (kvI acc)) :: Lc)) (hl : acc.length < 1000000) (hn : n ∉ acc.map (·.1)) (h : I (acc ++ [(n, z)]) Lc) : DPt G D I (.int n) z H4 :=
  ⟨kvI acc, .inl n, rfl, t.cellAt, by unfold kvI; rw [List.length_map]; exact small_lt hl, acc ++ [(n, z)], G4, Lc, h, u, by rw [kvI_put hn]; exact t.cellSet⟩
theorem dcL {A : Type} [Rp A] {xs : List A} (r : Rep G v xs) (s : Sep G H L) (I : Nat → List (Int × V) → List Res → Prop) (h0 : I 0 [] L)
    (hs : ∀ i v x D acc G' H' Lc, xs[i]? = some x → Rep G' v x → I i acc Lc → Same G G' → Sep G' H' (cell D (.dK (kvI acc)) :: Lc) →
      g v (wipe σ vs) H' fun σ2 H3 => wipe σ2 vs = wipe σ vs ∧ tt σ2 H3 fun b H4 => if b = true then tk σ2 H4 fun y H5 => tv σ2 H5 fun z H6 => DPt G D (I (i + 1)) y z H6 else DNxt G D (I (i + 1)) H4)
    (hd : ∀ D acc G' H' Lc, I xs.length acc Lc → Same G G' → Sep G' H' (cell D (.dK (kvI acc)) :: Lc) → Q (.ref D) H') :
    ∃ a, v = .ref a ∧ (∃ xs, SqL K H a xs) ∧ DcLoop (Itl K a) g tt tk tv σ vs Q H := by
  obtain ⟨p, ws, rfl, h, rs⟩ := id r
  have sq : ∀ {H'}, Same G H' → SqL K H' p ws := fun s => .inl (.inl (s _ _ h))
  refine ⟨p, rfl, ⟨ws, sq s.gh⟩, fun D hD => ?_⟩
  refine ⟨fun i m H => m = ws.length - i ∧ i ≤ ws.length ∧ DNxt G D (I i) H, ⟨ws.length, by simp, Nat.zero_le _, [], G, L, h0, Same.refl _, s.cellNew hD⟩, ?_⟩
  rintro i m H' ⟨rfl, hi, acc, G', Lc, pI, u, t⟩
  have wk := walk_list (K := K) (a := p) (xs := ws)
  have q := sq (u.trans t.gh)
  by_cases hlt : i < ws.length
  · refine .inr ⟨wk.goes i H' hlt q, DNxt G D (I (i + 1)), fun H2 p' => ⟨ws.length - (i + 1), by omega, rfl, hlt, p'⟩, fun x H2 y => ?_⟩
    obtain ⟨e, hy⟩ := wk.yields i H' x H2 hlt q y
    subst e
    obtain ⟨z, hz, rz⟩ := rs.get' hy
    exact hs i x z D acc G' H2 Lc hz (rz.up u) pI u t
  · have e : i = ws.length := by omega
    subst e
    exact .inl ⟨wk.stops H' q, hd D acc G' H' Lc (by rw [← rs.len]; exact pI) u t⟩
/-! a name set to a dict comprehension -/
theorem swD {kx vx : Expr} {gs : List Comprehension} {scope : Scope} {pos py : Pos} {y : Str} {l : Nat} {env : Env} (hk : env.scope.kind = .function) (hy : env.scope.names.lookup y = some .local) (hl : (py.line == pos.line) = true)
    (hn : (scope.names.any fun (n, k) => n == y && (k == .local || k == .cell)) = false) : swapsWith (.DictComp kx vx gs scope pos) (some (.Name y py)) l env = pure true := by
  have e1 : env.kindOf y = some .local := hy
  have e2 : env.blockKind = .function := by
    unfold Env.blockKind
    rw [hk]
    rfl
  unfold swapsWith
  simp only [e2, e1, hn, Expr.pos, hl]
  rfl
theorem ps_setDc {X : Cx} {i : Nat} {y : Str} {py : Pos} {kx vx tg iter : Expr} {ifs : List Expr} {scope : Scope} {own : List (Str × Nat)} {pos spos : Pos} {wi : TI} {g : TG} {tt : TT} {tk tv : TE} (hc : X.calm = true) (hN : X.N.Nodup) (hy : X.N[i]? = some y) (hyl : X.env.scope.names.lookup y = some .local)
    (hsw : swapsWith (.DictComp kx vx [⟨tg, iter, ifs, 0⟩] scope pos) (some (.Name y py)) spos.line X.env = pure true) (hi : PI X tg iter wi) (ok : BlkOk X.N X.env.scope scope own)
    (hg : ∀ (s : Shared) (H : Hp) (C : Addr) (cl : List (Str × Addr)) (fp : List Addr), PG (X.blk s H scope (compEnvC scope cl C X.env) fp) tg g) (ht : ∀ (s : Shared) (H : Hp) (C : Addr) (cl : List (Str × Addr)) (fp : List Addr), PTs (X.blk s H scope (compEnvC scope cl C X.env) fp) ifs tt)
    (hk : ∀ (s : Shared) (H : Hp) (C : Addr) (cl : List (Str × Addr)) (fp : List Addr), PE (X.blk s H scope (compEnvC scope cl C X.env) fp) kx tk)
    (hv : ∀ (s : Shared) (H : Hp) (C : Addr) (cl : List (Str × Addr)) (fp : List Addr), PE (X.blk s H scope (compEnvC scope cl C X.env) fp) vx tv) (hs : ∀ x, foldedSetIterable iter X.env x = pure x := by intro _; rfl) :
    PS X (.Assign [.Name y py] (.DictComp kx vx [⟨tg, iter, ifs, 0⟩] scope pos) spos) (tAsg (tDc wi g tt tk tv (own.map (·.2))) (gName i)) := by
  refine ⟨fun pins s σ H D I hh => ?_⟩
  rw [exec_Assign_Name_used _ _ _ _ hsw]
  refine wpAny_bind (wpAny_standAt (wpAny_bind ?_))
  show wpAny _ X.A (do let _ ← comprehension (.DictComp kx vx [⟨tg, iter, ifs, 0⟩] scope pos) scope X.env (firstIterPos [⟨tg, iter, ifs, 0⟩] pos) newDict false (eval iter X.env) (some (assign (.Name y py) X.env))) _ _ s
  have hh : tDc wi g tt tk tv (own.map (·.2)) σ H (fun x H1 => gName i x σ H1 D.nx) := hh
  refine wpAny_bind (thn (dc_core (Qf := fun _ s' => SP X pins D .next s') hc hN I hi ok hg ht hk hv hs hh fun d C s' m H' J qq nn ff => ?_) fun _ s' qz => wpAny_pure (wpAny_pure qz))
  show wpAny _ _ (assign (.Name y py) X.env (.ref d)) _ _ _
  refine wpAny_assign_Name (store_ok2 (v := V.ref d) J hN hy (.inl hyl) rfl (fun s2 J2 ⟨a, sb, ha⟩ => ?_) (.inr hyl))
  obtain ⟨f0, f1, f2, f3, f4, f5⟩ := ff
  have other : C ≠ a := ha.elim (fun z => by rw [z]; exact f1) fun z e => f4 y a z e.symm
  refine ⟨m, nn.sameBut sb other, fun h3 sb3 => ⟨_, H', J2.turned (t' := s2.toks) (fun b o hb e => ?_) f0 f1 f3 f4 f5, qq⟩⟩
  exact (sb3.2 b hb).trans e
/-! ### dict(pairs), del d[k], d != {} -/
def rDictP (K : PySem.W.Frag) : List V → Hp → VK → Prop := fun xs H Q => ∃ (a : Addr) (ps : List Addr) (kvs : List (Key × V)), xs = [.ref a] ∧ SqL K H a (ps.map V.ref) ∧ Paired (fun p kv => SqT K H p [kV kv.1, kv.2]) ps kvs ∧
    ∀ p, H p = none → Q (.ref p) (upd H p (.dK (mergeK [] kvs)))
theorem cDict {X : Cx} (hc : X.calm = true) : CallR X (.type "dict") (rDictP X.K) := call_dictP hc
theorem kvI_merge : ∀ (more acc : List (Int × V)), ((acc ++ more).map (·.1)).Nodup → mergeK (kvI acc) (kvI more) = kvI (acc ++ more)
  | [], acc, _ => by rw [List.append_nil]; rfl
  | (n, v) :: more, acc, h => by
    have hn : n ∉ acc.map (·.1) := by
      rw [List.map_append, List.nodup_append] at h
      intro hm
      exact h.2.2 n hm n (by simp) rfl
    show mergeK (putK (kvI acc) (.inl n) v) (kvI more) = _
    rw [kvI_put hn, kvI_merge more (acc ++ [(n, v)]) (by simpa using h)]
    simp
def intD (gs : List (Int × Int)) : List (Int × V) := gs.map fun g => (g.1, V.int g.2)
theorem pairs_of {H : Hp} : ∀ {vs : List V} {gs : List (Int × Int)}, Reps G vs gs → Same G H → ∃ ps : List Addr, vs = ps.map V.ref ∧ Paired (fun p (kv : Key × V) => SqT K H p [kV kv.1, kv.2]) ps (kvI (intD gs))
  | [], [], _, _ => ⟨[], rfl, .nil⟩
  | v :: vs, x :: gs, ⟨r, rs⟩, s => by
    obtain ⟨ps, e, h⟩ := pairs_of rs s
    obtain ⟨p, a, b, rfl, hp, ra, rb⟩ := r
    obtain rfl := Rep.int ra
    obtain rfl := Rep.int rb
    exact ⟨p :: ps, by rw [e]; rfl, .cons (.inl (.inl (s _ _ hp))) h⟩
theorem g_dictP {gs : List (Int × Int)} (s : Sep G H L) (r : Rep G v gs) (nd : (gs.map (·.1)).Nodup) (q : ∀ p H', Sep G H' (cell p (.dK (kvI (intD gs))) :: L) → Q (.ref p) H') : rDictP K [v] H Q := by
  obtain ⟨b, vs, rfl, h, rs⟩ := r
  obtain ⟨ps, rfl, hp⟩ := pairs_of (K := K) rs s.gh
  refine ⟨b, ps, _, rfl, .inl (.inl (s.gh _ _ h)), hp, fun l hl => ?_⟩
  have e : mergeK [] (kvI (intD gs)) = kvI (intD gs) := kvI_merge (intD gs) [] (by
    have : ((intD gs).map (·.1)) = gs.map (·.1) := by simp [intD, List.map_map, Function.comp_def]
    rw [List.nil_append, this]
    exact nd)
  rw [e]
  exact q l _ (s.cellNew hl)
theorem intD_get {gs : List (Int × Int)} {n : Int} : (intD gs).lookup n = (gs.lookup n).map V.int := by
  induction gs with
  | nil => rfl
  | cons g r ih =>
    obtain ⟨a, b⟩ := g
    by_cases e : n = a
    · subst e
      simp [intD, List.lookup]
    · have e2 : (n == a) = false := by simpa using e
      show List.lookup n ((a, V.int b) :: intD r) = _
      simp only [List.lookup, e2]
      exact ih
theorem dI_at {P : Addr → V → Prop} {xs : List (Int × V)} {n : Int} (h : H p = some (.dK (kvI xs))) (e : xs.lookup n = some v) (q : P p v) : ∃ a v, V.ref p = .ref a ∧ DGet H a (.int n) (some v) ∧ P a v := ⟨p, v, rfl, (by
  have := DGet.k (k := .inl n) h
  rw [kvI_get, e] at this
  exact this), q⟩
def rDel (x y : V) (H2 : Hp) (P : Hp → Prop) : Prop := ∃ a kvs k, x = .ref a ∧ H2 a = some (.dK kvs) ∧ y = kV k ∧ (valV kvs k).isSome = true ∧ P (upd H2 a (.dK (dropK kvs k)))
theorem g_del (h : ta σ H fun x H1 => tb σ H1 fun y H2 => rDel x y H2 fun H' => E.nx σ H') : sDDel ta tb E σ H := h
theorem dI_del {P : Hp → Prop} {xs : List (Int × V)} {n : Int} (s : Sep G H (cell p (.dK (kvI xs)) :: L)) (hm : n ∈ xs.map (·.1)) (k : ∀ H', Sep G H' (cell p (.dK (kvI (xs.filter fun z => decide (z.1 ≠ n)))) :: L) → P H') : rDel (.ref p) (.int n) H P := by
  refine ⟨p, kvI xs, .inl n, rfl, s.cellAt, rfl, ?_, ?_⟩
  · rw [kvI_get]
    cases e : xs.lookup n with
    | some _ => rfl
    | none => exact absurd hm (lookup_none.mp e)
  · rw [kvI_drop]
    exact k _ s.cellSet
theorem g_neD0 (h1 : H p = some (.dK [])) (h2 : H q = some (.dK [])) (k : Q (.bl false) H) : rNeDA (.ref p) (.ref q) H Q := ⟨p, q, [], [], rfl, rfl, h1, h2, rfl, (fun _ h => by cases h), k⟩
end
end EB

namespace EB
open PySem L2
/-! ### comprehensions with two fors -/
def Inner (J1 : It) (g1 : TG) (tt1 : TT) (te : TE) (σ2 : St) (vs1 : List Nat) (D : Addr) (N : Hp → Prop) (H4 : Hp) : Prop := ∃ W1 : Nat → Nat → Hp → Prop, (∃ m, W1 0 m H4) ∧ ∀ j k H, W1 j k H →
      (J1.stop j H ∧ N H) ∨ (J1.go j H ∧ ∃ Nx1 : Hp → Prop, (∀ H', Nx1 H' → ∃ k', k' < k ∧ W1 (j + 1) k' H') ∧ ∀ x H', J1.yld j H x H' → g1 x (wipe σ2 vs1) H' fun σ3 H5 => wipe σ3 vs1 = wipe σ2 vs1 ∧ tt1 σ3 H5 fun b H6 =>
        if b = true then te σ3 H6 fun y H7 => ∃ acc, H7 D = some (.lst acc) ∧ acc.length < sizeLine ∧ Nx1 (upd H7 D (.lst (acc ++ [y]))) else Nx1 H6)
def Lc2Loop (J : It) (g : TG) (tt : TT) (wi1 : TI) (g1 : TG) (tt1 : TT) (te : TE) (σ : St) (vs vs1 : List Nat) (Q : VK) (H1 : Hp) : Prop := ∀ D, H1 D = none → ∃ W : Nat → Nat → Hp → Prop, (∃ m, W 0 m (upd H1 D (.lst []))) ∧ ∀ i m H, W i m H →
  (J.stop i H ∧ Q (.ref D) H) ∨ (J.go i H ∧ ∃ Nx : Hp → Prop, (∀ H', Nx H' → ∃ m', m' < m ∧ W (i + 1) m' H') ∧ ∀ x H', J.yld i H x H' → g x (wipe σ vs) H' fun σ2 H2 => wipe σ2 vs = wipe σ vs ∧ tt σ2 H2 fun b H3 =>
    if b = true then wi1 σ2 H3 fun J1 H4 => Inner J1 g1 tt1 te σ2 vs1 D Nx H4 else Nx H3)
section
variable {σ σ2 : St} {G H : Hp} {Q : VK} {te : TE} {tt tt1 : TT} {v : V} {K : PySem.W.Frag} {L : List Res} {g g1 : TG} {wi1 : TI} {vs vs1 : List Nat} {D : Addr}
theorem g_lc2 {wi : TI} (h : wi σ H fun J H1 => Lc2Loop J g tt wi1 g1 tt1 te σ vs vs1 Q H1) : tLc2 wi g tt wi1 g1 tt1 te vs vs1 σ H Q := h
variable {B : Type} [Rp B]
theorem lc2L {A : Type} [Rp A] {xs : List A} (r : Rep G v xs) (s : Sep G H L) (I : Nat → List B → List Res → Prop) (h0 : I 0 [] L)
    (hs : ∀ i v x D acc G' H' Lc, xs[i]? = some x → Rep G' v x → I i acc Lc → Same G G' → Sep G' H' (OwnL D acc :: Lc) →
      g v (wipe σ vs) H' fun σ2 H3 => wipe σ2 vs = wipe σ vs ∧ tt σ2 H3 fun b H4 => if b = true then wi1 σ2 H4 (fun J1 H5 => Inner J1 g1 tt1 te σ2 vs1 D (Nxt G D (I (i + 1))) H5) else Nxt G D (I (i + 1)) H4)
    (hd : ∀ D acc G' H' Lc, I xs.length acc Lc → Same G G' → Sep G' H' (OwnL D acc :: Lc) → Q (.ref D) H') :
    ∃ a, v = .ref a ∧ (∃ xs, SqL K H a xs) ∧ Lc2Loop (Itl K a) g tt wi1 g1 tt1 te σ vs vs1 Q H := by
  obtain ⟨p, ws, rfl, h, rs⟩ := id r
  have sq : ∀ {H'}, Same G H' → SqL K H' p ws := fun s => .inl (.inl (s _ _ h))
  refine ⟨p, rfl, ⟨ws, sq s.gh⟩, fun D hD => ?_⟩
  refine ⟨fun i m H => m = ws.length - i ∧ i ≤ ws.length ∧ Nxt G D (I i) H, ⟨ws.length, by simp, Nat.zero_le _, [], G, L, h0, Same.refl _, s.ownNew (vs := []) (xs := ([] : List B)) hD trivial⟩, ?_⟩
  rintro i m H' ⟨rfl, hi, acc, G', Lc, pI, u, t⟩
  have wk := walk_list (K := K) (a := p) (xs := ws)
  have q := sq (u.trans t.gh)
  by_cases hlt : i < ws.length
  · refine .inr ⟨wk.goes i H' hlt q, Nxt G D (I (i + 1)), fun H2 p' => ⟨ws.length - (i + 1), by omega, rfl, hlt, p'⟩, fun x H2 y => ?_⟩
    obtain ⟨e, hy⟩ := wk.yields i H' x H2 hlt q y
    subst e
    obtain ⟨z, hz, rz⟩ := rs.get' hy
    exact hs i x z D acc G' H2 Lc hz (rz.up u) pI u t
  · have e : i = ws.length := by omega
    subst e
    exact .inl ⟨wk.stops H' q, hd D acc G' H' Lc (by rw [← rs.len]; exact pI) u t⟩
/-- the inner one, over a list -/
theorem inL {C : Type} [Rp C] {ys : List C} {N : Hp → Prop} (r : Rep G v ys) (I : Nat → List B → List Res → Prop) (s : Same G H) (h0 : Nxt G D (I 0) H)
    (hs : ∀ j v y acc G' H' Lc, ys[j]? = some y → Rep G' v y → I j acc Lc → Same G G' → Sep G' H' (OwnL D acc :: Lc) →
      g1 v (wipe σ2 vs1) H' fun σ3 H5 => wipe σ3 vs1 = wipe σ2 vs1 ∧ tt1 σ3 H5 fun b H6 => if b = true then te σ3 H6 (Put G D (I (j + 1))) else Nxt G D (I (j + 1)) H6)
    (hd : ∀ H', Nxt G D (I ys.length) H' → N H') : ∃ a, v = .ref a ∧ (∃ xs, SqL K H a xs) ∧ Inner (Itl K a) g1 tt1 te σ2 vs1 D N H := by
  obtain ⟨p, ws, rfl, h, rs⟩ := id r
  have sq : ∀ {H'}, Same G H' → SqL K H' p ws := fun s => .inl (.inl (s _ _ h))
  refine ⟨p, rfl, ⟨ws, sq s⟩, fun j m H => m = ws.length - j ∧ j ≤ ws.length ∧ Nxt G D (I j) H, ⟨ws.length, by simp, Nat.zero_le _, h0⟩, ?_⟩
  rintro j m H' ⟨rfl, hj, acc, G', Lc, pI, u, t⟩
  have wk := walk_list (K := K) (a := p) (xs := ws)
  have q := sq (u.trans t.gh)
  by_cases hlt : j < ws.length
  · refine .inr ⟨wk.goes j H' hlt q, Nxt G D (I (j + 1)), fun H2 p' => ⟨ws.length - (j + 1), by omega, rfl, hlt, p'⟩, fun x H2 y => ?_⟩
    obtain ⟨e, hy⟩ := wk.yields j H' x H2 hlt q y
    subst e
    obtain ⟨z, hz, rz⟩ := rs.get' hy
    exact hs j x z acc G' H2 Lc hz (rz.up u) pI u t
  · have e : j = ws.length := by omega
    subst e
    exact .inl ⟨wk.stops H' q, hd H' ⟨acc, G', Lc, by rw [← rs.len]; exact pI, u, t⟩⟩
theorem Nxt.up {G G' : Hp} {I : List B → List Res → Prop} {H : Hp} (u : Same G G') (h : Nxt G' D I H) : Nxt G D I H := by
  obtain ⟨acc, G2, Lc, x, y, z⟩ := h
  exact ⟨acc, G2, Lc, x, u.trans y, z⟩
end
end EB

local macro_rules | `(tactic| walk_at "cm") => `(tactic| first | assumption | (refine And.intro ?_ ?_ <;> omega) | omega | decide)
local macro_rules | `(tactic| walk_at "sm") => `(tactic| first
  | exact L2.Same.refl _
  | assumption
  | exact EB.Sep.gh (by assumption)
  | (refine L2.Same.trans ?_ (EB.Sep.gh (by assumption)); walk_at "sm")
  | (refine L2.Same.trans ?_ (by assumption); walk_at "sm"))
local macro_rules | `(tactic| walk_at "rep") => `(tactic| first
  | assumption
  | exact rfl
  | exact EB.Rep.up (by assumption) (by walk_at "sm"))
local macro_rules | `(tactic| walk_at "1") => `(tactic| first
  | with_reducible refine EB.g_seq ?_
  | with_reducible refine EB.g_asg ?_
  | with_reducible refine EB.g_asgT ?_
  | with_reducible refine EB.g_asgS ?_
  | with_reducible refine EB.g_name ?_
  | with_reducible refine EB.g_par ?_
  | with_reducible refine EB.g_par2 ?_
  | with_reducible refine EB.g_ret ?_
  | with_reducible refine EB.g_drop ?_
  | with_reducible refine EB.g_next ?_
  | with_reducible refine EB.g_if ?_
  | with_reducible refine EB.g_test ?_
  | with_reducible refine EB.g_B ?_
  | with_reducible refine EB.g_bl ?_
  | with_reducible refine EB.g_and ?_
  | with_reducible refine EB.g_or ?_
  | with_reducible refine EB.g_not ?_
  | with_reducible refine EB.g_ifE ?_
  | ((with_reducible refine' EB.g_var ?hv ?_); (case hv => rfl))
  | with_reducible refine EB.g_c ?_
  | with_reducible refine EB.g_op ?_
  | with_reducible refine EB.g_un ?_
  | with_reducible refine EB.g_cb ?_
  | with_reducible refine EB.g_nil ?_
  | with_reducible refine EB.g_cons ?_
  | with_reducible refine EB.g_tup ?_
  | with_reducible refine EB.g_lst ?_
  | with_reducible refine EB.g_call ?_
  | with_reducible refine EB.g_callK ?_
  | ((with_reducible refine' EB.g_aug ?hv ?_); (case hv => rfl))
  | with_reducible refine EB.g_ipI ?_
  | with_reducible refine EB.g_rI0 ?_
  | with_reducible refine EB.g_rU ?_
  | with_reducible refine EB.g_add ?_
  | with_reducible refine EB.g_addb ?_
  | with_reducible refine EB.g_sub ?_
  | ((with_reducible refine EB.g_mul ?hm ?_); (case hm => walk_at "cm"))
  | ((with_reducible refine EB.g_div ?h0 ?h1 ?_); (case h0 => walk_at "cm"); (case h1 => walk_at "cm"))
  | ((with_reducible refine EB.g_mod ?h0 ?_); (case h0 => walk_at "cm"))
  | with_reducible refine EB.g_abs ?_
  | with_reducible refine EB.g_max ?_
  | with_reducible refine EB.g_min ?_
  | with_reducible refine EB.g_intI ?_
  | with_reducible refine EB.g_intB ?_
  | with_reducible refine EB.g_eqI ?_
  | with_reducible refine EB.g_neI ?_
  | with_reducible refine EB.g_eqS ?_
  | with_reducible refine EB.g_neS ?_
  | with_reducible refine EB.g_isN ?_
  | with_reducible refine EB.g_notN ?_
  | with_reducible refine EB.g_bm ?_
  | with_reducible refine EB.g_bm0 ?_
  | with_reducible refine EB.g_lc ?_
  | with_reducible refine EB.g_yes ?_
  | with_reducible refine EB.g_iteT ?_
  | with_reducible refine EB.g_iteF ?_
  | ((with_reducible refine EB.g_wipe ?hw ?_); (case hw => rfl))
  | with_reducible refine EB.g_dget ?_
  | with_reducible refine EB.g_din ?_
  | with_reducible refine EB.g_dni ?_
  | with_reducible refine EB.g_dput ?_
  | with_reducible refine EB.g_daug ?_
  | with_reducible refine EB.g_del ?_
  | with_reducible refine EB.g_dc ?_
  | with_reducible refine EB.g_rAddL ?_
  | with_reducible refine EB.g_for ?_
  | with_reducible refine EB.g_iL ?_
  | with_reducible refine EB.g_iT ?_
  | with_reducible refine EB.g_iR1 ?_
  | with_reducible refine EB.g_iR2 ?_
  | with_reducible refine EB.g_iE ?_
  | with_reducible refine EB.g_iZ ?_
  | with_reducible refine EB.g_iV ?_
  | with_reducible refine EB.g_sl ?_
  | with_reducible refine EB.g_noPart ?_
  | with_reducible refine EB.g_part ?_
  | with_reducible refine EB.g_someI ?_
  | with_reducible refine EB.g_revL ?_
  | with_reducible refine EB.g_ckw ?_
  | with_reducible refine EB.g_eqB ?_
  | with_reducible refine EB.g_neB ?_
  | with_reducible refine EB.g_andV ?_
  | with_reducible refine EB.g_orV ?_
  | with_reducible refine EB.g_notV ?_
  | with_reducible refine EB.g_iteNT ?_
  | with_reducible refine EB.g_iteNF ?_
  | with_reducible refine EB.g_lstRg1 ?_
  | with_reducible refine EB.g_lc2 ?_)
local macro_rules | `(tactic| walk_at "g") => `(tactic| (walk_at "1"; (repeat walk_at "1")))
namespace El
open PySem L2 EB
def topS (i : Nat) : Stmt := PySem.Challenge.pw_elderinn_k27_sent_away_told.main.body.getD i (.Pass ⟨0, 0, 0, 0⟩)
end El
namespace El
open PySem L2 EB
/-! ### the bag of draws -/
def kG : Key := .inr "great"
def kL : Key := .inr "left"
def kT : Key := .inr "turn"
def kF : Key := .inr "fold"
theorem ne1 : ¬ (kG = kL) := by decide +kernel
theorem ne2 : ¬ (kG = kT) := by decide +kernel
theorem ne3 : ¬ (kG = kF) := by decide +kernel
theorem ne4 : ¬ (kL = kT) := by decide +kernel
theorem ne5 : ¬ (kL = kF) := by decide +kernel
theorem ne6 : ¬ (kT = kF) := by decide +kernel
def bagD (g : Addr) (l t f : Int) : List (Key × V) := [(kG, .ref g), (kL, .int l), (kT, .int t), (kF, .int f)]
theorem bag_g {g : Addr} {l t f : Int} : valV (bagD g l t f) kG = some (.ref g) := by simp [valV, bagD]
theorem bag_l {g : Addr} {l t f : Int} : valV (bagD g l t f) kL = some (.int l) := by simp [valV, bagD, ne1]
theorem bag_t {g : Addr} {l t f : Int} : valV (bagD g l t f) kT = some (.int t) := by simp [valV, bagD, ne2, ne4]
theorem bag_f {g : Addr} {l t f : Int} : valV (bagD g l t f) kF = some (.int f) := by simp [valV, bagD, ne3, ne5, ne6]
theorem bag_pl {g : Addr} {l t f x : Int} : putK (bagD g l t f) kL (.int x) = bagD g x t f := by simp [putK, bagD, ne1, Ne.symm ne4, Ne.symm ne5]
theorem bag_pt {g : Addr} {l t f x : Int} : putK (bagD g l t f) kT (.int x) = bagD g l x f := by simp [putK, bagD, ne2, ne4, Ne.symm ne6]
theorem bag_new {g : Addr} {l t f : Int} : mergeK [] (bagD g l t f) = bagD g l t f := by simp [mergeK, putK, bagD, ne1, ne2, ne3, ne4, ne5, ne6]
/-- a bag at p, from which n at most were drawn -/
def BagR (p : Addr) (n : Nat) : Res := .ex fun (x : Addr × List Int × Int × Int × Int) => .if (0 ≤ x.2.2.1 ∧ 0 ≤ x.2.2.2.1 ∧ x.2.2.2.1 ≤ n ∧ 0 ≤ x.2.2.2.2 ∧ x.2.2.2.2 < 2305843009213693951 ∧ (∀ y ∈ x.2.1, 0 ≤ y) ∧ x.2.1.length ≤ 63)
  (.all [cell p (.dK (bagD x.1 x.2.2.1 x.2.2.2.1 x.2.2.2.2)), OwnL x.1 x.2.1])
theorem BagR.open {G H : Hp} {L : List Res} {p : Addr} {n : Nat} (s : Sep G H (BagR p n :: L)) : ∃ (g : Addr) (gr : List Int) (l t f : Int), (0 ≤ l ∧ 0 ≤ t ∧ t ≤ n ∧ 0 ≤ f ∧ f < 2305843009213693951 ∧ (∀ y ∈ gr, 0 ≤ y) ∧ gr.length ≤ 63) ∧ Sep G H (cell p (.dK (bagD g l t f)) :: OwnL g gr :: L) := by
  obtain ⟨⟨g, gr, l, t, f⟩, s⟩ := s.exO
  obtain ⟨c, s⟩ := s.ifO
  exact ⟨g, gr, l, t, f, c, s.allO⟩
theorem BagR.close {G H : Hp} {L : List Res} {p : Addr} {n : Nat} {g : Addr} {gr : List Int} {l t f : Int} (c : 0 ≤ l ∧ 0 ≤ t ∧ t ≤ n ∧ 0 ≤ f ∧ f < 2305843009213693951 ∧ (∀ y ∈ gr, 0 ≤ y) ∧ gr.length ≤ 63) (s : Sep G H (cell p (.dK (bagD g l t f)) :: OwnL g gr :: L)) :
    Sep G H (BagR p n :: L) := .exI (g, gr, l, t, f) (.ifI c (.allI s))
theorem BagR.le {G H : Hp} {L : List Res} {p : Addr} {n m : Nat} (s : Sep G H (BagR p n :: L)) (h : n ≤ m) : Sep G H (BagR p m :: L) := by
  obtain ⟨g, gr, l, t, f, c, s⟩ := BagR.open s
  exact BagR.close ⟨c.1, c.2.1, by have := c.2.2.1; omega, c.2.2.2⟩ s
section
variable {P : Program} {w : World} {K : PySem.W.Frag} {mg : Str → Option Value} {base : Heap}
abbrev s__law_bag : Stmt := topS 16
theorem sc__law_bag : FnScope ["script", "fold", "great", "cell"] ["script"] (defScope s__law_bag) := ⟨rfl, rfl, rfl, by decide +kernel, rfl, by decide +kernel, by decide +kernel⟩
def spBag (K : PySem.W.Frag) : Sp := fun vs H Q _ => ∃ (a : Addr) (ns : List Int) (G : Hp) (L : List Res), vs = [.ref a] ∧ SqL K G a (ns.map V.int) ∧ ns.length ≤ 63 ∧ Sep G H L ∧ ∀ H' p, Sep G H' (BagR p 0 :: L) → Q (.ref p) H'
theorem ok__law_bag {f : Addr} {fd : FuncData} (F : Fun K "_law_bag" "_law_bag" s__law_bag f fd) (B : Bn mg) : FnOk P w K mg base CX0 1 f fd ["script"] (spBag K) := by
  have sc := sc__law_bag
  refine F.ok sc (fun vs H Q E h => ?_) (fun cdv A outer s H vs Q E hr h => ?_)
  · obtain ⟨a, ns, G, L, rfl, _⟩ := h
    rfl
  · obtain ⟨a, ns, G, L, rfl, ha, hl, st, k⟩ := h
    have hu := hu_of hr
    refine ⟨_, (pss_cons (ps_par (i := 1) (j := 2) (by rfl) sc.nd rfl rfl (by decide) rfl rfl (pa_cons pe_int (pa_cons (pe_lst pa_nil) pa_nil)) (by rfl))
  (pss_cons (ps_for PassesOwn.never rfl (pi_list (pv 0)) (pg_name (i := 3) sc.nd rfl (.inl rfl))
  (pss_cons (ps_set (i := 1) sc.nd rfl (.inl rfl) (pe_op opMod (pe_op opAdd (pe_op opMul (pv 1) pe_int) (pv 3)) pe_int))
  (pss_one (ps_if (pt_cmpR op_ge (pe_callB cAbs (by rfl) B.abs bt_abs (pa_cons (pv 3) pa_nil)) (kPow (n := 1000000000000000000) (by rfl) (by decide) (by decide) pe_int pe_int) (nomark _)) (pss_one (ps_expr (pe_bm PySem.F.plainAttrs_list PySem.F.slot_list_append PySem.F.type_list_append mt_append (pv 2) (pa_cons (pe_callB cAbs (by rfl) B.abs bt_abs (pa_cons (pv 3) pa_nil)) pa_nil)))) pss_nil))))
  (pss_one (ps_ret (pe_disp (pps_cons pe_str (pv 2) (pps_cons pe_str pe_int (pps_cons pe_str pe_int (pps_cons pe_str (pv 1) pps_nil)))) (by rfl) (by rfl) (fun z => by cases z) (by decide)))))), ?_⟩
    try dsimp only [cxOf, Cx.nox, Cx.wish]
    walk_at "g"
    refine ⟨Nat.zero_le _, fun g hg => ?_⟩
    have st := st.ownNew (vs := []) (xs := ([] : List Int)) hg trivial
    walk_at "g"
    refine loopI (st.gh.seq ha) (fun i σ H' => ∃ (f : Int) (gr : List Int) (c : Option V), σ = [some (.ref a), some (.int f), some (.ref g), c] ∧ Sep G H' (OwnL g gr :: L) ∧ 0 ≤ f ∧ f < 2305843009213693951 ∧ (∀ y ∈ gr, 0 ≤ y) ∧ gr.length ≤ i)
      ⟨_, [], _, rfl, st, by decide, by decide, by simp, by simp⟩ (fun i σ H' _ ⟨_, _, _, _, s, _⟩ => s.gh.seq ha) ?_ ?_
    · rintro i n σ H' hi ⟨f, gr, c, rfl, st, f0, f1, hg0, hlen⟩
      have hil : i < 63 := by
        have := (List.getElem?_eq_some_iff.mp hi).1
        omega
      walk_at "g"
      have f2 : 0 ≤ (f * 1000003 + n) % 2305843009213693951 := Int.emod_nonneg _ (by decide)
      have f3 : (f * 1000003 + n) % 2305843009213693951 < 2305843009213693951 := Int.emod_lt_of_pos _ (by decide)
      refine g_ite (fun hc => ?_) (fun hc => ?_)
      · walk_at "g"
        refine g_tyO st ?_
        walk_at "g"
        refine g_append st rep_int (by omega) fun H2 st => ?_
        refine ⟨_, _, _, rfl, st, f2, f3, ?_, ?_⟩
        · intro y hy
          rcases List.mem_append.mp hy with hy | hy
          · exact hg0 y hy
          · rw [List.mem_singleton.mp hy]
            split <;> omega
        · rw [List.length_append, List.length_singleton]
          omega
      · walk_at "g"
        exact ⟨_, gr, _, rfl, st, f2, f3, hg0, by omega⟩
    · rintro σ H' ⟨f, gr, c, rfl, st, f0, f1, hg0, hlen⟩
      walk_at "g"
      intro p hp
      refine ⟨_, rfl, _, rfl, upd_same, bagD g 0 0 f, rfl, (by show 4 ≤ 15; decide), ?_⟩
      rw [bag_new]
      exact k _ _ (BagR.close ⟨by decide, by decide, by decide, f0, f1, hg0, by omega⟩ (st.cellNew hp).cellSet)
abbrev s__law_draw : Stmt := topS 17
theorem sc__law_draw : FnScope ["bag", "many", "drawn", "turn", "mixed"] ["bag", "many"] (defScope s__law_draw) := ⟨rfl, rfl, rfl, by decide +kernel, rfl, by decide +kernel, by decide +kernel⟩
def spDraw : Sp := fun vs H Q _ => ∃ (p : Addr) (m : Int) (n : Nat) (G : Hp) (L : List Res), vs = [.ref p, .int m] ∧ Sep G H (BagR p n :: L) ∧ 0 < m ∧ m.natAbs < 2 ^ 250 ∧ n < 2 ^ 100 ∧ ∀ d H', 0 ≤ d → d < m → Sep G H' (BagR p (n + 1) :: L) → Q (.int d) H'
theorem ok__law_draw {f : Addr} {fd : FuncData} (F : Fun K "_law_draw" "_law_draw" s__law_draw f fd) (B : Bn mg) : FnOk P w K mg base CX0 1 f fd ["bag", "many"] spDraw := by
  have sc := sc__law_draw
  refine F.ok sc (fun vs H Q E h => ?_) (fun cdv A outer s H vs Q E hr h => ?_)
  · obtain ⟨p, m, n, G, L, rfl, _⟩ := h
    rfl
  · obtain ⟨p, m, n, G, L, rfl, st, m0, m1, hn, k⟩ := h
    have hu := hu_of hr
    refine ⟨_, (pss_cons (ps_if (PW.pt (pw_and (pt_cmpR op_lt (pe_dget hu (pv 0) pe_str (fun _ _ => rfl)) (pv 1) (nomark _)) (pw_and1 (pt_cmpR op_gt (pe_callB cLen (by rfl) B.len bt_len (pa_cons (pe_dget hu (pv 0) pe_str (fun _ _ => rfl)) pa_nil)) pe_int (nomark _))))) (pss_one (ps_dput hu (pv 0) pe_str (pe_bm PySem.F.plainAttrs_list PySem.F.slot_list_pop PySem.F.type_list_pop mt_popAt (pe_dget hu (pv 0) pe_str (fun _ _ => rfl)) (pa_cons pe_int pa_nil)) rfl)) pss_nil)
  (pss_cons (ps_if (pt_cmpR op_ge (pe_dget hu (pv 0) pe_str (fun _ _ => rfl)) (pv 1) (nomark _)) (pss_cons (ps_set (i := 2) sc.nd rfl (.inl rfl) (pe_op opMod (pe_dget hu (pv 0) pe_str (fun _ _ => rfl)) (pv 1)))
  (pss_cons (ps_dput hu (pv 0) pe_str (pe_op opDiv (pe_dget hu (pv 0) pe_str (fun _ _ => rfl)) (pv 1)) rfl)
  (pss_one (ps_ret (pv 2))))) pss_nil)
  (pss_cons (ps_daug hu (pv 0) pe_str pe_int in_add (fun _ _ _ => rfl))
  (pss_cons (ps_set (i := 3) sc.nd rfl (.inl rfl) (pe_dget hu (pv 0) pe_str (fun _ _ => rfl)))
  (pss_cons (ps_set (i := 4) sc.nd rfl (.inl rfl) (pe_op opAdd (pe_op opMul (pe_op opAdd (pe_dget hu (pv 0) pe_str (fun _ _ => rfl)) (pe_op opMul pe_int (pv 3))) (pe_op opPow (pe_op opAdd (pv 3) pe_int) pe_int)) (pe_op opMul pe_int (pv 3))))
  (pss_one (ps_ret (pe_op opMod (pe_op opDiv (pe_op opMod (pe_op opPow (pe_op opMod (pv 4) pe_int) pe_int) (kAdd (n := 1000000000000000009) (by rfl) (by decide) (by decide) (kPow (n := 1000000000000000000) (by rfl) (by decide) (by decide) pe_int pe_int) pe_int)) pe_int) (pv 1))))))))), ?_⟩
    try dsimp only [cxOf, Cx.nox, Cx.wish]
    obtain ⟨g, gr, l, t, fo, ⟨l0, t0, tn, f0, f1, gr0, grl⟩, st⟩ := BagR.open st
    refine g_cut (fun σ H => ∃ (gr : List Int) (l : Int), σ = [some (.ref p), some (.int m), none, none, none] ∧ 0 ≤ l ∧ (∀ y ∈ gr, 0 ≤ y) ∧ gr.length ≤ 63 ∧ Sep G H (cell p (.dK (bagD g l t fo)) :: OwnL g gr :: L)) (fun N hN => ?_) ?_
    · have hp := st.cellAt
      walk_at "g"
      refine d_get (k := kL) hp bag_l ?_
      walk_at "g"
      refine g_ite (fun c => ?_) (fun c => ?_)
      · walk_at "g"
        refine d_get (k := kG) hp bag_g ?_
        walk_at "g"
        refine g_lenL st.sw.ownRep (Same.refl _) ?_
        walk_at "g"
        refine g_ite (fun c2 => ?_) (fun c2 => ?_)
        · walk_at "g"
          refine d_get (k := kG) hp bag_g ?_
          refine g_tyO st.sw ?_
          walk_at "g"
          match gr, gr0, grl, c2, st with
          | y :: gr, gr0, grl, c2, st =>
            refine g_popAt (a := y) st.sw (by decide) (by decide) rfl fun w H' rw' st => ?_
            obtain rfl := rw'.int
            walk_at "g"
            refine d_put (k := kL) st.sw.cellAt (by show 4 < 1000000; decide) ?_
            rw [bag_pl]
            refine hN _ _ ⟨gr, y, rfl, gr0 y (List.mem_cons_self ..), fun z hz => gr0 z (List.mem_cons_of_mem _ hz), ?_, st.sw.cellSet⟩
            rw [List.length_cons] at grl
            omega
        · walk_at "g"
          exact hN _ _ ⟨gr, l, rfl, l0, gr0, grl, st⟩
      · walk_at "g"
        exact hN _ _ ⟨gr, l, rfl, l0, gr0, grl, st⟩
    · rintro σ H ⟨gr, l, rfl, l0, gr0, grl, st⟩
      have hp := st.cellAt
      walk_at "g"
      refine d_get (k := kL) hp bag_l ?_
      walk_at "g"
      refine g_ite (fun c => ?_) (fun c => ?_)
      · walk_at "g"
        refine d_get (k := kL) hp bag_l ?_
        walk_at "g"
        refine d_get (k := kL) hp bag_l ?_
        walk_at "g"
        refine d_put (k := kL) hp (by show 4 < 1000000; decide) ?_
        rw [bag_pl]
        walk_at "g"
        refine k _ _ (Int.emod_nonneg _ (by omega)) (Int.emod_lt_of_pos _ m0) (BagR.close ⟨Int.ediv_nonneg l0 (by omega), t0, by omega, f0, f1, gr0, grl⟩ st.cellSet)
      · walk_at "g"
        refine d_get (k := kT) hp bag_t ?_
        walk_at "g"
        refine d_put' (k := kT) hp (by show 4 < 1000000; decide) ?_
        rw [bag_pt]
        have st := st.cellSet (o' := .dK (bagD g l (t + 1) fo))
        have hp := st.cellAt
        walk_at "g"
        refine d_get (k := kT) hp bag_t ?_
        walk_at "g"
        refine d_get (k := kF) hp bag_f ?_
        walk_at "g"
        refine g_pow ⟨by decide, by decide, by omega⟩ ?_
        have e2 : ((t + 1 + 29) ^ (Int.toNat 2)).natAbs < 2 ^ (101 * 2) := pow_lt' (by omega) (by decide)
        refine g_mul ⟨by omega, Nat.lt_of_lt_of_le e2 (by decide)⟩ ?_
        walk_at "g"
        refine g_pow ⟨by decide, by decide, ?_⟩ ?_
        · have a1 := Int.emod_nonneg ((fo + 17 * (t + 1)) * (t + 1 + 29) ^ (Int.toNat 2) + 7919 * (t + 1)) (show (2305843009213693951 : Int) ≠ 0 by decide)
          have a2 := Int.emod_lt_of_pos ((fo + 17 * (t + 1)) * (t + 1 + 29) ^ (Int.toNat 2) + 7919 * (t + 1)) (show (0 : Int) < 2305843009213693951 by decide)
          omega
        walk_at "g"
        exact k _ _ (Int.emod_nonneg _ (by omega)) (Int.emod_lt_of_pos _ m0) (BagR.close ⟨l0, by omega, by omega, f0, f1, gr0, grl⟩ st)
end
end El
namespace El
open PySem L2 EB
theorem draw_use {G H : Hp} {L : List Res} {p : Addr} {m : Int} {n : Nat} {Q : VK} {E : XK} (st : Sep G H (BagR p n :: L)) (m0 : 0 < m) (m1 : m.natAbs < 2 ^ 250) (hn : n < 2 ^ 100)
    (k : ∀ d H', 0 ≤ d → d < m → Sep G H' (BagR p (n + 1) :: L) → Q (.int d) H') : spDraw [.ref p, .int m] H Q E := ⟨p, m, n, G, L, rfl, st, m0, m1, hn, k⟩
end El

namespace El
open PySem L2 EB
/-! ### rooms by age -/
abbrev Gs := List (Int × Int)
def fit (b : Int) (r : List Int) : Bool := decide ((r.length : Int) ≤ b)
def spot (ss : List (List Int)) (b : Int) : Nat := ss.findIdx (fit b)
def putR (ss : List (List Int)) (g : Int × Int) : List (List Int) := if spot ss g.2 < ss.length then ss.set (spot ss g.2) (ss.getD (spot ss g.2) [] ++ [g.1]) else ss ++ [[g.1]]
def byAge (gs : Gs) : List (List Int) := (dnP gs).foldl putR []
structure Good (gs : Gs) : Prop where
  pos : ∀ g ∈ gs, 0 ≤ g.2
  nd : (gs.map (·.1)).Nodup
  len : gs.length ≤ 1000
theorem putR_len (ss : List (List Int)) (g : Int × Int) : (putR ss g).length ≤ ss.length + 1 := by
  unfold putR
  split
  · rw [List.length_set]
    omega
  · rw [List.length_append, List.length_singleton]
    exact Nat.le_refl _
theorem fold_len (gs : Gs) : ∀ ss, (gs.foldl putR ss).length ≤ ss.length + gs.length := by
  induction gs with
  | nil => intro ss; exact Nat.le_refl _
  | cons g r ih =>
    intro ss
    have h1 := ih (putR ss g)
    have h2 := putR_len ss g
    show (r.foldl putR (putR ss g)).length ≤ ss.length + (r.length + 1)
    omega
theorem putR_room (ss : List (List Int)) (g : Int × Int) (n : Nat) (h : ∀ r ∈ ss, r.length ≤ n) : ∀ r ∈ putR ss g, r.length ≤ n + 1 := by
  unfold putR
  split
  · rename_i c
    intro r hr
    rcases List.mem_or_eq_of_mem_set hr with hr | rfl
    · have := h r hr
      omega
    · rw [List.length_append, List.length_singleton, List.getD_eq_getElem?_getD, List.getElem?_eq_getElem c]
      have := h _ (List.getElem_mem c)
      show ss[spot ss g.2].length + 1 ≤ _
      omega
  · intro r hr
    rcases List.mem_append.mp hr with hr | hr
    · have := h r hr
      omega
    · rw [List.mem_singleton.mp hr]
      show 1 ≤ _
      omega
theorem fold_room (gs : Gs) : ∀ ss n, (∀ r ∈ ss, r.length ≤ n) → ∀ r ∈ gs.foldl putR ss, r.length ≤ n + gs.length := by
  induction gs with
  | nil => intro ss n h; exact h
  | cons g r ih =>
    intro ss n h x hx
    have := ih (putR ss g) (n + 1) (putR_room ss g n h) x hx
    show x.length ≤ n + (r.length + 1)
    omega
theorem dnP_len (gs : Gs) : (dnP gs).length = gs.length := (dnP_perm gs).length_eq
theorem byAge_len (gs : Gs) : (byAge gs).length ≤ gs.length := by
  have := fold_len (dnP gs) []
  rw [dnP_len] at this
  simpa [byAge] using this
theorem byAge_room (gs : Gs) : ∀ r ∈ byAge gs, r.length ≤ gs.length := by
  intro r hr
  have := fold_room (dnP gs) [] 0 (by simp) r hr
  rw [dnP_len] at this
  simpa [byAge] using this
theorem byAge_perm {gs hs : Gs} (p : gs.Perm hs) : byAge gs = byAge hs := by
  unfold byAge
  rw [dnP_of_perm p]
theorem spot_cons (r : List Int) (ss : List (List Int)) (b : Int) : spot (r :: ss) b = if fit b r = true then 0 else spot ss b + 1 := by
  unfold spot
  rw [List.findIdx_cons]
  cases fit b r <;> rfl
theorem spot_le (ss : List (List Int)) (b : Int) : spot ss b ≤ ss.length := List.findIdx_le_length
/-- the rooms that a guest bears -/
def filt (b : Int) (as : List Addr) (ss : List (List Int)) : List (Addr × List Int) := (as.zip ss).filter fun z => fit b z.2
theorem filt_none {b : Int} : ∀ {as : List Addr} {ss : List (List Int)}, as.length = ss.length → (filt b as ss = [] ↔ ¬ spot ss b < ss.length)
  | [], [], _ => by simp [filt]
  | a :: as, r :: ss, h => by
    have ih := filt_none (b := b) (as := as) (ss := ss) (by simpa using h)
    rw [spot_cons]
    cases c : fit b r with
    | true => simp [filt, c]
    | false =>
      have e : filt b (a :: as) (r :: ss) = filt b as ss := by simp [filt, c]
      rw [e, ih]
      simp
  | [], _ :: _, h => by cases h
  | _ :: _, [], h => by cases h
theorem filt_first {b : Int} : ∀ {as : List Addr} {ss : List (List Int)}, as.length = ss.length → spot ss b < ss.length → ∃ a r, as[spot ss b]? = some a ∧ filt b as ss = (a, ss.getD (spot ss b) []) :: r
  | [], [], _, h => by cases h
  | a :: as, s :: ss, h, h2 => by
    rw [spot_cons] at h2 ⊢
    cases c : fit b s with
    | true => exact ⟨a, filt b as ss, by simp, by simp [filt, c]⟩
    | false =>
      rw [c] at h2
      simp only [Bool.false_eq_true, if_false, List.length_cons] at h2 ⊢
      obtain ⟨x, r, e1, e2⟩ := filt_first (b := b) (as := as) (ss := ss) (by simpa using h) (by omega)
      exact ⟨x, r, by simpa using e1, by
        have e : filt b (a :: as) (s :: ss) = filt b as ss := by simp [filt, c]
        rw [e, e2]
        simp⟩
  | [], _ :: _, h, _ => by cases h
  | _ :: _, [], h, _ => by cases h
theorem mem_filt {b : Int} {as : List Addr} {ss : List (List Int)} {z : Addr × List Int} (h : z ∈ filt b as ss) : ∃ i : Nat, as[i]? = some z.1 ∧ ss[i]? = some z.2 := by
  have h := (List.mem_filter.mp h).1
  obtain ⟨i, hi⟩ := List.mem_iff_getElem?.mp h
  exact ⟨i, List.getElem?_zip_eq_some.mp hi⟩
theorem filt_reps {H : Hp} : ∀ {l : List (Addr × List Int)}, (∀ z ∈ l, Rep H (.ref z.1) z.2) → Reps H (l.map fun z => V.ref z.1) (l.map (·.2))
  | [], _ => trivial
  | z :: l, h => ⟨h z (List.mem_cons_self ..), filt_reps fun y hy => h y (List.mem_cons_of_mem _ hy)⟩
section
variable {P : Program} {w : World} {K : PySem.W.Frag} {mg : Str → Option Value} {base : Heap}
abbrev s_need_guests : Stmt := topS 6
theorem sc_need_guests : FnScope ["guests", "met", "number", "age", "patience"] ["guests"] (defScope s_need_guests) := ⟨rfl, rfl, rfl, by decide +kernel, rfl, by decide +kernel, by decide +kernel⟩
def spNeedGuests : Sp := fun vs H Q _ => ∃ v, ∃ gs : Gs, vs = [v] ∧ Rep H v gs ∧ Good gs ∧ ∀ H', Same H H' → Q .non H'
theorem ok_need_guests {f : Addr} {fd : FuncData} (F : Fun K "need_guests" "need_guests" s_need_guests f fd) (B : Bn mg) : FnOk P w K mg base CX0 1 f fd ["guests"] spNeedGuests := by
  have sc := sc_need_guests
  refine F.ok sc (fun vs H Q E h => ?_) (fun cdv A outer s H vs Q E hr h => ?_)
  · obtain ⟨v, gs, rfl, _⟩ := h
    rfl
  · obtain ⟨v, gs, rfl, hv, hg, k⟩ := h
    have hu := hu_of hr
    have hgl := hg.len
    refine ⟨_, (pss_cons (ps_set (i := 1) sc.nd rfl (.inl rfl) pe_dnewK)
  (pss_one (ps_for PassesOwn.never rfl (pi_enum (by rfl) B.enumerate (pa_cons (pv 0) pa_nil)) (pg_tup rfl (pgs_cons (pg_name (i := 2) sc.nd rfl (.inl rfl)) (pgs_cons (pg_tup rfl (pgs_cons (pg_name (i := 3) sc.nd rfl (.inl rfl)) (pgs_cons (pg_name (i := 4) sc.nd rfl (.inl rfl)) pgs_nil))) pgs_nil)))
  (pss_cons (ps_if (PW.pt (pw_or (pt_cmpR op_lt (pv 4) pe_int (nomark _)) (pw_or1 (pt_cmp (pc_din hu (pv 3) (pv 1)))))) (pss_one ps_never) pss_nil)
  (pss_one (ps_dput hu (pv 1) (pv 3) pe_bl rfl)))))), ?_⟩
    try dsimp only [cxOf, Cx.nox, Cx.wish]
    walk_at "g"
    refine g_dnew (Sep.all H) fun p H1 st => ?_
    walk_at "g"
    refine loopE hv st.gh rfl (fun i σ H' => ∃ a b c, σ = [some v, some (.ref p), a, b, c] ∧ Sep H H' [cell p (.dK (kvI ((gs.take i).map fun g => (g.1, V.bl true))))]) ⟨_, _, _, rfl, st⟩ (fun i σ H' _ ⟨_, _, _, _, st⟩ => st.gh) ?_ ?_
    · rintro i v x σ H' H2 hi rx ⟨a, b, c, rfl, st⟩ e2
      have hx := hg.pos x (List.mem_of_getElem? hi)
      have st := st.keep e2
      have hn : x.1 ∉ ((gs.take i).map fun g => (g.1, V.bl true)).map (·.1) := by
        rw [List.map_map]
        intro hm
        obtain ⟨y, hy, ey⟩ := List.mem_map.mp hm
        obtain ⟨j, hj⟩ := List.mem_iff_getElem?.mp hy
        have hj2 := hj
        rw [List.getElem?_take] at hj2
        split at hj2
        · rename_i c
          have h1 : (gs.map (·.1))[j]? = some y.1 := by rw [List.getElem?_map, hj2]; rfl
          have h2 : (gs.map (·.1))[i]? = some x.1 := by rw [List.getElem?_map, hi]; rfl
          have e : y.1 = x.1 := ey
          rw [e, ← h2] at h1
          have hl := (List.getElem?_eq_some_iff.mp h2).1
          exact absurd ((List.getElem?_inj (by omega) hg.nd).mp h1) (by omega)
        · cases hj2
      walk_at "g"
      refine g_tgII rx st.gh rfl ?_
      walk_at "g"
      refine g_ite (fun c => absurd c (by omega)) (fun _ => ?_)
      walk_at "g"
      refine dI_get st.cellAt ?_
      rw [lookup_none.mpr hn, Option.isSome_none]
      walk_at "g"
      have hl : ((gs.take i).map fun g => (g.1, V.bl true)).length < 1000000 := by
        rw [List.length_map, List.length_take]
        omega
      refine dI_put st.cellAt hl hn ?_
      refine ⟨_, _, _, rfl, ?_⟩
      rw [take_more hi, List.map_append]
      exact st.cellSet
    · rintro σ H' ⟨a, b, c, rfl, st⟩
      exact k _ st.gh
abbrev s_by_age : Stmt := topS 8
theorem sc_by_age : FnScope ["guests", "age", "patience"] ["guests"] (defScope s_by_age) := ⟨rfl, rfl, rfl, by decide +kernel, rfl, by decide +kernel, by decide +kernel⟩
def spByAge : Sp := fun vs H Q _ => ∃ v, ∃ (gs : Gs) (G : Hp) (L : List Res), vs = [v] ∧ Sep G H L ∧ Rep G v gs ∧ gs.length ≤ 1000 ∧ ∀ p G' H', Same G G' → Sep G' H' (OwnL p (dnP gs) :: L) → Q (.ref p) H'
theorem ok_by_age {f : Addr} {fd : FuncData} (F : Fun K "by_age" "by_age" s_by_age f fd) (B : Bn mg) : FnOk P w K mg base CX0 1 f fd ["guests"] spByAge := by
  have sc := sc_by_age
  refine F.ok sc (fun vs H Q E h => ?_) (fun cdv A outer s H vs Q E hr h => ?_)
  · obtain ⟨v, gs, G, L, rfl, _⟩ := h
    rfl
  · obtain ⟨v, gs, G, L, rfl, st, hv, hl, k⟩ := h
    have hu := hu_of hr
    refine ⟨_, (pss_one (ps_ret (pe_callBK cSortedRev (by rfl) B.sorted bt_sorted (pa_cons (pe_lc (own := [("age", 1), ("patience", 2)]) (g := (gTup K 2 (gCons (gName 1) (gCons (gName 2) gNil)))) (tt := tYes) (te := (tTup (tCons (tVar 1) (tCons (tVar 2) tNil)))) rfl sc.nd (pi_list (pv 0)) (blkOk_by (own := [("age", 1), ("patience", 2)]) (N := ["guests", "age", "patience"]) (sc := defScope s_by_age) (by decide +kernel)) (fun _ _ _ _ _ => (pg_tup rfl (pgs_cons (pg_name (i := 1) sc.nd rfl (by first | exact .inl rfl | exact .inr rfl)) (pgs_cons (pg_name (i := 2) sc.nd rfl (by first | exact .inl rfl | exact .inr rfl)) pgs_nil)))) (fun _ _ _ _ _ => pts_nil) (fun _ _ _ _ _ => (pe_tup (pa_cons (pv 1) (pa_cons (pv 2) pa_nil))))) pa_nil) (pk_cons pe_bl pk_nil)))), ?_⟩
    try dsimp only [cxOf, Cx.nox, Cx.wish]
    walk_at "g"
    refine lcL (B := Int × Int) hv st (fun t acc Lc => acc = gs.take t ∧ Lc = L) ⟨rfl, rfl⟩ ?_ ?_
    · rintro t v2 x D acc G' H' Lc hx rx ⟨rfl, rfl⟩ u st
      refine g_tgII rx st.gh rfl ?_
      walk_at "g"
      refine ⟨by show 2 ≤ sizeLine; decide, fun q hq => ?_⟩
      obtain ⟨G2, u2, st, r2⟩ := st.tupNew hq (rep_int (n := x.1)) (rep_int (n := x.2))
      refine put_of (u.trans u2) st (by rw [List.length_take]; omega) r2 ⟨?_, rfl⟩
      rw [take_more hx]
    rintro D acc G' H' Lc ⟨rfl, rfl⟩ u st
    rw [List.take_length] at st
    obtain ⟨G2, u2, st, r2⟩ := st.ownFrz
    walk_at "g"
    refine g_srtPR st r2 fun p H3 st => ?_
    exact k p G2 H3 (u.trans u2) st
abbrev s_settled : Stmt := topS 9
theorem sc_settled : FnScope ["guests", "found", "age", "patience", "bearable", "room"] ["guests"] (defScope s_settled) := ⟨rfl, rfl, rfl, by decide +kernel, rfl, by decide +kernel, by decide +kernel⟩
def spSettled : Sp := fun vs H Q _ => ∃ v, ∃ (gs : Gs) (G : Hp) (L : List Res), vs = [v] ∧ Sep G H L ∧ Rep G v gs ∧ gs.length ≤ 1000 ∧ ∀ p G' H', Same G G' → Sep G' H' (Rooms p (byAge gs) :: L) → Q (.ref p) H'
theorem ok_settled {f : Addr} {fd : FuncData} (F : Fun K "settled" "settled" s_settled f fd) (B : Bn mg) (Cby_age : Cal P w K mg base 1 "by_age" spByAge) : FnOk P w K mg base CX0 2 f fd ["guests"] spSettled := by
  have sc := sc_settled
  refine F.ok sc (fun vs H Q E h => ?_) (fun cdv A outer s H vs Q E hr h => ?_)
  · obtain ⟨v, gs, G, L, rfl, _⟩ := h
    rfl
  · obtain ⟨v, gs, G, L, rfl, st, hv, hl, k⟩ := h
    have hu := hu_of hr
    refine ⟨_, (pss_cons (ps_set (i := 1) sc.nd rfl (.inl rfl) (pe_lst pa_nil))
  (pss_cons (ps_for PassesOwn.never rfl (pi_list (pe_c Cby_age hr (by decide) rfl (pa_cons (pv 0) pa_nil))) (pg_tup rfl (pgs_cons (pg_name (i := 2) sc.nd rfl (.inl rfl)) (pgs_cons (pg_name (i := 3) sc.nd rfl (.inr rfl)) pgs_nil)))
  (pss_cons (ps_setLc (i := 4) (own := [("room", 5)]) (g := (gName 5)) (tt := (tTest (tOp _ (tCB (EB.rLen K) (tCons (tVar 5) tNil)) (tVar 3)))) (te := (tVar 5)) rfl sc.nd rfl rfl (sw_true rfl rfl rfl (by decide +kernel)) (pi_list (pv 1)) (blkOk_by (own := [("room", 5)]) (N := ["guests", "found", "age", "patience", "bearable", "room"]) (sc := defScope s_settled) (by decide +kernel)) (fun _ _ _ _ _ => (pg_name (i := 5) sc.nd rfl (by first | exact .inl rfl | exact .inr rfl))) (fun _ _ _ _ _ => (pts_one (pt_cmpR op_le (pe_callB cLen (by rfl) B.len bt_len (pa_cons (pv 5) pa_nil)) (pv 3) (nomark _)))) (fun _ _ _ _ _ => (pv 5)))
  (pss_one (ps_if (pt_cmpR (opEq (units64 hr)) (pv 4) (pe_lst pa_nil) (nomark _)) (pss_one (ps_expr (pe_bm PySem.F.plainAttrs_list PySem.F.slot_list_append PySem.F.type_list_append mt_append (pv 1) (pa_cons (pe_lst (pa_cons (pv 2) pa_nil)) pa_nil)))) (pss_one (ps_expr (pe_bm PySem.F.plainAttrs_list PySem.F.slot_list_append PySem.F.type_list_append mt_append (pe_ix ix_seq (pv 4) pe_int (fun _ _ => rfl)) (pa_cons (pv 2) pa_nil))))))))
  (pss_one (ps_ret (pv 1))))), ?_⟩
    try dsimp only [cxOf, Cx.nox, Cx.wish]
    walk_at "g"
    refine ⟨Nat.zero_le _, fun fo hf => ?_⟩
    have st := Rooms.new (A := Int) st hf
    walk_at "g"
    refine ⟨v, gs, G, _, rfl, st, hv, hl, fun p G1 H1 u1 st => ?_⟩
    obtain ⟨G2, u2, st, r2⟩ := st.ownFrz
    refine loopL r2 st.gh (fun i σ H' => ∃ a b c d G', σ = [some v, some (.ref fo), a, b, c, d] ∧ Same G2 G' ∧ Sep G' H' (Rooms fo (((dnP gs).take i).foldl putR []) :: L)) ⟨_, _, _, _, G2, rfl, Same.refl _, st⟩ (fun i σ H' _ ⟨_, _, _, _, G', _, u, st⟩ => u.trans st.gh) ?_ ?_
    · rintro i v2 x σ H' hi rx ⟨a, b, c, d, G3, rfl, u3, st⟩
      have hi2 := (List.getElem?_eq_some_iff.mp hi).1
      rw [dnP_len] at hi2
      have hfl := fold_len ((dnP gs).take i) []
      rw [List.length_take, dnP_len, List.length_nil, Nat.zero_add] at hfl
      have hfr := fold_room ((dnP gs).take i) [] 0 (by simp)
      rw [List.length_take, dnP_len] at hfr
      rw [show ((dnP gs).take (i + 1)).foldl putR [] = putR (((dnP gs).take i).foldl putR []) x from foldl_more hi]
      generalize ((dnP gs).take i).foldl putR [] = ss at st hfl hfr ⊢
      refine g_tgII rx (u3.trans st.gh) rfl ?_
      walk_at "g"
      obtain ⟨as, hal, hfo, hrep⟩ := Rooms.refs st
      refine lcL (B := Raw) (xs := (as.map V.ref).map Raw.mk) (G := H') ⟨fo, _, rfl, hfo, reps_raw _⟩ (Sep.all H') (fun t acc Lc => acc = (((as.zip ss).take t).filter fun z => fit x.2 z.2).map (fun z => Raw.mk (.ref z.1)) ∧ Lc = []) ⟨rfl, rfl⟩ ?_ ?_
      · rintro t v3 y D acc G' H4 Lc hx rx ⟨rfl, rfl⟩ u st4
        rw [List.getElem?_map, List.getElem?_map] at hx
        obtain ⟨aw, haw, hxy⟩ := Option.map_eq_some_iff.mp hx
        obtain ⟨av, hav, haw⟩ := Option.map_eq_some_iff.mp haw
        subst hxy haw
        have rx : v3 = .ref av := rx
        subst rx
        have ht : t < as.length := (List.getElem?_eq_some_iff.mp hav).1
        have hss : ss[t]? = some ss[t] := List.getElem?_eq_getElem (by omega)
        generalize ss[t] = rm at hss
        obtain ⟨av2, hav2, hr⟩ := hrep t rm hss
        rw [hav] at hav2
        cases hav2
        have hz : (as.zip ss)[t]? = some (av, rm) := List.getElem?_zip_eq_some.mpr ⟨hav, hss⟩
        walk_at "g"
        refine g_lenL (hr.up u) st4.gh ?_
        walk_at "g"
        refine g_ite (fun c => ?_) (fun c => ?_)
        · walk_at "g"
          refine put_of u st4 (by rw [List.length_map]; exact Nat.lt_of_le_of_lt (List.length_filter_le _ _) (by rw [List.length_take, List.length_zip]; omega)) (show Rep _ _ (Raw.mk (.ref av)) from rfl) ⟨?_, rfl⟩
          rw [take_more hz, List.filter_append, List.map_append]
          have e : fit x.2 rm = true := by simpa [fit] using c
          simp [e]
        · refine skip_of u st4 ⟨?_, rfl⟩
          rw [take_more hz, List.filter_append, List.map_append]
          have e : fit x.2 rm = false := by simpa [fit] using c
          simp [e]
      rintro D acc G' H4 Lc ⟨rfl, rfl⟩ u st4
      have hzl : (as.zip ss).length = ((as.map V.ref).map Raw.mk).length := by
        rw [List.length_zip, List.length_map, List.length_map]
        omega
      rw [← hzl, List.take_length] at st4
      have kk := u.trans st4.gh
      obtain ⟨ws, G5, rw5, u5, st, hD⟩ := st.snap u st4
      have rw5 := Reps.raws rw5
      rw [List.map_map] at rw5
      have rw5 : ws = (filt x.2 as ss).map fun z => V.ref z.1 := rw5
      subst rw5
      walk_at "g"
      refine ⟨Nat.zero_le _, fun q hq => ?_⟩
      have hrD : ∀ {H6 : Hp}, Same H4 H6 → Rep H6 (.ref D) ((filt x.2 as ss).map (·.2)) := fun {H6} e6 => ⟨D, _, rfl, e6 _ _ (st.gh _ _ hD), filt_reps fun z hz => by
        obtain ⟨i, h1, h2⟩ := mem_filt hz
        obtain ⟨a2, h3, h4⟩ := hrep i z.2 h2
        rw [h1] at h3
        cases h3
        exact h4.up (kk.trans e6)⟩
      obtain ⟨G6, u6, st, r6⟩ := st.lstNew hq (reps0 (A := List Int))
      refine g_eqT (hrD (same_upd hq)) r6 (Same.refl _) st.gh ?_
      walk_at "g"
      refine g_ite (fun c => ?_) (fun c => ?_)
      · have c2 : filt x.2 as ss = [] := List.map_eq_nil_iff.mp c
        walk_at "g"
        refine g_tyRooms st ?_
        walk_at "g"
        refine ⟨by show 1 ≤ sizeLine; decide, fun q2 hq2 => ?_⟩
        have st := st.ownNew (vs := [.int x.1]) (xs := [x.1]) hq2 (reps1 rep_int)
        walk_at "g"
        refine g_appRooms st (by omega) fun H7 st => ?_
        refine ⟨_, _, _, _, G6, rfl, (u3.trans u5).trans u6, ?_⟩
        have e : putR ss x = ss ++ [[x.1]] := by
          unfold putR
          rw [if_neg ((filt_none hal).mp c2)]
        rw [e]
        exact st
      · have c2 : spot ss x.2 < ss.length := by
          by_cases z : spot ss x.2 < ss.length
          · exact z
          · exact absurd (by rw [(filt_none hal).mpr z]; rfl) c
        obtain ⟨a0, rest, h0, hf0⟩ := filt_first hal c2
        have hgd : ss[spot ss x.2]? = some (ss.getD (spot ss x.2) []) := by
          rw [List.getD_eq_getElem?_getD, List.getElem?_eq_getElem c2]
          rfl
        walk_at "g"
        refine .inl ⟨D, _, 0, .ref a0, rfl, rfl, .inl (.inl (st.gh _ _ (u6 _ _ hD))), by rw [hf0]; exact atI_nat (j := 0) rfl, ?_⟩
        obtain ⟨b0, as0, hb0, hp0, st⟩ := Rooms.at st hgd
        have e0 : as0 = as := by
          have := (kk.trans (same_upd (o := .lst []) hq)) _ _ hfo
          rw [hp0] at this
          exact (List.map_inj_right (fun _ _ h => by cases h; rfl)).mp (HO.lst.inj (Option.some.inj this))
        subst e0
        rw [h0] at hb0
        cases hb0
        refine g_tyO st ?_
        walk_at "g"
        have hlr : (ss.getD (spot ss x.2) []).length ≤ 0 + min i gs.length := hfr _ (List.mem_of_getElem? hgd)
        refine g_append st rep_int (by omega) fun H7 st => ?_
        refine ⟨_, _, _, _, G6, rfl, (u3.trans u5).trans u6, ?_⟩
        have e : putR ss x = ss.set (spot ss x.2) (ss.getD (spot ss x.2) [] ++ [x.1]) := by
          unfold putR
          rw [if_pos c2]
        rw [e]
        exact Rooms.put c2 st
    · rintro σ H' ⟨a, b, c, d, G3, rfl, u3, st⟩
      walk_at "g"
      rw [List.take_length] at st
      exact k fo G3 H' ((u1.trans u2).trans u3) st
abbrev s_rooms : Stmt := topS 10
theorem sc_rooms : FnScope ["guests"] ["guests"] (defScope s_rooms) := ⟨rfl, rfl, rfl, by decide +kernel, rfl, by decide +kernel, by decide +kernel⟩
def spRooms : Sp := fun vs H Q _ => ∃ v, ∃ (gs : Gs) (G : Hp) (L : List Res), vs = [v] ∧ Sep G H L ∧ Rep G v gs ∧ Good gs ∧ ∀ p G' H', Same G G' → Sep G' H' (Rooms p (byAge gs) :: L) → Q (.ref p) H'
theorem ok_rooms {f : Addr} {fd : FuncData} (F : Fun K "rooms" "rooms" s_rooms f fd) (B : Bn mg) (Cneed_guests : Cal P w K mg base 1 "need_guests" spNeedGuests) (Csettled : Cal P w K mg base 2 "settled" spSettled) : FnOk P w K mg base CX0 3 f fd ["guests"] spRooms := by
  have sc := sc_rooms
  refine F.ok sc (fun vs H Q E h => ?_) (fun cdv A outer s H vs Q E hr h => ?_)
  · obtain ⟨v, gs, G, L, rfl, _⟩ := h
    rfl
  · obtain ⟨v, gs, G, L, rfl, st, hv, hg, k⟩ := h
    have hu := hu_of hr
    refine ⟨_, (pss_cons (ps_expr (pe_c Cneed_guests hr (by decide) rfl (pa_cons (pv 0) pa_nil)))
  (pss_one (ps_ret (pe_c Csettled hr (by decide) rfl (pa_cons (pv 0) pa_nil))))), ?_⟩
    try dsimp only [cxOf, Cx.nox, Cx.wish]
    walk_at "g"
    refine ⟨v, gs, rfl, hv.up st.gh, hg, fun H1 e1 => ?_⟩
    have st := st.keep e1
    walk_at "g"
    exact ⟨v, gs, G, L, rfl, st, hv, hg.len, k⟩
end
end El

namespace El
open PySem L2 EB
theorem ins_perm {A : Type} (xs : List A) (a : A) (k : Nat) : (xs.take k ++ [a] ++ xs.drop k).Perm (a :: xs) := by
  rw [List.append_assoc, List.singleton_append]
  refine List.perm_middle.trans ?_
  rw [List.take_append_drop]
section
variable {P : Program} {w : World} {K : PySem.W.Frag} {mg : Str → Option Value} {base : Heap}
abbrev s__law_guests : Stmt := topS 18
theorem sc__law_guests : FnScope ["bag", "most", "many", "far", "years", "found", "k", "bears"] ["bag", "most"] (defScope s__law_guests) := ⟨rfl, rfl, rfl, by decide +kernel, rfl, by decide +kernel, by decide +kernel⟩
/-- guests as the law draws them -/
structure Folk (gs : Gs) : Prop where
  pos : ∀ g ∈ gs, 0 ≤ g.2
  nd : (gs.map (·.1)).Nodup
def spGuests : Sp := fun vs H Q _ => ∃ (p : Addr) (most : Int) (n : Nat) (G : Hp) (L : List Res), vs = [.ref p, .int most] ∧ Sep G H (BagR p n :: L) ∧ 0 ≤ most ∧ most ≤ 100 ∧ n + 1000 < 2 ^ 100 ∧
  ∀ v (gs : Gs) G' H', Same G G' → Sep G' H' (BagR p (n + 1000) :: L) → Rep G' v gs → Folk gs → (gs.length : Int) ≤ most → Q v H'
theorem ok__law_guests {f : Addr} {fd : FuncData} (F : Fun K "_law_guests" "_law_guests" s__law_guests f fd) (B : Bn mg) (C_law_draw : Cal P w K mg base 1 "_law_draw" spDraw) : FnOk P w K mg base CX0 2 f fd ["bag", "most"] spGuests := by
  have sc := sc__law_guests
  refine F.ok sc (fun vs H Q E h => ?_) (fun cdv A outer s H vs Q E hr h => ?_)
  · obtain ⟨p, m, n, G, L, rfl, _⟩ := h
    rfl
  · obtain ⟨p, m, n, G, L, rfl, st, m0, m1, hn, k⟩ := h
    have hu := hu_of hr
    refine ⟨_, (pss_cons (ps_par (i := 2) (j := 3) (by rfl) sc.nd rfl rfl (by decide) rfl rfl (pa_cons (pe_c C_law_draw hr (by decide) rfl (pa_cons (pv 0) (pa_cons (pe_op opAdd (pv 1) pe_int) pa_nil))) (pa_cons (pe_ix ix_seq (pe_tup (pa_cons pe_int (pa_cons (kPow (n := 100000000000000000000000000000) (by rfl) (by decide) (by decide) pe_int pe_int) pa_nil))) (pe_op opDiv (pe_c C_law_draw hr (by decide) rfl (pa_cons (pv 0) (pa_cons pe_int pa_nil))) pe_int) (fun _ _ => rfl)) pa_nil)) (by rfl))
  (pss_cons (ps_par (i := 4) (j := 5) (by rfl) sc.nd rfl rfl (by decide) rfl rfl (pa_cons (pe_op opSub (pe_c C_law_draw hr (by decide) rfl (pa_cons (pv 0) (pa_cons pe_int pa_nil))) pe_int) (pa_cons (pe_lst pa_nil) pa_nil)) (by rfl))
  (pss_cons (ps_for PassesOwn.never rfl (pi_range1 (by rfl) B.range (pa_cons (pv 2) pa_nil)) (pg_name (i := 6) sc.nd rfl (.inl rfl))
  (pss_cons (ps_set (i := 4) sc.nd rfl (.inl rfl) (pe_op opAdd (pe_op opAdd (pv 4) pe_int) (pe_op opDiv (pe_c C_law_draw hr (by decide) rfl (pa_cons (pv 0) (pa_cons (pv 3) pa_nil))) (pe_op opAdd (pv 1) pe_int))))
  (pss_cons (ps_set (i := 7) sc.nd rfl (.inl rfl) (pe_ix ix_seq (pe_tup (pa_cons pe_int (pa_cons (pe_c C_law_draw hr (by decide) rfl (pa_cons (pv 0) (pa_cons pe_int pa_nil))) (pa_cons (pe_c C_law_draw hr (by decide) rfl (pa_cons (pv 0) (pa_cons pe_int pa_nil))) (pa_cons (pe_ix ix_seq (pe_tup (pa_cons (pv 2) (pa_cons (kPow (n := 100000000000000000000000000000) (by rfl) (by decide) (by decide) pe_int pe_int) pa_nil))) (pe_c C_law_draw hr (by decide) rfl (pa_cons (pv 0) (pa_cons pe_int pa_nil))) (fun _ _ => rfl)) pa_nil))))) (pe_c C_law_draw hr (by decide) rfl (pa_cons (pv 0) (pa_cons pe_int pa_nil))) (fun _ _ => rfl)))
  (pss_one (ps_expr (pe_bm PySem.F.plainAttrs_list PySem.F.slot_list_insert PySem.F.type_list_insert mt_insertA (pv 5) (pa_cons (pe_c C_law_draw hr (by decide) rfl (pa_cons (pv 0) (pa_cons (pe_op opAdd (pe_callB cLen (by rfl) B.len bt_len (pa_cons (pv 5) pa_nil)) pe_int) pa_nil))) (pa_cons (pe_tup (pa_cons (pv 4) (pa_cons (pv 7) pa_nil))) pa_nil))))))))
  (pss_one (ps_ret (pv 5)))))), ?_⟩
    try dsimp only [cxOf, Cx.nox, Cx.wish]
    walk_at "g"
    refine draw_use st (by omega) (by omega) (by omega) fun many H1 a1 b1 st => ?_
    walk_at "g"
    refine ⟨by show 2 ≤ sizeLine; decide, fun q hq => ?_⟩
    obtain ⟨G1, u1, st, hq'⟩ := st.raw hq
    walk_at "g"
    refine draw_use st (by decide) (by decide) (by omega) fun d2 H2 a2 b2 st => ?_
    walk_at "g"
    refine g_ixTI (ns := [3, 100000000000000000000000000000]) hq' rfl (by walk_at "sm") (by omega) (by show d2 / 3 < 2; omega) fun far hfar _ => ?_
    have hf0 : 1 ≤ far ∧ far ≤ 100000000000000000000000000000 := by
      rcases List.mem_cons.mp hfar with rfl | hfar
      · decide
      · rw [List.mem_singleton.mp hfar]
        decide
    walk_at "g"
    refine draw_use st (by decide) (by decide) (by omega) fun d3 H3 a3 b3 st => ?_
    walk_at "g"
    refine ⟨Nat.zero_le _, fun fo hf => ?_⟩
    have st := st.ownNew (vs := []) (xs := ([] : Gs)) hf trivial
    walk_at "g"
    refine loopR1 (by omega) (by omega) (fun i σ H' => ∃ (y : Int) (gs : Gs) (a b : Option V) (G' : Hp), σ = [some (.ref p), some (.int m), some (.int many), some (.int far), some (.int y), some (.ref fo), a, b] ∧ Same G G' ∧ Sep G' H' (BagR p (n + 3 + 6 * i) :: OwnL fo gs :: L) ∧ Folk gs ∧ (∀ g ∈ gs, g.1 ≤ y) ∧ gs.length = i)
      ⟨_, [], _, _, G1, rfl, u1, st.sw, ⟨by simp, by simp⟩, by simp, rfl⟩ ?_ ?_
    · rintro i σ H' hi ⟨y, gs, a, b, G', rfl, u, st, hg, hy, hgl⟩
      walk_at "g"
      refine draw_use st (by omega) (by omega) (by omega) fun d4 H4 a4 b4 st => ?_
      walk_at "g"
      have hd4 : 0 ≤ d4 / (m + 1) := Int.ediv_nonneg a4 (by omega)
      refine draw_use st (by omega) (by omega) (by omega) fun d5 H5 a5 b5 st => ?_
      walk_at "g"
      refine draw_use st (by omega) (by omega) (by omega) fun d6 H6 a6 b6 st => ?_
      walk_at "g"
      refine ⟨by show 2 ≤ sizeLine; decide, fun q hq => ?_⟩
      obtain ⟨G2, u2, st, hq2⟩ := st.raw hq
      walk_at "g"
      refine draw_use st (by omega) (by omega) (by omega) fun d7 H7 a7 b7 st => ?_
      refine g_ixTI (ns := [many, 100000000000000000000000000000]) hq2 rfl (by walk_at "sm") a7 b7 fun e he _ => ?_
      have he0 : 0 ≤ e := by
        rcases List.mem_cons.mp he with rfl | he
        · omega
        · rw [List.mem_singleton.mp he]
          decide
      walk_at "g"
      refine ⟨by show 4 ≤ sizeLine; decide, fun q3 hq3 => ?_⟩
      obtain ⟨G3, u3, st, hq4⟩ := st.raw hq3
      walk_at "g"
      refine draw_use st (by omega) (by omega) (by omega) fun d8 H8 a8 b8 st => ?_
      refine g_ixTI (ns := [0, d5, d6, e]) hq4 rfl (by walk_at "sm") a8 b8 fun bears hb _ => ?_
      have hb0 : 0 ≤ bears := by
        simp only [List.mem_cons, List.not_mem_nil, or_false] at hb
        omega
      walk_at "g"
      refine g_tyO st.sw ?_
      walk_at "g"
      refine g_lenL st.sw.ownRep (Same.refl _) ?_
      walk_at "g"
      refine draw_use st (by omega) (by omega) (by omega) fun at_ H9 a9 b9 st => ?_
      walk_at "g"
      refine ⟨by show 2 ≤ sizeLine; decide, fun q5 hq5 => ?_⟩
      obtain ⟨G4, u4, st, r4⟩ := st.tupNew hq5 (rep_int (n := y + 1 + d4 / (m + 1))) (rep_int (n := bears))
      walk_at "g"
      refine g_insert st.sw r4 a9 (by omega) (by omega) fun H10 st => ?_
      have pm := ins_perm gs (y + 1 + d4 / (m + 1), bears) at_.toNat
      refine ⟨_, _, _, _, _, rfl, ((u.trans u2).trans u3).trans u4, BagR.le st.sw (by omega), ⟨?_, ?_⟩, ?_, ?_⟩
      · intro g hg'
        rcases List.mem_cons.mp (pm.mem_iff.mp hg') with rfl | hg'
        · exact hb0
        · exact hg.pos g hg'
      · refine (pm.map (·.1)).nodup_iff.mpr ?_
        rw [List.map_cons, List.nodup_cons]
        refine ⟨fun hm => ?_, hg.nd⟩
        obtain ⟨g, hg', e⟩ := List.mem_map.mp hm
        have := hy g hg'
        have e : g.1 = y + 1 + d4 / (m + 1) := e
        omega
      · intro g hg'
        rcases List.mem_cons.mp (pm.mem_iff.mp hg') with rfl | hg'
        · exact Int.le_refl _
        · have := hy g hg'
          omega
      · rw [pm.length_eq, List.length_cons, hgl]
    · rintro σ H' ⟨y, gs, a, b, G', rfl, u, st, hg, hy, hgl⟩
      walk_at "g"
      obtain ⟨G2, u2, st, r⟩ := st.sw.ownFrz
      exact k _ gs G2 _ (u.trans u2) (BagR.le st (by omega)) r hg (by omega)
abbrev s__law_by_age : Stmt := topS 19
theorem sc__law_by_age : FnScope ["lodgers", "found", "years", "bears", "at"] ["lodgers"] (defScope s__law_by_age) := ⟨rfl, rfl, rfl, by decide +kernel, rfl, by decide +kernel, by decide +kernel⟩
theorem ok__law_by_age {f : Addr} {fd : FuncData} (F : Fun K "_law_by_age" "_law_by_age" s__law_by_age f fd) (B : Bn mg) : FnOk P w K mg base CX0 1 f fd ["lodgers"] spSettled := by
  have sc := sc__law_by_age
  refine F.ok sc (fun vs H Q E h => ?_) (fun cdv A outer s H vs Q E hr h => ?_)
  · obtain ⟨v, gs, G, L, rfl, _⟩ := h
    rfl
  · obtain ⟨v, gs, G, L, rfl, st, hv, hl, k⟩ := h
    have hu := hu_of hr
    refine ⟨_, (pss_cons (ps_set (i := 1) sc.nd rfl (.inl rfl) (pe_lst pa_nil))
  (pss_cons (ps_for PassesOwn.never rfl (pi_list (pe_callBK cSortedRev (by rfl) B.sorted bt_sorted (pa_cons (pv 0) pa_nil) (pk_cons pe_bl pk_nil))) (pg_tup rfl (pgs_cons (pg_name (i := 2) sc.nd rfl (.inl rfl)) (pgs_cons (pg_name (i := 3) sc.nd rfl (.inl rfl)) pgs_nil)))
  (pss_cons (ps_set (i := 4) sc.nd rfl (.inl rfl) pe_int)
  (pss_cons (ps_while PassesOwn.never (PW.pt (pw_and (pt_cmpR op_lt (pv 4) (pe_callB cLen (by rfl) B.len bt_len (pa_cons (pv 1) pa_nil)) (nomark _)) (pw_and1 (pt_cmpR op_gt (pe_callB cLen (by rfl) B.len bt_len (pa_cons (pe_ix ix_seq (pv 1) (pv 4) (fun _ _ => rfl)) pa_nil)) (pv 3) (nomark _)))))
  (pss_one (ps_aug (i := 4) sc.nd rfl (.inl rfl) pe_int ip_add)))
  (pss_cons (ps_if (pt_cmpR (opEq (units64 hr)) (pv 4) (pe_callB cLen (by rfl) B.len bt_len (pa_cons (pv 1) pa_nil)) (nomark _)) (pss_one (ps_expr (pe_bm PySem.F.plainAttrs_list PySem.F.slot_list_append PySem.F.type_list_append mt_append (pv 1) (pa_cons (pe_lst pa_nil) pa_nil)))) pss_nil)
  (pss_one (ps_expr (pe_bm PySem.F.plainAttrs_list PySem.F.slot_list_append PySem.F.type_list_append mt_append (pe_ix ix_seq (pv 1) (pv 4) (fun _ _ => rfl)) (pa_cons (pv 2) pa_nil))))))))
  (pss_one (ps_ret (pv 1))))), ?_⟩
    try dsimp only [cxOf, Cx.nox, Cx.wish]
    walk_at "g"
    refine ⟨Nat.zero_le _, fun fo hf => ?_⟩
    have st := Rooms.new (A := Int) st hf
    walk_at "g"
    refine g_srtPR st hv fun p H1 st => ?_
    obtain ⟨G2, u2, st, r2⟩ := st.ownFrz
    refine loopL r2 st.gh (fun i σ H' => ∃ a b c G', σ = [some v, some (.ref fo), a, b, c] ∧ Same G2 G' ∧ Sep G' H' (Rooms fo (((dnP gs).take i).foldl putR []) :: L)) ⟨_, _, _, G2, rfl, Same.refl _, st⟩ (fun i σ H' _ ⟨_, _, _, G', _, u, st⟩ => u.trans st.gh) ?_ ?_
    · rintro i v2 x σ H' hi rx ⟨a, b, c, G3, rfl, u3, st⟩
      have hi2 := (List.getElem?_eq_some_iff.mp hi).1
      rw [dnP_len] at hi2
      have hfl := fold_len ((dnP gs).take i) []
      rw [List.length_take, dnP_len, List.length_nil, Nat.zero_add] at hfl
      have hfr := fold_room ((dnP gs).take i) [] 0 (by simp)
      rw [List.length_take, dnP_len] at hfr
      rw [show ((dnP gs).take (i + 1)).foldl putR [] = putR (((dnP gs).take i).foldl putR []) x from foldl_more hi]
      generalize ((dnP gs).take i).foldl putR [] = ss at st hfl hfr ⊢
      refine g_tgII rx (u3.trans st.gh) rfl ?_
      walk_at "g"
      have hsl := spot_le ss x.2
      -- while at < len(found) and len(found[at]) > bears
      refine ⟨fun m σ H => ∃ j : Nat, m = ss.length - j ∧ j ≤ spot ss x.2 ∧ σ = [some v, some (.ref fo), some (.int x.1), some (.int x.2), some (.int j)] ∧ H = H', ⟨_, 0, rfl, Nat.zero_le _, rfl, rfl⟩, ?_⟩
      rintro m σ H4 ⟨j, rfl, hj, rfl, rfl⟩
      walk_at "g"
      refine g_lenRooms st ?_
      walk_at "g"
      refine g_ite (fun c => ?_) (fun c => ?_)
      · have hjr : ss[((j : Int)).toNat]? = some (ss.getD j []) := by
          rw [Int.toNat_natCast, List.getD_eq_getElem?_getD, List.getElem?_eq_getElem (by omega)]
          rfl
        walk_at "g"
        refine g_ixL (Rooms.rep st) (Same.refl _) (by omega) hjr fun w5 r5 => ?_
        walk_at "g"
        refine g_lenL r5 (Same.refl _) ?_
        walk_at "g"
        refine g_ite (fun c2 => ?_) (fun c2 => ?_)
        · refine g_turn ?_
          walk_at "g"
          refine ⟨ss.length - (j + 1), by omega, j + 1, rfl, ?_, rfl, rfl⟩
          rcases Nat.lt_or_ge j (spot ss x.2) with h | h
          · exact h
          · exfalso
            have e : j = spot ss x.2 := by omega
            have hlt : spot ss x.2 < ss.length := by omega
            have := List.findIdx_getElem (w := hlt)
            have h3 : (ss.getD j []) = ss[spot ss x.2] := by
              rw [e, List.getD_eq_getElem?_getD, List.getElem?_eq_getElem hlt]
              rfl
            rw [h3] at c2
            have h4 : fit x.2 ss[spot ss x.2] = true := this
            simp only [fit, decide_eq_true_eq] at h4
            omega
        · have e : j = spot ss x.2 := by
            refine Nat.le_antisymm hj ?_
            have hlt : j < ss.length := by omega
            refine Nat.le_of_not_lt fun hlt2 => ?_
            have := List.not_of_lt_findIdx (p := fit x.2) (xs := ss) hlt2
            have h3 : (ss.getD j []) = ss[j] := by
              rw [List.getD_eq_getElem?_getD, List.getElem?_eq_getElem hlt]
              rfl
            rw [h3] at c2
            have h4 : fit x.2 ss[j] = false := this
            simp only [fit, decide_eq_false_iff_not] at h4
            omega
          subst e
          have hlt : spot ss x.2 < ss.length := by omega
          walk_at "g"
          refine g_lenRooms st ?_
          walk_at "g"
          refine g_ite (fun c3 => absurd c3 (by omega)) (fun _ => ?_)
          walk_at "g"
          refine g_ixRooms st (by omega) hjr fun b0 st => ?_
          refine g_tyO st ?_
          walk_at "g"
          have hlr : (ss.getD (spot ss x.2) []).length ≤ 0 + min i gs.length := hfr _ (List.mem_of_getElem? hjr)
          refine g_append st rep_int (by omega) fun H7 st => ?_
          refine ⟨_, _, _, _, rfl, u3, ?_⟩
          have e : putR ss x = ss.set (spot ss x.2) (ss.getD (spot ss x.2) [] ++ [x.1]) := by
            unfold putR
            rw [if_pos hlt]
          rw [e]
          exact Rooms.put hlt st
      · have e : j = ss.length := by omega
        subst e
        have e2 : spot ss x.2 = ss.length := by omega
        walk_at "g"
        refine g_lenRooms st ?_
        walk_at "g"
        refine g_ite (fun _ => ?_) (fun c3 => absurd rfl c3)
        walk_at "g"
        refine g_tyRooms st ?_
        walk_at "g"
        refine ⟨Nat.zero_le _, fun q2 hq2 => ?_⟩
        have st := st.ownNew (vs := []) (xs := ([] : List Int)) hq2 trivial
        walk_at "g"
        refine g_appRooms st (by omega) fun H7 st => ?_
        walk_at "g"
        refine g_ixRooms (xs := []) st (by omega) (by simp) fun b0 st => ?_
        refine g_tyO st ?_
        walk_at "g"
        refine g_append st rep_int (by decide) fun H8 st => ?_
        refine ⟨_, _, _, _, rfl, u3, ?_⟩
        have e : putR ss x = ss ++ [[x.1]] := by
          unfold putR
          rw [if_neg (by omega)]
        rw [e]
        have st := Rooms.put (by simp) st
        simpa using st
    · rintro σ H' ⟨a, b, c, G3, rfl, u3, st⟩
      walk_at "g"
      rw [List.take_length] at st
      exact k fo G3 H' (u2.trans u3) st
end
end El

namespace El
open PySem L2 EB
section
variable {P : Program} {w : World} {K : PySem.W.Frag} {mg : Str → Option Value} {base : Heap}
abbrev s_need_number : Stmt := topS 7
theorem sc_need_number : FnScope ["j"] ["j"] (defScope s_need_number) := ⟨rfl, rfl, rfl, by decide +kernel, rfl, by decide +kernel, by decide +kernel⟩
def spNeedNumber : Sp := fun vs H Q _ => ∃ j : Int, vs = [.int j] ∧ 0 ≤ j ∧ ∀ H', Same H H' → Q .non H'
theorem ok_need_number {f : Addr} {fd : FuncData} (F : Fun K "need_number" "need_number" s_need_number f fd) (B : Bn mg) : FnOk P w K mg base CX0 1 f fd ["j"] spNeedNumber := by
  have sc := sc_need_number
  refine F.ok sc (fun vs H Q E h => ?_) (fun cdv A outer s H vs Q E hr h => ?_)
  · obtain ⟨j, rfl, _⟩ := h
    rfl
  · obtain ⟨j, rfl, hj, k⟩ := h
    have hu := hu_of hr
    refine ⟨_, (pss_one (ps_if (pt_cmpR op_lt (pv 0) pe_int (nomark _)) (pss_one ps_never) pss_nil)), ?_⟩
    try dsimp only [cxOf, Cx.nox, Cx.wish]
    walk_at "g"
    refine g_ite (fun c => absurd c (by omega)) (fun _ => ?_)
    walk_at "g"
    exact k H (Same.refl _)
end
end El

namespace El
open PySem L2 EB
/-! ### arrangements, and who is upset in them -/
structure Arr (gs : Gs) (arr : List (List Int)) : Prop where
  pm : arr.flatten.Perm (gs.map (·.1))
  len : arr.length ≤ 1000
def bearsOf (gs : Gs) (a : Int) : Int := (gs.lookup a).getD 0
def up1 (b : Int → Int) : List Int → Nat → Option Int
  | [], _ => none
  | a :: r, k => if b a < (k : Int) then some a else up1 b r (k + 1)
def upset (gs : Gs) : List (List Int) → Nat → Option (Int × Int)
  | [], _ => none
  | room :: r, n => match up1 (bearsOf gs) (dnI room) 0 with
    | some a => some ((n : Int), a)
    | none => upset gs r (n + 1)
theorem upset_step {gs : Gs} {arr : List (List Int)} {i : Nat} {room : List Int} (h : arr[i]? = some room) : upset gs (arr.drop i) i = match up1 (bearsOf gs) (dnI room) 0 with
    | some a => some ((i : Int), a)
    | none => upset gs (arr.drop (i + 1)) (i + 1) := by
  obtain ⟨h1, h2⟩ := List.getElem?_eq_some_iff.mp h
  rw [List.drop_eq_getElem_cons h1, h2]
  rfl
theorem up1_step {b : Int → Int} {l : List Int} {i : Nat} {a : Int} (h : l[i]? = some a) : up1 b (l.drop i) i = if b a < (i : Int) then some a else up1 b (l.drop (i + 1)) (i + 1) := by
  obtain ⟨h1, h2⟩ := List.getElem?_eq_some_iff.mp h
  rw [List.drop_eq_getElem_cons h1, h2]
  rfl
theorem lookup_some {gs : Gs} {a : Int} (h : a ∈ gs.map (·.1)) : gs.lookup a = some (bearsOf gs a) := by
  unfold bearsOf
  cases e : gs.lookup a with
  | some _ => rfl
  | none =>
    have e2 : (intD gs).lookup a = none := by rw [intD_get, e]; rfl
    have := lookup_none.mp e2
    have e3 : (intD gs).map (·.1) = gs.map (·.1) := by simp [intD, List.map_map, Function.comp_def]
    rw [e3] at this
    exact absurd h this
section
variable {P : Program} {w : World} {K : PySem.W.Frag} {mg : Str → Option Value} {base : Heap}
abbrev s_need_arrangement : Stmt := topS 11
theorem sc_need_arrangement : FnScope ["guests", "arrangement", "left", "age", "patience", "number", "room"] ["guests", "arrangement"] (defScope s_need_arrangement) := ⟨rfl, rfl, rfl, by decide +kernel, rfl, by decide +kernel, by decide +kernel⟩
def spNeedArr : Sp := fun vs H Q _ => ∃ (v u : V) (gs : Gs) (arr : List (List Int)), vs = [v, u] ∧ Rep H v gs ∧ Good gs ∧ Rep H u arr ∧ Arr gs arr ∧ ∀ H', Same H H' → Q .non H'
theorem ok_need_arrangement {f : Addr} {fd : FuncData} (F : Fun K "need_arrangement" "need_arrangement" s_need_arrangement f fd) (B : Bn mg) (Cneed_guests : Cal P w K mg base 1 "need_guests" spNeedGuests) : FnOk P w K mg base CX0 2 f fd ["guests", "arrangement"] spNeedArr := by
  have sc := sc_need_arrangement
  refine F.ok sc (fun vs H Q E h => ?_) (fun cdv A outer s H vs Q E hr h => ?_)
  · obtain ⟨v, u, gs, arr, rfl, _⟩ := h
    rfl
  · obtain ⟨v, u, gs, arr, rfl, hv, hg, hu', ha, k⟩ := h
    have hu := hu_of hr
    have hgl := hg.len
    refine ⟨_, (pss_cons (ps_expr (pe_c Cneed_guests hr (by decide) rfl (pa_cons (pv 0) pa_nil)))
  (pss_cons (ps_setDc (i := 2) (own := [("age", 3), ("patience", 4)]) (g := (gTup K 2 (gCons (gName 3) (gCons (gName 4) gNil)))) (tt := tYes) (tk := (tVar 3)) (tv := (tC (V.bl true))) rfl sc.nd rfl rfl (swD rfl rfl rfl (by decide +kernel)) (pi_list (pv 0)) (blkOk_by (own := [("age", 3), ("patience", 4)]) (N := ["guests", "arrangement", "left", "age", "patience", "number", "room"]) (sc := defScope s_need_arrangement) (by decide +kernel)) (fun _ _ _ _ _ => (pg_tup rfl (pgs_cons (pg_name (i := 3) sc.nd rfl (by first | exact .inl rfl | exact .inr rfl)) (pgs_cons (pg_name (i := 4) sc.nd rfl (by first | exact .inl rfl | exact .inr rfl)) pgs_nil)))) (fun _ _ _ _ _ => pts_nil) (fun _ _ _ _ _ => (pv 3)) (fun _ _ _ _ _ => pe_bl))
  (pss_cons (ps_for PassesOwn.never rfl (pi_enum (by rfl) B.enumerate (pa_cons (pv 1) pa_nil)) (pg_tup rfl (pgs_cons (pg_name (i := 5) sc.nd rfl (.inl rfl)) (pgs_cons (pg_name (i := 6) sc.nd rfl (.inl rfl)) pgs_nil)))
  (pss_one (ps_for PassesOwn.never rfl (pi_list (pv 6)) (pg_name (i := 3) sc.nd rfl (.inl rfl))
  (pss_cons (ps_if (pt_cmp (pc_dnotin hu (pv 3) (pv 2))) (pss_one ps_never) pss_nil)
  (pss_one (ps_ddel (pv 2) (pv 3)))))))
  (pss_one (ps_if (pt_cmpR (op_ne_dictA (Nat.lt_of_succ_lt hu)) (pv 2) pe_dnewK (nomark _)) (pss_one ps_never) pss_nil))))), ?_⟩
    try dsimp only [cxOf, Cx.nox, Cx.wish]
    walk_at "g"
    refine ⟨v, gs, rfl, hv, hg, fun H1 e1 => ?_⟩
    have st := (Sep.all H).keep e1
    walk_at "g"
    refine dcL hv st (fun t acc Lc => acc = (gs.take t).map (fun g => (g.1, V.bl true)) ∧ Lc = []) ⟨rfl, rfl⟩ ?_ ?_
    · rintro t v2 x D acc G' H' Lc hx rx ⟨rfl, rfl⟩ u st
      refine g_tgII rx st.gh rfl ?_
      walk_at "g"
      refine dput_of u st (by rw [List.length_map, List.length_take]; omega) ?_ ⟨?_, rfl⟩
      · rw [List.map_map]
        intro hm
        obtain ⟨y, hy, ey⟩ := List.mem_map.mp hm
        obtain ⟨j, hj⟩ := List.mem_iff_getElem?.mp hy
        have hj2 := hj
        rw [List.getElem?_take] at hj2
        split at hj2
        · rename_i c
          have h1 : (gs.map (·.1))[j]? = some y.1 := by rw [List.getElem?_map, hj2]; rfl
          have h2 : (gs.map (·.1))[t]? = some x.1 := by rw [List.getElem?_map, hx]; rfl
          have e : y.1 = x.1 := ey
          rw [e, ← h2] at h1
          have hl := (List.getElem?_eq_some_iff.mp h2).1
          exact absurd ((List.getElem?_inj (by omega) hg.nd).mp h1) (by omega)
        · cases hj2
      · rw [take_more hx, List.map_append]
        rfl
    rintro D acc G1 H2 Lc ⟨rfl, rfl⟩ u1 st
    rw [List.take_length] at st
    have hu' := hu'.up u1
    have pm0 : ((gs.map fun g => (g.1, V.bl true)).map (·.1)).Perm (arr.drop 0).flatten := by
      rw [List.map_map]
      exact ha.pm.symm
    walk_at "g"
    have nd0 : (arr.flatten).Nodup := ha.pm.nodup_iff.mpr hg.nd
    refine loopE hu' st.gh rfl (fun i σ H' => ∃ rem x3 x4 x5 x6, σ = [some v, some u, some (.ref D), x3, x4, x5, x6] ∧ Sep G1 H' [cell D (.dK (kvI rem))] ∧ (rem.map (·.1)).Perm (arr.drop i).flatten) ⟨_, _, _, _, _, rfl, st, pm0⟩ (fun i σ H' _ ⟨_, _, _, _, _, _, st, _⟩ => st.gh) ?_ ?_
    · rintro i v2 room σ H3 H4 hi rx ⟨rem, x3, x4, x5, x6, rfl, st, pm⟩ e4
      have st := st.keep e4
      obtain ⟨hi1, hi2⟩ := List.getElem?_eq_some_iff.mp hi
      rw [List.drop_eq_getElem_cons hi1, hi2, List.flatten_cons] at pm
      walk_at "g"
      refine loopL rx st.gh (fun j σ H' => ∃ rem x3, σ = [some v, some u, some (.ref D), x3, x4, some (.int i), some v2] ∧ Sep G1 H' [cell D (.dK (kvI rem))] ∧ (rem.map (·.1)).Perm (room.drop j ++ (arr.drop (i + 1)).flatten)) ⟨_, _, rfl, st, pm⟩ (fun j σ H' _ ⟨_, _, _, st, _⟩ => st.gh) ?_ ?_
      · rintro j v3 age σ H5 hj rage ⟨rem, x3, rfl, st, pm⟩
        obtain rfl := rage.int
        obtain ⟨hj1, hj2⟩ := List.getElem?_eq_some_iff.mp hj
        rw [List.drop_eq_getElem_cons hj1, hj2, List.cons_append] at pm
        have hin : age ∈ rem.map (·.1) := pm.mem_iff.mpr (List.mem_cons_self ..)
        have ndr : (age :: (room.drop (j + 1) ++ (arr.drop (i + 1)).flatten)).Nodup := by
          refine List.Sublist.nodup ?_ nd0
          rw [← List.cons_append, ← hj2, ← List.drop_eq_getElem_cons hj1]
          have e : arr.flatten = (arr.take i).flatten ++ (room ++ (arr.drop (i + 1)).flatten) := by
            rw [← List.flatten_cons, ← hi2, ← List.drop_eq_getElem_cons hi1, ← List.flatten_append, List.take_append_drop]
          rw [e]
          exact ((List.drop_sublist j room).append_right _).trans (List.sublist_append_right _ _)
        walk_at "g"
        refine dI_get st.cellAt ?_
        cases hlk : rem.lookup age with
        | none => exact absurd hin (lookup_none.mp hlk)
        | some w7 =>
          rw [Option.isSome_some]
          walk_at "g"
          refine dI_del st hin fun H6 st => ?_
          refine ⟨_, _, rfl, st, ?_⟩
          have e : (rem.filter fun z => decide (z.1 ≠ age)).map (·.1) = (rem.map (·.1)).filter fun k => decide (k ≠ age) := by
            rw [List.filter_map]
            rfl
          rw [e]
          refine (pm.filter _).trans ?_
          rw [List.filter_cons_of_neg (by simp)]
          rw [List.filter_eq_self.mpr]
          intro k hk
          have := (List.nodup_cons.mp ndr).1
          simp only [decide_eq_true_eq]
          rintro rfl
          exact this hk
      · rintro σ H5 ⟨rem, x3, rfl, st, pm⟩
        rw [List.drop_length, List.nil_append] at pm
        exact ⟨_, _, _, _, _, rfl, st, pm⟩
    · rintro σ H3 ⟨rem, x3, x4, x5, x6, rfl, st, pm⟩
      rw [List.drop_length] at pm
      have e : rem = [] := List.map_eq_nil_iff.mp (List.perm_nil.mp pm)
      subst e
      walk_at "g"
      refine g_dnew st fun q H4 st => ?_
      refine g_neD0 st.sw.cellAt st.cellAt ?_
      walk_at "g"
      exact k _ (u1.trans st.gh)
abbrev s_upset : Stmt := topS 12
theorem sc_upset : FnScope ["guests", "arrangement", "bears", "age", "patience", "number", "room", "elders"] ["guests", "arrangement"] (defScope s_upset) := ⟨rfl, rfl, rfl, by decide +kernel, rfl, by decide +kernel, by decide +kernel⟩
def spUpset : Sp := fun vs H Q _ => ∃ (v u : V) (gs : Gs) (arr : List (List Int)), vs = [v, u] ∧ Rep H v gs ∧ Good gs ∧ Rep H u arr ∧ Arr gs arr ∧ ∀ x G' H', Same H G' → Same G' H' → Rep G' x (upset gs arr 0) → Q x H'
theorem ok_upset {f : Addr} {fd : FuncData} (F : Fun K "upset" "upset" s_upset f fd) (B : Bn mg) (Cneed_arrangement : Cal P w K mg base 2 "need_arrangement" spNeedArr) : FnOk P w K mg base CX0 3 f fd ["guests", "arrangement"] spUpset := by
  have sc := sc_upset
  refine F.ok sc (fun vs H Q E h => ?_) (fun cdv A outer s H vs Q E hr h => ?_)
  · obtain ⟨v, u, gs, arr, rfl, _⟩ := h
    rfl
  · obtain ⟨v, u, gs, arr, rfl, hv, hg, hu', ha, k⟩ := h
    have hu := hu_of hr
    have hgl := hg.len
    refine ⟨_, (pss_cons (ps_expr (pe_c Cneed_arrangement hr (by decide) rfl (pa_cons (pv 0) (pa_cons (pv 1) pa_nil))))
  (pss_cons (ps_set (i := 2) sc.nd rfl (.inl rfl) (pe_callTy (cDict rfl) (by rfl) B.dict bt_dict (pa_cons (pe_lc (own := [("age", 3), ("patience", 4)]) (g := (gTup K 2 (gCons (gName 3) (gCons (gName 4) gNil)))) (tt := tYes) (te := (tTup (tCons (tVar 3) (tCons (tVar 4) tNil)))) rfl sc.nd (pi_list (pv 0)) (blkOk_by (own := [("age", 3), ("patience", 4)]) (N := ["guests", "arrangement", "bears", "age", "patience", "number", "room", "elders"]) (sc := defScope s_upset) (by decide +kernel)) (fun _ _ _ _ _ => (pg_tup rfl (pgs_cons (pg_name (i := 3) sc.nd rfl (by first | exact .inl rfl | exact .inr rfl)) (pgs_cons (pg_name (i := 4) sc.nd rfl (by first | exact .inl rfl | exact .inr rfl)) pgs_nil)))) (fun _ _ _ _ _ => pts_nil) (fun _ _ _ _ _ => (pe_tup (pa_cons (pv 3) (pa_cons (pv 4) pa_nil))))) pa_nil)))
  (pss_cons (ps_for PassesOwn.never rfl (pi_enum (by rfl) B.enumerate (pa_cons (pv 1) pa_nil)) (pg_tup rfl (pgs_cons (pg_name (i := 5) sc.nd rfl (.inl rfl)) (pgs_cons (pg_name (i := 6) sc.nd rfl (.inl rfl)) pgs_nil)))
  (pss_one (ps_for PassesOwn.never rfl (pi_enum (by rfl) B.enumerate (pa_cons (pe_callBK cSortedRev (by rfl) B.sorted bt_sorted (pa_cons (pv 6) pa_nil) (pk_cons pe_bl pk_nil)) pa_nil)) (pg_tup rfl (pgs_cons (pg_name (i := 7) sc.nd rfl (.inl rfl)) (pgs_cons (pg_name (i := 3) sc.nd rfl (.inl rfl)) pgs_nil)))
  (pss_one (ps_if (pt_cmpR op_gt (pv 7) (pe_dget hu (pv 2) (pv 3) (fun _ _ => rfl)) (nomark _)) (pss_one (ps_ret (pe_tup (pa_cons (pv 5) (pa_cons (pv 3) pa_nil))))) pss_nil)))))
  (pss_one (ps_ret pe_non))))), ?_⟩
    try dsimp only [cxOf, Cx.nox, Cx.wish]
    walk_at "g"
    refine ⟨v, u, gs, arr, rfl, hv, hg, hu', ha, fun H1 e1 => ?_⟩
    have st := (Sep.all H).keep e1
    walk_at "g"
    refine lcL (B := Int × Int) hv st (fun t acc Lc => acc = gs.take t ∧ Lc = []) ⟨rfl, rfl⟩ ?_ ?_
    · rintro t v2 x D acc G' H' Lc hx rx ⟨rfl, rfl⟩ u st
      refine g_tgII rx st.gh rfl ?_
      walk_at "g"
      refine ⟨by show 2 ≤ sizeLine; decide, fun q hq => ?_⟩
      obtain ⟨G2, u2, st, r2⟩ := st.tupNew hq (rep_int (n := x.1)) (rep_int (n := x.2))
      refine put_of (u.trans u2) st (by rw [List.length_take]; omega) r2 ⟨?_, rfl⟩
      rw [take_more hx]
    rintro D acc G1 H2 Lc ⟨rfl, rfl⟩ u1 st
    rw [List.take_length] at st
    obtain ⟨G2, u2, st, r2⟩ := st.ownFrz
    walk_at "g"
    refine g_dictP st r2 hg.nd fun pd H3 st => ?_
    have hu' := hu'.up (u1.trans u2)
    walk_at "g"
    refine loopE hu' st.gh rfl (fun i σ H' => ∃ x3 x4 x5 x6 x7 G', σ = [some v, some u, some (.ref pd), x3, x4, x5, x6, x7] ∧ Same G2 G' ∧ Sep G' H' [cell pd (.dK (kvI (intD gs)))] ∧ upset gs arr 0 = upset gs (arr.drop i) i) ⟨_, _, _, _, _, G2, rfl, Same.refl _, st, rfl⟩ (fun i σ H' _ ⟨_, _, _, _, _, G', _, u, st, _⟩ => u.trans st.gh) ?_ ?_
    · rintro i v2 room σ H4 H5 hi rx ⟨x3, x4, x5, x6, x7, G3, rfl, u3, st, hup⟩ e5
      have st := st.keep e5
      rw [upset_step hi] at hup
      walk_at "g"
      refine g_srtIR st (rx.up u3) fun p6 H6 st => ?_
      obtain ⟨G4, u4, st, r4⟩ := st.ownFrz
      walk_at "g"
      refine loopE r4 st.gh rfl (fun j σ H' => ∃ x3 x7, σ = [some v, some u, some (.ref pd), x3, x4, some (.int i), some v2, x7] ∧ Sep G4 H' [cell pd (.dK (kvI (intD gs)))] ∧ up1 (bearsOf gs) (dnI room) 0 = up1 (bearsOf gs) ((dnI room).drop j) j) ⟨_, _, rfl, st, rfl⟩ (fun j σ H' _ ⟨_, _, _, st, _⟩ => st.gh) ?_ ?_
      · rintro j v7 age σ H7 H8 hj rage ⟨x3, x7, rfl, st, hu1⟩ e8
        have st := st.keep e8
        obtain rfl := rage.int
        rw [up1_step hj] at hu1
        have hmem : age ∈ gs.map (·.1) := by
          refine ha.pm.mem_iff.mp (List.mem_flatten.mpr ⟨room, List.mem_of_getElem? hi, ?_⟩)
          exact (dnI_perm room).mem_iff.mp (List.mem_of_getElem? hj)
        walk_at "g"
        refine dI_at st.cellAt (by rw [intD_get, lookup_some hmem]; rfl) ?_
        walk_at "g"
        refine g_ite (fun c => ?_) (fun c => ?_)
        · rw [if_pos c] at hu1
          rw [hu1] at hup
          walk_at "g"
          refine ⟨by show 2 ≤ sizeLine; decide, fun q9 hq9 => ?_⟩
          obtain ⟨G9, u9, st, r9⟩ := st.tupNew hq9 (rep_int (n := (i : Int))) (rep_int (n := age))
          refine k _ G9 _ (((u1.trans u2).trans (u3.trans u4)).trans u9) st.gh ?_
          rw [hup]
          exact rep_some r9
        · rw [if_neg c] at hu1
          walk_at "g"
          exact ⟨_, _, rfl, st, hu1⟩
      · rintro σ H7 ⟨x3, x7, rfl, st, hu1⟩
        rw [List.drop_length] at hu1
        have hu1 : up1 (bearsOf gs) (dnI room) 0 = none := hu1
        rw [hu1] at hup
        exact ⟨_, _, _, _, _, G4, rfl, u3.trans u4, st, hup⟩
    · rintro σ H4 ⟨x3, x4, x5, x6, x7, G3, rfl, u3, st, hup⟩
      rw [List.drop_length] at hup
      have hup : upset gs arr 0 = none := hup
      walk_at "g"
      refine k _ G3 _ ((u1.trans u2).trans u3) st.gh ?_
      rw [hup]
      exact rep_none
end
end El

namespace El
open PySem L2 EB
/-! ### rooms by age are in peace; their first rooms are those of who is in them -/
theorem putR_nil (g : Int × Int) : putR [] g = [[g.1]] := by simp [putR]
theorem putR_cons (r : List Int) (ss : List (List Int)) (g : Int × Int) : putR (r :: ss) g = if fit g.2 r = true then (r ++ [g.1]) :: ss else r :: putR ss g := by
  unfold putR
  rw [spot_cons]
  cases c : fit g.2 r with
  | true => simp
  | false =>
    simp only [Bool.false_eq_true, if_false, List.length_cons, Nat.add_lt_add_iff_right, List.set_cons_succ, List.getD_cons_succ]
    split <;> rfl
theorem putR_flat (g : Int × Int) : ∀ ss : List (List Int), (putR ss g).flatten.Perm (g.1 :: ss.flatten)
  | [] => by rw [putR_nil]; exact .refl _
  | r :: ss => by
    rw [putR_cons]
    split
    · rw [List.flatten_cons, List.flatten_cons, List.append_assoc]
      exact List.perm_middle
    · rw [List.flatten_cons, List.flatten_cons]
      exact ((putR_flat g ss).append_left r).trans List.perm_middle
theorem fold_flat : ∀ (l : Gs) (ss : List (List Int)), (l.foldl putR ss).flatten.Perm (l.map (·.1) ++ ss.flatten)
  | [], _ => .refl _
  | g :: l, ss => by
    refine (fold_flat l (putR ss g)).trans ?_
    rw [List.map_cons, List.cons_append]
    exact ((putR_flat g ss).append_left _).trans List.perm_middle
theorem byAge_flat (gs : Gs) : (byAge gs).flatten.Perm (gs.map (·.1)) := by
  have := fold_flat (dnP gs) []
  rw [List.flatten_nil, List.append_nil] at this
  exact this.trans ((dnP_perm gs).map _)
/-- going to one of the first j rooms, or behind them -/
theorem putR_take (g : Int × Int) : ∀ (ss : List (List Int)) (j : Nat), (spot ss g.2 < j → putR (ss.take j) g = (putR ss g).take j) ∧ (¬ spot ss g.2 < j → (putR ss g).take j = ss.take j)
  | ss, 0 => ⟨fun h => absurd h (Nat.not_lt_zero _), fun _ => rfl⟩
  | [], j + 1 => ⟨fun _ => by rw [putR_nil, List.take_nil, putR_nil]; simp, fun h => absurd (by simp [spot]) h⟩
  | r :: ss, j + 1 => by
    obtain ⟨h1, h2⟩ := putR_take g ss j
    rw [spot_cons, putR_cons, List.take_succ_cons, putR_cons]
    cases c : fit g.2 r with
    | true => simp
    | false =>
      simp only [Bool.false_eq_true, if_false, Nat.add_lt_add_iff_right, List.take_succ_cons, List.cons.injEq, true_and]
      exact ⟨h1, h2⟩
theorem putR_in (g : Int × Int) : ∀ (ss : List (List Int)), ∃ r, (putR ss g)[spot ss g.2]? = some r ∧ g.1 ∈ r
  | [] => ⟨[g.1], by rw [putR_nil]; rfl, by simp⟩
  | r :: ss => by
    obtain ⟨x, h1, h2⟩ := putR_in g ss
    rw [putR_cons, spot_cons]
    cases c : fit g.2 r with
    | true => exact ⟨r ++ [g.1], rfl, by simp⟩
    | false => exact ⟨x, by simpa using h1, h2⟩
theorem putR_grow (g : Int × Int) : ∀ (ss : List (List Int)) (i : Nat) (r : List Int), ss[i]? = some r → ∃ t, (putR ss g)[i]? = some (r ++ t)
  | [], _, _, h => by simp at h
  | x :: ss, 0, r, h => by
    have e : x = r := Option.some.inj h
    subst e
    rw [putR_cons]
    split
    · exact ⟨[g.1], rfl⟩
    · exact ⟨[], by simp⟩
  | x :: ss, i + 1, r, h => by
    obtain ⟨t, ht⟩ := putR_grow g ss i r h
    rw [putR_cons]
    split
    · exact ⟨[], by simpa using h⟩
    · exact ⟨t, by simpa using ht⟩
theorem fold_grow : ∀ (l : Gs) (ss : List (List Int)) (i : Nat) (r : List Int), ss[i]? = some r → ∃ t, (l.foldl putR ss)[i]? = some (r ++ t)
  | [], _, _, r, h => ⟨[], by rw [List.append_nil]; exact h⟩
  | g :: l, ss, i, r, h => by
    obtain ⟨t, ht⟩ := putR_grow g ss i r h
    obtain ⟨t2, h2⟩ := fold_grow l (putR ss g) i _ ht
    exact ⟨t ++ t2, by rw [← List.append_assoc]; exact h2⟩
theorem mem_take_flat {ss : List (List Int)} {i j : Nat} {r : List Int} {a : Int} (h : ss[i]? = some r) (ha : a ∈ r) (hj : i < j) : a ∈ (ss.take j).flatten :=
  List.mem_flatten.mpr ⟨r, List.mem_of_getElem? (by rw [List.getElem?_take, if_pos hj]; exact h), ha⟩
theorem mem_drop_flat {ss : List (List Int)} {i j : Nat} {r : List Int} {a : Int} (h : ss[i]? = some r) (ha : a ∈ r) (hj : j ≤ i) : a ∈ (ss.drop j).flatten :=
  List.mem_flatten.mpr ⟨r, List.mem_of_getElem? (i := i - j) (by rw [List.getElem?_drop, show j + (i - j) = i by omega]; exact h), ha⟩
theorem flat_split (ss : List (List Int)) (j : Nat) : ss.flatten = (ss.take j).flatten ++ (ss.drop j).flatten := by
  rw [← List.flatten_append, List.take_append_drop]
theorem fold_keep (j : Nat) : ∀ (l : Gs) (ss : List (List Int)), (l.foldl putR ss).flatten.Nodup → (l.filter fun g => decide (g.1 ∉ ((l.foldl putR ss).drop j).flatten)).foldl putR (ss.take j) = (l.foldl putR ss).take j
  | [], _, _ => rfl
  | g :: l, ss, nd => by
    have ih := fold_keep j l (putR ss g) nd
    obtain ⟨r, hr, hg⟩ := putR_in g ss
    obtain ⟨t, ht⟩ := fold_grow l (putR ss g) _ r hr
    have hgt : g.1 ∈ r ++ t := List.mem_append_left _ hg
    have nd2 := nd
    simp only [List.foldl_cons]
    have nd3 : (l.foldl putR (putR ss g)).flatten.Nodup := nd
    rw [flat_split _ j, List.nodup_append] at nd3
    by_cases c : spot ss g.2 < j
    · have h1 : g.1 ∉ ((l.foldl putR (putR ss g)).drop j).flatten := fun hm => nd3.2.2 _ (mem_take_flat ht hgt c) _ hm rfl
      rw [List.filter_cons_of_pos (by simpa using h1), List.foldl_cons, (putR_take g ss j).1 c]
      exact ih
    · have h1 : g.1 ∈ ((l.foldl putR (putR ss g)).drop j).flatten := mem_drop_flat ht hgt (by omega)
      rw [List.filter_cons_of_neg (by simpa using h1), ← (putR_take g ss j).2 c]
      exact ih
theorem dnP_filter (p : Int × Int → Bool) (gs : Gs) : dnP (gs.filter p) = (dnP gs).filter p := (dnP_uniq ((dnP_perm gs).filter p) ((dnP_pw gs).sublist List.filter_sublist)).symm
theorem byAge_keep {gs : Gs} (nd : (gs.map (·.1)).Nodup) (j : Nat) : byAge (gs.filter fun g => decide (g.1 ∉ ((byAge gs).drop j).flatten)) = (byAge gs).take j := by
  have := fold_keep j (dnP gs) [] ((byAge_flat gs).nodup_iff.mpr nd)
  rw [List.take_nil] at this
  unfold byAge
  rw [dnP_filter]
  exact this
/-! peace -/
structure Peace (b : Int → Int) (r : List Int) : Prop where
  dn : r.Pairwise (· > ·)
  ok : ∀ (k : Nat) (a : Int), r[k]? = some a → (k : Int) ≤ b a
theorem putR_mem (g : Int × Int) : ∀ (ss : List (List Int)) (x : List Int), x ∈ putR ss g → x ∈ ss ∨ ∃ r, (r ∈ ss ∨ r = []) ∧ x = r ++ [g.1] ∧ ((r.length : Int) ≤ g.2 ∨ r = [])
  | [], x, h => by
    rw [putR_nil] at h
    exact .inr ⟨[], .inr rfl, List.mem_singleton.mp h, .inr rfl⟩
  | r :: ss, x, h => by
    rw [putR_cons] at h
    split at h
    · rename_i c
      rcases List.mem_cons.mp h with rfl | h
      · exact .inr ⟨r, .inl (List.mem_cons_self ..), rfl, .inl (by simpa [fit] using c)⟩
      · exact .inl (List.mem_cons_of_mem _ h)
    · rcases List.mem_cons.mp h with rfl | h
      · exact .inl (List.mem_cons_self ..)
      · rcases putR_mem g ss x h with h | ⟨y, h1, h2⟩
        · exact .inl (List.mem_cons_of_mem _ h)
        · exact .inr ⟨y, h1.imp (List.mem_cons_of_mem _) id, h2⟩
theorem fold_peace (b : Int → Int) : ∀ (l : Gs) (ss : List (List Int)), l.Pairwise (fun x y => y.1 < x.1) → (∀ g ∈ l, b g.1 = g.2 ∧ 0 ≤ g.2) → (∀ r ∈ ss, Peace b r) → (∀ r ∈ ss, ∀ a ∈ r, ∀ g ∈ l, g.1 < a) → ∀ r ∈ l.foldl putR ss, Peace b r
  | [], _, _, _, h, _ => h
  | g :: l, ss, hp, hb, h, ha => by
    obtain ⟨hp1, hp2⟩ := List.pairwise_cons.mp hp
    obtain ⟨b1, b2⟩ := hb g (List.mem_cons_self ..)
    refine fold_peace b l (putR ss g) hp2 (fun x hx => hb x (List.mem_cons_of_mem _ hx)) (fun r hr => ?_) (fun r hr a har x hx => ?_)
    · rcases putR_mem g ss r hr with hr | ⟨y, h1, rfl, h3⟩
      · exact h r hr
      · have py : Peace b y := h1.elim (h y) fun e => by
          subst e
          exact ⟨List.Pairwise.nil, fun k a h => by simp at h⟩
        refine ⟨?_, fun k a hk => ?_⟩
        · rw [List.pairwise_append]
          refine ⟨py.dn, List.pairwise_singleton _ _, fun a hay c hc => ?_⟩
          rw [List.mem_singleton.mp hc]
          rcases h1 with h1 | rfl
          · exact ha y h1 a hay g (List.mem_cons_self ..)
          · cases hay
        · rcases Nat.lt_or_ge k y.length with c | c
          · rw [List.getElem?_append_left c] at hk
            exact py.ok k a hk
          · rw [List.getElem?_append_right c] at hk
            have e : k - y.length = 0 := by
              have := (List.getElem?_eq_some_iff.mp hk).1
              simpa using this
            rw [e] at hk
            have e2 : g.1 = a := Option.some.inj hk
            rw [← e2, b1]
            rcases h3 with h3 | rfl
            · omega
            · simp only [List.length_nil] at c e
              omega
    · rcases putR_mem g ss r hr with hr | ⟨y, h1, rfl, h3⟩
      · exact ha r hr a har x (List.mem_cons_of_mem _ hx)
      · rcases List.mem_append.mp har with har | har
        · rcases h1 with h1 | rfl
          · exact ha y h1 a har x (List.mem_cons_of_mem _ hx)
          · cases har
        · rw [List.mem_singleton.mp har]
          exact hp1 x hx
theorem bears_at : ∀ {gs : Gs} (_ : (gs.map (·.1)).Nodup) (g : Int × Int), g ∈ gs → bearsOf gs g.1 = g.2
  | [], _, _, h => by cases h
  | (a, b) :: gs, nd, g, h => by
    rw [List.map_cons, List.nodup_cons] at nd
    unfold bearsOf
    rcases List.mem_cons.mp h with rfl | h2
    · simp [List.lookup]
    · have e : (g.1 == a) = false := by
        simp only [beq_eq_false_iff_ne, ne_eq]
        intro z
        exact nd.1 (List.mem_map.mpr ⟨g, h2, z⟩)
      simp only [List.lookup, e]
      exact bears_at nd.2 g h2
theorem dnP_strict {gs : Gs} (nd : (gs.map (·.1)).Nodup) : (dnP gs).Pairwise fun x y => y.1 < x.1 := by
  have h1 := dnP_pw gs
  have h2 : ((dnP gs).map (·.1)).Nodup := ((dnP_perm gs).map _).nodup_iff.mpr nd
  have h2 : (dnP gs).Pairwise fun x y => x.1 ≠ y.1 := List.pairwise_map.mp h2
  refine (h1.and h2).imp fun {x y} h => ?_
  have h3 := h.1
  simp only [leP, decide_eq_true_eq] at h3
  have := h.2
  omega
theorem byAge_peace {gs : Gs} (h : Good gs) : ∀ r ∈ byAge gs, Peace (bearsOf gs) r :=
  fold_peace (bearsOf gs) (dnP gs) [] (dnP_strict h.nd) (fun g hg => by
    have hg := (dnP_perm gs).mem_iff.mp hg
    exact ⟨bears_at h.nd g hg, h.pos g hg⟩) (by simp) (by simp)
theorem up1_none {b : Int → Int} : ∀ {l : List Int} {n : Nat}, (∀ (k : Nat) (a : Int), l[k]? = some a → ((n + k : Nat) : Int) ≤ b a) → up1 b l n = none
  | [], _, _ => rfl
  | a :: l, n, h => by
    unfold up1
    have h0 := h 0 a rfl
    rw [if_neg (by simp at h0; omega)]
    exact up1_none fun k c hk => by
      have := h (k + 1) c (by simpa using hk)
      rw [show n + 1 + k = n + (k + 1) by omega]
      exact this
theorem upset_none {gs : Gs} : ∀ {arr : List (List Int)} {n : Nat}, (∀ r ∈ arr, up1 (bearsOf gs) (dnI r) 0 = none) → upset gs arr n = none
  | [], _, _ => rfl
  | r :: arr, n, h => by
    unfold upset
    rw [h r (List.mem_cons_self ..)]
    exact upset_none fun x hx => h x (List.mem_cons_of_mem _ hx)
theorem Peace.up {b : Int → Int} {r : List Int} (h : Peace b r) : up1 b (dnI r) 0 = none := by
  have e : dnI r = r := (dnI_uniq (.refl _) (h.dn.imp fun h => Int.le_of_lt h)).symm
  rw [e]
  exact up1_none fun k a hk => by
    rw [Nat.zero_add]
    exact h.ok k a hk
theorem byAge_upset {gs : Gs} (h : Good gs) : upset gs (byAge gs) 0 = none := upset_none fun r hr => (byAge_peace h r hr).up
theorem byAge_arr {gs : Gs} (h : Good gs) : Arr gs (byAge gs) := ⟨byAge_flat gs, Nat.le_trans (byAge_len gs) h.len⟩
end El

namespace El
open PySem L2 EB
section
variable {P : Program} {w : World} {K : PySem.W.Frag} {mg : Str → Option Value} {base : Heap}
abbrev s_sent_away : Stmt := topS 14
theorem sc_sent_away : FnScope ["guests", "j", "found", "room", "age"] ["guests", "j"] (defScope s_sent_away) := ⟨rfl, rfl, rfl, by decide +kernel, rfl, by decide +kernel, by decide +kernel⟩
def sentAway (gs : Gs) (j : Int) : List Int := dnI ((byAge gs).drop j.toNat).flatten
def spSentAway : Sp := fun vs H Q _ => ∃ (v : V) (gs : Gs) (j : Int) (G : Hp) (L : List Res), vs = [v, .int j] ∧ Sep G H L ∧ Rep G v gs ∧ Good gs ∧ 0 ≤ j ∧ gs.length ≤ 900 ∧ ∀ p G' H', Same G G' → Sep G' H' (OwnL p (sentAway gs j) :: L) → Q (.ref p) H'
theorem flat_len : ∀ (ss : List (List Int)) (n m : Nat), ss.length ≤ n → (∀ r ∈ ss, r.length ≤ m) → ss.flatten.length ≤ n * m
  | [], _, _, _, _ => Nat.zero_le _
  | r :: ss, n, m, h, h2 => by
    have h3 := flat_len ss (n - 1) m (by simp at h; omega) fun x hx => h2 x (List.mem_cons_of_mem _ hx)
    have h4 := h2 r (List.mem_cons_self ..)
    rw [List.flatten_cons, List.length_append]
    have e : n = (n - 1) + 1 := by simp at h; omega
    rw [e, Nat.add_mul, Nat.one_mul]
    omega
theorem ok_sent_away {f : Addr} {fd : FuncData} (F : Fun K "sent_away" "sent_away" s_sent_away f fd) (B : Bn mg) (Crooms : Cal P w K mg base 3 "rooms" spRooms) (Cneed_number : Cal P w K mg base 1 "need_number" spNeedNumber) : FnOk P w K mg base CX0 4 f fd ["guests", "j"] spSentAway := by
  have sc := sc_sent_away
  refine F.ok sc (fun vs H Q E h => ?_) (fun cdv A outer s H vs Q E hr h => ?_)
  · obtain ⟨v, gs, j, G, L, rfl, _⟩ := h
    rfl
  · obtain ⟨v, gs, j, G, L, rfl, st, hv, hg, hj, hl, k⟩ := h
    have hu := hu_of hr
    refine ⟨_, (pss_cons (ps_set (i := 2) sc.nd rfl (.inl rfl) (pe_c Crooms hr (by decide) rfl (pa_cons (pv 0) pa_nil)))
  (pss_cons (ps_expr (pe_c Cneed_number hr (by decide) rfl (pa_cons (pv 1) pa_nil)))
  (pss_one (ps_ret (pe_callBK cSortedRev (by rfl) B.sorted bt_sorted (pa_cons (pe_lc2 (own := [("room", 3), ("age", 4)]) (vs1 := [4]) (g := (gName 3)) (tt := tYes) (wi1 := (iList K (tVar 3))) (g1 := (gName 4)) (tt1 := tYes) (te := (tVar 4)) rfl sc.nd (pi_list (pe_slice slA (pv 2) (po_some (pv 1)) po_none)) (blkOk_by (own := [("room", 3), ("age", 4)]) (N := ["guests", "j", "found", "room", "age"]) (sc := defScope s_sent_away) (by decide +kernel)) (by decide) (fun _ _ _ _ _ => (pg_name (i := 3) sc.nd rfl (by first | exact .inl rfl | exact .inr rfl))) (fun _ _ _ _ _ => pts_nil) (fun _ _ _ _ _ => (pi_list (pv 3))) (fun _ _ _ _ _ => (pg_name (i := 4) sc.nd rfl (by first | exact .inl rfl | exact .inr rfl))) (fun _ _ _ _ _ => pts_nil) (fun _ _ _ _ _ => (pv 4))) pa_nil) (pk_cons pe_bl pk_nil)))))), ?_⟩
    try dsimp only [cxOf, Cx.nox, Cx.wish]
    walk_at "g"
    refine ⟨v, gs, G, L, rfl, st, hv, hg, fun p G1 H1 u1 st => ?_⟩
    obtain ⟨G2, u2, st, r2⟩ := Rooms.frz st
    walk_at "g"
    refine ⟨j, rfl, hj, fun H2 e2 => ?_⟩
    have st := st.keep e2
    walk_at "g"
    refine g_slL st r2 fun p3 H3 st => ?_
    obtain ⟨G3, u3, st, r3⟩ := st.ownFrz
    rw [cut_from hj] at r3
    have hdl : ((byAge gs).drop j.toNat).length ≤ 900 := by
      rw [List.length_drop]
      have := byAge_len gs
      omega
    have hdr : ∀ r ∈ (byAge gs).drop j.toNat, r.length ≤ 900 := fun r hr => by
      have := byAge_room gs r (List.mem_of_mem_drop hr)
      omega
    generalize hss : (byAge gs).drop j.toNat = ss at r3 hdl hdr
    have hfl : ∀ i, (ss.take i).flatten.length ≤ 900 * 900 := fun i => flat_len _ _ _ (by rw [List.length_take]; omega) fun r hr => hdr r (List.mem_of_mem_take hr)
    refine lc2L (B := Int) r3 st (fun i acc Lc => acc = (ss.take i).flatten ∧ Lc = L) ⟨rfl, rfl⟩ ?_ ?_
    · rintro i v4 room D acc G4 H4 Lc hi rroom ⟨rfl, rfl⟩ u4 st
      walk_at "g"
      have hrl := hdr room (List.mem_of_getElem? hi)
      refine inL (ys := room) rroom (fun t acc Lc' => acc = (ss.take i).flatten ++ room.take t ∧ Lc' = Lc) st.gh ⟨_, G4, Lc, ⟨by rw [List.take_zero, List.append_nil], rfl⟩, Same.refl _, st⟩ ?_ ?_
      · rintro t v5 age acc G5 H5 Lc ht rage ⟨rfl, rfl⟩ u5 st
        walk_at "g"
        refine put_of u5 st (by rw [List.length_append, List.length_take]; have := hfl i; omega) rage ⟨?_, rfl⟩
        rw [take_more ht, List.append_assoc]
      · intro H5 hn
        rw [List.take_length] at hn
        refine Nxt.up u4 ?_
        rw [take_more hi, List.flatten_append]
        simpa using hn
    rintro D acc G4 H4 Lc ⟨rfl, rfl⟩ u4 st
    rw [List.take_length] at st
    obtain ⟨G5, u5, st, r5⟩ := st.ownFrz
    walk_at "g"
    refine g_srtIR st r5 fun p6 H6 st => ?_
    have e : dnI ss.flatten = sentAway gs j := by
      unfold sentAway
      rw [hss]
    rw [e] at st
    exact k p6 G5 H6 (((u1.trans u2).trans u3).trans (u4.trans u5)) st
end
end El

namespace El
open PySem L2 EB
theorem good_filter {gs : Gs} (h : Good gs) (p : Int × Int → Bool) : Good (gs.filter p) :=
  ⟨fun g hg => h.pos g (List.mem_filter.mp hg).1, h.nd.sublist (List.filter_sublist.map _), Nat.le_trans (List.length_filter_le _ _) h.len⟩
def leftOf (gs : Gs) (far : Int) : Gs := gs.filter fun g => decide (g.1 ∉ sentAway gs far)
theorem leftOf_byAge {gs : Gs} (h : Good gs) (far : Int) : byAge (leftOf gs far) = (byAge gs).take far.toNat := by
  rw [← byAge_keep h.nd]
  unfold leftOf sentAway
  congr 1
  apply List.filter_congr
  intro g _
  have := (dnI_perm ((byAge gs).drop far.toNat).flatten).mem_iff (a := g.1)
  simp only [this]
section
variable {P : Program} {w : World} {K : PySem.W.Frag} {mg : Str → Option Value} {base : Heap}
abbrev s_law : Stmt := topS 20
theorem sc_law : FnScope ["script", "bag", "turn", "folk", "due", "times", "far", "behind", "room", "handed", "told", "left", "guest"] ["script"] (defScope s_law) := ⟨rfl, rfl, rfl, by decide +kernel, rfl, by decide +kernel, by decide +kernel⟩
def spLaw (K : PySem.W.Frag) : Sp := fun vs H Q _ => ∃ (a : Addr) (ns : List Int), vs = [.ref a] ∧ SqL K H a (ns.map V.int) ∧ ns.length ≤ 63 ∧ ∀ H', Q (.bl true) H'
theorem ok_law {f : Addr} {fd : FuncData} (F : Fun K "law" "law" s_law f fd) (B : Bn mg) (C_law_bag : Cal P w K mg base 1 "_law_bag" (spBag K)) (C_law_draw : Cal P w K mg base 1 "_law_draw" spDraw) (C_law_guests : Cal P w K mg base 2 "_law_guests" spGuests)
    (C_law_by_age : Cal P w K mg base 1 "_law_by_age" spSettled) (Csent_away : Cal P w K mg base 4 "sent_away" spSentAway) (Ksent_away_j_guests : CalKw P w K mg base 4 "sent_away" ["j", "guests"] (kwp [1, 0]) spSentAway) (Crooms : Cal P w K mg base 3 "rooms" spRooms) (Cupset : Cal P w K mg base 3 "upset" spUpset) :
    FnOk P w K mg base CX0 5 f fd ["script"] (spLaw K) := by
  have sc := sc_law
  refine F.ok sc (fun vs H Q E h => ?_) (fun cdv A outer s H vs Q E hr h => ?_)
  · obtain ⟨v, ns, rfl, _⟩ := h
    rfl
  · obtain ⟨a, ns, rfl, hS, hlen, k⟩ := h
    have hu := hu_of hr
    refine ⟨_, (pss_cons (ps_set (i := 1) sc.nd rfl (.inl rfl) (pe_c C_law_bag hr (by decide) rfl (pa_cons (pv 0) pa_nil)))
  (pss_cons (ps_for PassesOwn.never rfl (pi_range1 (by rfl) B.range (pa_cons (pe_op opAdd pe_int (pe_callB (cMin2 rfl) (by rfl) B.min bt_min (pa_cons pe_int (pa_cons (pe_callB cLen (by rfl) B.len bt_len (pa_cons (pv 0) pa_nil)) pa_nil)))) pa_nil)) (pg_name (i := 2) sc.nd rfl (.inl rfl))
  (pss_cons (ps_set (i := 3) sc.nd rfl (.inl rfl) (pe_c C_law_guests hr (by decide) rfl (pa_cons (pv 1) (pa_cons (pe_ix ix_seq (pe_tup (pa_cons pe_int (pa_cons pe_int (pa_cons pe_int (pa_cons pe_int pa_nil))))) (pe_c C_law_draw hr (by decide) rfl (pa_cons (pv 1) (pa_cons pe_int pa_nil))) (fun _ _ => rfl)) pa_nil))))
  (pss_cons (ps_set (i := 4) sc.nd rfl (.inl rfl) (pe_c C_law_by_age hr (by decide) rfl (pa_cons (pv 3) pa_nil)))
  (pss_one (ps_for PassesOwn.never rfl (pi_range1 (by rfl) B.range (pa_cons pe_int pa_nil)) (pg_name (i := 5) sc.nd rfl (.inl rfl))
  (pss_cons (ps_set (i := 6) sc.nd rfl (.inl rfl) (pe_ix ix_seq (pe_tup (pa_cons (pe_c C_law_draw hr (by decide) rfl (pa_cons (pv 1) (pa_cons (pe_op opAdd (pe_callB cLen (by rfl) B.len bt_len (pa_cons (pv 4) pa_nil)) pe_int) pa_nil))) (pa_cons (kPow (n := 1000000000000000000000000000000000000000) (by rfl) (by decide) (by decide) pe_int pe_int) pa_nil))) (pe_op opDiv (pe_c C_law_draw hr (by decide) rfl (pa_cons (pv 1) (pa_cons pe_int pa_nil))) pe_int) (fun _ _ => rfl)))
  (pss_cons (ps_set (i := 7) sc.nd rfl (.inl rfl) (pe_lst pa_nil))
  (pss_cons (ps_for PassesOwn.never rfl (pi_list (pe_slice slA (pv 4) (po_some (pv 6)) po_none)) (pg_name (i := 8) sc.nd rfl (.inl rfl))
  (pss_one (ps_expr (pe_bm PySem.F.plainAttrs_list PySem.F.slot_list_extend PySem.F.type_list_extend mt_extend (pv 7) (pa_cons (pv 8) pa_nil)))))
  (pss_cons (ps_set (i := 7) sc.nd rfl (.inl rfl) (pe_callBK cSortedRev (by rfl) B.sorted bt_sorted (pa_cons (pv 7) pa_nil) (pk_cons pe_bl pk_nil)))
  (pss_cons (ps_set (i := 9) sc.nd rfl (.inl rfl) (pe_callTy cList (by rfl) B.list bt_list (pa_cons (pv 3) pa_nil)))
  (pss_cons (ps_set (i := 10) sc.nd rfl (.inr rfl) (pe_c Csent_away hr (by decide) rfl (pa_cons (pv 9) (pa_cons (pv 6) pa_nil))))
  (pss_cons (ps_if (PW.pt (pw_or (pt_not (pt_val (pe_callB cIsi (by rfl) B.isinstance bt_isinstance (pa_cons (pv 10) (pa_cons (pe_bltn (v := .ty "list") (by rfl) B.list bt_list rfl) pa_nil))))) (pw_or (pt_cmpR (opNe (units64 hr)) (pv 10) (pv 7) (nomark _)) (pw_or1 (pt_cmpR (opNe (units64 hr)) (pv 9) (pv 3) (nomark _)))))) (pss_one (ps_ret pe_bl)) pss_nil)
  (pss_cons (ps_setLc (i := 11) (own := [("guest", 12)]) (g := (gName 12)) (tt := (tTest (tOp (rNiA K) (tOp (rIx K) (tVar 12) (tC (V.int 0))) (tVar 10)))) (te := (tVar 12)) rfl sc.nd rfl rfl (sw_true rfl rfl rfl (by decide +kernel)) (pi_list (pv 3)) (blkOk_by (own := [("guest", 12)]) (N := ["script", "bag", "turn", "folk", "due", "times", "far", "behind", "room", "handed", "told", "left", "guest"]) (sc := defScope s_law) (by decide +kernel)) (fun _ _ _ _ _ => (pg_name (i := 12) sc.nd rfl (by first | exact .inl rfl | exact .inr rfl))) (fun _ _ _ _ _ => (pts_one (pt_cmpR (opNi (units65 hr)) (pe_ix ix_seq (pv 12) pe_int (fun _ _ => rfl)) (pv 10) (by rfl)))) (fun _ _ _ _ _ => (pv 12)))
  (pss_cons (ps_if (PW.pt (pw_or (pt_cmpR op_gt (pe_callB cLen (by rfl) B.len bt_len (pa_cons (pe_c Crooms hr (by decide) rfl (pa_cons (pv 11) pa_nil)) pa_nil)) (pv 6) (nomark _)) (pw_or1 (pt_cmpR op_notN1 (pe_c Cupset hr (by decide) rfl (pa_cons (pv 11) (pa_cons (pe_slice slA (pv 4) po_none (po_some (pv 6))) pa_nil))) pe_non (nomark _))))) (pss_one (ps_ret pe_bl)) pss_nil)
  (pss_cons (ps_expr (pe_bm PySem.F.plainAttrs_list PySem.F.slot_list_append PySem.F.type_list_append mt_append (pv 10) (pa_cons pe_non pa_nil)))
  (pss_one (ps_if (pt_cmpR (opNe (units64 hr)) (pe_kw0 Ksent_away_j_guests hr (by decide) rfl pa_nil (pk_cons (pv 6) (pk_cons (pv 9) pk_nil))) (pv 7) (nomark _)) (pss_one (ps_ret pe_bl)) pss_nil)))))))))))))))))
  (pss_one (ps_ret pe_bl)))), ?_⟩
    try dsimp only [cxOf, Cx.nox, Cx.wish]
    walk_at "g"
    refine ⟨a, ns, H, [], rfl, hS, hlen, Sep.all H, fun H1 p st => ?_⟩
    walk_at "g"
    refine g_lenI (st.gh.seq hS) ?_
    walk_at "g"
    refine loopR1 (by omega) (by omega) (fun i σ H' => ∃ x2 x3 x4 x5 x6 x7 x8 x9 x10 x11 x12 G', σ = [some (.ref a), some (.ref p), x2, x3, x4, x5, x6, x7, x8, x9, x10, x11, x12] ∧ Sep G' H' [BagR p (2000 * i)]) ⟨_, _, _, _, _, _, _, _, _, _, _, H, rfl, st⟩ ?_ (fun σ H' _ => ?_)
    · rintro i σ H' hi ⟨x2, x3, x4, x5, x6, x7, x8, x9, x10, x11, x12, G, rfl, st⟩
      walk_at "g"
      refine ⟨by show 4 ≤ sizeLine; decide, fun q hq => ?_⟩
      obtain ⟨G1, u1, st, hq'⟩ := st.raw hq
      walk_at "g"
      refine draw_use st (by decide) (by decide) (by omega) fun d1 H2 a1 b1 st => ?_
      refine g_ixTI (ns := [12, 12, 12, 60]) hq' rfl (by walk_at "sm") a1 b1 fun most hm _ => ?_
      have hm0 : 0 ≤ most ∧ most ≤ 60 := by
        simp only [List.mem_cons, List.not_mem_nil, or_false] at hm
        omega
      walk_at "g"
      refine ⟨p, most, _, _, _, rfl, st, by omega, by omega, by omega, fun v gs G3 H3 u3 st r hgs hgl => ?_⟩
      have hg : Good gs := ⟨hgs.pos, hgs.nd, by omega⟩
      have hbl := byAge_len gs
      walk_at "g"
      -- due
      refine ⟨v, gs, G3, _, rfl, st, r, by omega, fun p4 G4 H4 u4 st => ?_⟩
      obtain ⟨G5, u5, st, rd⟩ := Rooms.frz st
      have r := r.up (u4.trans u5)
      walk_at "g"
      refine loopR1 (by omega) (by omega) (fun j σ H' => ∃ x5 x6 x7 x8 x9 x10 x11 x12 G', σ = [some (.ref a), some (.ref p), some (.int i), some v, some (.ref p4), x5, x6, x7, x8, x9, x10, x11, x12] ∧ Same G5 G' ∧ Sep G' H' [BagR p (2000 * i + 1001 + 10 * j)])
        ⟨_, _, _, _, _, _, _, _, G5, rfl, Same.refl _, BagR.le st (by omega)⟩ ?_ ?_
      · rintro j σ H6 hj ⟨x5, x6, x7, x8, x9, x10, x11, x12, G6, rfl, u6, st⟩
        have rd := rd.up u6
        have r := r.up u6
        walk_at "g"
        -- far
        refine g_lenL rd st.gh ?_
        walk_at "g"
        refine draw_use st (by omega) (by omega) (by omega) fun d7 H7 a7 b7 st => ?_
        walk_at "g"
        refine ⟨by show 2 ≤ sizeLine; decide, fun q2 hq2 => ?_⟩
        obtain ⟨G7, u7, st, hq3⟩ := st.raw hq2
        walk_at "g"
        refine draw_use st (by omega) (by omega) (by omega) fun d8 H8 a8 b8 st => ?_
        walk_at "g"
        refine g_ixTI (ns := [d7, 1000000000000000000000000000000000000000]) hq3 rfl (by walk_at "sm") (by omega) (by show d8 / 7 < 2; omega) fun far hfar _ => ?_
        have hf0 : 0 ≤ far := by
          simp only [List.mem_cons, List.not_mem_nil, or_false] at hfar
          omega
        have rd := rd.up u7
        have r := r.up u7
        walk_at "g"
        -- behind
        refine ⟨Nat.zero_le _, fun fo hfo => ?_⟩
        have st := st.ownNew (vs := []) (xs := ([] : List Int)) hfo trivial
        walk_at "g"
        refine g_slL st.sw rd fun p9 H9 st => ?_
        obtain ⟨G9, u9, st, r9⟩ := st.ownFrz
        rw [cut_from hf0] at r9
        have hdl : ((byAge gs).drop far.toNat).length ≤ 60 := by
          rw [List.length_drop]
          omega
        have hdr : ∀ r ∈ (byAge gs).drop far.toNat, r.length ≤ 60 := fun r hr => by
          have := byAge_room gs r (List.mem_of_mem_drop hr)
          omega
        have hfl : ∀ t, (((byAge gs).drop far.toNat).take t).flatten.length ≤ 60 * 60 := fun t => flat_len _ _ _ (by rw [List.length_take]; omega) fun r hr => hdr r (List.mem_of_mem_take hr)
        refine loopL r9 st.gh (fun t σ H' => ∃ x7, σ = [some (.ref a), some (.ref p), some (.int i), some v, some (.ref p4), some (.int j), some (.int far), some (.ref fo), x7, x9, x10, x11, x12] ∧ Sep G9 H' [BagR p (2000 * i + 1001 + 10 * j + 1 + 1), OwnL fo (((byAge gs).drop far.toNat).take t).flatten])
          ⟨_, rfl, st⟩ (fun t σ H' _ ⟨_, _, st⟩ => st.gh) ?_ ?_
        · rintro t v10 room σ H10 ht rr ⟨x7, rfl, st⟩
          walk_at "g"
          refine g_tyO st.sw ?_
          walk_at "g"
          refine g_extend st.sw rr (by have := hfl t; have := hdr room (List.mem_of_getElem? ht); omega) fun H11 st => ?_
          refine ⟨_, rfl, ?_⟩
          rw [take_more ht, List.flatten_append]
          simpa using st.sw
        rintro σ H10 ⟨x7, rfl, st⟩
        rw [List.take_length] at st
        walk_at "g"
        refine g_srtFR st st.sw.ownRep fun p11 H11 st => ?_
        obtain ⟨G11, u11, st, rb⟩ := st.ownFrz
        have st := st.sw.drop
        have r := r.up (u9.trans u11)
        have rd := rd.up (u9.trans u11)
        walk_at "g"
        -- handed
        refine g_list st r fun p12 H12 st => ?_
        obtain ⟨G12, u12, st, rh⟩ := st.ownFrz
        walk_at "g"
        refine ⟨_, gs, far, G12, _, rfl, st, rh, hg, hf0, by omega, fun pt G13 H13 u13 st => ?_⟩
        have r := r.up (u12.trans u13)
        have rd := rd.up (u12.trans u13)
        have rb := rb.up (u12.trans u13)
        have rh := rh.up u13
        walk_at "g"
        refine g_isTy st.ownRep (Same.refl _) kb14 ?_
        walk_at "g"
        refine g_neT (x := sentAway gs far) (y := dnI ((byAge gs).drop far.toNat).flatten) st.ownRep rb (Same.refl _) st.gh ?_
        walk_at "g"
        refine g_ite (fun c => absurd rfl c) (fun _ => ?_)
        walk_at "g"
        refine g_neT rh r st.gh st.gh ?_
        walk_at "g"
        refine g_ite (fun c => absurd rfl c) (fun _ => ?_)
        walk_at "g"
        -- left
        refine lcL (B := Int × Int) r st (fun t acc Lc => acc = (gs.take t).filter (fun g => decide (g.1 ∉ sentAway gs far)) ∧ Lc = [OwnL pt (sentAway gs far), BagR p (2000 * i + 1001 + 10 * j + 1 + 1)]) ⟨rfl, rfl⟩ ?_ ?_
        · rintro t v14 x D acc G' H' Lc hx rx ⟨rfl, rfl⟩ u st
          walk_at "g"
          refine g_ixP0 rx st.gh fun w15 r15 => ?_
          obtain rfl := r15.int
          walk_at "g"
          refine g_niI st.sw.ownRep (Same.refl _) ?_
          walk_at "g"
          refine g_ite (fun c => ?_) (fun c => ?_)
          · walk_at "g"
            refine put_of u st (by have := List.length_filter_le (fun g : Int × Int => decide (g.1 ∉ sentAway gs far)) (gs.take t); rw [List.length_take] at this; omega) rx ⟨?_, rfl⟩
            rw [take_more hx, List.filter_append]
            simp [c]
          · refine skip_of u st ⟨?_, rfl⟩
            rw [take_more hx, List.filter_append]
            simp [c]
        rintro D acc G14 H14 Lc ⟨rfl, rfl⟩ u14 st
        rw [List.take_length] at st
        obtain ⟨G15, u15, st, rl⟩ := st.ownFrz
        have rl : Rep G15 (.ref D) (leftOf gs far) := rl
        have rd := rd.up (u14.trans u15)
        have rb := rb.up (u14.trans u15)
        have rh := rh.up (u14.trans u15)
        have hgl2 := good_filter hg (fun g => decide (g.1 ∉ sentAway gs far))
        have hgl2 : Good (leftOf gs far) := hgl2
        walk_at "g"
        refine ⟨_, leftOf gs far, G15, _, rfl, st, rl, hgl2, fun p16 G16 H16 u16 st => ?_⟩
        walk_at "g"
        refine g_lenRooms st ?_
        have st := st.drop
        have hlen2 : (byAge (leftOf gs far)).length ≤ far.toNat := by
          rw [leftOf_byAge hg, List.length_take]
          omega
        walk_at "g"
        refine g_ite (fun c => absurd c (by omega)) (fun _ => ?_)
        walk_at "g"
        refine g_slL st (rd.up u16) fun p17 H17 st => ?_
        obtain ⟨G17, u17, st, r17⟩ := st.ownFrz
        rw [cut_to hf0, ← leftOf_byAge hg] at r17
        walk_at "g"
        refine ⟨_, _, leftOf gs far, byAge (leftOf gs far), rfl, rl.up ((u16.trans u17).trans st.gh), hgl2, r17.up st.gh, byAge_arr hgl2, fun x18 G18 H18 e18 e18' r18 => ?_⟩
        rw [byAge_upset hgl2] at r18
        obtain rfl : x18 = .non := r18
        have st := st.keep (e18.trans e18')
        walk_at "g"
        refine g_iteN (fun c => absurd rfl c) (fun _ => ?_)
        walk_at "g"
        -- told.append(None)
        obtain ⟨vst, rst, st⟩ := st.ownO
        refine g_tyC st.cellAt ?_
        walk_at "g"
        have hsl : (sentAway gs far).length ≤ 60 * 60 := by
          unfold sentAway
          rw [(dnI_perm _).length_eq]
          exact flat_len _ _ _ hdl hdr
        refine g_appC st (by rw [rst.len]; omega) fun H19 st => ?_
        have st := st.drop
        walk_at "g"
        refine ⟨_, gs, far, G17, _, rfl, st, rh.up (u16.trans u17), hg, hf0, by omega, fun p20 G20 H20 u20 st => ?_⟩
        walk_at "g"
        refine g_neT (x := sentAway gs far) (y := dnI ((byAge gs).drop far.toNat).flatten) st.ownRep (rb.up ((u16.trans u17).trans u20)) (Same.refl _) st.gh ?_
        walk_at "g"
        refine g_ite (fun c => absurd rfl c) (fun _ => ?_)
        walk_at "g"
        exact ⟨_, _, _, _, _, _, _, _, G20, rfl, (u6.trans u7).trans ((u9.trans u11).trans ((u12.trans u13).trans ((u14.trans u15).trans ((u16.trans u17).trans u20)))), BagR.le st.drop (by omega)⟩
      · rintro σ H6 ⟨x5, x6, x7, x8, x9, x10, x11, x12, G6, rfl, u6, st⟩
        exact ⟨_, _, _, _, _, _, _, _, _, _, _, G6, rfl, BagR.le st (by omega)⟩
    · walk_at "g"
      exact k _
end
end El

namespace El
open PySem L2 EB PyProof.Rows
theorem all_mk {l : PySem.W.OpenLaw} {w : World} {K : PySem.W.Frag} {h : Heap} {mg : Str → Option Value} {fa f1 f2 f3 f4 f5 f6 f7 f8 f9 f10 f11 f12 f13 : Addr} (X : K.In h) (G : h.Ns mainGlobals mg) (hfa : mg "law" = some (.ref fa))
    {od1 od2 od3 od4 od5 od6 od7 od8 od9 od10 od11 od12 od13 an1 an2 an3 an4 an5 an6 an7 an8 an9 an10 an11 an12 an13 : Option Addr} {sl1 sl2 sl3 sl4 sl5 sl6 sl7 sl8 sl9 sl10 sl11 sl12 sl13 : Array (Option Value)} {oc1 oc2 oc3 oc4 oc5 oc6 oc7 oc8 oc9 oc10 oc11 oc12 oc13 kV1 kV2 kV3 kV4 kV5 kV6 kV7 kV8 kV9 kV10 kV11 kV12 kV13 dc1 dc2 dc3 dc4 dc5 dc6 dc7 dc8 dc9 dc10 dc11 dc12 dc13 pm1 pm2 pm3 pm4 pm5 pm6 pm7 pm8 pm9 pm10 pm11 pm12 pm13 cd1 cd2 cd3 cd4 cd5 cd6 cd7 cd8 cd9 cd10 cd11 cd12 cd13 ct1 ct2 ct3 ct4 ct5 ct6 ct7 ct8 ct9 ct10 ct11 ct12 ct13 : Value}
    (a1 : PySem.W.nsIn K mainGlobals "_law_bag" = some (some (.ref f1))) (l1 : K.lookup f1 = some ⟨oc1, od1, .func (PySem.W.fnOf "_law_bag" "_law_bag" (defArgs s__law_bag) (defBody s__law_bag) (defScope s__law_bag) .none kV1 dc1 pm1 an1 cd1 ct1), sl1⟩) (c1 : PySem.W.codeIn K cd1 "_law_bag" = true) (k1 : PySem.W.keepIn K (.ref f1) = true)
    (a2 : PySem.W.nsIn K mainGlobals "_law_draw" = some (some (.ref f2))) (l2 : K.lookup f2 = some ⟨oc2, od2, .func (PySem.W.fnOf "_law_draw" "_law_draw" (defArgs s__law_draw) (defBody s__law_draw) (defScope s__law_draw) .none kV2 dc2 pm2 an2 cd2 ct2), sl2⟩) (c2 : PySem.W.codeIn K cd2 "_law_draw" = true) (k2 : PySem.W.keepIn K (.ref f2) = true)
    (a3 : PySem.W.nsIn K mainGlobals "need_guests" = some (some (.ref f3))) (l3 : K.lookup f3 = some ⟨oc3, od3, .func (PySem.W.fnOf "need_guests" "need_guests" (defArgs s_need_guests) (defBody s_need_guests) (defScope s_need_guests) .none kV3 dc3 pm3 an3 cd3 ct3), sl3⟩) (c3 : PySem.W.codeIn K cd3 "need_guests" = true) (k3 : PySem.W.keepIn K (.ref f3) = true)
    (a4 : PySem.W.nsIn K mainGlobals "by_age" = some (some (.ref f4))) (l4 : K.lookup f4 = some ⟨oc4, od4, .func (PySem.W.fnOf "by_age" "by_age" (defArgs s_by_age) (defBody s_by_age) (defScope s_by_age) .none kV4 dc4 pm4 an4 cd4 ct4), sl4⟩) (c4 : PySem.W.codeIn K cd4 "by_age" = true) (k4 : PySem.W.keepIn K (.ref f4) = true)
    (a5 : PySem.W.nsIn K mainGlobals "settled" = some (some (.ref f5))) (l5 : K.lookup f5 = some ⟨oc5, od5, .func (PySem.W.fnOf "settled" "settled" (defArgs s_settled) (defBody s_settled) (defScope s_settled) .none kV5 dc5 pm5 an5 cd5 ct5), sl5⟩) (c5 : PySem.W.codeIn K cd5 "settled" = true) (k5 : PySem.W.keepIn K (.ref f5) = true)
    (a6 : PySem.W.nsIn K mainGlobals "rooms" = some (some (.ref f6))) (l6 : K.lookup f6 = some ⟨oc6, od6, .func (PySem.W.fnOf "rooms" "rooms" (defArgs s_rooms) (defBody s_rooms) (defScope s_rooms) .none kV6 dc6 pm6 an6 cd6 ct6), sl6⟩) (c6 : PySem.W.codeIn K cd6 "rooms" = true) (k6 : PySem.W.keepIn K (.ref f6) = true)
    (a7 : PySem.W.nsIn K mainGlobals "_law_guests" = some (some (.ref f7))) (l7 : K.lookup f7 = some ⟨oc7, od7, .func (PySem.W.fnOf "_law_guests" "_law_guests" (defArgs s__law_guests) (defBody s__law_guests) (defScope s__law_guests) .none kV7 dc7 pm7 an7 cd7 ct7), sl7⟩) (c7 : PySem.W.codeIn K cd7 "_law_guests" = true) (k7 : PySem.W.keepIn K (.ref f7) = true)
    (a8 : PySem.W.nsIn K mainGlobals "_law_by_age" = some (some (.ref f8))) (l8 : K.lookup f8 = some ⟨oc8, od8, .func (PySem.W.fnOf "_law_by_age" "_law_by_age" (defArgs s__law_by_age) (defBody s__law_by_age) (defScope s__law_by_age) .none kV8 dc8 pm8 an8 cd8 ct8), sl8⟩) (c8 : PySem.W.codeIn K cd8 "_law_by_age" = true) (k8 : PySem.W.keepIn K (.ref f8) = true)
    (a9 : PySem.W.nsIn K mainGlobals "need_number" = some (some (.ref f9))) (l9 : K.lookup f9 = some ⟨oc9, od9, .func (PySem.W.fnOf "need_number" "need_number" (defArgs s_need_number) (defBody s_need_number) (defScope s_need_number) .none kV9 dc9 pm9 an9 cd9 ct9), sl9⟩) (c9 : PySem.W.codeIn K cd9 "need_number" = true) (k9 : PySem.W.keepIn K (.ref f9) = true)
    (a10 : PySem.W.nsIn K mainGlobals "need_arrangement" = some (some (.ref f10))) (l10 : K.lookup f10 = some ⟨oc10, od10, .func (PySem.W.fnOf "need_arrangement" "need_arrangement" (defArgs s_need_arrangement) (defBody s_need_arrangement) (defScope s_need_arrangement) .none kV10 dc10 pm10 an10 cd10 ct10), sl10⟩) (c10 : PySem.W.codeIn K cd10 "need_arrangement" = true) (k10 : PySem.W.keepIn K (.ref f10) = true)
    (a11 : PySem.W.nsIn K mainGlobals "upset" = some (some (.ref f11))) (l11 : K.lookup f11 = some ⟨oc11, od11, .func (PySem.W.fnOf "upset" "upset" (defArgs s_upset) (defBody s_upset) (defScope s_upset) .none kV11 dc11 pm11 an11 cd11 ct11), sl11⟩) (c11 : PySem.W.codeIn K cd11 "upset" = true) (k11 : PySem.W.keepIn K (.ref f11) = true)
    (a12 : PySem.W.nsIn K mainGlobals "sent_away" = some (some (.ref f12))) (l12 : K.lookup f12 = some ⟨oc12, od12, .func (PySem.W.fnOf "sent_away" "sent_away" (defArgs s_sent_away) (defBody s_sent_away) (defScope s_sent_away) .none kV12 dc12 pm12 an12 cd12 ct12), sl12⟩) (c12 : PySem.W.codeIn K cd12 "sent_away" = true) (k12 : PySem.W.keepIn K (.ref f12) = true)
    (a13 : PySem.W.nsIn K mainGlobals "law" = some (some (.ref f13))) (l13 : K.lookup f13 = some ⟨oc13, od13, .func (PySem.W.fnOf "law" "law" (defArgs s_law) (defBody s_law) (defScope s_law) .none kV13 dc13 pm13 an13 cd13 ct13), sl13⟩) (c13 : PySem.W.codeIn K cd13 "law" = true) (k13 : PySem.W.keepIn K (.ref f13) = true)
    (z1 : PySem.W.nsIn K mainGlobals "len" = some none) (z2 : PySem.W.nsIn K mainGlobals "range" = some none) (z3 : PySem.W.nsIn K mainGlobals "sorted" = some none) (z4 : PySem.W.nsIn K mainGlobals "list" = some none) (z5 : PySem.W.nsIn K mainGlobals "dict" = some none) (z6 : PySem.W.nsIn K mainGlobals "set" = some none) (z7 : PySem.W.nsIn K mainGlobals "sum" = some none) (z8 : PySem.W.nsIn K mainGlobals "max" = some none) (z9 : PySem.W.nsIn K mainGlobals "min" = some none) (z10 : PySem.W.nsIn K mainGlobals "abs" = some none) (z11 : PySem.W.nsIn K mainGlobals "int" = some none) (z12 : PySem.W.nsIn K mainGlobals "str" = some none) (z13 : PySem.W.nsIn K mainGlobals "repr" = some none) (z14 : PySem.W.nsIn K mainGlobals "zip" = some none) (z15 : PySem.W.nsIn K mainGlobals "enumerate" = some none) (z16 : PySem.W.nsIn K mainGlobals "reversed" = some none) (z17 : PySem.W.nsIn K mainGlobals "any" = some none) (z18 : PySem.W.nsIn K mainGlobals "all" = some none) (z19 : PySem.W.nsIn K mainGlobals "isinstance" = some none) (z20 : PySem.W.nsIn K mainGlobals "tuple" = some none) (z21 : PySem.W.nsIn K mainGlobals "bool" = some none) (z22 : PySem.W.nsIn K mainGlobals "ValueError" = some none) :
    ∃ fd : FuncData, (∀ (s : Shared) (v : Value), BindsTo s fd ⟨[v], []⟩ [("script", v)]) ∧ ∀ base : Heap, K.In base → base.Ns mainGlobals mg → FnOk l.prog w K mg base CX0 5 fa fd ["script"] (spLaw K) := by
  have e := hfa.symm.trans (PySem.W.mg_of X G a13)
  cases e
  have B : Bn mg := bn_mk X G fun x hx => by
    simp only [List.mem_cons, List.not_mem_nil, or_false] at hx
    rcases hx with rfl | rfl | rfl | rfl | rfl | rfl | rfl | rfl | rfl | rfl | rfl | rfl | rfl | rfl | rfl | rfl | rfl | rfl | rfl | rfl | rfl | rfl
    · exact z1
    · exact z2
    · exact z3
    · exact z4
    · exact z5
    · exact z6
    · exact z7
    · exact z8
    · exact z9
    · exact z10
    · exact z11
    · exact z12
    · exact z13
    · exact z14
    · exact z15
    · exact z16
    · exact z17
    · exact z18
    · exact z19
    · exact z20
    · exact z21
    · exact z22
  have F1 := fun_mk (st := s__law_bag) l1 c1 k1
  have m1 := PySem.W.mg_of X G a1
  have b1 := F1.binds (ps := ["script"]) fun _ _ _ _ _ _ us hl => match us, hl with | [_], _ => rfl
  have F2 := fun_mk (st := s__law_draw) l2 c2 k2
  have m2 := PySem.W.mg_of X G a2
  have b2 := F2.binds (ps := ["bag", "many"]) fun _ _ _ _ _ _ us hl => match us, hl with | [_, _], _ => rfl
  have F3 := fun_mk (st := s_need_guests) l3 c3 k3
  have m3 := PySem.W.mg_of X G a3
  have b3 := F3.binds (ps := ["guests"]) fun _ _ _ _ _ _ us hl => match us, hl with | [_], _ => rfl
  have F4 := fun_mk (st := s_by_age) l4 c4 k4
  have m4 := PySem.W.mg_of X G a4
  have b4 := F4.binds (ps := ["guests"]) fun _ _ _ _ _ _ us hl => match us, hl with | [_], _ => rfl
  have F5 := fun_mk (st := s_settled) l5 c5 k5
  have m5 := PySem.W.mg_of X G a5
  have b5 := F5.binds (ps := ["guests"]) fun _ _ _ _ _ _ us hl => match us, hl with | [_], _ => rfl
  have F6 := fun_mk (st := s_rooms) l6 c6 k6
  have m6 := PySem.W.mg_of X G a6
  have b6 := F6.binds (ps := ["guests"]) fun _ _ _ _ _ _ us hl => match us, hl with | [_], _ => rfl
  have F7 := fun_mk (st := s__law_guests) l7 c7 k7
  have m7 := PySem.W.mg_of X G a7
  have b7 := F7.binds (ps := ["bag", "most"]) fun _ _ _ _ _ _ us hl => match us, hl with | [_, _], _ => rfl
  have F8 := fun_mk (st := s__law_by_age) l8 c8 k8
  have m8 := PySem.W.mg_of X G a8
  have b8 := F8.binds (ps := ["lodgers"]) fun _ _ _ _ _ _ us hl => match us, hl with | [_], _ => rfl
  have F9 := fun_mk (st := s_need_number) l9 c9 k9
  have m9 := PySem.W.mg_of X G a9
  have b9 := F9.binds (ps := ["j"]) fun _ _ _ _ _ _ us hl => match us, hl with | [_], _ => rfl
  have F10 := fun_mk (st := s_need_arrangement) l10 c10 k10
  have m10 := PySem.W.mg_of X G a10
  have b10 := F10.binds (ps := ["guests", "arrangement"]) fun _ _ _ _ _ _ us hl => match us, hl with | [_, _], _ => rfl
  have F11 := fun_mk (st := s_upset) l11 c11 k11
  have m11 := PySem.W.mg_of X G a11
  have b11 := F11.binds (ps := ["guests", "arrangement"]) fun _ _ _ _ _ _ us hl => match us, hl with | [_, _], _ => rfl
  have F12 := fun_mk (st := s_sent_away) l12 c12 k12
  have m12 := PySem.W.mg_of X G a12
  have b12 := F12.binds (ps := ["guests", "j"]) fun _ _ _ _ _ _ us hl => match us, hl with | [_, _], _ => rfl
  have F13 := fun_mk (st := s_law) l13 c13 k13
  have m13 := PySem.W.mg_of X G a13
  have b13 := F13.binds (ps := ["script"]) fun _ _ _ _ _ _ us hl => match us, hl with | [_], _ => rfl
  have kb1 := kbinds_of (ks := ["j", "guests"]) (p := [1, 0]) F12 (ps := ["guests", "j"]) (by simp) fun _ _ _ _ _ _ us hl => match us, hl with | [_, _], _ => rfl
  refine ⟨PySem.W.fnOf "law" "law" (defArgs s_law) (defBody s_law) (defScope s_law) .none kV13 dc13 pm13 an13 cd13 ct13, fun s v => .of_eq rfl, fun base _ _ => ?_⟩
  have G_ok__law_bag := ok__law_bag (P := l.prog) (w := w) (base := base) (F := F1) (B := B)
  have G_ok__law_draw := ok__law_draw (P := l.prog) (w := w) (base := base) (F := F2) (B := B)
  have G_ok_need_guests := ok_need_guests (P := l.prog) (w := w) (base := base) (F := F3) (B := B)
  have G_ok_by_age := ok_by_age (P := l.prog) (w := w) (base := base) (F := F4) (B := B)
  have G_ok_settled := ok_settled (P := l.prog) (w := w) (base := base) (F := F5) (B := B) (Cby_age := (cal_of F4 m4 b4 G_ok_by_age))
  have G_ok_rooms := ok_rooms (P := l.prog) (w := w) (base := base) (F := F6) (B := B) (Cneed_guests := (cal_of F3 m3 b3 G_ok_need_guests)) (Csettled := (cal_of F5 m5 b5 G_ok_settled))
  have G_ok__law_guests := ok__law_guests (P := l.prog) (w := w) (base := base) (F := F7) (B := B) (C_law_draw := (cal_of F2 m2 b2 G_ok__law_draw))
  have G_ok__law_by_age := ok__law_by_age (P := l.prog) (w := w) (base := base) (F := F8) (B := B)
  have G_ok_need_number := ok_need_number (P := l.prog) (w := w) (base := base) (F := F9) (B := B)
  have G_ok_need_arrangement := ok_need_arrangement (P := l.prog) (w := w) (base := base) (F := F10) (B := B) (Cneed_guests := (cal_of F3 m3 b3 G_ok_need_guests))
  have G_ok_upset := ok_upset (P := l.prog) (w := w) (base := base) (F := F11) (B := B) (Cneed_arrangement := (cal_of F10 m10 b10 G_ok_need_arrangement))
  have G_ok_sent_away := ok_sent_away (P := l.prog) (w := w) (base := base) (F := F12) (B := B) (Crooms := (cal_of F6 m6 b6 G_ok_rooms)) (Cneed_number := (cal_of F9 m9 b9 G_ok_need_number))
  have G_ok_law := ok_law (P := l.prog) (w := w) (base := base) (F := F13) (B := B) (C_law_bag := (cal_of F1 m1 b1 G_ok__law_bag)) (C_law_draw := (cal_of F2 m2 b2 G_ok__law_draw)) (C_law_guests := (cal_of F7 m7 b7 G_ok__law_guests)) (C_law_by_age := (cal_of F8 m8 b8 G_ok__law_by_age)) (Csent_away := (cal_of F12 m12 b12 G_ok_sent_away)) (Ksent_away_j_guests := (calkw_of F12 m12 kb1 G_ok_sent_away)) (Crooms := (cal_of F6 m6 b6 G_ok_rooms)) (Cupset := (cal_of F11 m11 b11 G_ok_upset))
  exact G_ok_law
end El
open PySem PySem.W PyProof.Rows
set_option maxHeartbeats 0 in
theorem PySem.Challenge.cw_elderinn_k27_sent_away_told_holds : PySem.Challenge.rw_elderinn_k27_sent_away_told.Holds := by
  w_on; o_law; k_head; (case hw => w_witness2)
  k_fill
  refine L2.walk_of (l := PySem.Challenge.rw_elderinn_k27_sent_away_told) (n := 63) (k := 5) (x := "script") (CX := fun _ => L2.CX0) (sp := fun w => El.spLaw _) rfl (by decide) rfl ⟨rfl, by decide, by decide⟩ (fun w h Y => PySem.W.kIn_of Y) ?F (fun _ _ a ns hl _ hS => ⟨a, ns, rfl, hS, hl, fun _ => rfl⟩) (fun _ _ _ _ _ h => h)
  case F =>
    intro w mg fa h KX G hmg
    refine' El.all_mk KX G hmg ?a1 ?l1 ?c1 ?k1 ?a2 ?l2 ?c2 ?k2 ?a3 ?l3 ?c3 ?k3 ?a4 ?l4 ?c4 ?k4 ?a5 ?l5 ?c5 ?k5 ?a6 ?l6 ?c6 ?k6 ?a7 ?l7 ?c7 ?k7 ?a8 ?l8 ?c8 ?k8 ?a9 ?l9 ?c9 ?k9 ?a10 ?l10 ?c10 ?k10 ?a11 ?l11 ?c11 ?k11 ?a12 ?l12 ?c12 ?k12 ?a13 ?l13 ?c13 ?k13 ?z1 ?z2 ?z3 ?z4 ?z5 ?z6 ?z7 ?z8 ?z9 ?z10 ?z11 ?z12 ?z13 ?z14 ?z15 ?z16 ?z17 ?z18 ?z19 ?z20 ?z21 ?z22
    (case a1 => k_is); (case l1 => k_is); (case c1 => k_is); (case k1 => k_is); (case a2 => k_is); (case l2 => k_is)
    (case c2 => k_is); (case k2 => k_is); (case a3 => k_is); (case l3 => k_is); (case c3 => k_is); (case k3 => k_is)
    (case a4 => k_is); (case l4 => k_is); (case c4 => k_is); (case k4 => k_is); (case a5 => k_is); (case l5 => k_is)
    (case c5 => k_is); (case k5 => k_is); (case a6 => k_is); (case l6 => k_is); (case c6 => k_is); (case k6 => k_is)
    (case a7 => k_is); (case l7 => k_is); (case c7 => k_is); (case k7 => k_is); (case a8 => k_is); (case l8 => k_is)
    (case c8 => k_is); (case k8 => k_is); (case a9 => k_is); (case l9 => k_is); (case c9 => k_is); (case k9 => k_is)
    (case a10 => k_is); (case l10 => k_is); (case c10 => k_is); (case k10 => k_is); (case a11 => k_is); (case l11 => k_is)
    (case c11 => k_is); (case k11 => k_is); (case a12 => k_is); (case l12 => k_is); (case c12 => k_is); (case k12 => k_is)
    (case a13 => k_is); (case l13 => k_is); (case c13 => k_is); (case k13 => k_is); (case z1 => k_is); (case z2 => k_is)
    (case z3 => k_is); (case z4 => k_is); (case z5 => k_is); (case z6 => k_is); (case z7 => k_is); (case z8 => k_is)
    (case z9 => k_is); (case z10 => k_is); (case z11 => k_is); (case z12 => k_is); (case z13 => k_is); (case z14 => k_is)
    (case z15 => k_is); (case z16 => k_is); (case z17 => k_is); (case z18 => k_is); (case z19 => k_is); (case z20 => k_is)
    (case z21 => k_is); (case z22 => k_is)
